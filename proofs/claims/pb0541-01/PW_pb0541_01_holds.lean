import PyProof.Rows.All
import Wide.All
import OpenK.AllK
import Wide.FinOn
import PySem.Challenge.RW_pb0541_01
open PySem PySem.W PySem.Calls PyProof.Rows
set_option Elab.async false
set_option maxRecDepth 100000
set_option maxHeartbeats 0
set_option genInjectivity false
set_option genSizeOf false
set_option compiler.extract_closed false
namespace Mine
theorem room1 {d n k : Nat} (h : d < n) (e : n + 1 ≤ k) : d + 1 < k := Nat.lt_of_lt_of_le (Nat.succ_lt_succ h) e
theorem room3 {d n k : Nat} (h : d < n) (e : n + 3 ≤ k) : d + 3 < k := Nat.lt_of_lt_of_le (Nat.add_lt_add_right h 3) e
section
noncomputable def topT (ok : Thread → Bool) (st : SharedT → Thread → Option (SharedT × Thread)) : Nat → SharedT → Thread → Option SharedT
  | 0, _, _ => none
  | n + 1, s, t => match through t with
    | true => some s
    | false => match ok t with
      | false => none
      | true => match st s t with
        | some r => topT ok st n r.1 r.2
        | none => none
theorem topT_spec {tb : String → Option Builtin} {p : Program} {w : World} {n₀ : Nat} {ann : Option Value} : ∀ {n : Nat} {s s' : SharedT} {t : Thread},
    topT (stepOk n₀ ann) (stepT (denote tb) p w) n s t = some s' → topRun tb p w n₀ ann n s.abs t = some s'.abs
  | 0, _, _, _, h => by cases h
  | n + 1, s, s', t, h => by
    unfold topT at h
    unfold topRun
    cases ht : through t with
    | true => rw [ht] at h; cases h; rfl
    | false =>
      rw [ht] at h
      cases hk : stepOk n₀ ann t with
      | false => rw [hk] at h; cases h
      | true =>
        rw [hk] at h
        cases hs : stepT (denote tb) p w s t with
        | none => rw [hs] at h; cases h
        | some r => obtain ⟨s₂, t₂⟩ := r; rw [hs] at h; rw [stepT_spec hs]; exact topT_spec h
noncomputable def bootT : List Obj → BT → Nat → BT
  | [], t, _ => t
  | o :: l, t, n => bootT l (t.ins n o) (n + 1)
noncomputable def boot0 (P : Params) (os : OsState) : SharedT := ⟨bootT (boot_heap P).objs.toList .nil 0, 11, (boot_heap P).life, Array.mk [], boot_drawn, boot_toks, os⟩
theorem left_of {p q : Program} {loose : List Str} {Xt : Shared → Bool} {α : Type} {Yf : Shared → α} {Ya : World → α} {N : Nat}
    (bo : ∀ w : World, (fencedOpening treeTable p w N).map (fun s => (s.heap, s.gens, s.drawn, s.toks)) = some (boot_heap w.params, Array.mk [], boot_drawn, boot_toks))
    (b0 : ∀ P : Params, (absHeap (bootT (boot_heap P).objs.toList .nil 0) 11 (boot_heap P).life, (boot_heap P).isNs mainGlobals, (boot_heap P).objs.size, (boot_heap P).nsMap mainGlobals "__annotations__") = (boot_heap P, true, 11, some (Value.ref 6)))
    (run : ∀ w : World, (fun os => (topT (PySem.W.Fast.tw6613529449190102663 11 (some (Value.ref 6))) (PySem.W.Fast.tw10156331382660048174 (PySem.W.Fast.tw11892475500146522536 treeTable) p w) N (boot0 w.params os) (topStub p)).map fun s =>
      (staticsOk (importedModules p.main.body) (boot_heap w.params) s.abs.heap && namesBound p s.abs.heap && gensDone s.abs && laidKept (boot_heap w.params) s.abs.heap,
        PySem.W.Fast.tw4187177175401517315 q loose (importedModules p.main.body) Xt true s.abs, Yf s.abs)) = fun _ => some (true, openGood q loose, Ya w)) : LeftO p q loose Xt Yf Ya N := fun w => by
  obtain ⟨⟨h, gs, d, k, os⟩, e, e'⟩ := Option.map_eq_some_iff.mp (bo w)
  obtain ⟨rfl, rfl, rfl, rfl⟩ : h = boot_heap w.params ∧ gs = Array.mk [] ∧ d = boot_drawn ∧ k = boot_toks := by simpa using e'
  obtain ⟨z0, z1, z2, z3⟩ : _ ∧ _ ∧ _ ∧ _ := by simpa only [Prod.mk.injEq] using b0 w.params
  have r := congrFun (run w) os
  rw [← PySem.W.Fast.te6613529449190102663, ← PySem.W.Fast.te10156331382660048174, ← PySem.W.Fast.te11892475500146522536, ← PySem.W.Fast.te4187177175401517315] at r
  obtain ⟨s, hs, l⟩ := Option.map_eq_some_iff.mp r
  obtain ⟨l1, l2, l3⟩ : _ ∧ _ ∧ _ := by simpa only [Prod.mk.injEq] using l
  have hb : (boot0 w.params os).abs = ⟨boot_heap w.params, Array.mk [], boot_drawn, boot_toks, os⟩ := by
    unfold boot0 SharedT.abs
    dsimp only
    rw [z0]
  have hr := topT_spec hs
  rw [hb] at hr
  have t : topFrom treeTable p w N ⟨boot_heap w.params, Array.mk [], boot_drawn, boot_toks, os⟩ = some s.abs := by
    unfold topFrom
    dsimp only
    rw [z1, z2, z3, hr]
    show (match staticsOk (importedModules p.main.body) (boot_heap w.params) s.abs.heap && namesBound p s.abs.heap && gensDone s.abs && laidKept (boot_heap w.params) s.abs.heap with | true => _ | false => _) = _
    rw [l1]
  unfold openEnds
  rw [e]
  show (topFrom treeTable p w N _).map _ = _
  rw [t]
  exact congrArg some (Prod.ext l2 l3)
theorem bo : ∀ w : World, (fencedOpening treeTable PySem.Challenge.rw_pb0541_01.row.prog w 4180).map (fun s => (s.heap, s.gens, s.drawn, s.toks)) = some (boot_heap w.params, Array.mk [], boot_drawn, boot_toks) :=
  boot_open (by kernel_rfl) (by decide +kernel) (by intro s; kernel_rfl)
theorem b0 : ∀ P : Params, (absHeap (bootT (boot_heap P).objs.toList .nil 0) 11 (boot_heap P).life, (boot_heap P).isNs mainGlobals, (boot_heap P).objs.size, (boot_heap P).nsMap mainGlobals "__annotations__") = (boot_heap P, true, 11, some (Value.ref 6)) := by
  intro P; kernel_rfl
noncomputable def view0 : Program := PySem.W.view PySem.Challenge.rw_pb0541_01.row.prog [1, 2, 3, 5, 6, 7, 8, 10, 11, 12, 13, 14, 15, 16, 17, 18]
theorem headOf (H : Hook) {d : DefRec} {kwd : List (Str × Expr)} (k1 : PySem.Challenge.rw_pb0541_01.row.wellSaid = true)
    (e1 : defOf view0 PySem.Challenge.rw_pb0541_01.row.name = some (d, kwd)) (e2 : PySem.Challenge.rw_pb0541_01.row.prog.theDef PySem.Challenge.rw_pb0541_01.row.name = some (d.params, d.body, d.scope)) (e3 : kwWritten? d.params.kwonlyargs d.params.kw_defaults = some kwd)
    (hl : LeftO PySem.Challenge.rw_pb0541_01.row.prog view0 [Str.ofString "SettingError"] (fun s => xlAt view0 [] s && recOk (RowW.records PySem.Challenge.rw_pb0541_01.row.toRowW) s) H.obs H.val 4180)
    (hw : PySem.Challenge.rw_pb0541_01.row.toRowW.promised)
    (hc : WalkO view0 [Str.ofString "SettingError"] (XL view0 []) H.says PySem.Challenge.rw_pb0541_01.row.toRowW d kwd fun f vs => PySem.call f vs) : PySem.Challenge.rw_pb0541_01.row.Holds :=
  holds_open hl H.of H.keeps (fun s e => xl_of s (Bool.and_eq_true_iff.mp e).1) XL.keeps e1 e2 e3 (fun s e => recFacts_of (Bool.and_eq_true_iff.mp e).2) (by rfl) k1 (by decide +kernel) ⟨rfl, rfl, rfl, rfl, rfl, by decide +kernel⟩ hw hc
local macro_rules | `(tactic| o_head $H) => `(tactic| (refine headOf $H (by assumption) (by rfl) (by rfl) (by rfl) ?hl ?hw ?hc; (case hl => refine left_of bo b0 ?hr; (case hr => intro w; kernel_rfl))))
theorem said0 : PySem.Challenge.rw_pb0541_01.wellSaid = true := by kernel_rfl
local macro_rules | `(tactic| o_law) => `(tactic| refine holds_law said0 fun said => ?_)
open_top hd for PySem.Challenge.rw_pb0541_01
end
local macro_rules | `(tactic| k_room) => `(tactic| ktr_room)
local macro_rules | `(tactic| ktr_enter) => `(tactic| (k_extra "way C"; intro g' L' h' tk' cells' FG' F' N' Y' B' X' T' l1; (try k_lt l1); k_cells Y'; (try simp only [List.cons_append, List.nil_append] at N'); (try dsimp only); (try k_fold)))
local macro_rules | `(tactic| ktr_enter) => `(tactic| (k_extra "way D"; intro g' L' h' FG' F' N' B' X' T'; (try dsimp only); (try k_fold)))
local macro_rules | `(tactic| walk_at $s:str) => `(tactic| k_extra $s)
section
open PySem.Spec
/-- a dict with its own entries, as they lie -/
noncomputable def DictRaw (h : Heap) (d : Addr) (es : Array DictEntry) (ep : Nat) : Prop := ∃ o, h.get? d = some o ∧ o.ExactDict ∧ o.data = .dict es ep
theorem DictRaw.at' {h h' : Heap} {d : Addr} {es : Array DictEntry} {ep : Nat} (x : DictRaw h d es ep) (e : ∀ o, h.get? d = some o → h'.get? d = some o) : DictRaw h' d es ep := let ⟨o, ho, r⟩ := x; ⟨o, e _ ho, r⟩
section
variable {prog : Program} {w : World} {A : Around} {E : Value → Shared → Prop} {s : Shared} {it d : Addr} {i ep : Nat} {es : Array DictEntry}
theorem DictRaw.typeIs (x : DictRaw s.heap d es ep) : s.TypeIs (.ref d) "dict" := let ⟨o, ho, hc, _⟩ := x; ⟨o, ho, hc.1⟩
theorem raw_iter {Q : Value → Shared → Prop} (lo : (d == sysModules) = false) (hm : DictRaw s.heap d es ep)
    (hQ : Q (.ref s.heap.objs.size) { s with heap := s.heap.push { cls := .type "dict_keyiterator", data := .fields #[.ref d, .int 0 0, .int es.size 0, .int ep 0] } }) :
    wpAny (model prog w) A (pyIter (.ref d)) Q E s := by
  have hT := hm.typeIs
  obtain ⟨o, ho, hc, hdat⟩ := hm
  refine wpAny_pyIter_slot hT F.slot_dict_iter (wpAny_call_entry F.slot_dict_iter hT F.entry_dict_iter ?_ (F.args_dict_iter_1 _))
  unfold Builtin.«dict.__iter__» Builtin.Dict.dictSlotNone
  refine wpAny_bind (wpAny_bind (wpAny_notOrdered_dict hT ?_))
  show wpAny _ _ (pure (Value.ref d)) _ _ s
  refine wpAny_pure ?_
  show wpAny _ _ (Builtin.Dict.showsAll d >>= _) _ _ s
  unfold Builtin.Dict.showsAll
  rw [if_neg (by rw [lo]; exact Bool.false_ne_true)]
  refine wpAny_bind (wpAny_pure (wpAny_bind (wpAny_dictEntries ho hdat (wpAny_bind (wpAny_dictEpoch ho hdat ?_)))))
  refine wpAny_bind (wpAny_newObj_type (wpAny_pure ⟨_, rfl, "dict_keyiterator", _, ⟨_, Heap.get?_push_size _ rfl, rfl⟩, F.slot_dict_keyiterator_next.lookup, ?_⟩))
  simpa [rawInt] using hQ
theorem raw_item {Q : Option Value → Shared → Prop} (hit : s.heap.IsKeyIter it d i es.size ep) (hm : DictRaw s.heap d es ep) (hi : i < es.size)
    (hQ : ∀ h', h'.IsKeyIter it d (i + 1) es.size ep → Heap.SameBut it s.heap h' → Q (some es[i].key) { s with heap := h' }) : wpAny (model prog w) A (pyNext (.ref it)) Q E s := by
  obtain ⟨o, ho, hc, hd⟩ := id hit
  obtain ⟨od, hod, hcd, hdd⟩ := id hm
  unfold pyNext
  refine wpAny_bind (wpAny_attempt (wpAny_callSpecial?_slot (name := Str.ofString "__next__") hit.typeIs F.slot_dict_keyiterator_next
    (wpAny_call_entry F.slot_dict_keyiterator_next hit.typeIs F.entry_dict_keyiterator_next ?_ (F.args_dict_keyiterator_next_1 _))))
  refine wpAny_bind (wpAny_pure (wpAny_bind (wpAny_bind ?_)))
  first | refine wpAny_bind (wpAny_typeNameOfWhole_keyiter hit.typeIs (wpAny_pure ?_)) | refine wpAny_bind (wpAny_typeNameOf_keyiter hit.typeIs (wpAny_pure ?_))
  refine wpAny_bind (wpAny_fieldsOf ho hd ?_)
  have hown : Builtin.Dict_items.ownsTuple "dict_keyiterator" = false := by decide
  simp only [hown, Bool.false_eq_true, if_false]
  show wpAny _ _ (if (Value.ref d == Value.none) = true then _ else _) _ _ s
  rw [if_neg (show ¬ ((Value.ref d == Value.none) = true) from Bool.false_ne_true)]
  refine wpAny_bind (wpAny_pure (wpAny_bind (wpAny_dictEntries hod hdd ?_)))
  rw [if_neg (by simp)]
  refine wpAny_bind (wpAny_pure (wpAny_bind (wpAny_dictEpoch hod hdd ?_)))
  rw [if_neg (by simp)]
  refine wpAny_pure ?_
  simp only [show ¬ ((i : Int) < 0) from by omega, if_false, Int.toNat_natCast, Array.getElem?_eq_getElem hi]
  refine wpAny_bind ?_
  first | refine wpAny_bind (wpAny_typeNameOfWhole_keyiter hit.typeIs (wpAny_pure ?_)) | refine wpAny_bind (wpAny_typeNameOf_keyiter hit.typeIs (wpAny_pure ?_))
  refine wpAny_bind (wpAny_isOneOf_keyiter hit.typeIs ?_)
  show wpAny _ _ (setField (.ref it) 1 (rawInt ((i : Int) + 1)) >>= _) _ _ s
  refine wpAny_bind (wpAny_setField ho hd (by simp) ?_)
  have hit' : (s.heap.update it (Obj.mapFields (·.setIfInBounds 1 (rawInt ((i : Int) + 1))))).IsKeyIter it d (i + 1) es.size ep :=
    ⟨_, Heap.get?_update_self _ ho (Obj.isFreed_of_fields (Obj.data_mapFields hd _)), (Obj.cls_mapFields ..).trans hc, by rw [Obj.data_mapFields hd]; simp [rawInt]⟩
  refine wpAny_bind (wpAny_holding ?_)
  refine wpAny_bind (wpAny_isOneOf_keyiter (s := { s with heap := s.heap.update it (Obj.mapFields (·.setIfInBounds 1 (rawInt ((i : Int) + 1)))) }) hit'.typeIs ?_)
  show wpAny _ _ (pure es[i].key) _ _ _
  exact wpAny_pure (wpAny_pure ⟨_, rfl, wpAny_pure (hQ _ hit' (Heap.SameBut.update ..))⟩)
theorem raw_end {Q : Option Value → Shared → Prop} (hh : A.handled = none) (hit : s.heap.IsKeyIter it d i es.size ep) (hm : DictRaw s.heap d es ep) (hge : es.size ≤ i)
    (hQ : ∀ h', Heap.ExtBut it s.heap h' → Q none { s with heap := h' }) : wpAny (model prog w) A (pyNext (.ref it)) Q E s := by
  obtain ⟨o, ho, hc, hd⟩ := id hit
  obtain ⟨od, hod, hcd, hdd⟩ := id hm
  unfold pyNext
  refine wpAny_bind (wpAny_attempt (wpAny_callSpecial?_slot (name := Str.ofString "__next__") hit.typeIs F.slot_dict_keyiterator_next
    (wpAny_call_entry F.slot_dict_keyiterator_next hit.typeIs F.entry_dict_keyiterator_next ?_ (F.args_dict_keyiterator_next_1 _))))
  refine wpAny_bind (wpAny_pure (wpAny_bind (wpAny_bind ?_)))
  first | refine wpAny_bind (wpAny_typeNameOfWhole_keyiter hit.typeIs (wpAny_pure ?_)) | refine wpAny_bind (wpAny_typeNameOf_keyiter hit.typeIs (wpAny_pure ?_))
  refine wpAny_bind (wpAny_fieldsOf ho hd ?_)
  have hown : Builtin.Dict_items.ownsTuple "dict_keyiterator" = false := by decide
  simp only [hown, Bool.false_eq_true, if_false]
  show wpAny _ _ (if (Value.ref d == Value.none) = true then _ else _) _ _ s
  rw [if_neg (show ¬ ((Value.ref d == Value.none) = true) from Bool.false_ne_true)]
  refine wpAny_bind (wpAny_pure (wpAny_bind (wpAny_dictEntries hod hdd ?_)))
  rw [if_neg (by simp)]
  refine wpAny_bind (wpAny_pure (wpAny_bind (wpAny_dictEpoch hod hdd ?_)))
  rw [if_neg (by simp)]
  refine wpAny_pure ?_
  simp only [show ¬ ((i : Int) < 0) from by omega, if_false, Int.toNat_natCast, Array.getElem?_eq_none hge]
  refine wpAny_bind ?_
  first | refine wpAny_bind (wpAny_typeNameOfWhole_keyiter hit.typeIs (wpAny_pure ?_)) | refine wpAny_bind (wpAny_typeNameOf_keyiter hit.typeIs (wpAny_pure ?_))
  show wpAny _ _ (setField (.ref it) 0 .none >>= _) _ _ s
  refine wpAny_bind (wpAny_setField ho hd (by simp) ?_)
  show wpAny _ _ (newExc (.type "StopIteration") [] >>= _) _ _ _
  refine wpAny_bind ?_
  simp only [newExc, newTuple]
  refine wpAny_bind (wpAny_newObj_type ?_ (by size_fits))
  refine wpAny_bind (m := firstArgMember _ _) (wpAny_of_eq (a := Value.none) (by first | rfl | (simp only [firstArgMember]; rfl)) ?_)
  refine wpAny_newObj_type ?_ (by size_fits)
  simp only [raiseNew]
  refine wpAny_bind (wpAny_handled ?_)
  rw [show A.in1.handled = none from hh]
  refine wpAny_bind (wpAny_pure (wpAny_throw ?_))
  refine wpAny_bind (wpAny_isInstance (T := "StopIteration") (b := true) ⟨_, Heap.get?_push_size _ rfl, rfl⟩ isSubtype_stop ?_)
  exact wpAny_pure (hQ _ (((Heap.SameBut.update ..).extBut.push _).push _))
theorem raw_walks (hh : A.handled = none) (I d : Addr) (hne : d ≠ I) (es : Array DictEntry) (ep : Nat) :
    Walks prog w A I [I, d] [I] es.size (fun i v => ∃ e, es[i]? = some e ∧ v = e.key) (fun i h => h.IsKeyIter I d i es.size ep ∧ DictRaw h d es ep) where
  sub := fun b hb => by simp at hb; simp [hb]
  frame := fun _ _ _ st hk => ⟨st.1.at fun o e => hk I (by simp) o e, st.2.at' fun o e => hk d (by simp) o e⟩
  item := fun i s Q E hi st hQ => raw_item st.1 st.2 hi fun h' hit' hs' =>
    hQ _ h' s.toks ⟨_, Array.getElem?_eq_getElem hi, rfl⟩ ⟨hit', st.2.at' fun o e => hs'.extBut d o hne e⟩ fun b o hb e => hs'.extBut b o (fun h => hb (by simp [h])) e
  done := fun s Q E st hQ => raw_end hh st.1 st.2 (Nat.le_refl _) fun h' he' => hQ h' s.toks fun b o hb e => he' b o (fun h => hb (by simp [h])) e
  self := fun _ _ _ _ st hQ => wpAny_pyIter_keyiter st.1 hQ
theorem raw_src (lo : (d == sysModules) = false) : KdlSrc prog w "dict" d d es.size (fun i v => ∃ e, es[i]? = some e ∧ v = e.key) (fun h => DictRaw h d es ep) where
  type := fun _ hm => hm.typeIs
  there := fun _ hm => let ⟨_, ho, _⟩ := hm; ⟨Heap.lt_size ho, Heap.lt_size ho⟩
  keep := fun _ _ hm hk => hm.at' fun o e => hk d (.inl rfl) o e
  notList := by decide
  notTuple := by decide
  hint := fun _ _ _ _ hm hq => kdl_hint_dict hm.typeIs hq
  iter := fun _ _ hh hm => ⟨_, _, (fun _ _ hq => raw_iter lo hm hq), raw_walks hh _ d (let ⟨_, ho, _⟩ := hm; Nat.ne_of_lt (Heap.lt_size ho)) es ep, ⟨⟨_, Heap.get?_push_size _ rfl, rfl, rfl⟩, hm.at' fun o e => Heap.get?_push_of_some _ e⟩⟩
end
section
variable {prog : Program} {w : World} {K : Type} [DecidableEq K] {knd : HeapKind prog w K} {A : Around} {E : Value → Shared → Prop} {s : Shared} {d a : Addr} {k : K} {xs : List (K × Addr × Value)}
noncomputable def withoutH (xs : List (K × Addr × Value)) (k : K) : List (K × Addr × Value) := xs.filter fun x => decide (x.1 ≠ k)
theorem erase_withoutH : ∀ {xs : List (K × Addr × Value)} {j : Nat} {p : Addr × Value}, (xs.map (·.1)).Nodup → xs[j]? = some (k, p) → xs.eraseIdx j = withoutH xs k
  | [], _, _, _, h => by simp at h
  | x :: xs, 0, p, hn, h => by
    simp only [List.getElem?_cons_zero, Option.some.injEq] at h
    subst h
    simp only [List.map_cons, List.nodup_cons] at hn
    unfold withoutH
    rw [List.eraseIdx_cons_zero, List.filter_cons_of_neg (by simp)]
    refine (List.filter_eq_self.mpr fun y hy => ?_).symm
    simp only [decide_eq_true_eq]
    exact fun e => hn.1 (e ▸ List.mem_map_of_mem (f := fun x : K × Addr × Value => x.1) hy)
  | x :: xs, j + 1, p, hn, h => by
    simp only [List.getElem?_cons_succ] at h
    simp only [List.map_cons, List.nodup_cons] at hn
    have hne : x.1 ≠ k := fun e => hn.1 (by rw [e]; exact List.mem_map_of_mem (f := fun x : K × Addr × Value => x.1) (List.mem_of_getElem? h))
    have ih := erase_withoutH hn.2 h
    unfold withoutH at ih ⊢
    rw [List.eraseIdx_cons_succ, List.filter_cons_of_pos (by simpa using hne), ih]
theorem eraseIdx_map' {α β : Type} (f : α → β) : ∀ (l : List α) (j : Nat), (l.map f).eraseIdx j = (l.eraseIdx j).map f
  | [], _ => rfl
  | _ :: _, 0 => rfl
  | x :: l, j + 1 => by rw [List.map_cons, List.eraseIdx_cons_succ, List.eraseIdx_cons_succ, List.map_cons, eraseIdx_map' f l j]
theorem takeH {Q : Option DictEntry → Shared → Prop} {p : Addr × Value} (hu : knd.room A) (hkey : knd.is s.heap k a) (hm : s.heap.DictOfH knd d xs) (hp : atKey xs k = some p)
    (hsome : ∀ e h', e.val = p.2 → h'.DictOfH knd d (withoutH xs k) → Heap.SameBut d s.heap h' → Q (some e) { s with heap := h', toks := s.toks + knd.draws k })
    (hsz : xs.length ≤ sizeLine) : wpAny (model prog w) A (Builtin.Dict.takeOut d (.ref a)) Q E s := by
  obtain ⟨o, es, ep, ho, hc, hd, he, his, hn⟩ := hm
  have hes := size_of_entries he
  unfold Builtin.Dict.takeOut
  try with_reducible refine wpAny_holding ?_
  refine wpAny_bind (knd.pyHash hu hkey ?_)
  refine wpAny_bind (wpAny_dictFind_heap (s := { s with toks := s.toks + knd.draws k }) hu hkey ho hd he his hn ?_ ?_)
  · intro hno
    rw [atKey_none_of_get hno] at hp
    cases hp
  · intro j q hj
    rw [atKey_of_get hn hj] at hp
    obtain rfl := Option.some.inj hp
    refine wpAny_bind (wpAny_dictEntries (s := { s with toks := s.toks + knd.draws k }) ho hd ?_)
    rw [entry_at he j, hj]
    refine wpAny_bind (wpAny_updateDictKeys (hz := by omega) (s := { s with toks := s.toks + knd.draws k }) ho hd (wpAny_pure (hsome _ _ rfl ⟨_, _, ep + 1, Heap.get?_update_self _ ho (Obj.isFreed_of_dict (Obj.data_mapDictKeys hd _)),
      hc.mapDictKeys _, Obj.data_mapDictKeys hd _, ?_, ?_, ?_⟩ (Heap.SameBut.update ..))))
    · have e := erase_withoutH hn hj
      rw [← e]
      have : (es.eraseIdxIfInBounds j).toList = es.toList.eraseIdx j := by obtain ⟨l⟩ := es; simp
      rw [this, he, eraseIdx_map']
    · intro x hx
      exact knd.keeps (his x (List.mem_filter.mp hx).1) ho hd (Heap.SameBut.update ..)
    · exact hn.sublist (List.filter_sublist.map _)
theorem popH {Q : Value → Shared → Prop} {p : Addr × Value} (hu : knd.room A.in1) (hkey : knd.is s.heap k a) (hm : s.heap.DictOfH knd d xs) (hp : atKey xs k = some p) (hsz : xs.length ≤ sizeLine)
    (h : ∀ h', h'.DictOfH knd d (withoutH xs k) → Heap.SameBut d s.heap h' → Q p.2 { s with heap := h', toks := s.toks + knd.draws k }) :
    wpAny (model prog w) A (call (.builtin "dict.pop") [.ref d, .ref a]) Q E s := by
  refine wpAny_call_entry PySem.F.slot_dict_pop hm.typeIs PySem.F.entry_dict_pop ?_ (PySem.F.args_dict_pop_2 _ _)
  unfold Builtin.«dict.pop» Builtin.Dict.keyAndDefault
  refine wpAny_bind (wpAny_bind (wpAny_notOrdered_dict hm.typeIs ?_))
  show wpAny _ _ (pure (d, Value.ref a, none)) _ _ s
  refine wpAny_pure ?_
  have hkp : (keyPart (.ref a)).isSome = false := rfl
  obtain ⟨o, es, ep, ho, hc, hd, he, his, hn⟩ := id hm
  have hne : es.isEmpty = false := by
    have hs := size_of_entries he
    have : 0 < xs.length := by
      cases xs with
      | nil => cases hp
      | cons _ _ => simp
    simp only [Array.isEmpty, decide_eq_false_iff_not]
    omega
  simp only [hkp, Bool.false_eq_true, if_false]
  refine wpAny_bind (wpAny_dictEntries ho hd ?_)
  refine wpAny_bind (wpAny_pure ?_)
  rw [hne]
  simp only [Bool.false_eq_true, if_false]
  refine wpAny_bind (takeH hu hkey hm hp (fun e h' hev hm' hs' => ?_) hsz)
  simp only [Option.isNone_some, Bool.false_eq_true, if_false]
  exact wpAny_bind (wpAny_letGo (wpAny_pure ⟨e.val, rfl, by rw [hev]; exact h h' hm' hs'⟩))
end
end
noncomputable def wKeep (now span : Int) (W : List Int) : List Int := W.filter fun t => decide (now - t < span)
noncomputable def wPut (most : Nat) (now span : Int) (W : List Int) : List Int := (wKeep now span W ++ [now]).drop ((wKeep now span W ++ [now]).length - (most + 1))
noncomputable def wDue (now span : Int) (T : List Int) : List Int := T.filter fun t => decide (now - span < t)
structure WInv (most : Nat) (span now : Int) (T W : List Int) : Prop where
  sorted : T.Pairwise (· ≤ ·)
  upto : ∀ t ∈ T, t ≤ now
  cut : ∃ P, T = P ++ W ∧ (most + 1 ≤ W.length ∨ ∀ t ∈ P, t ≤ now - span)
theorem wKeep_cut {now span : Int} : ∀ {W : List Int}, W.Pairwise (· ≤ ·) → ∃ W1, W = W1 ++ wKeep now span W ∧ ∀ t ∈ W1, t ≤ now - span
  | [], _ => ⟨[], rfl, fun _ h => nomatch h⟩
  | a :: W, h => by
    obtain ⟨ha, hW⟩ := List.pairwise_cons.mp h
    by_cases hc : now - a < span
    · refine ⟨[], ?_, fun _ h => nomatch h⟩
      unfold wKeep
      rw [List.filter_eq_self.mpr]
      · rfl
      · intro t ht
        rcases List.mem_cons.mp ht with rfl | ht
        · simpa using hc
        · have := ha t ht
          simp only [decide_eq_true_eq]; omega
    · obtain ⟨W1, e, h1⟩ := wKeep_cut (now := now) (span := span) hW
      refine ⟨a :: W1, ?_, fun t ht => ?_⟩
      · unfold wKeep at e ⊢
        rw [List.filter_cons_of_neg (by simpa using hc), List.cons_append, ← e]
      · rcases List.mem_cons.mp ht with rfl | ht
        · omega
        · exact h1 t ht
theorem WInv.nil {most : Nat} {span now : Int} : WInv most span now [] [] := ⟨.nil, (fun _ h => nomatch h), [], rfl, .inr fun _ h => nomatch h⟩
theorem WInv.later {most : Nat} {span now now' : Int} {T W : List Int} (I : WInv most span now T W) (h : now ≤ now') : WInv most span now' T W := by
  obtain ⟨hs, hu, P, e, hc⟩ := I
  refine ⟨hs, fun t ht => Int.le_trans (hu t ht) h, P, e, hc.imp id fun hp t ht => ?_⟩
  have := hp t ht
  omega
/-- what is kept of the row: still a tail, and all before it is out of the time -/
theorem WInv.keep {most : Nat} {span now : Int} {T W : List Int} (I : WInv most span now T W) : WInv most span now T (wKeep now span W) ∧ (wKeep now span W = W ∨ ∃ P, T = P ++ wKeep now span W ∧ ∀ t ∈ P, t ≤ now - span) := by
  obtain ⟨hs, hu, P, e, hc⟩ := I
  have hs' := hs
  rw [e, List.pairwise_append] at hs'
  obtain ⟨W1, e1, h1⟩ := wKeep_cut (now := now) (span := span) hs'.2.1
  cases W1 with
  | nil =>
    have e2 : wKeep now span W = W := by
      rw [List.nil_append] at e1
      exact e1.symm
    rw [e2]
    exact ⟨⟨hs, hu, P, e, hc⟩, .inl rfl⟩
  | cons a W1 =>
    have eT : T = (P ++ a :: W1) ++ wKeep now span W := by rw [List.append_assoc, ← e1]; exact e
    have hP : ∀ t ∈ P ++ a :: W1, t ≤ now - span := fun t ht => by
      rcases List.mem_append.mp ht with ht | ht
      · have h2 := hs'.2.2 t ht a (by rw [e1]; exact List.mem_append_left _ (.head _))
        have := h1 a (.head _)
        omega
      · exact h1 t ht
    exact ⟨⟨hs, hu, _, eT, .inr hP⟩, .inr ⟨_, eT, hP⟩⟩
theorem wKeep_in {now span : Int} {W : List Int} : ∀ t ∈ wKeep now span W, now - span < t := fun t ht => by
  have := (List.mem_filter.mp ht).2
  simp only [decide_eq_true_eq] at this
  omega
theorem WInv.put {most : Nat} {span now : Int} {T W : List Int} (hsp : 1 ≤ span) (I : WInv most span now T W) :
    WInv most span now (T ++ [now]) (wPut most now span W) ∧ (decide (most < (wPut most now span W).length) = decide (most < (wDue now span (T ++ [now])).length)) := by
  have hK := I.keep.2
  obtain ⟨hs, hu, P, e, hc⟩ := I
  have hs2 : (T ++ [now]).Pairwise (· ≤ ·) := by
    rw [List.pairwise_append]
    exact ⟨hs, by simp, fun a ha b hb => by rw [List.mem_singleton.mp hb]; exact hu a ha⟩
  have hu2 : ∀ t ∈ T ++ [now], t ≤ now := fun t ht => by
    rcases List.mem_append.mp ht with ht | ht
    · exact hu t ht
    · rw [List.mem_singleton.mp ht]; exact Int.le_refl _
  obtain ⟨P2, eT⟩ : ∃ P2, T = P2 ++ wKeep now span W := by
    rcases hK with h | ⟨P2, h, _⟩
    · exact ⟨P, by rw [h]; exact e⟩
    · exact ⟨P2, h⟩
  have hall : ∀ t ∈ wKeep now span W ++ [now], now - span < t := fun t ht => by
    rcases List.mem_append.mp ht with ht | ht
    · exact wKeep_in t ht
    · rw [List.mem_singleton.mp ht]; omega
  have hdue : wDue now span (T ++ [now]) = wDue now span P2 ++ (wKeep now span W ++ [now]) := by
    unfold wDue
    rw [eT, List.append_assoc, List.filter_append]
    congr 1
    exact List.filter_eq_self.mpr fun t ht => by simpa using hall t ht
  generalize hl : wKeep now span W ++ [now] = l at *
  have hput : wPut most now span W = l.drop (l.length - (most + 1)) := by unfold wPut; rw [hl]
  by_cases hlen : most + 1 ≤ l.length
  · have h1 : (wPut most now span W).length = most + 1 := by rw [hput, List.length_drop]; omega
    refine ⟨⟨hs2, hu2, P2 ++ l.take (l.length - (most + 1)), ?_, .inl (by omega)⟩, ?_⟩
    · rw [hput, List.append_assoc, List.take_append_drop, eT, List.append_assoc, hl]
    · rw [h1, hdue, List.length_append]
      have a : most < most + 1 := by omega
      have b : most < (wDue now span P2).length + l.length := by omega
      simp [a, b]
  · have h1 : wPut most now span W = l := by
      rw [hput, show l.length - (most + 1) = 0 by omega, List.drop_zero]
    have hWl : (wKeep now span W).length + 1 = l.length := by rw [← hl]; simp
    have hP2 : ∀ t ∈ P2, t ≤ now - span := by
      rcases hK with h | ⟨P3, h3, h4⟩
      · have : P2 = P := by
          rw [h] at eT
          exact List.append_cancel_right (eT.symm.trans e)
        rw [this]
        rcases hc with hc | hc
        · rw [h] at hWl; omega
        · exact hc
      · have : P2 = P3 := List.append_cancel_right (eT.symm.trans h3)
        rw [this]; exact h4
    refine ⟨⟨hs2, hu2, P2, by rw [h1, eT, List.append_assoc, hl], .inr hP2⟩, ?_⟩
    have e0 : wDue now span P2 = [] := by
      unfold wDue
      rw [List.filter_eq_nil_iff]
      intro t ht
      have := hP2 t ht
      simp only [decide_eq_true_eq]; omega
    rw [h1, hdue, e0, List.nil_append]
theorem set_T1 : True := by
  w_top off
  k_with_none
  k_with "way M" => refine' code_defM ?k1 ?k2 ?k3 ?k4 ?k5 ?kA ?kF ?kK ?kD ?k6 ?k7 ?k8 ?k9 ?kB ?_ ?c2 ?c3 ?c4 ?c5; (case kA => assumption); (case kF => assumption); (case kK => assumption); (case kD => assumption); (case k1 => k_asm); (case k2 => k_asm); (case k3 => k_asm); (case k4 => k_asm); (case k5 => k_asm); (case k6 => k_is); (case k7 => k_is); (case k8 => ktr_room); (case k9 => first | exact BindsTo.of_eq rfl | exact binds_K (by k_in) rfl (by k_is) rfl rfl rfl); (case c5 => decide); (case kB => exact locs rfl); (case c2 => exact rfl); (case c3 => exact rfl); (case c4 => exact rfl); k_whole
  k_with "way C" => refine' code_defC ?k1 ?k2 ?k3 ?k4 ?k5 ?kA ?kF ?kK ?k6 ?k7 ?k8 ?k9 ?kB ?kD ?_ ?c2 ?c3 ?c4; (case kA => first | assumption | exact rfl); (case kF => first | assumption | exact rfl); (case kK => assumption); (case k1 => k_asm); (case k2 => k_asm); (case k3 => k_asm); (case k4 => k_asm); (case k5 => k_asm); (case k6 => k_is); (case k7 => k_is); (case k8 => ktr_room); (case k9 => first | exact BindsTo.of_eq rfl | exact binds_K (by k_in) rfl (by k_is) rfl rfl rfl); (case kB => exact rfl); (case kD => decide +kernel); (case c2 => exact rfl); (case c3 => exact rfl); (case c4 => exact rfl); k_whole
  k_with "way D" => refine' code_def ?k1 ?k2 ?k3 ?k4 ?k5 ?kA ?kF ?kK ?k6 ?k7 ?k8 ?k9 ?kB ?_ ?c2 ?c3 ?c4 ?c5; (case kA => first | assumption | exact rfl); (case kF => first | assumption | exact rfl); (case kK => assumption); (case k1 => k_asm); (case k2 => k_asm); (case k3 => k_asm); (case k4 => k_asm); (case k5 => k_asm); (case k6 => k_is); (case k7 => k_is); (case k8 => ktr_room); (case k9 => first | exact BindsTo.of_eq rfl | exact binds_K (by k_in) rfl (by k_is) rfl rfl rfl); (case c5 => decide); (case kB => exact locs rfl); (case c2 => exact rfl); (case c3 => exact rfl); (case c4 => exact rfl); k_whole
  trivial
theorem fill : PySem.Challenge.rw_pb0541_01 = PySem.Challenge.rw_pb0541_01 ∧ Mine.hd.heap_1 = Mine.hd.heap_1 := by
  k_fill
  exact ⟨rfl, rfl⟩
noncomputable abbrev PR : Program := PySem.Challenge.rw_pb0541_01.row.prog
noncomputable abbrev srcObj (x y : Int) (tx ty n : Nat) : Obj := listOf #[.int x tx, .int y ty] n
theorem fmod_lo (a b : Int) (h : 0 < b) : 0 ≤ a.fmod b := Int.fmod_nonneg_of_pos a h
theorem fmod_hi (a b : Int) (h : 0 < b) : a.fmod b < b := Int.fmod_lt_of_pos a h
theorem fdiv_lo (a b : Int) (h : 0 ≤ a) (hb : 0 < b) : 0 ≤ a.fdiv b := by rw [Int.fdiv_eq_ediv_of_nonneg _ (by omega)]; exact Int.ediv_nonneg h (by omega)
section
noncomputable abbrev K9 (w : World) : Frag := Mine.hd.heap_1 w.params
noncomputable abbrev excObj (C t : Addr) (d : Option Addr) : Obj := { cls := .ref C, dict := d, data := .fields #[.ref t, .none, .none, .none, .bool false, .none] }
/-- what the written part says of an own exception class -/
structure ExcSays (K : Frag) (S : Setting) (C fI : Addr) : Prop where
  obj : ∃ od cd sl, K.lookup C = some ⟨.type "type", od, .cls cd, sl⟩ ∧ cd.mro.isEmpty = false ∧ cd.hasDel = false
  call : peek K S (specialOf (.ref C) "__call__") = some (some (.builtin "type.__call__"))
  typ : peek K S (isInstance (.ref C) (.type "type")) = some true
  made : peek K S (Bind.madeBy (.ref C)) = some (some "Exception.__new__")
  here : peek K S (Bind.madeHere "BaseException.__new__" (.ref C)) = some ()
  self : peek K S (isSubtype (.ref C) (.ref C)) = some true
  base : peek K S (isSubtype (.ref C) (.type "Exception")) = some true
  noA : peek K S (isSubtype (.ref C) (.type "AttributeError")) = some false
  noN : peek K S (isSubtype (.ref C) (.type "NameError")) = some false
  chk : ∀ rest, peek K S (checkBuiltinCall "Exception.__new__" ⟨.ref C :: rest, []⟩) = some ()
  init : peek K S (typeLookup (.ref C) "__init__") = some (some (.ref fI))
  bind : ∀ self, peek K S (bindSpecial (.ref fI) self) = some (.ref fI, [self])
theorem says44 (w : World) : ExcSays (K9 w) ⟨PR, w.params⟩ 44 28 := by
  constructor
  · exact ⟨_, _, _, rfl, rfl, rfl⟩
  all_goals first | (intro _; kernel_rfl) | kernel_rfl | skip
theorem says64 (w : World) : ExcSays (K9 w) ⟨PR, w.params⟩ 64 61 := by
  constructor
  · exact ⟨_, _, _, rfl, rfl, rfl⟩
  all_goals first | (intro _; kernel_rfl) | kernel_rfl | skip

section
variable {prog : Program} {w : World} {A : Around} {K : Frag} {C fI : Addr} {R : Result → Shared → Prop} {h : Heap} {g : Array GenState} {d : Drawn} {t : Nat} {os : OsState}
theorem exc_new {rest : List Value} (X : K.In h) (Y : ExcSays K ⟨prog, w.params⟩ C fI) (hrest : rest.length ≤ sizeLine)
    (hq : R (.ok (.ret (.ref (h.objs.size + 1)))) ⟨(h.push { cls := .type "tuple", data := .seq rest.toArray }).push (excObj C h.objs.size none), g, d, t, os⟩) :
    codeAny (model prog w) A (.builtin "Exception.__new__" ⟨.ref C :: rest, []⟩) R ⟨h, g, d, t, os⟩ := by
  have F := PySem.F.excBase_Exception
  have hends := F.ends
  obtain ⟨od, cd, sl, hC, e1, e2⟩ := Y.obj
  have hC := X _ _ hC
  have L1 : Looks (model prog w) h (isSubtype (.ref C) (.type "Exception")) true := Looks.of_peek X Y.base
  have L2 : Looks (model prog w) h (isSubtype (.ref C) (.type "AttributeError")) false := Looks.of_peek X Y.noA
  have L3 : Looks (model prog w) h (isSubtype (.ref C) (.type "NameError")) false := Looks.of_peek X Y.noN
  have L4 : Looks (model prog w) h (Bind.madeHere "BaseException.__new__" (.ref C)) () := Looks.of_peek X Y.here
  refine codeAny_builtinAt F.entry ?_
  unfold Builtin.«BaseException.__new__»
  refine PySem.wpAt_bind ?_
  show PySem.wpAt _ _ _ (stack >>= _) _ _ _
  refine PySem.wpAt_bind (PySem.wpAt_stack fun p below => PySem.wpAt_of_wpAny ?_)
  wp_walk
  refine PySem.wpAt_of_wpAny ?_
  rw [F.owner]
  repeat (first | with_reducible refine wpAny_loadPart_at hC ?_ | with_reducible refine Looks.at (by assumption) ?_ | wp_step)
  show R _ _
  rw [Heap.size_push]
  exact hq
theorem exc_core {rest : List Value} (X : K.In h) (Y : ExcSays K ⟨prog, w.params⟩ C fI) (hrest : rest.length ≤ sizeLine)
    (hq : codeAny (model prog w) (A.under (.builtin "type.__call__" ⟨.ref C :: rest, []⟩)) (.call (.ref fI) ⟨.ref (h.objs.size + 1) :: rest, []⟩) (InitBack (h.objs.size + 1) R)
      ⟨(h.push { cls := .type "tuple", data := .seq rest.toArray }).push (excObj C h.objs.size none), g, d, t, os⟩) :
    codeAny (model prog w) A (.call (.ref C) ⟨rest, []⟩) R ⟨h, g, d, t, os⟩ := by
  have F := PySem.F.excBase_Exception
  obtain ⟨od, cd, sl, hC', e1, e2⟩ := Y.obj
  have hC := X _ _ hC'
  have call : Looks (model prog w) h (specialOf (.ref C) "__call__") (some (.builtin "type.__call__")) := Looks.of_peek X Y.call
  have typ : Looks (model prog w) h (isInstance (.ref C) (.type "type")) true := Looks.of_peek X Y.typ
  have made : Looks (model prog w) h (Bind.madeBy (.ref C)) (some "Exception.__new__") := Looks.of_peek X Y.made
  have self : Looks (model prog w) h (isSubtype (.ref C) (.ref C)) true := Looks.of_peek X Y.self
  have hi : Looks (model prog w) h (typeLookup (.ref C) "__init__") (some (.ref fI)) := Looks.of_peek X Y.init
  refine codeAny_of_tree ?_
  show wpAny _ _ (callAny (.ref C) _) _ _ _
  refine nd_load hC ?_
  show wpAny _ _ (callAny.viaDunder (.ref C) _) _ _ _
  unfold callAny.viaDunder
  refine wpAny_bind (call.at ?_)
  dsimp only
  rw [tc_bind]
  refine wpAny_bind (wpAny_pure (wpAny_bind (wpAny_pure ?_)))
  refine wpAny_pure (a := Fin.again (.call (.builtin "type.__call__") ⟨.ref C :: rest, []⟩)) (And.intro rfl ?_)
  refine codeAny_call_builtin_at (Code.quiet_builtin _ (by decide +kernel)) entry_typeCall (check_slot tc_kind tc_split typ (tc_args _ _ _) ?_)
  unfold Builtin.«type.__call__»
  have hm : Looks (model prog w) h (mroOf (.ref C)) cd.mro := ((Looks.ld (part := none) hC).andThen .now).andThen .now
  repeat (first | simp only [e1, Bool.false_eq_true, if_false] | with_reducible refine wpAny_call ?_ | lk)
  refine codeAny_call_builtin_code (Code.quiet_builtin _ F.quiet) ((Looks.of_peek (M := model prog w) X (Y.chk rest)).here ?_)
  refine exc_new X Y hrest ?_
  have k : ∀ b o, h.get? b = some o → ((h.push { cls := .type "tuple", data := .seq rest.toArray }).push (excObj C h.objs.size none)).get? b = some o := fun b o e => Heap.get?_push_of_some _ (Heap.get?_push_of_some _ e)
  have hx : ((h.push { cls := .type "tuple", data := .seq rest.toArray }).push (excObj C h.objs.size none)).get? (h.objs.size + 1) = some (excObj C h.objs.size none) := by heap_get
  have t1 : Looks (model prog w) ((h.push { cls := .type "tuple", data := .seq rest.toArray }).push (excObj C h.objs.size none)) (typeOf (.ref (h.objs.size + 1))) (.ref C) := (Looks.ld hx).andThen .now
  have s1 := self.keeps k
  have i1 := hi.keeps k
  have b1 := (Looks.of_peek (M := model prog w) X (Y.bind (.ref (h.objs.size + 1)))).keeps k
  unfold isInstance callSpecial? specialOf
  repeat (first | with_reducible refine wpAny_call ?_ | lk)
  refine codeAny_mono hq fun r s' z => ?_
  rcases r with e | (v | _ | _ | _) <;> first | exact z | exact z.elim | skip
  obtain ⟨rfl, z⟩ := z
  exact wpAny_pure (wpAny_pure z)
end
end
section
noncomputable abbrev tupObj (vs : List Value) : Obj := { cls := .type "tuple", data := .seq vs.toArray }
section
variable {prog : Program} {w : World} {A : Around} {K : Frag} {C e t : Addr} {E Q : Value → Shared → Prop} {s : Shared} {h₀ : Heap} {L : Addr} {m : Str → Option Value} {rest : List (Addr × Obj)} {dd : Option Addr} {v : Value}
theorem exc_init_check {vs : List Value} {P : Unit → Shared → Prop} {E : Value → Shared → Prop} {M : Model} {oe : Obj} {oc : Value} {od : Option Addr} {cd : ClassData} {sl : Array (Option Value)} (he : s.heap.get? e = some oe) (hcls : oe.cls = .ref C) (hC : s.heap.get? C = some ⟨oc, od, .cls cd, sl⟩)
    (hi : Looks M s.heap (isSubtype (.ref C) (.type "Exception")) true) (h : P () s) :
    wpAny M A (checkBuiltinCall "Exception.__init__" ⟨.ref e :: vs, []⟩) P E s := by
  have F := PySem.F.excBase_Exception
  have hshort := F.noStar
  obtain ⟨hh, g, d, tk, os⟩ := s
  simp only [checkBuiltinCall, F.initKind, F.initSplit, F.initRow]
  repeat (first | (with_reducible refine wpAny_loadPart_at he ?_; rw [hcls]) | with_reducible refine wpAny_loadPart_at hC ?_ | with_reducible refine Looks.at (by assumption) ?_ | wp_step)
  refine wpAny_onRaise ?_
  rw [show ∀ (x y : String) (n : Nat), Bind.check ⟨.positional, "*", "Exception", .self, [⟨"args", .varPos, false⟩]⟩ x y n (List.map (fun x => x.fst) ({ pos := .ref e :: vs } : Args).kw) = pure () from
    fun x y n => check_star_args _ _ _ _ _ _]
  exact wpAny_pure h
theorem exc_init (F : Fr h₀ L s.heap m) (N : News h₀ L s.heap ((e, excObj C t dd) :: rest)) (off : OwnOff rest [e]) (X : K.In h₀) {fI : Addr} (Y : ExcSays K ⟨prog, w.params⟩ C fI)
    (h : ∀ t' h', Fr h₀ L h' m → News h₀ L h' ((e, excObj C t' dd) :: (t', tupObj [v]) :: rest) → (∀ p ∈ (e, excObj C t dd) :: rest, p.1 < t') → Q .none { s with heap := h' }) :
    wpAny (model prog w) A (call (.builtin "Exception.__init__") [.ref e, v]) Q E s := by
  have FB := PySem.F.excBase_Exception
  obtain ⟨hh, g, d, tk, os⟩ := s
  have X' := X.keeps F.keep
  have he : hh.get? e = some (excObj C t dd) := (N _ (.head _)).1
  obtain ⟨od, cd, sl, hC, e1, e2⟩ := Y.obj
  refine wpAny_call (codeAny_call_builtin FB.init.plain FB.initEntry (exc_init_check he rfl (X' _ _ hC) (Looks.of_peek X' Y.base) ?_))
  have hp := Heap.get?_push_of_some { cls := .type "tuple", data := .seq [v].toArray } he
  wp_walk
  have F' := F.push { cls := .type "tuple", data := .seq #[v] }
  have N' : News h₀ L (hh.push (tupObj [v])) ([] ++ (e, excObj C t dd) :: (hh.objs.size, tupObj [v]) :: rest) := fun p hp => (N.push F (tupObj [v])) p (by
    rcases List.mem_cons.mp hp with rfl | hp
    · exact .tail _ (.head _)
    · rcases List.mem_cons.mp hp with rfl | hp
      · exact .head _
      · exact .tail _ (.tail _ hp))
  have hlt : ∀ p ∈ (e, excObj C t dd) :: rest, p.1 < hh.objs.size := fun p hp => Heap.lt_size (N p hp).1
  obtain ⟨U1, U2⟩ := news_upd (o' := excObj C hh.objs.size dd) (f := Obj.mapFields fun x => x.setIfInBounds 0 (Value.ref hh.objs.size)) F' N' (fun _ z => nomatch z) (fun p hp => by
    rcases List.mem_cons.mp hp with rfl | hp
    · exact Nat.ne_of_gt (hlt (e, excObj C t dd) (.head _))
    · exact off p hp e (.head _)) rfl rfl
  exact h _ _ U1 U2 hlt
end
end
section
open Builtin Builtin.ObjectAttr
structure SetSays (K : Frag) (S : Setting) (C : Addr) (name : Str) : Prop where
  cls : ∃ od cd sl, K.lookup C = some ⟨.type "type", od, .cls cd, sl⟩ ∧ cd.hasDict = true
  find : findIn K (.ref C) "__setattr__" = some (some (.builtin "object.__setattr__"))
  sub : subIn K (.ref C) (.type "object") = some true
  mro : ∃ l, peek K S (mroOf (.ref C)) = some l ∧ ∀ self, refuseLoop self "__setattr__" l = pure ()
  look : findIn K (.ref C) name = some none
theorem mro44 (w : World) : ∃ l, peek (Mine.hd.heap_1 w.params) ⟨PR, w.params⟩ (mroOf (.ref 44)) = some l ∧ ∀ self, refuseLoop self "__setattr__" l = pure () := by
  refine ⟨[.ref 44, .ref 31, .type "Exception", .type "BaseException", .type "object"], by kernel_rfl, fun self => ?_⟩
  rw [refuseLoop_ref, refuseLoop_ref]; exact PySem.F.store_Exception.passes self
theorem mro64 (w : World) : ∃ l, peek (Mine.hd.heap_1 w.params) ⟨PR, w.params⟩ (mroOf (.ref 64)) = some l ∧ ∀ self, refuseLoop self "__setattr__" l = pure () := by
  refine ⟨[.ref 64, .ref 31, .type "Exception", .type "BaseException", .type "object"], by kernel_rfl, fun self => ?_⟩
  rw [refuseLoop_ref, refuseLoop_ref]; exact PySem.F.store_Exception.passes self
theorem set44 (w : World) : SetSays (Mine.hd.heap_1 w.params) ⟨PR, w.params⟩ 44 "message" :=
  ⟨⟨_, _, _, rfl, rfl⟩, by k_is, by k_is, mro44 w, by k_is⟩
theorem set64 (w : World) : SetSays (Mine.hd.heap_1 w.params) ⟨PR, w.params⟩ 64 "message" :=
  ⟨⟨_, _, _, rfl, rfl⟩, by k_is, by k_is, mro64 w, by k_is⟩
theorem set64r (w : World) : SetSays (Mine.hd.heap_1 w.params) ⟨PR, w.params⟩ 64 "row" :=
  ⟨⟨_, _, _, rfl, rfl⟩, by k_is, by k_is, mro64 w, by k_is⟩
section
variable {prog : Program} {w : World} {A : Around} {K : Frag} {C e t d : Addr} {E : Value → Shared → Prop} {s : Shared} {h₀ : Heap} {L : Addr} {m : Str → Option Value} {rest : List (Addr × Obj)} {dd : Option Addr} {v : Value} {name : Str}
theorem exc_set_open {Q : Unit → Shared → Prop} (X : K.In s.heap) (Y : SetSays K ⟨prog, w.params⟩ C name) (he : s.heap.get? e = some (excObj C t dd))
    (h : wpAny (model prog w) A.in1 (storeInOwnDict (.ref e) (.ref C) (.str name s.toks) name v false)
      (fun fin s' => ∃ r, fin = .done (.ret r) ∧ Q () s') (fun _ _ => False) { s with toks := s.toks + 1 }) :
    wpAny (model prog w) A (setAttr (.ref e) name v) Q E s := by
  have SF := PySem.F.store_object
  obtain ⟨hh, g, dr, tk, os⟩ := s
  obtain ⟨l, hl, hp⟩ := Y.mro
  have L0 : Looks (model prog w) hh (typeOf (.ref e)) (.ref C) := (Looks.ld he).andThen .now
  have L1 : Looks (model prog w) hh (typeLookup (.ref C) "__setattr__") (some (.builtin "object.__setattr__")) := looks_findIn X Y.find
  have L2 : Looks (model prog w) hh (isInstance (.ref e) (.type "object")) true := L0.andThen (looks_subIn X Y.sub)
  have L3 : Looks (model prog w) hh (mroOf (.ref C)) l := Looks.of_peek X hl
  have L4 : Looks (model prog w) hh (typeLookup (.ref C) name) none := looks_findIn X Y.look
  refine wpAny_bind (wpAny_mkText (wpAny_bind (wpAny_bind (wpAny_bind (L0 _ _ _ _ (fun _ _ e => e) (L1 _ _ _ _ (fun _ _ e => e) (wpAny_holding ?_)))))))
  rw [SF.slot.bind]
  refine wpAny_bind (wpAny_pure (wpAny_bind (wpAny_call ?_)))
  refine codeAny_call_builtin SF.slot.plain SF.entry (@check_slot (model prog w) _ _ _ "object.__setattr__" "object" "__setattr__" (.ref e) [.str name tk, v] [] _ SF.kind SF.split L2 (SF.args (.ref e) (.str name tk) v) ?_)
  show wpAny _ _ (Builtin.«object.__setattr__» ⟨[.ref e, .str name tk, v], []⟩) _ _ _
  rw [osa_eq, refuse_eq]
  refine wpAny_bind (wpAny_bind (L0 _ _ _ _ (fun _ _ e => e) (wpAny_bind (L3 _ _ _ _ (fun _ _ e => e) ?_))))
  rw [hp]
  refine wpAny_pure (wpAny_bind (L0 _ _ _ _ (fun _ _ e => e) (wpAny_bind (L4 _ _ _ _ (fun _ _ e => e) ?_))))
  refine wpAny_bind (wpAny_pure ?_)
  refine wpAny_mono h (fun fin s' hf => ?_) (fun _ _ x => x.elim)
  obtain ⟨r, rfl, hq⟩ := hf
  exact wpAny_pure (wpAny_pure hq)
theorem store_dict {Q : Fin → Shared → Prop} {es es' : List DictEntry} {n n' : Nat} {tk0 : Tok} (F : Fr h₀ L s.heap m) (N : News h₀ L s.heap ((d, dictOf es n) :: rest)) (off : ∀ p ∈ rest, p.1 ≠ d)
    (hl : (getL name es).isSome = true) (hz : es'.length ≤ 1000) (e1 : putL name (PyData.keyHash w.params name) (.str name s.toks) v es = es') (e2 : putN name es n = n')
    (h : ∀ h', Fr h₀ L h' m → News h₀ L h' ((d, dictOf es' n') :: rest) → Q (.done (.ret .none)) { s with heap := h', toks := s.toks + 1 }) :
    wpAny (model prog w) A (storeInDict d (.str name tk0) name v) Q E s := by
  have N0 : News h₀ L s.heap ([] ++ (d, dictOf es n) :: rest) := N
  obtain ⟨U1, U2⟩ := news_upd (o' := dictOf es' n') (f := Obj.putName name (PyData.keyHash w.params name) (.str name s.toks) v) F N0 (fun _ z => nomatch z) off (by rw [putName_dict, e1, e2]) rfl
  have D := (N _ (.head _)).1
  have D' := (U2 _ (.head _)).1
  unfold storeInDict
  refine wpAny_bind (wpAny_pure (wpAny_bind ?_))
  unfold nsSet
  refine wpAny_bind (wpAny_bind (wpAny_askSetting (wpAny_pure (wpAny_bind (wpAny_mkText (wpAny_bind (wpAny_loadPart D ?_)))))))
  have c : (!es.toArray.any (·.key.isStr name) && es.toArray.any (·.refKey)) = false := by
    unfold getL at hl
    rw [List.any_toArray, List.any_toArray]
    split at hl
    · rename_i en he
      rw [List.any_eq_true.mpr ⟨en, List.mem_of_find?_eq_some he, List.find?_some he⟩]; rfl
    · split at hl
      · cases hl
      · rename_i z; rw [Bool.not_eq_true] at z; rw [z, Bool.and_false]
  dsimp only
  rw [aRefKeyMayBeTheName_at, c]
  refine wpAny_updatePart D ?_
  refine wpAny_bind (wpAny_lookBehind D' (pastItsLine_dict (by rw [List.size_toArray, sizeLine_eq]; omega)) ?_)
  exact wpAny_pure (h _ U1 U2)
end
end
section
open Builtin Builtin.ObjectAttr
section
variable {prog : Program} {w : World} {A : Around} {K : Frag} {C e t d : Addr} {E : Value → Shared → Prop} {s : Shared} {h₀ : Heap} {L : Addr} {m : Str → Option Value} {rest : List (Addr × Obj)} {dd : Option Addr} {v : Value} {name : Str}
theorem exc_set0 {Q : Unit → Shared → Prop} (F : Fr h₀ L s.heap m) (N : News h₀ L s.heap ((e, excObj C t none) :: rest)) (off : OwnOff rest [e]) (X : K.In h₀) (Y : SetSays K ⟨prog, w.params⟩ C name)
    (h : ∀ d h' tk ky n, Fr h₀ L h' m → News h₀ L h' ((e, excObj C t (some d)) :: (d, dictOf [⟨PyData.keyHash w.params name, .str name ky, v⟩] n) :: rest) → (∀ p ∈ rest, p.1 < d) → e < d → Q () { s with heap := h', toks := tk }) :
    wpAny (model prog w) A (setAttr (.ref e) name v) Q E s := by
  have X' := X.keeps F.keep
  have he : s.heap.get? e = some (excObj C t none) := (N _ (.head _)).1
  refine exc_set_open X' Y he ?_
  obtain ⟨hh, g, dr, tk, os⟩ := s
  obtain ⟨od, cd, sl, hC', hdct⟩ := Y.cls
  have hC : hh.get? C = some ⟨.type "type", od, .cls cd, sl⟩ := X' _ _ hC'
  dsimp only at he F N
  have F1 := F.push emptyDict
  have N1 := N.push F emptyDict
  have hlt : ∀ p ∈ (e, excObj C t none) :: rest, p.1 < hh.objs.size := fun p hp => Heap.lt_size (N p hp).1
  have hed : e < hh.objs.size := hlt (e, excObj C t none) (.head _)
  have N1' : News h₀ L (hh.push emptyDict) ([(hh.objs.size, emptyDict)] ++ (e, excObj C t none) :: rest) := N1
  obtain ⟨F2, N2⟩ := news_upd (o' := excObj C t (some hh.objs.size)) (f := fun o => { o with dict := some hh.objs.size }) F1 N1'
    (fun p hp => by rw [List.mem_singleton.mp hp]; exact Nat.ne_of_gt hed) (fun p hp => off p hp e (.head _)) rfl rfl
  have L5 : Looks (model prog w) hh (classData C) cd := (Looks.ld (part := none) hC).andThen .now
  refine wpAny_bind (wpAny_pure ?_)
  refine wpAny_bind ?_
  refine wpAny_bind ?_
  refine wpAny_loadPart he ?_
  refine wpAny_bind ?_
  refine L5 _ _ _ _ (fun _ _ e => e) ?_
  rw [hdct]
  refine wpAny_bind (wpAny_alloc ?_)
  have he1 : (hh.push emptyDict).get? e = some (excObj C t none) := Heap.get?_push_of_some _ he
  refine wpAny_bind (wpAny_update he1 ?_)
  refine wpAny_pure ?_
  refine store_dict (es := []) (n := 0) (rest := (e, excObj C t (some hh.objs.size)) :: rest) F2 N2 (fun p hp => ?_) rfl (by simp [putL]) rfl rfl (fun h' F' N' => ⟨_, rfl, h hh.objs.size h' _ (tk + 1) 1 F' (kst_newsOf N' ?_) (fun p hp => hlt p (.tail _ hp)) hed⟩)
  · rcases List.mem_cons.mp hp with rfl | hp
    · exact Nat.ne_of_lt hed
    · exact Nat.ne_of_lt (hlt p (.tail _ hp))
  · intro p hp
    rcases List.mem_cons.mp hp with rfl | hp
    · exact .tail _ (.head _)
    · rcases List.mem_cons.mp hp with rfl | hp
      · exact .head _
      · exact .tail _ (.tail _ hp)
theorem exc_set1 {Q : Unit → Shared → Prop} {es es' : List DictEntry} {n n' : Nat} (F : Fr h₀ L s.heap m) (N : News h₀ L s.heap ((e, excObj C t (some d)) :: (d, dictOf es n) :: rest)) (off : OwnOff ((e, excObj C t (some d)) :: rest) [d]) (X : K.In h₀) (Y : SetSays K ⟨prog, w.params⟩ C name)
    (hl : (getL name es).isSome = true) (hz : es'.length ≤ 1000) (e1 : putL name (PyData.keyHash w.params name) (.str name (s.toks + 1)) v es = es') (e2 : putN name es n = n')
    (h : ∀ h' tk, Fr h₀ L h' m → News h₀ L h' ((e, excObj C t (some d)) :: (d, dictOf es' n') :: rest) → Q () { s with heap := h', toks := tk }) :
    wpAny (model prog w) A (setAttr (.ref e) name v) Q E s := by
  have X' := X.keeps F.keep
  have he : s.heap.get? e = some (excObj C t (some d)) := (N _ (.head _)).1
  refine exc_set_open X' Y he ?_
  obtain ⟨hh, g, dr, tk, os⟩ := s
  obtain ⟨od, cd, sl, hC', hdct⟩ := Y.cls
  have hC : hh.get? C = some ⟨.type "type", od, .cls cd, sl⟩ := X' _ _ hC'
  dsimp only at he F N e1
  have L5 : Looks (model prog w) hh (classData C) cd := (Looks.ld (part := none) hC).andThen .now
  refine wpAny_bind (wpAny_pure ?_)
  refine wpAny_bind ?_
  refine wpAny_bind ?_
  refine wpAny_loadPart he ?_
  refine wpAny_bind ?_
  refine L5 _ _ _ _ (fun _ _ e => e) ?_
  rw [hdct]
  refine wpAny_pure ?_
  refine store_dict (es := es) (n := n) (rest := (e, excObj C t (some d)) :: rest) F (kst_newsOf N ?_) (fun p hp => off p hp d (.head _)) hl hz e1 e2 (fun h' F' N' => ⟨_, rfl, h _ _ F' (kst_newsOf N' ?_)⟩)
  all_goals
    intro p hp
    rcases List.mem_cons.mp hp with rfl | hp
    · exact .tail _ (.head _)
    · rcases List.mem_cons.mp hp with rfl | hp
      · exact .head _
      · exact .tail _ (.tail _ hp)
end
end
theorem set_Exc5 : True := by
  w_top off
  k_with_none
  k_with "way M" => refine' code_defM ?k1 ?k2 ?k3 ?k4 ?k5 ?kA ?kF ?kK ?kD ?k6 ?k7 ?k8 ?k9 ?kB ?_ ?c2 ?c3 ?c4 ?c5; (case kA => assumption); (case kF => assumption); (case kK => assumption); (case kD => assumption); (case k1 => k_asm); (case k2 => k_asm); (case k3 => k_asm); (case k4 => k_asm); (case k5 => k_asm); (case k6 => k_is); (case k7 => k_is); (case k8 => ktr_room); (case k9 => first | exact BindsTo.of_eq rfl | exact binds_K (by k_in) rfl (by k_is) rfl rfl rfl); (case c5 => decide); (case kB => exact locs rfl); (case c2 => exact rfl); (case c3 => exact rfl); (case c4 => exact rfl); k_whole
  k_with "way C" => refine' code_defC ?k1 ?k2 ?k3 ?k4 ?k5 ?kA ?kF ?kK ?k6 ?k7 ?k8 ?k9 ?kB ?kD ?_ ?c2 ?c3 ?c4; (case kA => first | assumption | exact rfl); (case kF => first | assumption | exact rfl); (case kK => assumption); (case k1 => k_asm); (case k2 => k_asm); (case k3 => k_asm); (case k4 => k_asm); (case k5 => k_asm); (case k6 => k_is); (case k7 => k_is); (case k8 => ktr_room); (case k9 => first | exact BindsTo.of_eq rfl | exact binds_K (by k_in) rfl (by k_is) rfl rfl rfl); (case kB => exact rfl); (case kD => decide +kernel); (case c2 => exact rfl); (case c3 => exact rfl); (case c4 => exact rfl); k_whole
  k_with "way D" => refine' code_def ?k1 ?k2 ?k3 ?k4 ?k5 ?kA ?kF ?kK ?k6 ?k7 ?k8 ?k9 ?kB ?_ ?c2 ?c3 ?c4 ?c5; (case kA => first | assumption | exact rfl); (case kF => first | assumption | exact rfl); (case kK => assumption); (case k1 => k_asm); (case k2 => k_asm); (case k3 => k_asm); (case k4 => k_asm); (case k5 => k_asm); (case k6 => k_is); (case k7 => k_is); (case k8 => ktr_room); (case k9 => first | exact BindsTo.of_eq rfl | exact binds_K (by k_in) rfl (by k_is) rfl rfl rfl); (case c5 => decide); (case kB => exact locs rfl); (case c2 => exact rfl); (case c3 => exact rfl); (case c4 => exact rfl); k_whole
  trivial
theorem type_exc : typeOf (.type "Exception") = pure (.type "type") := by first | rfl | kernel_rfl
theorem exc_meth {w : World} {A : Around} {s : Shared} {E : Value → Shared → Prop} {h₀ : Heap} {L : Addr} {m : Str → Option Value} {pl : Sem Bool} {Q : Value × List Value → Shared → Prop} (F : Fr h₀ L s.heap m) (X : (Mine.hd.heap_1 w.params).In h₀)
    (h : Q (.builtin "Exception.__init__", []) { s with toks := s.toks + 1 }) : wpAny (model PR w) A (getMethod (.type "Exception") "__init__" pl) Q E s :=
  method_type (v := .builtin "Exception.__init__") F X type_exc (by decide +kernel) (by k_is) (by k_handed) h
theorem init28 {w : World} {A A₀ : Around} {env : Env} {outer : List Env} {base h₀ : Heap} {L : Addr} {m : Str → Option Value} {s : Shared} {R : Result → Shared → Prop}
    {loose : List Str} {mean : ExcName → Option Value} {mg mb : Str → Option Value} {rest : List (Addr × Obj)} {e t C fI : Addr} {v : Value}
    (B : Below A₀ base outer h₀) (F : Fr h₀ L s.heap m) (X : (Mine.hd.heap_1 w.params).In h₀) (N : News h₀ L s.heap ((e, excObj C t none) :: rest)) (T : Top topProg loose mean mg mb h₀) (hA : A.frames = some (env :: outer)) (hf : env.frame = some L) (hke : env.scope.kind = .function) (hroom : A.depth < 700)
    (off : OwnOff rest [e]) (Y : ExcSays (Mine.hd.heap_1 w.params) ⟨PR, w.params⟩ C fI) (Z : SetSays (Mine.hd.heap_1 w.params) ⟨PR, w.params⟩ C "message")
    (ret : ∀ t' d h' tk' ky n, Fr h₀ L h' m → News h₀ L h' ((e, excObj C t' (some d)) :: (d, dictOf [⟨PyData.keyHash w.params "message", .str "message" ky, v⟩] n) :: (t', tupObj [v]) :: rest) → (∀ p ∈ rest, p.1 < t') → e < t' → t' < d → R (.ok (.ret .none)) { s with heap := h', toks := tk' }) :
    codeAny (model PR w) A (.call (.ref 28) ⟨[.ref e, v], []⟩) R s := by
  first | k_dflt ktr_enter | fail "no way in"
  k_steps
  refine exc_meth (by k_asm) (by k_asm) ?_
  k_steps
  refine exc_init (by k_asm) (by k_asm) (by assumption) (by k_asm) Y ?_
  intro t' h' F' N' l0
  have off' : OwnOff ((t', tupObj [v]) :: rest) [e] := fun p hp b hb => by
    rcases List.mem_cons.mp hp with rfl | hp
    · rw [List.mem_singleton.mp hb]; exact Nat.ne_of_gt (l0 (e, excObj C t none) (.head _))
    · exact off p hp b hb
  k_steps
  refine exc_set0 (by k_asm) (by k_asm) (by assumption) (by k_asm) Z ?_
  intro d' h' tk' ky' n' F' N' l1 l2
  k_steps
  exact ret _ _ _ _ _ _ (by k_asm) (by k_asm) (fun p hp => l0 p (.tail _ hp)) (l0 (e, excObj C t none) (.head _)) (l1 (t', tupObj [v]) (.head _))
theorem init61 {w : World} {A A₀ : Around} {env : Env} {outer : List Env} {base h₀ : Heap} {L : Addr} {m : Str → Option Value} {s : Shared} {R : Result → Shared → Prop}
    {loose : List Str} {mean : ExcName → Option Value} {mg mb : Str → Option Value} {rest : List (Addr × Obj)} {e t : Addr} {v : Value}
    (B : Below A₀ base outer h₀) (F : Fr h₀ L s.heap m) (X : (Mine.hd.heap_1 w.params).In h₀) (N : News h₀ L s.heap ((e, excObj 64 t none) :: rest)) (T : Top topProg loose mean mg mb h₀) (hA : A.frames = some (env :: outer)) (hf : env.frame = some L) (hke : env.scope.kind = .function) (hroom : A.depth < 650)
    (off : OwnOff rest [e])
    (ret : ∀ t' d h' tk', Fr h₀ L h' m → News h₀ L h' ((e, excObj 64 t' (some d)) :: (t', tupObj [v]) :: rest) → (∀ p ∈ rest, p.1 < t') → e < t' → R (.ok (.ret .none)) { s with heap := h', toks := tk' }) :
    codeAny (model PR w) A (.call (.ref 61) ⟨[.ref e, v], []⟩) R s := by
  have hh : recursionLimit = 1000 := rfl
  first | k_dflt ktr_enter | fail "no way in"
  k_steps
  refine wpAny_call (init28 (by assumption) (by k_asm) (by k_asm) (by k_asm) (by k_asm) (by show Option.map _ A.frames = _; rw [hA]; rfl) rfl rfl (by show A.depth + 1 < 700; first | exact room1 hroom (by decide) | exact room1 hdp (by decide) | omega) (by assumption) (says64 w) (set64 w) ?_)
  intro t' d' h' tk' ky' n' F' N' l1 l2 l3
  k_steps
  refine exc_set1 (by k_asm) (by k_asm) (fun p hp b hb => ?_) (by k_asm) (set64r w) (by with_unfolding_all rfl) (Nat.le_of_ble_eq_true rfl) rfl rfl ?_
  · rw [List.mem_singleton.mp hb]
    rcases List.mem_cons.mp hp with rfl | hp
    · exact Nat.ne_of_lt (Nat.lt_trans l2 l3)
    rcases List.mem_cons.mp hp with rfl | hp
    · exact Nat.ne_of_lt l3
    · exact Nat.ne_of_lt (Nat.lt_trans (l1 p hp) l3)
  intro h' tk' F' N'
  k_steps
  refine ret t' d' _ _ (by k_asm) (kst_newsOf (l := (e, excObj 64 t' (some d')) :: (d', _) :: (t', tupObj [v]) :: rest) (by k_asm) fun p hp => ?_) l1 l2
  rcases List.mem_cons.mp hp with rfl | hp
  · exact .head _
  · exact .tail _ (.tail _ hp)
theorem made_news {h₀ : Heap} {h : Heap} {L : Addr} {m : Str → Option Value} {news : List (Addr × Obj)} {C : Addr} {v : Value} (F : Fr h₀ L h m) (N : News h₀ L h news) :
    Fr h₀ L ((h.push (tupObj [v])).push (excObj C h.objs.size none)) m ∧ News h₀ L ((h.push (tupObj [v])).push (excObj C h.objs.size none)) ((h.objs.size + 1, excObj C h.objs.size none) :: news) ∧ OwnOff news [h.objs.size + 1] := by
  have F1 := F.push (tupObj [v])
  have N1 := N.push F (tupObj [v])
  have F2 := F1.push (excObj C h.objs.size none)
  have N2 := N1.push F1 (excObj C h.objs.size none)
  rw [Heap.size_push] at N2
  refine ⟨F2, kst_newsOf N2 fun p hp => ?_, fun p hp b hb => ?_⟩
  · rcases List.mem_cons.mp hp with rfl | hp
    · exact .head _
    · exact .tail _ (.tail _ hp)
  · rw [List.mem_singleton.mp hb]
    exact Nat.ne_of_lt (Nat.lt_succ_of_lt (Heap.lt_size (N p hp).1))

theorem make44 {w : World} {A A₀ : Around} {env : Env} {outer : List Env} {base h₀ : Heap} {L : Addr} {m : Str → Option Value} {s : Shared} {R : Result → Shared → Prop}
    {loose : List Str} {mean : ExcName → Option Value} {mg mb : Str → Option Value} {news : List (Addr × Obj)} {v : Value}
    (B : Below A₀ base outer h₀) (F : Fr h₀ L s.heap m) (X : (Mine.hd.heap_1 w.params).In h₀) (N : News h₀ L s.heap news) (T : Top topProg loose mean mg mb h₀) (hA : A.frames = some (env :: outer)) (hf : env.frame = some L) (hke : env.scope.kind = .function) (hroom : A.depth < 600) (hh : A.handled = none)
    (ret : ∀ e t d h' tk', Fr h₀ L h' m → News h₀ L h' ((e, excObj 44 t (some d)) :: (t, tupObj [v]) :: news) → (∀ p ∈ news, p.1 < e) → e < t → R (.ok (.ret (.ref e))) { s with heap := h', toks := tk' }) :
    codeAny (model PR w) A (.call (.ref 44) ⟨[v], []⟩) R s := by
  obtain ⟨hp, g, dr, tk, os⟩ := s
  refine exc_core (X.keeps F.keep) (says44 w) (by rw [sizeLine_eq]; exact Nat.le_of_ble_eq_true rfl) ?_
  obtain ⟨F2, N2, off⟩ := made_news (C := 44) (v := v) F N
  refine init28 B F2 X N2 T (by exact hA) hf hke (by show A.depth + 1 < 700; first | exact room1 hroom (by decide) | exact room1 hdp (by decide) | omega) off (says44 w) (set44 w) ?_
  intro t' d' h' tk' ky' n' F' N' l1 l2 l3
  refine ⟨rfl, ret _ t' d' h' tk' F' (kst_newsOf N' fun p hp => ?_) (fun p hp => ?_) l2⟩
  · rcases List.mem_cons.mp hp with rfl | hp
    · exact .head _
    · exact .tail _ (.tail _ hp)
  · exact Nat.lt_succ_of_lt (Heap.lt_size (N p hp).1)
theorem make64 {w : World} {A A₀ : Around} {env : Env} {outer : List Env} {base h₀ : Heap} {L : Addr} {m : Str → Option Value} {s : Shared} {R : Result → Shared → Prop}
    {loose : List Str} {mean : ExcName → Option Value} {mg mb : Str → Option Value} {news : List (Addr × Obj)} {v : Value}
    (B : Below A₀ base outer h₀) (F : Fr h₀ L s.heap m) (X : (Mine.hd.heap_1 w.params).In h₀) (N : News h₀ L s.heap news) (T : Top topProg loose mean mg mb h₀) (hA : A.frames = some (env :: outer)) (hf : env.frame = some L) (hke : env.scope.kind = .function) (hroom : A.depth < 600) (hh : A.handled = none)
    (ret : ∀ e t d h' tk', Fr h₀ L h' m → News h₀ L h' ((e, excObj 64 t (some d)) :: (t, tupObj [v]) :: news) → (∀ p ∈ news, p.1 < e) → e < t → R (.ok (.ret (.ref e))) { s with heap := h', toks := tk' }) :
    codeAny (model PR w) A (.call (.ref 64) ⟨[v], []⟩) R s := by
  obtain ⟨hp, g, dr, tk, os⟩ := s
  refine exc_core (X.keeps F.keep) (says64 w) (by rw [sizeLine_eq]; exact Nat.le_of_ble_eq_true rfl) ?_
  obtain ⟨F2, N2, off⟩ := made_news (C := 64) (v := v) F N
  refine init61 B F2 X N2 T (by exact hA) hf hke (by show A.depth + 1 < 650; first | exact room1 hroom (by decide) | exact room1 hdp (by decide) | omega) off ?_
  intro t' d' h' tk' F' N' l1 l2
  refine ⟨rfl, ret _ t' d' h' tk' F' N' (fun p hp => ?_) l2⟩
  exact Nat.lt_succ_of_lt (Heap.lt_size (N p hp).1)
section
noncomputable def RaisableO (K : Frag) (S : Setting) (C : Addr) (E : Value → Shared → Prop) (v : Value) (s₁ : Shared) : Prop :=
  ∃ a t dd, v = .ref a ∧ s₁.heap.get? a = some (excObj C t dd) ∧ K.In s₁.heap ∧ (peek K S (isSubtype (.ref C) (.type "BaseException")) = some true ∧ ∃ od cd sl, K.lookup C = some ⟨.type "type", od, .cls cd, sl⟩) ∧ E (.ref a) s₁
theorem Raise_mine {K : Frag} {prog : Program} {w : World} {A : Around} {E : Value → Shared → Prop} {s : Shared} {env : Env} {C : Addr} {e : Expr} {pos : Pos} {Q : Flow → Shared → Prop} (hh : A.handled = none)
    (h : wpAny (model prog w) A (eval e env) (RaisableO K ⟨prog, w.params⟩ C E) E s) : wpAny (model prog w) A (exec (.Raise (some e) none pos) env) Q E s := by
  show wpAny _ A (do standAt pos; raiseStmt env (some (do let v ← eval e env; standAt pos; pure v)) none) Q E s
  refine wpAny_bind (wpAny_standAt ?_)
  unfold raiseStmt
  dsimp only
  refine wpAny_bind (wpAny_bind (wpAny_mono h (fun v s₁ h₁ => wpAny_bind (wpAny_standAt (wpAny_pure ?_))) fun _ _ x => x))
  obtain ⟨a, t, dd, rfl, ha, X, ⟨hb, od, cd, sl, hC⟩, hE⟩ := h₁
  obtain ⟨hp, g, d, tk, os⟩ := s₁
  have hC := X _ _ hC
  have L1 : Looks (model prog w) hp (isSubtype (.ref C) (.type "BaseException")) true := Looks.of_peek X hb
  repeat (first | with_reducible refine wpAny_loadPart_at ha ?_ | with_reducible refine wpAny_loadPart_at hC ?_ | with_reducible refine Looks.at (by assumption) ?_ | wp_step)
  exact wpAny_raiseNew_none hh hE
theorem raises44 (w : World) : peek (Mine.hd.heap_1 w.params) ⟨PR, w.params⟩ (isSubtype (.ref 44) (.type "BaseException")) = some true ∧ ∃ od cd sl, (Mine.hd.heap_1 w.params).lookup 44 = some ⟨.type "type", od, .cls cd, sl⟩ := ⟨by kernel_rfl, _, _, _, rfl⟩
theorem raises64 (w : World) : peek (Mine.hd.heap_1 w.params) ⟨PR, w.params⟩ (isSubtype (.ref 64) (.type "BaseException")) = some true ∧ ∃ od cd sl, (Mine.hd.heap_1 w.params).lookup 64 = some ⟨.type "type", od, .cls cd, sl⟩ := ⟨by kernel_rfl, _, _, _, rfl⟩

section
variable {M : Model} {A : Around} {E : Value → Shared → Prop} {s' : Shared} {base g : Heap} {outer : List Env} {L a e t : Addr} {m : Str → Option Value} {name : Str} {scope : Scope} {cd : Value} {Q : Unit → Shared → Prop} {news : List (Addr × Obj)} {C : Addr} {dd : Option Addr}
end
end
section
noncomputable abbrev frs (l : List Env) : List Addr := l.filterMap (·.frame)
section
variable {s : Shared} {A₀ A : Around} {base h₀ : Heap} {outer : List Env} {L : Addr} {m : Str → Option Value} {env : Env} {news : List (Addr × Obj)}
theorem frs_mem {b : Addr} (hf : env.frame = some L) (hb : b ∈ frs (env :: outer)) : b = L ∨ b ∈ frs outer := by
  obtain ⟨e, he, hq⟩ := List.mem_filterMap.mp hb
  rcases List.mem_cons.mp he with rfl | he
  · rw [hf] at hq; exact .inl (Option.some.inj hq).symm
  · exact .inr (List.mem_filterMap.mpr ⟨e, he, hq⟩)
/-- what a callee may leave behind: the callers' frames up to their slots -/
structure Back (A₀ : Around) (base : Heap) (outer : List Env) (h₀ : Heap) (L : Addr) (m : Str → Option Value) (h' : Heap) (news' : List (Addr × Obj)) (h₀' : Heap) : Prop where
  turn : KtsTurn (frs outer) h₀ h₀'
  fr : Fr h₀' L h' m
  news : News h₀' L h' news'
  below : Below A₀ base outer h₀'
  dicts : KtsDicts (frs outer) h₀'
structure Front (A : Around) (base : Heap) (env : Env) (outer : List Env) (h₀ : Heap) (L : Addr) (m : Str → Option Value) (g : Heap) : Prop where
  fr : Fr h₀ L g m
  below : Below A base (env :: outer) g
  stays : h₀.StaysIn g
  dicts : KtsDicts (frs (env :: outer)) g
theorem groundS (B : Below A₀ base outer h₀) (F : Fr h₀ L s.heap m) (N : News h₀ L s.heap news) (hA : A.frames = some (env :: outer)) (hf : env.frame = some L) (hke : env.scope.kind = .function) (D : KtsDicts (frs outer) h₀) :
    Front A base env outer h₀ L m (hideAll s.heap (news.map (·.1))) ∧
      ∀ g' L' m' h' news', KtsTurn (frs (env :: outer)) (hideAll s.heap (news.map (·.1))) g' → Fr g' L' h' m' → News g' L' h' news' → ∃ h₀', Back A₀ base outer h₀ L m h' news' h₀' := by
  obtain ⟨FG, BG, st, _⟩ := groundX (R := fun _ _ => True) B F N hA hf hke
  have hno : h₀.get? L = none := kts_self F
  obtain ⟨oL, es, ep, hL, hd, hk, hm⟩ := id FG.ns
  refine ⟨⟨FG, BG, st, fun b hb => ?_⟩, fun g' L' m' h' news' T' F' N' => ?_⟩
  · rcases frs_mem hf hb with rfl | hb
    · exact ⟨oL, es, ep, hL, hd⟩
    · obtain ⟨o, es', n', ho', hd'⟩ := D b hb
      exact ⟨o, es', n', st b o ho', hd'⟩
  · obtain ⟨T₁, S₁⟩ := kts_turn_at (h := h') (fs := frs outer) (g := h₀)
      (fun b hb => by
        obtain ⟨_, o, ho', _⟩ := B.frames.mem hb
        exact ⟨o, ho'⟩)
      (fun b o e nm => F'.keep b o (T'.other b o (st b o e) (fun q => by
        rcases frs_mem hf q with z | z
        · rw [z, hno] at e; cases e
        · exact nm z)))
      (fun b o e _ => by
        obtain ⟨sl', hs'⟩ := T'.up (st b o e)
        exact ⟨sl', F'.keep _ _ hs'⟩)
    obtain ⟨sl, hs⟩ := T'.up hL
    refine ⟨_, T₁, ⟨⟨_, es, ep, F'.keep _ _ hs, hd, hk, hm⟩, S₁, by rw [T₁.size]; exact F.above⟩, fun p hp => ⟨(N' p hp).1, fun q => ?_, ?_⟩, ⟨B.stack, fun b o e => T₁.other b o (B.stays b o e) (fun hm' => ?_), B.frames.of_keeps fun b o e _ => ?_⟩, D.turn T₁⟩
    · have z := (N' p hp).2.2; rw [q, hs] at z; cases z
    · refine T₁.none_ _ ?_
      cases q : h₀.get? p.1 with
      | none => rfl
      | some o =>
        obtain ⟨sl', hs'⟩ := T'.up (st _ _ q)
        have z := (N' p hp).2.2
        rw [hs'] at z; cases z
    · rw [(B.frames.mem hm').1] at e; cases e
    · obtain ⟨sl', hs'⟩ := T₁.up e
      exact ⟨_, hs', rfl⟩
/-- with no frame outside, nothing of the ground has turned -/
theorem Back.top {h' h₀' : Heap} {news' : List (Addr × Obj)} (Y : Back A₀ base [] h₀ L m h' news' h₀') : Fr h₀ L h' m ∧ News h₀ L h' news' := by
  have st : ∀ b o, h₀.get? b = some o → h₀'.get? b = some o := fun b o e => Y.turn.other b o e (fun z => nomatch z)
  exact ⟨⟨Y.fr.ns, fun b o e => Y.fr.keep b o (st b o e), by rw [← Y.turn.size]; exact Y.fr.above⟩, fun p hp => ⟨(Y.news p hp).1, (Y.news p hp).2.1, kts_none st (Y.news p hp).2.2⟩⟩
end
section
variable {M : Model} {A : Around} {E : Value → Shared → Prop} {s' : Shared} {base g : Heap} {outer : List Env} {L a e t : Addr} {m : Str → Option Value} {name : Str} {scope : Scope} {cd : Value} {Q : Unit → Shared → Prop} {news : List (Addr × Obj)} {C : Addr} {dd : Option Addr}
theorem leave_raiseM {vs : List Value} (K : Below A base outer g) (F : Fr g L s'.heap m) (N : News g L s'.heap ((e, excObj C t dd) :: (t, tupObj vs) :: news)) (o1 : ∀ p ∈ news, p.1 ≠ e ∧ p.1 ≠ t)
    (hQ : ∀ h', RaisedS base g outer e (.ref C) t vs news h' → g.UpToSlots h' → Q () { s' with heap := h' }) (hk : scope.kind = .function := by rfl) :
    wpAny M (A.deeper (envOf name scope L a cd)) (leaving (envOf name scope L a cd) (.ref e)) Q E s' := by
  have K' := K.push (name := name) (a := a) (cd := cd) F hk
  have He := (N _ (.head _))
  have Ht := (N _ (.tail _ (.head _)))
  have hfm : ∀ b, b ∈ frs (envOf name scope L a cd :: outer) → base.get? b = none ∧ (b = L ∨ ∃ o, g.get? b = some o) := fun b hm => by
    refine ⟨(K'.frames.mem hm).1, ?_⟩
    rcases kts_mem hm with z | z
    · exact .inl z
    · obtain ⟨o, ho, _⟩ := (K.frames.mem z).2
      exact .inr ⟨o, ho⟩
  have hin : ∀ env ∈ (envOf name scope L a cd :: outer), ∀ b, env.frame = some b → b ∈ (frs (envOf name scope L a cd :: outer) ++ [e, t]) := fun env he b hb => List.mem_append_left _ (List.mem_filterMap.mpr ⟨env, he, hb⟩)
  have sg : ∀ b o, g.get? b = some o → b ∉ frs outer → (hideAll s'.heap (frs (envOf name scope L a cd :: outer) ++ [e, t])).get? b = some o := fun b o q nm => hideAll_get _ (F.keep b o q) fun hm => by
    rcases List.mem_append.mp hm with hm | hm
    · rcases kts_mem hm with z | z
      · rw [z, kts_self F] at q; cases q
      · exact nm z
    · rcases List.mem_cons.mp hm with rfl | hm
      · rw [He.2.2] at q; cases q
      · rw [List.mem_singleton.mp hm, Ht.2.2] at q; cases q
  have st : base.StaysIn (hideAll s'.heap (frs (envOf name scope L a cd :: outer) ++ [e, t])) := fun b o q => sg b o (K.stays b o q) fun hm => by
    rw [(K.frames.mem hm).1] at q; cases q
  have hl : ∀ q ∈ news, (hideAll s'.heap (frs (envOf name scope L a cd :: outer) ++ [e, t])).get? q.1 = some q.2 ∧ g.get? q.1 = none ∧ base.get? q.1 = none := fun q hq => by
    have Nq := N q (.tail _ (.tail _ hq))
    refine ⟨hideAll_get _ Nq.1 fun hm => ?_, Nq.2.2, fresh_of_stays K.stays Nq.2.2⟩
    rcases List.mem_append.mp hm with hm | hm
    · rcases (hfm _ hm).2 with z | ⟨o, z⟩
      · exact Nq.2.1 z
      · rw [Nq.2.2] at z; cases z
    · rcases List.mem_cons.mp hm with z | hm
      · exact (o1 q hq).1 z
      · exact (o1 q hq).2 (List.mem_singleton.mp hm)
  refine wpAny_leaving_firstW (a0 := .ref t) (base := hideAll s'.heap (frs (envOf name scope L a cd :: outer) ++ [e, t])) (Around.frames_deeper K.stack) (funFrames_hide K'.frames hin) rfl He.1 (fun b o q => of_hideAll _ q) (hideAll_none _ (by simp)) rfl rfl rfl fun h' hL => ?_
  obtain ⟨k1, ⟨_, _, k2⟩, k3, k4⟩ := hL
  exact hQ h' ⟨⟨_, st, sg, hl, ⟨k1, hideAll_none _ (by simp), k2, k3⟩, hideAll_none _ (by simp)⟩, Heap.TupAt.of_slots ⟨_, _, Ht.1, rfl, rfl⟩ k4⟩ ((Heap.UpToSlots.of_keeps F.keep).trans k4)
theorem leave_onM {g₂ : Heap} {env : Env} {cls : Value} {vs : List Value} (hst : A.frames = some outer) (hf : env.frame = some L) (F : Fr g L g₂ m) (R : RaisedS base g₂ (env :: outer) e cls t vs news s'.heap) (hsm : g₂.UpToSlots s'.heap)
    (hQ : ∀ h', RaisedS base g outer e cls t vs news h' → g.UpToSlots h' → Q () { s' with heap := h' }) :
    wpAny M (A.deeper env) (leaving env (.ref e)) Q E s' := by
  obtain ⟨⟨B, hB, hBG, hl, hfl, hnew⟩, htup⟩ := R
  exact wpAny_leaves_onW (Around.frames_deeper hst) hf hfl fun h' x1 x2 =>
    hQ h' ⟨⟨B, hB, fun b o q nm => hBG b o (F.keep b o q) (fun hm => by
      rcases frs_mem hf hm with z | z
      · rw [z, kts_self F] at q; cases q
      · exact nm z), fun q hq => ⟨(hl q hq).1, kts_none F.keep (hl q hq).2.1, (hl q hq).2.2⟩, x1, hnew⟩, htup.of_slots x2⟩ ((Heap.UpToSlots.of_keeps F.keep).trans (hsm.trans x2))
end
section
variable {prog : Program} {w : World} {A₀ : Around} {E : Value → Shared → Prop} {s' : Shared} {base g G : Heap} {outer : List Env} {L a e t C : Addr} {m : Str → Option Value} {name : Str} {scope : Scope} {cd : Value}
  {vs : List Value} {b₀ : Stmt} {suite : List Stmt} {pos np : Pos} {rest : List ExceptHandler} {Q : Flow → Shared → Prop} {news : List (Addr × Obj)} {KF : Frag}
  {p : Program} {loose : List Str} {mean : ExcName → Option Value} {mg mb : Str → Option Value} {x : Str}
theorem caught_V (R : RaisedS base G (envOf name scope L a cd :: outer) e (.ref C) t vs news s'.heap) (F : Fr g L G m) (K : Below A₀ base outer g) (hsm : G.UpToSlots s'.heap) (XB : KF.In base)
    (D : KtsDicts (frs outer) g) (hv : m x = some (.ref C)) (q : ktsIn KF C "BaseException" = true)
    (k : ∀ h' g', KtsTurn (frs outer) g g' → Fr g' L h' m → News g' L h' news → Below A₀ base outer g' → KtsDicts (frs outer) g' →
      wpAny (model prog w) ((A₀.deeper (envOf name scope L a cd)).mark (some (.ref e))) (execs (b₀ :: suite) (envOf name scope L a cd)) Q E { s' with heap := h' })
    (hk : scope.kind = .function := by rfl) (hx : (envOf name scope L a cd).kindOf x = some .local := by rfl) (hd : (x == ("__debug__" : Str)) = false := by decide)
    (hE : PassesOwnAt (model prog w) ((A₀.deeper (envOf name scope L a cd)).mark (some (.ref e))) (A₀.deeper (envOf name scope L a cd)) (envOf name scope L a cd) E := by passes_own) :
    wpAny (model prog w) (A₀.deeper (envOf name scope L a cd)) (noteFrame (.ref e) (envOf name scope L a cd))
      (fun _ s₂ => wpAny (model prog w) (A₀.deeper (envOf name scope L a cd)) (setFlight (.ref e) none) (fun _ s₃ =>
        wpAny (model prog w) (A₀.deeper (envOf name scope L a cd)) (handleBy (.ref e) (envOf name scope L a cd) (.ExceptHandler (some (.Name x np)) none (b₀ :: suite) pos :: rest)) Q E s₃) E s₂) E s' := by
  obtain ⟨⟨B, hB, hBG, hl, hfl, _⟩, _⟩ := R
  have hL : B.get? L = none := by
    obtain ⟨_, ⟨L', _, hf, hn', _⟩, _⟩ := hfl.2.2.1
    obtain rfl : L = L' := Option.some.inj hf
    exact hn'
  refine wpAny_looks_onW (Around.frames_deeper K.stack) rfl hfl fun h₄ hheld₄ hsm₄ => ?_
  refine wpAny_landsW hheld₄ fun h₅ hheld hsm₅' => ?_
  have hsm₅ := hsm.trans (hsm₄.trans hsm₅')
  obtain ⟨g₅, T₅, F₅, K₅⟩ := kts_ground K F hBG hheld.1 hsm₅
  have X₅ : KF.In g₅ := XB.keeps K₅.stays
  obtain ⟨ob, hob, hobc⟩ := hheld.there
  obtain ⟨nm, q', N, bs, bm, hdct, sn, sub, ab, col, dd, k0, k1, k2, k3, k5, newId, hC, hbase, _⟩ := kts_cls X₅ q
  refine wpAny_handleBy_cons (codeAny_handlers_test (ld F₅ hv ?_ hk hx hd)) (by intro q; cases q)
  refine wpAny_excMatches_sub_self (F₅.keep _ _ hC) hob hobc hbase (codeAny_handlers_suite ?_)
  refine lands_againW hheld fun h₆ hfl₆ hsm₆ => ?_
  obtain ⟨g₆, T₆, F₆, K₆⟩ := kts_ground K F hBG hfl₆.1 (hsm₅.trans hsm₆)
  have Nl : News g₆ L h₆ news := fun q hq => ⟨hfl₆.1 _ _ (hl q hq).1, (fun z => by have := (hl q hq).1; rw [z, hL] at this; cases this), T₆.none_ _ (kts_none F.keep (hl q hq).2.1)⟩
  exact wpAny_passesOwnAt hE (k h₆ g₆ T₆ F₆ Nl K₆ (D.turn T₆))
end
end
section
theorem set_Exc8 : True := by
  w_top off
  k_with_none
  k_with "way M" => refine' code_defM ?k1 ?k2 ?k3 ?k4 ?k5 ?kA ?kF ?kK ?kD ?k6 ?k7 ?k8 ?k9 ?kB ?_ ?c2 ?c3 ?c4 ?c5; (case kA => assumption); (case kF => assumption); (case kK => assumption); (case kD => assumption); (case k1 => k_asm); (case k2 => k_asm); (case k3 => k_asm); (case k4 => k_asm); (case k5 => k_asm); (case k6 => k_is); (case k7 => k_is); (case k8 => ktr_room); (case k9 => first | exact BindsTo.of_eq rfl | exact binds_K (by k_in) rfl (by k_is) rfl rfl rfl); (case c5 => decide); (case kB => exact locs rfl); (case c2 => exact rfl); (case c3 => exact rfl); (case c4 => exact rfl); k_whole
  k_with "way C" => refine' code_defC ?k1 ?k2 ?k3 ?k4 ?k5 ?kA ?kF ?kK ?k6 ?k7 ?k8 ?k9 ?kB ?kD ?_ ?c2 ?c3 ?c4; (case kA => first | assumption | exact rfl); (case kF => first | assumption | exact rfl); (case kK => assumption); (case k1 => k_asm); (case k2 => k_asm); (case k3 => k_asm); (case k4 => k_asm); (case k5 => k_asm); (case k6 => k_is); (case k7 => k_is); (case k8 => ktr_room); (case k9 => first | exact BindsTo.of_eq rfl | exact binds_K (by k_in) rfl (by k_is) rfl rfl rfl); (case kB => exact rfl); (case kD => decide +kernel); (case c2 => exact rfl); (case c3 => exact rfl); (case c4 => exact rfl); k_whole
  k_with "way D" => refine' code_def ?k1 ?k2 ?k3 ?k4 ?k5 ?kA ?kF ?kK ?k6 ?k7 ?k8 ?k9 ?kB ?_ ?c2 ?c3 ?c4 ?c5; (case kA => first | assumption | exact rfl); (case kF => first | assumption | exact rfl); (case kK => assumption); (case k1 => k_asm); (case k2 => k_asm); (case k3 => k_asm); (case k4 => k_asm); (case k5 => k_asm); (case k6 => k_is); (case k7 => k_is); (case k8 => ktr_room); (case k9 => first | exact BindsTo.of_eq rfl | exact binds_K (by k_in) rfl (by k_is) rfl rfl rfl); (case c5 => decide); (case kB => exact locs rfl); (case c2 => exact rfl); (case c3 => exact rfl); (case c4 => exact rfl); k_whole
  trivial
local macro_rules | `(tactic| ktr_enter) => `(tactic| (k_extra "way M"; intro g' L' h' FR' F' N' X' T'; (try dsimp only); (try k_fold)))
section
variable {prog : Program} {w : World} {A₀ A : Around} {s : Shared} {base h₀ : Heap} {outer : List Env} {L : Addr} {m mg mb : Str → Option Value} {env : Env} {news : List (Addr × Obj)} {K : Frag} {p : Program} {loose : List Str} {mean : ExcName → Option Value}
    {R : Result → Shared → Prop} {name qual : Str} {params : Arguments} {body : List Stmt} {scope : Scope} {dV kV doc pm cdv ct oc : Value} {an od : Option Addr} {osl : Array (Option Value)} {f : Addr} {args : Args} {binds : List (Str × Value)}
noncomputable def LeaveM (A₀ : Around) (base : Heap) (env : Env) (outer : List Env) (h₀ : Heap) (L : Addr) (m : Str → Option Value) (g : Heap) (R : Result → Shared → Prop) (v : Value) (s' : Shared) : Prop :=
  ∃ g' L' m' news', KtsTurn (frs (env :: outer)) g g' ∧ Fr g' L' s'.heap m' ∧ News g' L' s'.heap news' ∧ ∀ h₀', Back A₀ base outer h₀ L m s'.heap news' h₀' → R (.ok (.ret v)) s'
theorem code_defM (B : Below A₀ base outer h₀) (F : Fr h₀ L s.heap m) (X₀ : K.In h₀) (N : News h₀ L s.heap news) (T : Top p loose mean mg mb h₀) (hA : A.frames = some (env :: outer)) (hf : env.frame = some L) (hke : env.scope.kind = .function) (D : KtsDicts (frs outer) h₀)
    (ho : K.lookup f = some ⟨oc, od, .func (fnOf name qual params body scope dV kV doc pm an cdv ct), osl⟩) (hcd : codeIn K cdv qual = true) (hroom : A.depth < recursionLimit)
    (hbind : BindsTo s (fnOf name qual params body scope dV kV doc pm an cdv ct) args binds) (hloc : ∀ y ∈ binds, scope.names.lookup y.1 = some .local)
    (h : ∀ g L' h₁, Front A base env outer h₀ L m g → Fr g L' h₁ (fun y => binds.reverse.lookup y) → News g L' h₁ news → K.In g → Top p loose mean mg mb g →
      wpAny (model prog w) (A.deeper (envOf qual scope L' f cdv)) (execs body (envOf qual scope L' f cdv))
        (fun fl s' => LeaveM A₀ base env outer h₀ L m g R (match fl with | .ret v => v | _ => .none) s')
        (fun e s' => wpAny (model prog w) (A.deeper (envOf qual scope L' f cdv)) (leaving (envOf qual scope L' f cdv) e) (fun _ s'' => R (.error e) s'') (fun e' s'' => R (.error e') s'') s')
        { s with heap := h₁, toks := s.toks + binds.length })
    (hco : scope.isCoroutine = false) (hgen : scope.isGenerator = false) (hk : scope.kind = .function) (hcell : ∀ x ∈ scope.names, x.2 ≠ .cell) : codeAny (model prog w) A (.call (.ref f) args) R s := by
  have X := X₀.keeps F.keep
  obtain ⟨FR, BK⟩ := groundS (A := A) B F N hA hf hke D
  refine codeAny_call_def (fd := fnOf name qual params body scope dV kV doc pm an cdv ct) (body := body) (binds := binds) hroom (X _ _ ho) rfl (T.nolimit.keeps F.keep) (codeRec_of X hcd) rfl hbind hcell hloc (fun h₁ hns hk₁ => ?_) hco hgen hk
  refine wpAny_mono (h _ s.heap.objs.size h₁ FR ⟨hns, fun b o e => hk₁ b o (of_hideAll _ e), Nat.le_of_eq (hideAll_size _ _)⟩
    (fun p hp => ⟨hk₁ _ _ (N p hp).1, Nat.ne_of_lt (Heap.lt_size (N p hp).1), hideAll_none _ (List.mem_map_of_mem hp)⟩) (X₀.keeps FR.stays) (T.keeps FR.stays)) (fun fl s' hl => ?_) fun _ _ y => y
  obtain ⟨g', L', m', news', T', F', N', k⟩ := hl
  obtain ⟨h₀', Y⟩ := BK _ _ _ _ _ T' F' N'
  exact k h₀' Y
end
noncomputable def Raises (w : World) (f C : Addr) (news news' : List (Addr × Obj)) : Prop :=
  ∀ (A A₀ : Around) (env : Env) (outer : List Env) (base h₀ : Heap) (L : Addr) (m : Str → Option Value) (s : Shared) (R : Result → Shared → Prop) (loose : List Str) (mean : ExcName → Option Value) (mg mb : Str → Option Value),
    Below A₀ base outer h₀ → Fr h₀ L s.heap m → (Mine.hd.heap_1 w.params).In h₀ → News h₀ L s.heap news → Top topProg loose mean mg mb h₀ → A.frames = some (env :: outer) → env.frame = some L → env.scope.kind = .function → A.depth < 560 → A.handled = none →
    (∀ G e t vs h' tk, Fr h₀ L G m → RaisedS base G (env :: outer) e (.ref C) t vs news' h' → G.UpToSlots h' → R (.error (.ref e)) { s with heap := h', toks := tk }) →
    codeAny (model PR w) A (.call (.ref f) ⟨[], []⟩) R s
theorem refused_c {w : World} {A A₀ : Around} {env : Env} {outer : List Env} {base h₀ : Heap} {L : Addr} {m : Str → Option Value} {s : Shared} {R : Result → Shared → Prop}
    {loose : List Str} {mean : ExcName → Option Value} {mg mb : Str → Option Value} {news news' : List (Addr × Obj)} {f C : Addr}
    (B : Below A₀ base outer h₀) (F : Fr h₀ L s.heap m) (X : (Mine.hd.heap_1 w.params).In h₀) (N : News h₀ L s.heap news) (T : Top topProg loose mean mg mb h₀) (hA : A.frames = some (env :: outer)) (hf : env.frame = some L) (hke : env.scope.kind = .function) (hroom : A.depth < 550) (hh : A.handled = none) (D : KtsDicts (frs outer) h₀) (XB : (Mine.hd.heap_1 w.params).In base) (q : ktsIn (Mine.hd.heap_1 w.params) C "BaseException" = true) (Rz : Raises w f C news news') (hfn : ∀ g L' h, News g L' h news → FnAt f h)
    (ret : ∀ h₀' h' tk', Back A₀ base outer h₀ L m h' news' h₀' → R (.ok (.ret (.bool true))) { s with heap := h', toks := tk' }) :
    codeAny (model PR w) A (.call (.ref 232) ⟨[.ref C, .ref f], []⟩) R s := by
  first | k_dflt ktr_enter | fail "no way in"
  k_steps
  refine callWith_F0 (hfn _ _ _ (by k_asm)) ?_
  refine wpAny_call (Rz _ A (envOf _ _ _ _ _) (env :: outer) base _ _ _ _ _ _ _ _ _ (Front.below (by assumption)) (by k_asm) (by k_asm) (by k_asm) (by k_asm) (by show Option.map _ A.frames = _; rw [hA]; rfl) rfl rfl (by show A.depth + 1 < 560; first | exact room1 hroom (by decide) | exact room1 hdp (by decide) | omega) (by exact hh) ?_)
  intro G e t vs h' tk FG R' U'
  dsimp only
  refine caught_V R' FG (Front.below (by assumption)) U' XB (Front.dicts (by assumption)) rfl q ?_
  intro h' g' T' F' N' B' D'
  k_steps
  dsimp only
  k_unfold
  exact ⟨_, _, _, _, by assumption, by assumption, by assumption, fun h₀' Y => ret h₀' _ _ Y⟩
end
section
open PySem.Spec
section
variable {prog : Program} {w : World} {A₀ A : Around} {s : Shared} {base h₀ : Heap} {outer : List Env} {L : Addr} {m mg mb : Str → Option Value} {env : Env} {news : List (Addr × Obj)} {K : Frag} {p : Program} {loose : List Str} {mean : ExcName → Option Value}
    {R : Result → Shared → Prop} {name qual : Str} {params : Arguments} {body : List Stmt} {scope : Scope} {dV kV doc pm cdv ct oc : Value} {an od : Option Addr} {osl : Array (Option Value)} {f : Addr} {args : Args} {binds : List (Str × Value)}
theorem code_defCM (B : Below A₀ base outer h₀) (F : Fr h₀ L s.heap m) (X₀ : K.In h₀) (N : News h₀ L s.heap news) (T : Top p loose mean mg mb h₀) (hA : A.frames = some (env :: outer)) (hf : env.frame = some L) (hke : env.scope.kind = .function) (D : KtsDicts (frs outer) h₀)
    (ho : K.lookup f = some ⟨oc, od, .func (fnOf name qual params body scope dV kV doc pm an cdv ct), osl⟩) (hcd : codeIn K cdv qual = true) (hroom : A.depth < recursionLimit)
    (hbind : BindsTo s (fnOf name qual params body scope dV kV doc pm an cdv ct) args binds) (hkind : (binds.all fun y => scope.names.lookup y.1 == some .local || scope.names.lookup y.1 == some .cell) = true)
    (hnd : ((cellsFrom 0 scope.names []).map (·.1)).Nodup)
    (h : ∀ g L' h₁ tk cells, Front A base env outer h₀ L m g → Fr g L' h₁ (bindL (envOfC qual scope L' f cdv).kindOf binds fun _ => none) → News g L' h₁ (cells ++ news) →
      CellsAre (bindC (envOfC qual scope L' f cdv).kindOf binds fun _ => none) (cellsFrom (L' + 1) scope.names []) cells → K.In g → Top p loose mean mg mb g → (∀ p ∈ news, p.1 < L') →
      wpAny (model prog w) (A.deeper (envOfC qual scope L' f cdv)) (execs body (envOfC qual scope L' f cdv))
        (fun fl s' => LeaveM A₀ base env outer h₀ L m g R (match fl with | .ret v => v | _ => .none) s')
        (fun e s' => wpAny (model prog w) (A.deeper (envOfC qual scope L' f cdv)) (leaving (envOfC qual scope L' f cdv) e) (fun _ s'' => R (.error e) s'') (fun e' s'' => R (.error e') s'') s')
        { s with heap := h₁, toks := tk })
    (hco : scope.isCoroutine = false) (hgen : scope.isGenerator = false) (hk : scope.kind = .function) : codeAny (model prog w) A (.call (.ref f) args) R s := by
  have X := X₀.keeps F.keep
  obtain ⟨FR, BK⟩ := groundS (A := A) B F N hA hf hke D
  refine codeAny_call_function hroom (X _ _ ho) rfl hco hgen rfl (codeRec_of X hcd) (hbind _ _ _ _ ?_)
  refine wpAny_newFunctionEnv_cells hk (kindsX hkind _) fun env' he s' x => ?_
  subst he
  refine ⟨(T.nolimit.keeps F.keep).keeps x.toInCall.keep, codeAny_func ?_⟩
  obtain ⟨h₁, tk, rfl, _⟩ := x.done
  have hk₁ := x.toInCall.keep
  obtain ⟨cells, NC, Y⟩ := Cl.news (h₀ := s.heap) (Nat.le_refl _) fun n c hm => ⟨x.cell n c (lookup_of_mem_nodup (cellsFrom_names scope.names 0 (s.heap.objs.size + 1) [] [] rfl ▸ hnd) hm), x.above n c hm⟩
  refine wpAny_mono (h _ s.heap.objs.size h₁ tk cells FR ⟨x.toInCall.ns, fun b o e => hk₁ b o (of_hideAll _ e), Nat.le_of_eq (hideAll_size _ _)⟩ (fun p hp => ?_) Y (X₀.keeps FR.stays) (T.keeps FR.stays) (fun p hp => Heap.lt_size (N p hp).1)) (fun fl s' hl => ?_) fun _ _ y => y
  · rcases List.mem_append.mp hp with hp | hp
    · refine ⟨(NC p hp).1, (NC p hp).2.1, ?_⟩
      cases q : (hideAll s.heap (news.map (·.1))).get? p.1 with
      | none => rfl
      | some o => have := of_hideAll _ q; rw [(NC p hp).2.2] at this; cases this
    · exact ⟨hk₁ _ _ (N p hp).1, Nat.ne_of_lt (Heap.lt_size (N p hp).1), hideAll_none _ (List.mem_map_of_mem hp)⟩
  · obtain ⟨g', L', m', news', T', F', N', k⟩ := hl
    obtain ⟨h₀', Y⟩ := BK _ _ _ _ _ T' F' N'
    exact k h₀' Y
end
end
local macro_rules | `(tactic| ktr_enter) => `(tactic| (k_extra "way CM"; intro g' L' h' tk' cells' FR' F' N' Y' X' T' l1; have lall := l1; have B' := Front.below FR'; have FG' := Front.fr FR'; (try k_lt l1); k_cells Y'; (try simp only [List.cons_append, List.nil_append] at N'); (try dsimp only); (try k_fold)))
local macro_rules | `(tactic| ktr_enter) => `(tactic| (k_extra "way M"; intro g' L' h' FR' F' N' X' T'; have B' := Front.below FR'; have FG' := Front.fr FR'; (try dsimp only); (try k_fold)))
section
theorem ints_keys {prog : Program} {w : World} : ∀ {kvs : List (Int × Value)} {vs : List Value}, vs.length = kvs.length → (∀ (j : Nat) (v : Value), vs[j]? = some v → ∃ k x, kvs[j]? = some (k, x) ∧ (intKind prog w).is k v = true) → IntsAre vs (kvs.map (·.1))
  | [], [], _, _ => .nil
  | [], _ :: _, h, _ => by cases h
  | _ :: _, [], h, _ => by cases h
  | (k, x) :: r, v :: vs, h, hv => by
    obtain ⟨k', x', e1, e2⟩ := hv 0 v rfl
    obtain ⟨rfl, rfl⟩ := Prod.mk.inj (Option.some.inj e1)
    obtain ⟨t, rfl⟩ := Value.isInt_shape e2
    exact .cons k t (ints_keys (kvs := r) (vs := vs) (by simpa using h) fun j u hu => hv (j + 1) u hu)
section
variable {prog : Program} {w : World} {A : Around} {E : Value → Shared → Prop} {s : Shared} {h₀ : Heap} {L d D : Addr} {m : Str → Option Value} {news : List (Addr × Obj)} {o : Obj} {kvs : List (Int × Value)} {Q : Value → Shared → Prop}
theorem sort_ints {vs : List Value} {ns : List Int} {n : Nat} (F : Fr h₀ L s.heap m) (N : News h₀ L s.heap ((D, listOf vs.toArray n) :: news)) (off : ∀ p ∈ news, p.1 ≠ D) (hi : IntsAre vs ns) (h64 : vs.length < 64)
    (h : ∀ vs' ns' n' h', Fr h₀ L h' m → News h₀ L h' ((D, listOf vs'.toArray n') :: news) → IntsAre vs' ns' → ns'.Perm ns → ns'.Pairwise (· ≤ ·) → Q .none { s with heap := h' }) :
    wpAny (model prog w) A (call (.builtin "list.sort") [.ref D]) Q E s := by
  have z := N (D, listOf vs.toArray n) (.head _)
  refine wpAny_call_entry PyProof.Rows.slot_list_sort ⟨_, z.1, rfl⟩ PyProof.Rows.entry_list_sort (list_sort_tree (n := n) (vs := vs) z.1 hi h64 fun out ns' hI hp hP => ⟨.none, rfl, ?_⟩) (PyProof.Rows.args_list_sort _)
  have N0 : News h₀ L s.heap ([] ++ (D, listOf vs.toArray n) :: news) := N
  have F1 : Fr h₀ L (s.heap.update D (Obj.mapSeq fun _ => (#[] : Array Value))) m := F.change (Heap.SameBut.update ..) z.2.1 z.2.2
  have N1 := ki_turn (fun _ => (#[] : Array Value)) (its' := #[]) N0 (fun _ z => nomatch z) off rfl rfl
  have N2 := News.grown N1 fun _ _ e => Heap.get?_push_of_some (seqObj "tuple" vs.toArray 0) e
  have N3 := News.grown N2 fun _ _ e => Heap.get?_push_of_some (seqObj "list" #[] 0) e
  have N4 := ki_turn (fun _ => out) (its' := out) N3 (fun _ z => nomatch z) off rfl rfl
  have F4 : Fr h₀ L ((((s.heap.update D (Obj.mapSeq fun _ => (#[] : Array Value))).push (seqObj "tuple" vs.toArray 0)).push (seqObj "list" #[] 0)).update D (Obj.mapSeq fun _ => out)) m :=
    ((F1.push (seqObj "tuple" vs.toArray 0)).push (seqObj "list" #[] 0)).change (Heap.SameBut.update ..) z.2.1 z.2.2
  have e : out = out.toList.toArray := by simp
  rw [e] at N4
  exact h out.toList ns' _ _ F4 N4 hI hp hP
theorem sorted_dict (hh : A.handled = none) (F : Fr h₀ L s.heap m) (N : News h₀ L s.heap news) (hp : (d, o) ∈ news) (hd : o.IsDictOf (intKind prog w) kvs) (lo : (d == sysModules) = false) (hn : kvs.length < 64)
    (h : ∀ B vs ns c h' tk, Fr h₀ L h' m → News h₀ L h' ((B, listOf vs.toArray c) :: news) → (∀ q ∈ news, q.1 < B) → IntsAre vs ns → ns.Perm (kvs.map (·.1)) → ns.Pairwise (· ≤ ·) → Q (.ref B) { s with heap := h', toks := tk }) :
    wpAny (model prog w) A (call (.builtin "sorted") [.ref d]) Q E s := by
  obtain ⟨ep, hat⟩ := (kda_dict N hp hd).dictAt
  refine kdu_sorted (kdl_dict (knd := intKind prog w) (kvs := kvs) (ep := ep) lo) hh F N hat (by rw [sizeLine_eq]; omega) fun B h' tk vs F' N' l1 hl hv => ?_
  exact sort_ints F' N' (fun p hp => Nat.ne_of_lt (l1 p hp)) (ints_keys hl hv) (by rw [hl]; exact hn) fun vs' ns' n' h'' F'' N'' hi hP hS => h B vs' ns' n' h'' tk F'' N'' l1 hi hP hS
end

section
variable {prog : Program} {w : World} {A : Around} {E : Value → Shared → Prop} {s : Shared} {env : Env} {h₀ : Heap} {x : Str} {body : List Stmt} {Q : Flow → Shared → Prop}
/-- a turn's end: any ledger, the iterator's own object still there -/
noncomputable def TurnG (h₀ : Heap) (L : Addr) (J : (Str → Option Value) → List (Addr × Obj) → Prop) (I : Addr) (oI : Obj) (s₁ : Shared) (Q : Flow → Shared → Prop) (f : Flow) (s₂ : Shared) : Prop :=
  match f with
  | .ret v => Q (.ret v) s₂
  | .brk => Q .next s₂
  | _ => ∃ h' tk m' nx, s₂ = { s₁ with heap := h', toks := tk } ∧ Fr h₀ L h' m' ∧ News h₀ L h' ((I, oI) :: nx) ∧ (∀ p ∈ nx, p.1 ≠ I) ∧ J m' nx
theorem loop_gen {I : Addr} {fp : List Addr} {n : Nat} {P : Nat → Value → Prop} {St : Nat → Heap → Prop} {m₀ : Str → Option Value} {news : List (Addr × Obj)} (J : Nat → (Str → Option Value) → List (Addr × Obj) → Prop)
    (W : Walks prog w A I fp [I] n P St) (hIf : I ∈ fp) (hI0 : h₀.get? I = none) (hob : ∀ i h, St i h → ∃ o, h.get? I = some o)
    (hLf : env.locals ∉ fp) (hnw : ∀ p ∈ news, p.1 ≠ I) (hst : St 0 s.heap) (F : Fr h₀ env.locals s.heap m₀) (N : News h₀ env.locals s.heap news) (hj : J 0 m₀ news)
    (hkeep : ∀ b ∈ fp, b ≠ I → ∃ o, ∀ i m nx, J i m nx → (b, o) ∈ nx)
    (turn : ∀ i v m₁ nx h tk oI, i < n → P i v → (∀ p ∈ nx, p.1 ≠ I) → J i m₁ nx → Fr h₀ env.locals h (fun y => if y = x then some v else m₁ y) → News h₀ env.locals h ((I, oI) :: nx) →
      wpAny (model prog w) A (execs body env) (TurnG h₀ env.locals (J (i + 1)) I oI { s with heap := h, toks := tk } Q) E { s with heap := h, toks := tk })
    (done : ∀ m₁ nx h tk, J n m₁ nx → Fr h₀ env.locals h m₁ → News h₀ env.locals h nx → Q .next { s with heap := h, toks := tk }) :
    LoopAtV prog w A h₀ env x body Q E (.ref I) s := by
  refine ⟨I, fp, [I], n, P, St, m₀, news, J, rfl, W, hLf, fun b hb => by rw [List.mem_singleton.mp hb]; exact hI0, fun p hp hm => hnw p hp (List.mem_singleton.mp hm), hst, F, N, hj, ?_, ?_⟩
  · rintro i v m₁ nx s₁ own ⟨hh', tk', rfl⟩ hin hP hJ hoff hown hget hall hst' F₁ N₁
    obtain ⟨oI, hoI⟩ := hob _ _ hst'
    have hmI : (I, oI) ∈ own := hall I hIf hI0 oI hoI
    have hn : ∀ p ∈ nx, p.1 ≠ I := fun p hp e => hoff p hp (List.mem_singleton.mpr e)
    have N₂ : News h₀ env.locals hh' ((I, oI) :: nx) := fun p hp => by
      rcases List.mem_cons.mp hp with rfl | hp
      · exact N₁ _ (List.mem_append_left _ hmI)
      · exact N₁ _ (List.mem_append_right _ hp)
    have back : ∀ nx' : List (Addr × Obj), (∀ b o, b ∈ fp → b ≠ I → (b, o) ∈ nx → (b, o) ∈ nx') → ∀ p ∈ own, p = (I, oI) ∨ p ∈ nx' := fun nx' hk p hp => by
      by_cases e : p.1 = I
      · left
        have h1 := hget p hp
        rw [e] at h1
        have h2 : (some p.2 : Option Obj) = some oI := h1.symm.trans hoI
        exact Prod.ext e (Option.some.inj h2)
      · right
        obtain ⟨o, ho⟩ := hkeep p.1 (hown p hp) e
        have h1 := (N₁ _ (List.mem_append_right _ (ho _ _ _ hJ))).1
        have h2 : o = p.2 := Option.some.inj (h1.symm.trans (hget p hp))
        have h3 := hk p.1 o (hown p hp) e (ho _ _ _ hJ)
        rw [h2] at h3
        exact h3
    refine wpAny_mono (turn i v m₁ nx hh' tk' oI hin hP hn hJ F₁ N₂) (fun f s₂ p => ?_) fun _ _ e => e
    have fin : (∃ h' tk m' nx', s₂ = { s with heap := h', toks := tk } ∧ Fr h₀ env.locals h' m' ∧ News h₀ env.locals h' ((I, oI) :: nx') ∧ (∀ p ∈ nx', p.1 ≠ I) ∧ J (i + 1) m' nx') →
        LoopStepU h₀ env.locals [I] own (J (i + 1)) { s with heap := hh', toks := tk' } .next s₂ := by
      rintro ⟨h', tk, m', nx', e, F', N', ho, hJ'⟩
      refine ⟨rfl, h', tk, m', nx', e, F', fun p hp => ?_, fun p hp hm => ho p hp (List.mem_singleton.mp hm), hJ'⟩
      rcases List.mem_append.mp hp with hp | hp
      · rcases back nx' (fun b o hb hne hm => by
          obtain ⟨o', ho'⟩ := hkeep b hb hne
          have h1 := (N₁ _ (List.mem_append_right _ (ho' _ _ _ hJ))).1
          have h2 := (N₁ _ (List.mem_append_right _ hm)).1
          have h3 : o' = o := Option.some.inj (h1.symm.trans h2)
          rw [← h3]; exact ho' _ _ _ hJ') p hp with rfl | hp
        · exact N' _ (.head _)
        · exact N' _ (.tail _ hp)
      · exact N' _ (.tail _ hp)
    cases f with
    | ret v => exact .ret p
    | brk => exact .brk p
    | next => exact .next (fin p)
    | cont => exact .cont (fin p)
  · rintro h' tk m' news' F' N' _ hJ
    exact done m' news' h' tk hJ F' N'
theorem iter_range {r : Addr} {a₀ b₀ : Int} {t₀ u₀ v₀ : Tok} {n : Nat} {m₀ : Str → Option Value} {news : List (Addr × Obj)} (J : Nat → (Str → Option Value) → List (Addr × Obj) → Prop)
    (hh : A.handled = none) (hr : IsRange s.heap r a₀ b₀ 1 t₀ u₀ v₀) (hsmall : Builtin.Range.small a₀ b₀ 1 = true) (hn : Builtin.Range.rangeSize a₀ b₀ 1 = (n : Int)) (F : Fr h₀ env.locals s.heap m₀) (N : News h₀ env.locals s.heap news) (hj : J 0 m₀ news)
    (turn : ∀ i (k : Int) t m₁ nx h tk I oI, i < n → k = a₀ + (i : Int) → (∀ p ∈ nx, p.1 ≠ I) → J i m₁ nx → Fr h₀ env.locals h (fun y => if y = x then some (.int k t) else m₁ y) → News h₀ env.locals h ((I, oI) :: nx) →
      wpAny (model prog w) A (execs body env) (TurnG h₀ env.locals (J (i + 1)) I oI { s with heap := h, toks := tk } Q) E { s with heap := h, toks := tk })
    (done : ∀ m₁ nx h tk, J n m₁ nx → Fr h₀ env.locals h m₁ → News h₀ env.locals h nx → Q .next { s with heap := h, toks := tk }) :
    wpAny (model prog w) A (pyIter (.ref r)) (fun it s₂ => LoopAtV prog w A h₀ env x body Q E it s₂) E s := by
  refine wpAny_pyIter_range hr hsmall ?_
  have W : Walks prog w A s.heap.objs.size [s.heap.objs.size] [s.heap.objs.size] n (fun i v => i < n ∧ ∃ t, v = .int (a₀ + i * 1) t)
      (fun i h => IsRangeIter h s.heap.objs.size (a₀ + (i : Nat) * 1) ((n : Int) - (i : Nat)) 1) := (Walks.range hh _ a₀ 1 n).bound
  refine loop_gen J W (List.mem_singleton.mpr rfl) (next_is_new F) (fun i h hs => ⟨_, hs⟩) ?_ ?_ (by show IsRangeIter _ _ _ _ _; rw [hn]; simpa using Heap.get?_push_size _ rfl) (F.push _) (fun p hp => ⟨Heap.get?_push_of_some _ (N p hp).1, (N p hp).2⟩) hj ?_ ?_ ?_
  · intro hm
    exact absurd F.ns.lt ((List.mem_singleton.mp hm) ▸ Nat.lt_irrefl _)
  · intro p hp hI
    exact absurd (Heap.lt_size (N p hp).1) (hI ▸ Nat.lt_irrefl _)
  · intro b hb hne
    exact absurd (List.mem_singleton.mp hb) hne
  · rintro i v m₁ nx h tk oI hi ⟨_, t, rfl⟩ ho hJ F₁ N₁
    exact turn i _ t m₁ nx h tk _ oI hi (by omega) ho hJ F₁ N₁
  · exact done
theorem iter_made {l : Addr} {vs : List Value} {ns : List Int} {nn : Nat} {m₀ : Str → Option Value} {news : List (Addr × Obj)} (J : Nat → (Str → Option Value) → List (Addr × Obj) → Prop)
    (hh : A.handled = none) (hl : (l, listOf vs.toArray nn) ∈ news) (hi : IntsAre vs ns) (F : Fr h₀ env.locals s.heap m₀) (N : News h₀ env.locals s.heap news) (hj : J 0 m₀ news) (hJl : ∀ i m nx, J i m nx → (l, listOf vs.toArray nn) ∈ nx)
    (turn : ∀ i (k : Int) t m₁ nx h tk I oI, ns[i]? = some k → (∀ p ∈ nx, p.1 ≠ I) → J i m₁ nx → Fr h₀ env.locals h (fun y => if y = x then some (.int k t) else m₁ y) → News h₀ env.locals h ((I, oI) :: nx) →
      wpAny (model prog w) A (execs body env) (TurnG h₀ env.locals (J (i + 1)) I oI { s with heap := h, toks := tk } Q) E { s with heap := h, toks := tk })
    (done : ∀ m₁ nx h tk, J ns.length m₁ nx → Fr h₀ env.locals h m₁ → News h₀ env.locals h nx → Q .next { s with heap := h, toks := tk }) :
    wpAny (model prog w) A (pyIter (.ref l)) (fun it s₂ => LoopAtV prog w A h₀ env x body Q E it s₂) E s := by
  have hol : s.heap.get? l = some (listOf vs.toArray nn) := (N _ hl).1
  have hls : s.heap.IsList l vs.toArray := ⟨_, hol, rfl, nn, rfl⟩
  have hlt : l < s.heap.objs.size := Heap.lt_size hol
  refine wpAny_pyIter_list hls ?_
  have W := Walks.list (prog := prog) (w := w) hh s.heap.objs.size l (Nat.ne_of_lt hlt) vs.toArray
  have hlen : vs.toArray.size = ns.length := by simp [hi.length]
  rw [hlen] at W
  refine loop_gen J W (.head _) (next_is_new F) (fun i h hs => by obtain ⟨⟨o, ho, _⟩, _⟩ := hs; exact ⟨o, ho⟩) ?_ ?_ ⟨⟨_, Heap.get?_push_size _ rfl, rfl, rfl⟩, hls.at fun o e => Heap.get?_push_of_some _ e⟩ (F.push _) (fun p hp => ⟨Heap.get?_push_of_some _ (N p hp).1, (N p hp).2⟩) hj ?_ ?_ ?_
  · intro hm
    rcases List.mem_cons.mp hm with e | hm
    · exact absurd F.ns.lt (e ▸ Nat.lt_irrefl _)
    · exact (N _ hl).2.1 (List.mem_singleton.mp hm).symm
  · intro p hp hI
    exact absurd (Heap.lt_size (N p hp).1) (hI ▸ Nat.lt_irrefl _)
  · intro b hb hne
    rcases List.mem_cons.mp hb with e | hb
    · exact absurd e hne
    · rw [List.mem_singleton.mp hb]; exact ⟨_, hJl⟩
  · intro i v m₁ nx h tk oI hin hP ho hJ F₁ N₁
    obtain ⟨t, hx⟩ := hi.get i ns[i] (by simp [hin])
    have hv : v = .int ns[i] t := by
      have hP' : vs[i]? = some v := by simpa using hP
      rw [hx] at hP'; exact (Option.some.inj hP').symm
    subst hv
    exact turn i ns[i] t m₁ nx h tk _ oI (by simp [hin]) ho hJ F₁ N₁
  · exact done

/-- a loop over a list of ints whose body turns no other local than the loop's own -/
theorem iter_madeX {L l : Addr} {vs : List Value} {ns : List Int} {nn : Nat} {m₀ : Str → Option Value} {news : List (Addr × Obj)} (J : Nat → List (Addr × Obj) → Prop)
    (he : env.locals = L) (hh : A.handled = none) (hl : (l, listOf vs.toArray nn) ∈ news) (hi : IntsAre vs ns) (F : Fr h₀ L s.heap m₀) (N : News h₀ L s.heap news) (hj : J 0 news) (hJl : ∀ i nx, J i nx → (l, listOf vs.toArray nn) ∈ nx)
    (turn : ∀ i (k : Int) t nx h tk I oI, ns[i]? = some k → (∀ p ∈ nx, p.1 ≠ I) → J i nx → Fr h₀ L h (fun y => if y = x then some (.int k t) else m₀ y) → News h₀ L h ((I, oI) :: nx) →
      wpAny (model prog w) A (execs body env) (TurnG h₀ L (fun m nx => (∃ v, m = fun y => if y = x then v else m₀ y) ∧ J (i + 1) nx) I oI { s with heap := h, toks := tk } Q) E { s with heap := h, toks := tk })
    (done : ∀ v nx h tk, J ns.length nx → Fr h₀ L h (fun y => if y = x then v else m₀ y) → News h₀ L h nx → Q .next { s with heap := h, toks := tk }) :
    wpAny (model prog w) A (pyIter (.ref l)) (fun it s₂ => LoopAtV prog w A h₀ env x body Q E it s₂) E s := by
  subst he
  refine iter_made (fun i m nx => (∃ v, m = fun y => if y = x then v else m₀ y) ∧ J i nx) hh hl hi F N ⟨⟨m₀ x, ?_⟩, hj⟩ (fun i m nx h => hJl i nx h.2) ?_ ?_
  · funext y
    split
    · rename_i e; rw [e]
    · rfl
  · rintro i k t m₁ nx h tk I oI hi ho ⟨⟨v, rfl⟩, hJ⟩ F₁ N₁
    refine turn i k t nx h tk I oI hi ho hJ ?_ N₁
    have e : (fun y => if y = x then some (.int k t) else if y = x then v else m₀ y) = fun y => if y = x then some (.int k t) else m₀ y := by
      funext y
      by_cases e : y = x <;> simp [e]
    rwa [e] at F₁
  · rintro m₁ nx h tk ⟨⟨v, rfl⟩, hJ⟩ F₁ N₁
    exact done v nx h tk hJ F₁ N₁
theorem iter_rangeX {L r : Addr} {a₀ b₀ : Int} {t₀ u₀ v₀ : Tok} {n : Nat} {m₀ : Str → Option Value} {news : List (Addr × Obj)} (J : Nat → List (Addr × Obj) → Prop)
    (he : env.locals = L) (hh : A.handled = none) (hr : IsRange s.heap r a₀ b₀ 1 t₀ u₀ v₀) (hsmall : Builtin.Range.small a₀ b₀ 1 = true) (hn : Builtin.Range.rangeSize a₀ b₀ 1 = (n : Int)) (F : Fr h₀ L s.heap m₀) (N : News h₀ L s.heap news) (hj : J 0 news)
    (turn : ∀ i (k : Int) t nx h tk I oI, i < n → k = a₀ + (i : Int) → (∀ p ∈ nx, p.1 ≠ I) → J i nx → Fr h₀ L h (fun y => if y = x then some (.int k t) else m₀ y) → News h₀ L h ((I, oI) :: nx) →
      wpAny (model prog w) A (execs body env) (TurnG h₀ L (fun m nx => (∃ v, m = fun y => if y = x then v else m₀ y) ∧ J (i + 1) nx) I oI { s with heap := h, toks := tk } Q) E { s with heap := h, toks := tk })
    (done : ∀ v nx h tk, J n nx → Fr h₀ L h (fun y => if y = x then v else m₀ y) → News h₀ L h nx → Q .next { s with heap := h, toks := tk }) :
    wpAny (model prog w) A (pyIter (.ref r)) (fun it s₂ => LoopAtV prog w A h₀ env x body Q E it s₂) E s := by
  subst he
  refine iter_range (fun i m nx => (∃ v, m = fun y => if y = x then v else m₀ y) ∧ J i nx) hh hr hsmall hn F N ⟨⟨m₀ x, ?_⟩, hj⟩ ?_ ?_
  · funext y
    split
    · rename_i e; rw [e]
    · rfl
  · rintro i k t m₁ nx h tk I oI hi hk ho ⟨⟨v, rfl⟩, hJ⟩ F₁ N₁
    refine turn i k t nx h tk I oI hi hk ho hJ ?_ N₁
    have e : (fun y => if y = x then some (.int k t) else if y = x then v else m₀ y) = fun y => if y = x then some (.int k t) else m₀ y := by
      funext y
      by_cases e : y = x <;> simp [e]
    rwa [e] at F₁
  · rintro m₁ nx h tk ⟨⟨v, rfl⟩, hJ⟩ F₁ N₁
    exact done v nx h tk hJ F₁ N₁
end
end
section
noncomputable def Stop (P : Prop) : Prop := P
theorem stop_here {P : Prop} (h : Stop P) : P := h
/-- a port's figures -/
structure ARow where
  most : Int
  way : Str
  stay : Bool
  known : List Int
  shut : Bool
noncomputable abbrev ATab := List (Int × ARow)
/-- what holds of the ports' figures -/
structure Inv (as : ATab) : Prop where
  nd : (as.map (·.1)).Nodup
  ports : ∀ x ∈ as, 1 ≤ x.1 ∧ x.1 ≤ 4
  most : ∀ x ∈ as, 1 ≤ x.2.most ∧ x.2.most ≤ 3
  room : ∀ x ∈ as, (x.2.known.length : Int) ≤ x.2.most
  way : ∀ x ∈ as, x.2.way = "drop" ∨ x.2.way = "shut"
  uniq : ∀ x ∈ as, ∀ y ∈ as, ∀ k, k ∈ x.2.known → k ∈ y.2.known → x.1 = y.1
theorem nodup_len : ∀ {l k : List Int}, l.Nodup → (∀ x ∈ l, x ∈ k) → l.length ≤ k.length
  | [], _, _, _ => Nat.zero_le _
  | a :: l, k, hn, hs => by
    have hm := hs a (.head _)
    have h := nodup_len (l := l) (k := k.erase a) (List.nodup_cons.mp hn).2 fun x hx =>
      (List.mem_erase_of_ne (fun e : x = a => (List.nodup_cons.mp hn).1 (e ▸ hx))).mpr (hs x (.tail _ hx))
    rw [List.length_erase_of_mem hm] at h
    have := List.length_pos_of_mem hm
    simp only [List.length_cons]
    omega
theorem Inv.len {as : ATab} (I : Inv as) : as.length ≤ 4 := by
  have h := nodup_len (l := as.map (·.1)) (k := [1, 2, 3, 4]) I.nd fun x hx => by
    obtain ⟨y, hy, rfl⟩ := List.mem_map.mp hx
    have := I.ports y hy
    simp only [List.mem_cons, List.not_mem_nil, or_false]
    omega
  simpa using h
theorem Inv.klen {as : ATab} (I : Inv as) {x : Int × ARow} (h : x ∈ as) : x.2.known.length ≤ 3 := by
  have := I.room x h
  have := I.most x h
  omega
/-- a port's row, with where it lies -/
structure LRow where
  port : Int
  a : ARow
  rA : Addr
  rD : Addr
  kA : Addr
  vs : List Value
  ok : IntsAre vs a.known
  k1 : Nat
  k2 : Nat
  k3 : Nat
  k4 : Nat
  k5 : Nat
  vm : Nat
  vw : Nat
  kn : Nat
noncomputable abbrev LRow.dict (P : Params) (r : LRow) : Obj := dictOf [⟨PyData.keyHash P "most", .str "most" r.k1, .int r.a.most r.vm⟩, ⟨PyData.keyHash P "way", .str "way" r.k2, .str r.a.way r.vw⟩, ⟨PyData.keyHash P "is_sticky", .str "is_sticky" r.k3, .bool r.a.stay⟩,
  ⟨PyData.keyHash P "known", .str "known" r.k4, .ref r.kA⟩, ⟨PyData.keyHash P "is_shut", .str "is_shut" r.k5, .bool r.a.shut⟩] 5
noncomputable def LRow.led (P : Params) (r : LRow) : List (Addr × Obj) := [(r.rA, instObj 84 r.rD), (r.rD, r.dict P), (r.kA, listOf r.vs.toArray r.kn)]
noncomputable def kvsL (rows : List LRow) : List (Int × Value) := rows.map fun r => (r.port, .ref r.rA)
noncomputable abbrev limDict (P : Params) (kL nL : Nat) (aR : Addr) : Obj := dictOf [⟨PyData.keyHash P "rows", .str "rows" kL, .ref aR⟩] nL
structure LimS (w : World) where
  aL : Addr
  dL : Addr
  aR : Addr
  kL : Nat
  nL : Nat
  oR : Obj
  rows : List LRow
  hd : oR.IsDictOf (intKind PR w) (kvsL rows)
  lo : (aR == sysModules) = false
noncomputable def LRow.abs (r : LRow) : Int × ARow := (r.port, r.a)
noncomputable def LimS.abs {w : World} (S : LimS w) : ATab := S.rows.map LRow.abs
noncomputable def LimS.led {w : World} (S : LimS w) : List (Addr × Obj) := (S.aL, instObj 169 S.dL) :: (S.dL, limDict w.params S.kL S.nL S.aR) :: (S.aR, S.oR) :: S.rows.flatMap (LRow.led w.params)
section
variable {w : World} {S : LimS w} {rest : List (Addr × Obj)}
theorem LimS.mL : (S.aL, instObj 169 S.dL) ∈ S.led ++ rest := .head _
theorem LimS.mD : (S.dL, limDict w.params S.kL S.nL S.aR) ∈ S.led ++ rest := .tail _ (.head _)
theorem LimS.mR : (S.aR, S.oR) ∈ S.led ++ rest := .tail _ (.tail _ (.head _))
theorem LimS.mrow {r : LRow} (h : r ∈ S.rows) {p : Addr × Obj} (hp : p ∈ r.led w.params) : p ∈ S.led ++ rest :=
  List.mem_append_left _ (.tail _ (.tail _ (.tail _ (List.mem_flatMap.mpr ⟨r, h, hp⟩))))
theorem LimS.m1 {r : LRow} (h : r ∈ S.rows) : (r.rA, instObj 84 r.rD) ∈ S.led ++ rest := LimS.mrow h (.head _)
theorem LimS.m2 {r : LRow} (h : r ∈ S.rows) : (r.rD, r.dict w.params) ∈ S.led ++ rest := LimS.mrow h (.tail _ (.head _))
theorem LimS.m3 {r : LRow} (h : r ∈ S.rows) : (r.kA, listOf r.vs.toArray r.kn) ∈ S.led ++ rest := LimS.mrow h (.tail _ (.tail _ (.head _)))
theorem LimS.mabs {r : LRow} (h : r ∈ S.rows) : (r.port, r.a) ∈ S.abs := List.mem_map_of_mem (f := LRow.abs) h
end
theorem kvsL_at {rows : List LRow} (hn : (rows.map (·.port)).Nodup) {r : LRow} (hr : r ∈ rows) : valueAt (kvsL rows) r.port = some (.ref r.rA) := by
  induction rows with
  | nil => cases hr
  | cons q rest ih =>
    simp only [List.map_cons, List.nodup_cons] at hn
    unfold valueAt kvsL
    rw [List.map_cons, List.find?_cons]
    rcases List.mem_cons.mp hr with rfl | hr
    · simp
    · have hne : q.port ≠ r.port := fun e => hn.1 (e ▸ List.mem_map_of_mem hr)
      simp only [hne, decide_false]
      exact ih hn.2 hr
theorem kvsL_none {rows : List LRow} {p : Int} (h : ∀ r ∈ rows, r.port ≠ p) : valueAt (kvsL rows) p = none := by
  unfold valueAt kvsL
  rw [Option.map_eq_none_iff, List.find?_eq_none]
  intro x hx
  obtain ⟨r, hr, rfl⟩ := List.mem_map.mp hx
  simpa using h r hr
theorem kvsL_keys (rows : List LRow) : (kvsL rows).map (·.1) = rows.map (·.port) := by simp [kvsL]
theorem LimS.nd {w : World} {S : LimS w} (I : Inv S.abs) : (S.rows.map (·.port)).Nodup := by
  have := I.nd
  unfold LimS.abs at this
  rw [List.map_map] at this
  exact this
theorem nodup_inj {α β : Type} {f : α → β} : ∀ {l : List α}, (l.map f).Nodup → ∀ {a b : α}, a ∈ l → b ∈ l → f a = f b → a = b
  | [], _, _, _, ha, _, _ => nomatch ha
  | q :: l, hn, a, b, ha, hb, e => by
    simp only [List.map_cons, List.nodup_cons] at hn
    rcases List.mem_cons.mp ha with za | za
    · rcases List.mem_cons.mp hb with zb | zb
      · rw [za, zb]
      · exact absurd (List.mem_map_of_mem (f := f) zb) (by rw [← e, za]; exact hn.1)
    · rcases List.mem_cons.mp hb with zb | zb
      · exact absurd (List.mem_map_of_mem (f := f) za) (by rw [e, zb]; exact hn.1)
      · exact nodup_inj hn.2 za zb e
theorem LimS.same {w : World} {S : LimS w} (I : Inv S.abs) {r r' : LRow} (h : r ∈ S.rows) (h' : r' ∈ S.rows) (e : r.port = r'.port) : r = r' := nodup_inj (LimS.nd I) h h' e
theorem LimS.len {w : World} {S : LimS w} (I : Inv S.abs) : S.rows.length ≤ 4 := by
  have := I.len
  unfold LimS.abs at this
  rwa [List.length_map] at this
/-- the figures of a port -/
noncomputable def at? (as : ATab) (p : Int) : Option ARow := (as.find? fun x => decide (x.1 = p)).map (·.2)
theorem at_mem {as : ATab} {p : Int} {a : ARow} (h : at? as p = some a) : (p, a) ∈ as := by
  obtain ⟨x, hx, rfl⟩ := Option.map_eq_some_iff.mp h
  have h1 := List.find?_some hx
  have h2 := List.mem_of_find?_eq_some hx
  have : x.1 = p := by simpa using h1
  subst this
  exact h2
theorem at_none {as : ATab} {p : Int} (h : at? as p = none) : ∀ x ∈ as, x.1 ≠ p := by
  have := List.find?_eq_none.mp (Option.map_eq_none_iff.mp h)
  intro x hx e
  exact this x hx (by simpa using e)
theorem LimS.row {w : World} {S : LimS w} {p : Int} {a : ARow} (h : at? S.abs p = some a) : ∃ r ∈ S.rows, r.port = p ∧ r.a = a := by
  obtain ⟨r, hr, e⟩ := List.mem_map.mp (at_mem h)
  exact ⟨r, hr, (Prod.mk.inj e).1, (Prod.mk.inj e).2⟩
theorem LimS.val {w : World} {S : LimS w} (I : Inv S.abs) (p : Int) : (at? S.abs p = none ∧ valueAt (kvsL S.rows) p = none) ∨ ∃ r ∈ S.rows, r.port = p ∧ at? S.abs p = some r.a ∧ valueAt (kvsL S.rows) p = some (.ref r.rA) := by
  cases h : at? S.abs p with
  | none => exact .inl ⟨rfl, kvsL_none fun r hr => at_none h _ (List.mem_map_of_mem (f := LRow.abs) hr)⟩
  | some a =>
    obtain ⟨r, hr, h1, h2⟩ := LimS.row h
    exact .inr ⟨r, hr, h1, by rw [h2], h1 ▸ kvsL_at (LimS.nd I) hr⟩
noncomputable def HolderSays (as : ATab) (mac : Int) (v : Value) : Prop := (v = .none ∧ ∀ x ∈ as, mac ∉ x.2.known) ∨ ∃ x ∈ as, ∃ t, v = .int x.1 t ∧ mac ∈ x.2.known
/-- a ledger turned at one address -/
theorem led_at {h₀ h : Heap} {L a : Addr} {o : Obj} {old : List (Addr × Obj)} (N : News h₀ L h old) (ho : (a, o) ∈ old) : News h₀ L h ((a, o) :: old.filter fun p => p.1 != a) ∧ OwnOff (old.filter fun p => p.1 != a) [a] :=
  ⟨kst_newsOf N fun p hp => by
    rcases List.mem_cons.mp hp with rfl | hp
    · exact ho
    · exact (List.mem_filter.mp hp).1, fun p hp b hb => by
    rw [List.mem_singleton.mp hb]
    simpa using (List.mem_filter.mp hp).2⟩
theorem mem_off {old : List (Addr × Obj)} {a : Addr} {p : Addr × Obj} (h : p ∈ old) (hne : p.1 ≠ a) : p ∈ old.filter fun p => p.1 != a := List.mem_filter.mpr ⟨h, by simpa using hne⟩
section
variable {prog : Program} {w : World} {A : Around} {E : Value → Shared → Prop} {s : Shared} {h₀ : Heap} {L D : Addr} {news : List (Addr × Obj)} {vs : List Value} {ns : List Int} {n : Nat} {k : Int} {t : Tok}
theorem any_in : (ns.any (· == k)) = decide (k ∈ ns) := by
  rw [Bool.eq_iff_iff]; simp [List.any_eq_true]
theorem in_c {Q : Value → Shared → Prop} (N : News h₀ L s.heap news) (hm : (D, listOf vs.toArray n) ∈ news) (hi : IntsAre vs ns) (h : Q (.bool (decide (k ∈ ns))) s) : wpAny (model prog w) A (compareOp .In (.int k t) (.ref D)) Q E s :=
  in_list_ints (PySem.IsL.isList (n := n) (N _ hm).1) hi (by rw [any_in]; exact h)
theorem notin_c {Q : Value → Shared → Prop} (N : News h₀ L s.heap news) (hm : (D, listOf vs.toArray n) ∈ news) (hi : IntsAre vs ns) (h : Q (.bool (!decide (k ∈ ns))) s) : wpAny (model prog w) A (compareOp .NotIn (.int k t) (.ref D)) Q E s :=
  notin_list_ints (PySem.IsL.isList (n := n) (N _ hm).1) hi (by rw [any_in]; exact h)
end
end
local macro_rules | `(tactic| walk_at "pyIter ref") => `(tactic| refine stop_here ?_)
local macro_rules | `(tactic| k_mem) => `(tactic| ((show (_ : Addr × Obj) ∈ (_ : List (Addr × Obj))); ktr_member))
theorem set_L3 : True := by
  w_top off
  k_with_none
  k_with "way M" => refine' code_defM ?k1 ?k2 ?k3 ?k4 ?k5 ?kA ?kF ?kK ?kD ?k6 ?k7 ?k8 ?k9 ?kB ?_ ?c2 ?c3 ?c4 ?c5; (case kA => assumption); (case kF => assumption); (case kK => assumption); (case kD => assumption); (case k1 => k_asm); (case k2 => k_asm); (case k3 => k_asm); (case k4 => k_asm); (case k5 => k_asm); (case k6 => k_is); (case k7 => k_is); (case k8 => ktr_room); (case k9 => first | exact BindsTo.of_eq rfl | exact binds_K (by k_in) rfl (by k_is) rfl rfl rfl); (case c5 => decide); (case kB => exact locs rfl); (case c2 => exact rfl); (case c3 => exact rfl); (case c4 => exact rfl); k_whole
  k_with "way C" => refine' code_defC ?k1 ?k2 ?k3 ?k4 ?k5 ?kA ?kF ?kK ?k6 ?k7 ?k8 ?k9 ?kB ?kD ?_ ?c2 ?c3 ?c4; (case kA => first | assumption | exact rfl); (case kF => first | assumption | exact rfl); (case kK => assumption); (case k1 => k_asm); (case k2 => k_asm); (case k3 => k_asm); (case k4 => k_asm); (case k5 => k_asm); (case k6 => k_is); (case k7 => k_is); (case k8 => ktr_room); (case k9 => first | exact BindsTo.of_eq rfl | exact binds_K (by k_in) rfl (by k_is) rfl rfl rfl); (case kB => exact rfl); (case kD => decide +kernel); (case c2 => exact rfl); (case c3 => exact rfl); (case c4 => exact rfl); k_whole
  k_with "way D" => refine' code_def ?k1 ?k2 ?k3 ?k4 ?k5 ?kA ?kF ?kK ?k6 ?k7 ?k8 ?k9 ?kB ?_ ?c2 ?c3 ?c4 ?c5; (case kA => first | assumption | exact rfl); (case kF => first | assumption | exact rfl); (case kK => assumption); (case k1 => k_asm); (case k2 => k_asm); (case k3 => k_asm); (case k4 => k_asm); (case k5 => k_asm); (case k6 => k_is); (case k7 => k_is); (case k8 => ktr_room); (case k9 => first | exact BindsTo.of_eq rfl | exact binds_K (by k_in) rfl (by k_is) rfl rfl rfl); (case c5 => decide); (case kB => exact locs rfl); (case c2 => exact rfl); (case c3 => exact rfl); (case c4 => exact rfl); k_whole
  k_with "way CM" => refine' code_defCM ?k1 ?k2 ?k3 ?k4 ?k5 ?kA ?kF ?kK ?kE ?k6 ?k7 ?k8 ?k9 ?kB ?kD ?_ ?c2 ?c3 ?c4; (case kA => assumption); (case kF => assumption); (case kK => assumption); (case kE => assumption); (case k1 => k_asm); (case k2 => k_asm); (case k3 => k_asm); (case k4 => k_asm); (case k5 => k_asm); (case k6 => k_is); (case k7 => k_is); (case k8 => ktr_room); (case k9 => first | exact BindsTo.of_eq rfl | exact binds_K (by k_in) rfl (by k_is) rfl rfl rfl); (case kB => exact rfl); (case kD => decide +kernel); (case c2 => exact rfl); (case c3 => exact rfl); (case c4 => exact rfl); k_whole
  k_with "exec For Name Call cons nil" => (k_here; (with_unfolding_all refine' For_invVF (by k_asm) (by exact rfl) (by exact rfl) ?_; k_whole))
  k_with "unpackItems ref" => (k_here; k_dflt (refine' unpackItemsN_ (by k_asm) (by k_asm) (by kun_tup) (by assumption) (by exact rfl) ?_; k_whole); intro _ _ _; (try k_sweep))
  k_with "subscriptTail Name Name ref int" => ((with_reducible first | show wpAny _ _ (subscriptTail _ _ (Value.ref (LimS.aR _)) _) _ _ _ | show wpAny _ _ (subscriptTail _ _ (Value.ref (BookS.aB _)) _) _ _ _); refine stop_here ?_)
  k_with "compareOp In int ref" => ((with_reducible first | show wpAny _ _ (compareOp _ _ (Value.ref (LimS.aR _))) _ _ _ | show wpAny _ _ (compareOp _ _ (Value.ref (BookS.aB _))) _ _ _ | show wpAny _ _ (compareOp _ _ (Value.ref (LRow.kA _))) _ _ _ | show wpAny _ _ (compareOp _ _ (Value.ref (BRow.kA _))) _ _ _); refine stop_here ?_)
  k_with "compareOp NotIn int ref" => ((with_reducible first | show wpAny _ _ (compareOp _ _ (Value.ref (LimS.aR _))) _ _ _ | show wpAny _ _ (compareOp _ _ (Value.ref (BookS.aB _))) _ _ _ | show wpAny _ _ (compareOp _ _ (Value.ref (LRow.kA _))) _ _ _ | show wpAny _ _ (compareOp _ _ (Value.ref (BRow.kA _))) _ _ _); refine stop_here ?_)
  k_with "getMethod ref" => ((with_reducible first | show wpAny _ _ (getMethod (Value.ref (LimS.aR _)) _ _) _ _ _ | show wpAny _ _ (getMethod (Value.ref (BookS.aB _)) _ _) _ _ _); refine stop_here ?_)
  k_with "call builtin:len" => ((with_reducible first | show wpAny _ _ (call _ [Value.ref (LRow.kA _)]) _ _ _ | show wpAny _ _ (call _ [Value.ref (BRow.kA _)]) _ _ _); refine stop_here ?_)
  k_with "call ref" => ((with_reducible first | show wpAny _ _ (call (Value.ref 124) [Value.ref (LimS.aL _), _]) _ _ _); refine stop_here ?_)
  k_with "subscriptTail Name Slice ref ref" => refine stop_here ?_
  k_with "subscriptTail Attribute Name Name ref int" => ((with_reducible show wpAny _ _ (subscriptTail _ _ (Value.ref (LimS.aR _)) _) _ _ _); k_dflt (refine kba_turn (value' := PySem.Expr.Name (PySem.Str.ofString "_") ⟨0, 0, 0, 0⟩) (fun _ => rfl) ?_))
  k_with "subscriptTail Attribute Name ref int" => ((with_reducible show wpAny _ _ (subscriptTail _ _ (Value.ref (LimS.aR _)) _) _ _ _); k_dflt (refine kba_turn (value' := PySem.Expr.Name (PySem.Str.ofString "_") ⟨0, 0, 0, 0⟩) (fun _ => rfl) ?_))
  k_with "subscriptTail Subscript Subscript" => ((with_reducible show wpAny _ _ (subscriptTail _ _ (Value.ref (BRow.kA _)) _) _ _ _); k_dflt (refine kba_turn (value' := PySem.Expr.Name (PySem.Str.ofString "_") ⟨0, 0, 0, 0⟩) (fun _ => rfl) ?_))
  k_with "exec Raise" => refine stop_here ?_
  k_with "subscriptTail Subscript Name Name Constant ref int" => ((with_reducible show wpAny _ _ (subscriptTail _ _ (Value.ref (BRow.bA _)) _) _ _ _); k_dflt (refine item_at (vs := BRow.items _) (News.isList (by k_asm) (by k_mem)) (by decide) (by decide) rfl ?_))
  k_with "subscriptTail Name Constant ref int" => ((with_reducible show wpAny _ _ (subscriptTail _ _ (Value.ref (BRow.bA _)) _) _ _ _); k_dflt (refine item_at (vs := BRow.items _) (News.isList (by k_asm) (by k_mem)) (by decide) (by decide) rfl ?_))
  trivial
theorem holder_c {w : World} {A A₀ : Around} {env : Env} {outer : List Env} {base h₀ : Heap} {L : Addr} {m : Str → Option Value} {s : Shared} {R : Result → Shared → Prop}
    {loose : List Str} {mean : ExcName → Option Value} {mg mb : Str → Option Value} {rest : List (Addr × Obj)} {S : LimS w} {mac : Int} {tm : Nat}
    (B : Below A₀ base outer h₀) (F : Fr h₀ L s.heap m) (X : (Mine.hd.heap_1 w.params).In h₀) (N : News h₀ L s.heap (S.led ++ rest)) (T : Top topProg loose mean mg mb h₀) (hA : A.frames = some (env :: outer)) (hf : env.frame = some L) (hke : env.scope.kind = .function) (hroom : A.depth < 600) (hh : A.handled = none) (I : Inv S.abs)
    (ret : ∀ v h' tk', Fr h₀ L h' m → News h₀ L h' (S.led ++ rest) → HolderSays S.abs mac v → R (.ok (.ret v)) { s with heap := h', toks := tk' }) :
    codeAny (model PR w) A (.call (.ref 124) ⟨[.ref S.aL, .int mac tm], []⟩) R s := by
  have hL := S.mL (rest := rest)
  have hD := S.mD (rest := rest)
  have hR := S.mR (rest := rest)
  have hr1 : ∀ r ∈ S.rows, (r.rA, instObj 84 r.rD) ∈ S.led ++ rest := fun r h => S.m1 h
  have hr2 : ∀ r ∈ S.rows, (r.rD, r.dict w.params) ∈ S.led ++ rest := fun r h => S.m2 h
  have hr3 : ∀ r ∈ S.rows, (r.kA, listOf r.vs.toArray r.kn) ∈ S.led ++ rest := fun r h => S.m3 h
  have hd := S.hd
  have lo := S.lo
  have hlen := LimS.len I
  revert N ret hL hD hR hr1 hr2 hr3
  generalize S.led ++ rest = news
  intro N ret hL hD hR hr1 hr2 hr3
  first | k_dflt ktr_enter | fail "no way in"
  k_steps
  refine sorted_dict (by exact hh) (by k_asm) (by k_asm) (by k_mem) hd lo (by simp [kvsL]; omega) ?_
  intro D vs ns c h' tk F' N' l1 hvi hP hS
  rw [kvsL_keys] at hP
  k_steps
  unfold Stop
  refine iter_madeX (l := D) (vs := vs) (ns := ns) (nn := c) (fun i nx => nx = (D, listOf vs.toArray c) :: news ∧ ∀ j, j < i → ∀ x ∈ S.abs, ns[j]? = some x.1 → mac ∉ x.2.known) (by rfl) (by exact hh) (by k_mem) hvi F' N' ⟨rfl, fun j hj => absurd hj (Nat.not_lt_zero j)⟩ (fun i nx h => h.1 ▸ List.Mem.head _) ?_ ?_
  · rintro i k t nx h' tk I' oI hi ho ⟨rfl, hJ⟩ F' N'
    k_steps
    obtain ⟨r, hr, rfl⟩ : ∃ r ∈ S.rows, r.port = k := List.mem_map.mp (hP.mem_iff.mp (List.mem_of_getElem? hi))
    have q1 := hr1 r hr
    have q2 := hr2 r hr
    have q3 := hr3 r hr
    refine kda_item (by k_asm) (by k_mem) hd (intKind_is _ _ _ _) (kvsL_at (LimS.nd I) hr) ?_
    k_steps
    refine in_c (by k_asm) (by k_mem) r.ok ?_
    by_cases hm : mac ∈ r.a.known
    · rw [decide_eq_true hm]
      k_steps
      dsimp only [TurnG]
      k_steps
      exact ret _ _ _ (by k_asm) (kst_newsOf (by k_asm) fun p hp => .tail _ (.tail _ hp)) (.inr ⟨_, LimS.mabs hr, _, rfl, hm⟩)
    · rw [decide_eq_false hm]
      k_steps
      refine ⟨_, _, _, _, rfl, by k_asm, by k_asm, by k_asm, ⟨_, rfl⟩, rfl, fun j hj x hx hjx => ?_⟩
      rcases Nat.lt_succ_iff_lt_or_eq.mp hj with hj | rfl
      · exact hJ j hj x hx hjx
      · rw [hi] at hjx
        have hx1 : r.port = x.1 := Option.some.inj hjx
        exact fun hxm => hm (by
          obtain ⟨r', hr', rfl⟩ := List.mem_map.mp hx
          have : r' = r := (LimS.same I hr hr' hx1).symm
          exact this ▸ hxm)
  · rintro v nx h' tk ⟨rfl, hJ⟩ F' N'
    k_steps
    refine ret _ _ _ (by k_asm) (kst_newsOf (by k_asm) fun p hp => .tail _ hp) (.inl ⟨rfl, fun x hx => ?_⟩)
    obtain ⟨r, hr, rfl⟩ := List.mem_map.mp hx
    obtain ⟨j, hj, e⟩ := List.getElem_of_mem (hP.mem_iff.mpr (List.mem_map_of_mem (f := fun r : LRow => r.port) hr))
    exact hJ j hj _ hx (List.getElem?_eq_some_iff.mpr ⟨hj, e⟩)
section
noncomputable def upd (as : ATab) (p : Int) (a : ARow) : ATab := as.map fun x => if x.1 = p then (p, a) else x
noncomputable abbrev Apart (l : List (Addr × Obj)) : Prop := (l.map (·.1)).Nodup
theorem nodup_swap {α : Type} {x y : List α} {a b : α} (h : (x ++ a :: y).Nodup) (hb : b ∉ x ++ a :: y) : (x ++ b :: y).Nodup := by
  simp only [List.nodup_append, List.nodup_cons, List.mem_append, List.mem_cons, not_or] at h hb ⊢
  grind
theorem upd_off {l : List LRow} {p : Int} {a : ARow} (h : ∀ q ∈ l, q.port ≠ p) : upd (l.map LRow.abs) p a = l.map LRow.abs := by
  unfold upd
  rw [List.map_map]
  refine List.map_congr_left fun q hq => ?_
  simp [LRow.abs, h q hq]
theorem led_split {X Y M M' : List (Addr × Obj)} (hn : Apart (X ++ (M ++ Y))) {p : Addr × Obj} (hp : p ∈ X ++ (M' ++ Y)) : p ∈ M' ∨ (p ∈ X ++ (M ++ Y) ∧ ∀ q ∈ M, p.1 ≠ q.1) := by
  simp only [Apart, List.map_append, List.nodup_append, List.mem_append, List.mem_map] at hn hp
  rcases hp with hp | hp | hp
  · exact .inr ⟨List.mem_append_left _ hp, fun q hq e => hn.2.2 _ ⟨p, hp, rfl⟩ _ (.inl ⟨q, hq, rfl⟩) e⟩
  · exact .inl hp
  · exact .inr ⟨List.mem_append_right _ (List.mem_append_right _ hp), fun q hq e => hn.2.1.2.2 _ ⟨q, hq, rfl⟩ _ ⟨p, hp, rfl⟩ e.symm⟩
theorem LimS.put {w : World} {S : LimS w} {rest : List (Addr × Obj)} {r : LRow} (I : Inv S.abs) (hr : r ∈ S.rows) (hn : Apart (S.led ++ rest)) (r' : LRow) (hp : r'.port = r.port) (h1 : r'.rA = r.rA) (h2 : r'.rD = r.rD) (h3 : r'.kA = r.kA ∨ ∀ p ∈ S.led ++ rest, p.1 ≠ r'.kA) :
    ∃ S' : LimS w, S'.aL = S.aL ∧ S'.abs = upd S.abs r.port r'.a ∧ Apart (S'.led ++ rest) ∧ ∀ p ∈ S'.led ++ rest, p ∈ r'.led w.params ∨ (p ∈ S.led ++ rest ∧ p.1 ≠ r.rA ∧ p.1 ≠ r.rD ∧ p.1 ≠ r.kA) := by
  have hnd := LimS.nd I
  obtain ⟨aL, dL, aR, kL, nL, oR, rows, hd, lo⟩ := S
  obtain ⟨l1, l2, rfl⟩ := List.append_of_mem hr
  simp only [List.map_append, List.map_cons, List.nodup_append, List.nodup_cons, List.mem_append, List.mem_cons, not_or] at hnd
  have o1 : ∀ q ∈ l1, q.port ≠ r.port := fun q hq => hnd.2.2 _ (List.mem_map_of_mem hq) _ (.inl rfl)
  have o2 : ∀ q ∈ l2, q.port ≠ r.port := fun q hq e => hnd.2.1.1 (e ▸ List.mem_map_of_mem (f := fun r : LRow => r.port) hq)
  refine ⟨⟨aL, dL, aR, kL, nL, oR, l1 ++ r' :: l2, ?_, lo⟩, rfl, ?_, ?_, ?_⟩
  · simpa [kvsL, hp, h1] using hd
  · show (l1 ++ r' :: l2).map LRow.abs = upd ((l1 ++ r :: l2).map LRow.abs) r.port r'.a
    have e1 := upd_off (a := r'.a) o1
    have e2 := upd_off (a := r'.a) o2
    unfold upd at e1 e2 ⊢
    simp only [List.map_append, List.map_cons] at e1 e2 ⊢
    rw [e1, e2]
    simp [LRow.abs, hp]
  · have hn' := hn
    simp only [LimS.led, Apart, List.flatMap_append, List.flatMap_cons, LRow.led, List.map_append, List.map_cons, List.map_nil, List.cons_append, List.nil_append, List.append_assoc, h1, h2] at hn' ⊢
    rcases h3 with h3 | h3
    · rw [h3]; exact hn'
    · have := nodup_swap (b := r'.kA) (x := aL :: dL :: aR :: ((l1.flatMap (LRow.led w.params)).map (·.1) ++ [r.rA, r.rD])) (a := r.kA) (y := (l2.flatMap (LRow.led w.params)).map (·.1) ++ rest.map (·.1)) (by simpa [LRow.led] using hn') (fun hm => by
        have hm' : r'.kA ∈ ((LimS.led ⟨aL, dL, aR, kL, nL, oR, l1 ++ r :: l2, hd, lo⟩ ++ rest).map (·.1)) := by
          simpa [LimS.led, LRow.led] using hm
        obtain ⟨p, hp, e⟩ := List.mem_map.mp hm'
        exact h3 p hp e)
      simpa [LRow.led] using this
  · intro p hp'
    have hn' : Apart (((aL, instObj 169 dL) :: (dL, limDict w.params kL nL aR) :: (aR, oR) :: (l1.flatMap (LRow.led w.params))) ++ (r.led w.params ++ (l2.flatMap (LRow.led w.params) ++ rest))) := by
      simpa [LimS.led] using hn
    have h' : p ∈ ((aL, instObj 169 dL) :: (dL, limDict w.params kL nL aR) :: (aR, oR) :: (l1.flatMap (LRow.led w.params))) ++ (r'.led w.params ++ (l2.flatMap (LRow.led w.params) ++ rest)) := by
      simpa [LimS.led] using hp'
    rcases led_split hn' h' with h | ⟨h, ho⟩
    · exact .inl h
    · exact .inr ⟨by simpa [LimS.led] using h, ho (r.rA, _) (.head _), ho (r.rD, _) (.tail _ (.head _)), ho (r.kA, _) (.tail _ (.tail _ (.head _)))⟩
noncomputable def free (as : ATab) (mac : Int) : Bool := as.all fun x => !decide (mac ∈ x.2.known)
theorem free_iff {as : ATab} {mac : Int} : free as mac = true ↔ ∀ x ∈ as, mac ∉ x.2.known := by
  simp [free]
noncomputable def askedS (as : ATab) (p mac : Int) : Str × ATab :=
  match at? as p with
  | none => ("let", as)
  | some a =>
    if a.shut then ("shut", as)
    else if mac ∈ a.known then ("let", as)
    else if free as mac && decide ((a.known.length : Int) < a.most) then ("let", upd as p { a with known := a.known ++ [mac] })
    else (a.way, upd as p { a with shut := a.way == "shut" })
theorem ints_snoc : ∀ {vs : List Value} {ns : List Int}, IntsAre vs ns → ∀ (k : Int) (t : Nat), IntsAre (vs ++ [.int k t]) (ns ++ [k])
  | _, _, .nil, k, t => .cons k t .nil
  | _, _, .cons n u h, k, t => .cons n u (ints_snoc h k t)
theorem apart_ne {l : List (Addr × Obj)} (hn : Apart l) {a b : Addr} {o o' : Obj} (h : (a, o) ∈ l) (h' : (b, o') ∈ l) (hne : o ≠ o') : a ≠ b := fun e =>
  hne (Prod.mk.inj (nodup_inj (f := Prod.fst) hn h h' e)).2
theorem inst_dict {C d : Addr} {es : List DictEntry} {n : Nat} : instObj C d ≠ dictOf es n := fun e => by cases congrArg Obj.data e
theorem inst_list {C d : Addr} {vs : Array Value} {n : Nat} : instObj C d ≠ listOf vs n := fun e => by cases congrArg Obj.data e
theorem dict_list {es : List DictEntry} {vs : Array Value} {n n' : Nat} : dictOf es n ≠ listOf vs n' := fun e => by cases congrArg Obj.data e
theorem LimS.ne {w : World} {S : LimS w} {rest : List (Addr × Obj)} {r : LRow} (hr : r ∈ S.rows) (hn : Apart (S.led ++ rest)) : r.rA ≠ r.rD ∧ r.rA ≠ r.kA ∧ r.rD ≠ r.kA :=
  ⟨apart_ne hn (S.m1 hr) (S.m2 hr) inst_dict, apart_ne hn (S.m1 hr) (S.m3 hr) inst_list, apart_ne hn (S.m2 hr) (S.m3 hr) dict_list⟩
theorem LimS.put_news {w : World} {S : LimS w} {rest : List (Addr × Obj)} {r : LRow} {h₀ h : Heap} {L a : Addr} {o : Obj} (I : Inv S.abs) (hr : r ∈ S.rows) (hn : Apart (S.led ++ rest)) (N : News h₀ L h ((a, o) :: (S.led ++ rest).filter fun p => p.1 != a)) (ha : a = r.rD ∨ a = r.kA)
    (r' : LRow) (hp : r'.port = r.port) (h1 : r'.rA = r.rA) (h2 : r'.rD = r.rD) (h3 : r'.kA = r.kA) (hm : ∀ p ∈ r'.led w.params, p ∈ (a, o) :: (S.led ++ rest).filter fun p => p.1 != a) :
    ∃ S' : LimS w, S'.aL = S.aL ∧ S'.abs = upd S.abs r.port r'.a ∧ Apart (S'.led ++ rest) ∧ News h₀ L h (S'.led ++ rest) := by
  obtain ⟨S', e1, e2, e3, e4⟩ := LimS.put I hr hn r' hp h1 h2 (.inl h3)
  refine ⟨S', e1, e2, e3, kst_newsOf N fun p hp => ?_⟩
  rcases e4 p hp with h | ⟨h, n1, n2, n3⟩
  · exact hm p h
  · exact .tail _ (mem_off h (by rcases ha with rfl | rfl <;> assumption))
theorem LimS.put_dict {w : World} {S : LimS w} {rest : List (Addr × Obj)} {r : LRow} {h₀ h : Heap} {L : Addr} (I : Inv S.abs) (hr : r ∈ S.rows) (hn : Apart (S.led ++ rest)) (r' : LRow)
    (N : News h₀ L h ((r.rD, r'.dict w.params) :: (S.led ++ rest).filter fun p => p.1 != r.rD)) (hp : r'.port = r.port) (h1 : r'.rA = r.rA) (h2 : r'.rD = r.rD) (h3 : r'.kA = r.kA) (h4 : r'.vs = r.vs) (h5 : r'.kn = r.kn) :
    ∃ S' : LimS w, S'.aL = S.aL ∧ S'.abs = upd S.abs r.port r'.a ∧ Apart (S'.led ++ rest) ∧ News h₀ L h (S'.led ++ rest) := by
  obtain ⟨n1, n2, n3⟩ := LimS.ne hr hn
  refine LimS.put_news I hr hn N (.inl rfl) r' hp h1 h2 h3 fun p hp => ?_
  simp only [LRow.led, List.mem_cons, List.not_mem_nil, or_false] at hp
  rcases hp with rfl | rfl | rfl
  · rw [h1, h2]; exact .tail _ (mem_off (S.m1 hr) n1)
  · rw [h2]; exact .head _
  · rw [h3, h4, h5]; exact .tail _ (mem_off (S.m3 hr) n3.symm)
theorem LimS.put_list {w : World} {S : LimS w} {rest : List (Addr × Obj)} {r : LRow} {h₀ h : Heap} {L : Addr} (I : Inv S.abs) (hr : r ∈ S.rows) (hn : Apart (S.led ++ rest)) (r' : LRow)
    (N : News h₀ L h ((r.kA, listOf r'.vs.toArray r'.kn) :: (S.led ++ rest).filter fun p => p.1 != r.kA)) (hp : r'.port = r.port) (h1 : r'.rA = r.rA) (h2 : r'.rD = r.rD) (h3 : r'.kA = r.kA) (h4 : r'.dict w.params = r.dict w.params) :
    ∃ S' : LimS w, S'.aL = S.aL ∧ S'.abs = upd S.abs r.port r'.a ∧ Apart (S'.led ++ rest) ∧ News h₀ L h (S'.led ++ rest) := by
  obtain ⟨n1, n2, n3⟩ := LimS.ne hr hn
  refine LimS.put_news I hr hn N (.inr rfl) r' hp h1 h2 h3 fun p hp => ?_
  simp only [LRow.led, List.mem_cons, List.not_mem_nil, or_false] at hp
  rcases hp with rfl | rfl | rfl
  · rw [h1, h2]; exact .tail _ (mem_off (S.m1 hr) n2)
  · rw [h2, h4]; exact .tail _ (mem_off (S.m2 hr) n3)
  · rw [h3]; exact .head _
section
variable {prog : Program} {w : World} {A : Around} {E : Value → Shared → Prop} {s : Shared} {h₀ : Heap} {L D : Addr} {m : Str → Option Value} {news rest : List (Addr × Obj)} {vs : List Value} {ns : List Int} {n : Nat} {k : Int} {t : Nat}
theorem len_c {Q : Value → Shared → Prop} (N : News h₀ L s.heap news) (hm : (D, listOf vs.toArray n) ∈ news) (hi : IntsAre vs ns) (hz : ns.length ≤ 64) (h : Q (.int ns.length (s.toks + 1)) { s with toks := s.toks + 1 + 1 }) : wpAny (model prog w) A (call (.builtin "len") [.ref D]) Q E s :=
  kun_lenL (PySem.IsL.isList (n := n) (N _ hm).1) (by simp [hi.length]) (by omega) h
theorem led_cut {α : Type} {t : Sem α} {Q : α → Shared → Prop} {old : List (Addr × Obj)} {a : Addr} {o : Obj} (N : News h₀ L s.heap old) (ho : (a, o) ∈ old)
    (h : News h₀ L s.heap ((a, o) :: old.filter fun p => p.1 != a) → (OwnOff (old.filter fun p => p.1 != a) [a]) → wpAny (model prog w) A t Q E s) : wpAny (model prog w) A t Q E s := h (led_at N ho).1 (led_at N ho).2
theorem append_c {v : Value} {Q : Value → Shared → Prop} (F : Fr h₀ L s.heap m) (N : News h₀ L s.heap news) (hm : (D, listOf vs.toArray n) ∈ news) (hz : vs.length ≤ 64)
    (h : ∀ h', Fr h₀ L h' m → News h₀ L h' ((D, listOf (vs ++ [v]).toArray (n + 1)) :: news.filter fun p => p.1 != D) → Q .none { s with heap := h' }) : wpAny (model prog w) A (call (.builtin "list.append") [.ref D, v]) Q E s := by
  obtain ⟨N1, o1⟩ := led_at N hm
  refine append_K F N1 (Upd.head fun p hp => o1 p hp D (.head _)) (fun h' F' N' => h h' F' ?_) (by rw [sizeLine_eq]; simp; omega)
  simpa using N'
end
end
theorem set_L5 : True := by
  w_top off
  k_with_none
  k_with "way M" => refine' code_defM ?k1 ?k2 ?k3 ?k4 ?k5 ?kA ?kF ?kK ?kD ?k6 ?k7 ?k8 ?k9 ?kB ?_ ?c2 ?c3 ?c4 ?c5; (case kA => assumption); (case kF => assumption); (case kK => assumption); (case kD => assumption); (case k1 => k_asm); (case k2 => k_asm); (case k3 => k_asm); (case k4 => k_asm); (case k5 => k_asm); (case k6 => k_is); (case k7 => k_is); (case k8 => ktr_room); (case k9 => first | exact BindsTo.of_eq rfl | exact binds_K (by k_in) rfl (by k_is) rfl rfl rfl); (case c5 => decide); (case kB => exact locs rfl); (case c2 => exact rfl); (case c3 => exact rfl); (case c4 => exact rfl); k_whole
  k_with "way C" => refine' code_defC ?k1 ?k2 ?k3 ?k4 ?k5 ?kA ?kF ?kK ?k6 ?k7 ?k8 ?k9 ?kB ?kD ?_ ?c2 ?c3 ?c4; (case kA => first | assumption | exact rfl); (case kF => first | assumption | exact rfl); (case kK => assumption); (case k1 => k_asm); (case k2 => k_asm); (case k3 => k_asm); (case k4 => k_asm); (case k5 => k_asm); (case k6 => k_is); (case k7 => k_is); (case k8 => ktr_room); (case k9 => first | exact BindsTo.of_eq rfl | exact binds_K (by k_in) rfl (by k_is) rfl rfl rfl); (case kB => exact rfl); (case kD => decide +kernel); (case c2 => exact rfl); (case c3 => exact rfl); (case c4 => exact rfl); k_whole
  k_with "way D" => refine' code_def ?k1 ?k2 ?k3 ?k4 ?k5 ?kA ?kF ?kK ?k6 ?k7 ?k8 ?k9 ?kB ?_ ?c2 ?c3 ?c4 ?c5; (case kA => first | assumption | exact rfl); (case kF => first | assumption | exact rfl); (case kK => assumption); (case k1 => k_asm); (case k2 => k_asm); (case k3 => k_asm); (case k4 => k_asm); (case k5 => k_asm); (case k6 => k_is); (case k7 => k_is); (case k8 => ktr_room); (case k9 => first | exact BindsTo.of_eq rfl | exact binds_K (by k_in) rfl (by k_is) rfl rfl rfl); (case c5 => decide); (case kB => exact locs rfl); (case c2 => exact rfl); (case c3 => exact rfl); (case c4 => exact rfl); k_whole
  k_with "way CM" => refine' code_defCM ?k1 ?k2 ?k3 ?k4 ?k5 ?kA ?kF ?kK ?kE ?k6 ?k7 ?k8 ?k9 ?kB ?kD ?_ ?c2 ?c3 ?c4; (case kA => assumption); (case kF => assumption); (case kK => assumption); (case kE => assumption); (case k1 => k_asm); (case k2 => k_asm); (case k3 => k_asm); (case k4 => k_asm); (case k5 => k_asm); (case k6 => k_is); (case k7 => k_is); (case k8 => ktr_room); (case k9 => first | exact BindsTo.of_eq rfl | exact binds_K (by k_in) rfl (by k_is) rfl rfl rfl); (case kB => exact rfl); (case kD => decide +kernel); (case c2 => exact rfl); (case c3 => exact rfl); (case c4 => exact rfl); k_whole
  k_with "exec For Name Call cons nil" => (k_here; (with_unfolding_all refine' For_invVF (by k_asm) (by exact rfl) (by exact rfl) ?_; k_whole))
  k_with "unpackItems ref" => (k_here; k_dflt (refine' unpackItemsN_ (by k_asm) (by k_asm) (by kun_tup) (by assumption) (by exact rfl) ?_; k_whole); intro _ _ _; (try k_sweep))
  k_with "subscriptTail Name Name ref int" => ((with_reducible first | show wpAny _ _ (subscriptTail _ _ (Value.ref (LimS.aR _)) _) _ _ _ | show wpAny _ _ (subscriptTail _ _ (Value.ref (BookS.aB _)) _) _ _ _); refine stop_here ?_)
  k_with "compareOp In int ref" => ((with_reducible first | show wpAny _ _ (compareOp _ _ (Value.ref (LimS.aR _))) _ _ _ | show wpAny _ _ (compareOp _ _ (Value.ref (BookS.aB _))) _ _ _ | show wpAny _ _ (compareOp _ _ (Value.ref (LRow.kA _))) _ _ _ | show wpAny _ _ (compareOp _ _ (Value.ref (BRow.kA _))) _ _ _); refine stop_here ?_)
  k_with "compareOp NotIn int ref" => ((with_reducible first | show wpAny _ _ (compareOp _ _ (Value.ref (LimS.aR _))) _ _ _ | show wpAny _ _ (compareOp _ _ (Value.ref (BookS.aB _))) _ _ _ | show wpAny _ _ (compareOp _ _ (Value.ref (LRow.kA _))) _ _ _ | show wpAny _ _ (compareOp _ _ (Value.ref (BRow.kA _))) _ _ _); refine stop_here ?_)
  k_with "getMethod ref" => ((with_reducible first | show wpAny _ _ (getMethod (Value.ref (LimS.aR _)) _ _) _ _ _ | show wpAny _ _ (getMethod (Value.ref (BookS.aB _)) _ _) _ _ _); refine stop_here ?_)
  k_with "call builtin:len" => ((with_reducible first | show wpAny _ _ (call _ [Value.ref (LRow.kA _)]) _ _ _ | show wpAny _ _ (call _ [Value.ref (BRow.kA _)]) _ _ _); refine stop_here ?_)
  k_with "call ref" => ((with_reducible first | show wpAny _ _ (call (Value.ref 124) [Value.ref (LimS.aL _), _]) _ _ _); refine stop_here ?_)
  k_with "subscriptTail Name Slice ref ref" => refine stop_here ?_
  k_with "subscriptTail Attribute Name Name ref int" => ((with_reducible show wpAny _ _ (subscriptTail _ _ (Value.ref (LimS.aR _)) _) _ _ _); k_dflt (refine kba_turn (value' := PySem.Expr.Name (PySem.Str.ofString "_") ⟨0, 0, 0, 0⟩) (fun _ => rfl) ?_))
  k_with "subscriptTail Attribute Name ref int" => ((with_reducible show wpAny _ _ (subscriptTail _ _ (Value.ref (LimS.aR _)) _) _ _ _); k_dflt (refine kba_turn (value' := PySem.Expr.Name (PySem.Str.ofString "_") ⟨0, 0, 0, 0⟩) (fun _ => rfl) ?_))
  k_with "subscriptTail Subscript Subscript" => ((with_reducible show wpAny _ _ (subscriptTail _ _ (Value.ref (BRow.kA _)) _) _ _ _); k_dflt (refine kba_turn (value' := PySem.Expr.Name (PySem.Str.ofString "_") ⟨0, 0, 0, 0⟩) (fun _ => rfl) ?_))
  k_with "exec Raise" => refine stop_here ?_
  k_with "subscriptTail Subscript Name Name Constant ref int" => ((with_reducible show wpAny _ _ (subscriptTail _ _ (Value.ref (BRow.bA _)) _) _ _ _); k_dflt (refine item_at (vs := BRow.items _) (News.isList (by k_asm) (by k_mem)) (by decide) (by decide) rfl ?_))
  k_with "subscriptTail Name Constant ref int" => ((with_reducible show wpAny _ _ (subscriptTail _ _ (Value.ref (BRow.bA _)) _) _ _ _); k_dflt (refine item_at (vs := BRow.items _) (News.isList (by k_asm) (by k_mem)) (by decide) (by decide) rfl ?_))
  trivial
theorem asked_c {w : World} {A A₀ : Around} {env : Env} {outer : List Env} {base h₀ : Heap} {L : Addr} {m : Str → Option Value} {s : Shared} {R : Result → Shared → Prop}
    {loose : List Str} {mean : ExcName → Option Value} {mg mb : Str → Option Value} {rest : List (Addr × Obj)} {S : LimS w} {port mac : Int} {tp tm : Nat} {vn : Value}
    (B : Below A₀ base outer h₀) (F : Fr h₀ L s.heap m) (X : (Mine.hd.heap_1 w.params).In h₀) (N : News h₀ L s.heap (S.led ++ rest)) (T : Top topProg loose mean mg mb h₀) (hA : A.frames = some (env :: outer)) (hf : env.frame = some L) (hke : env.scope.kind = .function) (hroom : A.depth < 590) (hh : A.handled = none) (I : Inv S.abs) (Ap : Apart (S.led ++ rest))
    (ret : ∀ t (S' : LimS w) h' tk', Fr h₀ L h' m → News h₀ L h' (S'.led ++ rest) → Apart (S'.led ++ rest) → S'.aL = S.aL → S'.abs = (askedS S.abs port mac).2 → R (.ok (.ret (.str (askedS S.abs port mac).1 t))) { s with heap := h', toks := tk' }) :
    codeAny (model PR w) A (.call (.ref 131) ⟨[.ref S.aL, .int port tp, .int mac tm, vn], []⟩) R s := by
  have hL := S.mL (rest := rest)
  have hD := S.mD (rest := rest)
  have hR := S.mR (rest := rest)
  have hr1 : ∀ r ∈ S.rows, (r.rA, instObj 84 r.rD) ∈ S.led ++ rest := fun r h => S.m1 h
  have hr2 : ∀ r ∈ S.rows, (r.rD, r.dict w.params) ∈ S.led ++ rest := fun r h => S.m2 h
  have hr3 : ∀ r ∈ S.rows, (r.kA, listOf r.vs.toArray r.kn) ∈ S.led ++ rest := fun r h => S.m3 h
  have hd := S.hd
  have lo := S.lo
  have hlen := LimS.len I
  first | k_dflt ktr_enter | fail "no way in"
  k_steps
  rcases LimS.val I port with ⟨ea, hv⟩ | ⟨r, hr, rfl, ea, hv⟩
  · refine kdg_notin (by k_asm) (by k_mem) hd lo (intKind_is _ _ _ _) false (by rw [hv]; rfl) ?_
    k_steps
    have e : askedS S.abs port mac = (("let" : Str), S.abs) := by simp only [askedS, ea]
    rw [e] at ret
    exact ret _ S _ _ (by k_asm) (by k_asm) Ap rfl rfl
  · have q1 := hr1 r hr
    have q2 := hr2 r hr
    have q3 := hr3 r hr
    refine kdg_notin (by k_asm) (by k_mem) hd lo (intKind_is _ _ _ _) true (by rw [hv]; rfl) ?_
    k_steps
    refine kda_item (by k_asm) (by k_mem) hd (intKind_is _ _ _ _) hv ?_
    k_steps
    · have e : askedS S.abs r.port mac = (("shut" : Str), S.abs) := by simp only [askedS, ea]; simp [*]
      rw [e] at ret
      exact ret _ S _ _ (by k_asm) (by k_asm) Ap rfl rfl
    rename_i hs0
    have hml : r.a.known.length ≤ 3 := I.klen (LimS.mabs hr)
    obtain ⟨d1, d2, d3⟩ := LimS.ne hr Ap
    have m1 := mem_off q1 d1
    have m3 := mem_off q3 d3.symm
    refine wpAny_call (holder_c (by assumption) (by k_asm) (by k_asm) (by k_asm) (by k_asm) (by show Option.map _ A.frames = _; rw [hA]; rfl) rfl rfl (by show A.depth + 1 < 600; first | exact room1 hroom (by decide) | exact room1 hdp (by decide) | omega) (by exact hh) I ?_)
    intro v h' tk' F' N' hs
    rcases hs with ⟨rfl, hnone⟩ | ⟨x, hx, t, rfl, hmem⟩
    · have nin := hnone _ (LimS.mabs hr)
      k_steps
      refine len_c (by k_asm) (by k_mem) r.ok (by omega) ?_
      k_steps
      · rename_i hlt
        refine append_c (by k_asm) (by k_asm) q3 (by rw [r.ok.length]; omega) ?_
        intro h'' F'' N''
        k_steps
        have e : askedS S.abs r.port mac = (("let" : Str), upd S.abs r.port { r.a with known := r.a.known ++ [mac] }) := by
          simp only [askedS, ea]
          rw [if_neg (by simp [*]), if_neg nin, if_pos (by rw [free_iff.mpr hnone]; simpa using hlt)]
        rw [e] at ret
        obtain ⟨S', e1, e2, e3, e4⟩ := LimS.put_list I hr Ap { r with a := { r.a with known := r.a.known ++ [mac] }, vs := r.vs ++ [.int mac tm], ok := ints_snoc r.ok _ _, kn := r.kn + 1 } (by k_asm) rfl rfl rfl rfl rfl
        exact ret _ S' _ _ (by k_asm) e4 e3 e1 e2
      · rename_i hlt
        refine led_cut (by k_asm) q2 fun N1 o1 => ?_
        k_steps
        have e : askedS S.abs r.port mac = (r.a.way, upd S.abs r.port { r.a with shut := r.a.way == "shut" }) := by
          simp only [askedS, ea]
          rw [if_neg (by simp [*]), if_neg nin, if_neg (by rw [free_iff.mpr hnone]; simpa using hlt)]
        rw [e] at ret
        obtain ⟨S', e1, e2, e3, e4⟩ := LimS.put_dict I hr Ap { r with a := { r.a with shut := r.a.way == "shut" } } (by k_asm) rfl rfl rfl rfl rfl rfl
        exact ret _ S' _ _ (by k_asm) e4 e3 e1 e2
    · k_steps
      · rename_i heq _ _ _ _
        have hk : mac ∈ r.a.known := by
          have hx1 : x = (r.port, r.a) := nodup_inj I.nd hx (LimS.mabs hr) (by simpa using heq)
          rw [hx1] at hmem
          exact hmem
        have e : askedS S.abs r.port mac = (("let" : Str), S.abs) := by
          simp only [askedS, ea]
          rw [if_neg (by simp [*]), if_pos hk]
        rw [e] at ret
        exact ret _ S _ _ (by k_asm) (by k_asm) Ap rfl rfl
      · rename_i heq
        have nin : mac ∉ r.a.known := fun hk => by
          have := I.uniq _ hx _ (LimS.mabs hr) mac hmem hk
          simp_all
        have nfree : free S.abs mac ≠ true := fun hf => free_iff.mp hf x hx hmem
        refine led_cut (by k_asm) q2 fun N1 o1 => ?_
        k_steps
        have e : askedS S.abs r.port mac = (r.a.way, upd S.abs r.port { r.a with shut := r.a.way == "shut" }) := by
          simp only [askedS, ea]
          rw [if_neg (by simp [*]), if_neg nin, if_neg (by simp [nfree])]
        rw [e] at ret
        obtain ⟨S', e1, e2, e3, e4⟩ := LimS.put_dict I hr Ap { r with a := { r.a with shut := r.a.way == "shut" } } (by k_asm) rfl rfl rfl rfl rfl rfl
        exact ret _ S' _ _ (by k_asm) e4 e3 e1 e2
theorem set_L6 : True := by
  w_top off
  k_with_none
  k_with "way M" => refine' code_defM ?k1 ?k2 ?k3 ?k4 ?k5 ?kA ?kF ?kK ?kD ?k6 ?k7 ?k8 ?k9 ?kB ?_ ?c2 ?c3 ?c4 ?c5; (case kA => assumption); (case kF => assumption); (case kK => assumption); (case kD => assumption); (case k1 => k_asm); (case k2 => k_asm); (case k3 => k_asm); (case k4 => k_asm); (case k5 => k_asm); (case k6 => k_is); (case k7 => k_is); (case k8 => ktr_room); (case k9 => first | exact BindsTo.of_eq rfl | exact binds_K (by k_in) rfl (by k_is) rfl rfl rfl); (case c5 => decide); (case kB => exact locs rfl); (case c2 => exact rfl); (case c3 => exact rfl); (case c4 => exact rfl); k_whole
  k_with "way C" => refine' code_defC ?k1 ?k2 ?k3 ?k4 ?k5 ?kA ?kF ?kK ?k6 ?k7 ?k8 ?k9 ?kB ?kD ?_ ?c2 ?c3 ?c4; (case kA => first | assumption | exact rfl); (case kF => first | assumption | exact rfl); (case kK => assumption); (case k1 => k_asm); (case k2 => k_asm); (case k3 => k_asm); (case k4 => k_asm); (case k5 => k_asm); (case k6 => k_is); (case k7 => k_is); (case k8 => ktr_room); (case k9 => first | exact BindsTo.of_eq rfl | exact binds_K (by k_in) rfl (by k_is) rfl rfl rfl); (case kB => exact rfl); (case kD => decide +kernel); (case c2 => exact rfl); (case c3 => exact rfl); (case c4 => exact rfl); k_whole
  k_with "way D" => refine' code_def ?k1 ?k2 ?k3 ?k4 ?k5 ?kA ?kF ?kK ?k6 ?k7 ?k8 ?k9 ?kB ?_ ?c2 ?c3 ?c4 ?c5; (case kA => first | assumption | exact rfl); (case kF => first | assumption | exact rfl); (case kK => assumption); (case k1 => k_asm); (case k2 => k_asm); (case k3 => k_asm); (case k4 => k_asm); (case k5 => k_asm); (case k6 => k_is); (case k7 => k_is); (case k8 => ktr_room); (case k9 => first | exact BindsTo.of_eq rfl | exact binds_K (by k_in) rfl (by k_is) rfl rfl rfl); (case c5 => decide); (case kB => exact locs rfl); (case c2 => exact rfl); (case c3 => exact rfl); (case c4 => exact rfl); k_whole
  k_with "way CM" => refine' code_defCM ?k1 ?k2 ?k3 ?k4 ?k5 ?kA ?kF ?kK ?kE ?k6 ?k7 ?k8 ?k9 ?kB ?kD ?_ ?c2 ?c3 ?c4; (case kA => assumption); (case kF => assumption); (case kK => assumption); (case kE => assumption); (case k1 => k_asm); (case k2 => k_asm); (case k3 => k_asm); (case k4 => k_asm); (case k5 => k_asm); (case k6 => k_is); (case k7 => k_is); (case k8 => ktr_room); (case k9 => first | exact BindsTo.of_eq rfl | exact binds_K (by k_in) rfl (by k_is) rfl rfl rfl); (case kB => exact rfl); (case kD => decide +kernel); (case c2 => exact rfl); (case c3 => exact rfl); (case c4 => exact rfl); k_whole
  k_with "exec For Name Call cons nil" => (k_here; (with_unfolding_all refine' For_invVF (by k_asm) (by exact rfl) (by exact rfl) ?_; k_whole))
  k_with "unpackItems ref" => (k_here; k_dflt (refine' unpackItemsN_ (by k_asm) (by k_asm) (by kun_tup) (by assumption) (by exact rfl) ?_; k_whole); intro _ _ _; (try k_sweep))
  k_with "subscriptTail Name Name ref int" => ((with_reducible first | show wpAny _ _ (subscriptTail _ _ (Value.ref (LimS.aR _)) _) _ _ _ | show wpAny _ _ (subscriptTail _ _ (Value.ref (BookS.aB _)) _) _ _ _); refine stop_here ?_)
  k_with "compareOp In int ref" => ((with_reducible first | show wpAny _ _ (compareOp _ _ (Value.ref (LimS.aR _))) _ _ _ | show wpAny _ _ (compareOp _ _ (Value.ref (BookS.aB _))) _ _ _ | show wpAny _ _ (compareOp _ _ (Value.ref (LRow.kA _))) _ _ _ | show wpAny _ _ (compareOp _ _ (Value.ref (BRow.kA _))) _ _ _); refine stop_here ?_)
  k_with "compareOp NotIn int ref" => ((with_reducible first | show wpAny _ _ (compareOp _ _ (Value.ref (LimS.aR _))) _ _ _ | show wpAny _ _ (compareOp _ _ (Value.ref (BookS.aB _))) _ _ _ | show wpAny _ _ (compareOp _ _ (Value.ref (LRow.kA _))) _ _ _ | show wpAny _ _ (compareOp _ _ (Value.ref (BRow.kA _))) _ _ _); refine stop_here ?_)
  k_with "getMethod ref" => ((with_reducible first | show wpAny _ _ (getMethod (Value.ref (LimS.aR _)) _ _) _ _ _ | show wpAny _ _ (getMethod (Value.ref (BookS.aB _)) _ _) _ _ _); refine stop_here ?_)
  k_with "call builtin:len" => ((with_reducible first | show wpAny _ _ (call _ [Value.ref (LRow.kA _)]) _ _ _ | show wpAny _ _ (call _ [Value.ref (BRow.kA _)]) _ _ _); refine stop_here ?_)
  k_with "call ref" => ((with_reducible first | show wpAny _ _ (call (Value.ref 124) [Value.ref (LimS.aL _), _]) _ _ _); refine stop_here ?_)
  k_with "subscriptTail Name Slice ref ref" => refine stop_here ?_
  k_with "subscriptTail Attribute Name Name ref int" => ((with_reducible show wpAny _ _ (subscriptTail _ _ (Value.ref (LimS.aR _)) _) _ _ _); k_dflt (refine kba_turn (value' := PySem.Expr.Name (PySem.Str.ofString "_") ⟨0, 0, 0, 0⟩) (fun _ => rfl) ?_))
  k_with "subscriptTail Attribute Name ref int" => ((with_reducible show wpAny _ _ (subscriptTail _ _ (Value.ref (LimS.aR _)) _) _ _ _); k_dflt (refine kba_turn (value' := PySem.Expr.Name (PySem.Str.ofString "_") ⟨0, 0, 0, 0⟩) (fun _ => rfl) ?_))
  k_with "subscriptTail Subscript Subscript" => ((with_reducible show wpAny _ _ (subscriptTail _ _ (Value.ref (BRow.kA _)) _) _ _ _); k_dflt (refine kba_turn (value' := PySem.Expr.Name (PySem.Str.ofString "_") ⟨0, 0, 0, 0⟩) (fun _ => rfl) ?_))
  k_with "exec Raise" => refine stop_here ?_
  k_with "subscriptTail Subscript Name Name Constant ref int" => ((with_reducible show wpAny _ _ (subscriptTail _ _ (Value.ref (BRow.bA _)) _) _ _ _); k_dflt (refine item_at (vs := BRow.items _) (News.isList (by k_asm) (by k_mem)) (by decide) (by decide) rfl ?_))
  k_with "subscriptTail Name Constant ref int" => ((with_reducible show wpAny _ _ (subscriptTail _ _ (Value.ref (BRow.bA _)) _) _ _ _); k_dflt (refine item_at (vs := BRow.items _) (News.isList (by k_asm) (by k_mem)) (by decide) (by decide) rfl ?_))
  trivial
noncomputable def openS (as : ATab) (p : Int) : Bool × ATab :=
  match at? as p with
  | none => (false, as)
  | some a => (a.shut, upd as p { a with shut := false })
theorem open_c {w : World} {A A₀ : Around} {env : Env} {outer : List Env} {base h₀ : Heap} {L : Addr} {m : Str → Option Value} {s : Shared} {R : Result → Shared → Prop}
    {loose : List Str} {mean : ExcName → Option Value} {mg mb : Str → Option Value} {rest : List (Addr × Obj)} {S : LimS w} {port : Int} {tp : Nat}
    (B : Below A₀ base outer h₀) (F : Fr h₀ L s.heap m) (X : (Mine.hd.heap_1 w.params).In h₀) (N : News h₀ L s.heap (S.led ++ rest)) (T : Top topProg loose mean mg mb h₀) (hA : A.frames = some (env :: outer)) (hf : env.frame = some L) (hke : env.scope.kind = .function) (hroom : A.depth < 590) (hh : A.handled = none) (I : Inv S.abs) (Ap : Apart (S.led ++ rest))
    (ret : ∀ (S' : LimS w) h' tk', Fr h₀ L h' m → News h₀ L h' (S'.led ++ rest) → Apart (S'.led ++ rest) → S'.aL = S.aL → S'.abs = (openS S.abs port).2 → R (.ok (.ret (.bool (openS S.abs port).1))) { s with heap := h', toks := tk' }) :
    codeAny (model PR w) A (.call (.ref 138) ⟨[.ref S.aL, .int port tp], []⟩) R s := by
  have hL := S.mL (rest := rest)
  have hD := S.mD (rest := rest)
  have hR := S.mR (rest := rest)
  have hr1 : ∀ r ∈ S.rows, (r.rA, instObj 84 r.rD) ∈ S.led ++ rest := fun r h => S.m1 h
  have hr2 : ∀ r ∈ S.rows, (r.rD, r.dict w.params) ∈ S.led ++ rest := fun r h => S.m2 h
  have hr3 : ∀ r ∈ S.rows, (r.kA, listOf r.vs.toArray r.kn) ∈ S.led ++ rest := fun r h => S.m3 h
  have hd := S.hd
  have lo := S.lo
  have hlen := LimS.len I
  first | k_dflt ktr_enter | fail "no way in"
  k_steps
  rcases LimS.val I port with ⟨ea, hv⟩ | ⟨r, hr, rfl, ea, hv⟩
  · refine kdg_notin (by k_asm) (by k_mem) hd lo (intKind_is _ _ _ _) false (by rw [hv]; rfl) ?_
    k_steps
    have e : openS S.abs port = (false, S.abs) := by simp only [openS, ea]
    rw [e] at ret
    exact ret S _ _ (by k_asm) (by k_asm) Ap rfl rfl
  · have q1 := hr1 r hr
    have q2 := hr2 r hr
    have q3 := hr3 r hr
    obtain ⟨d1, d2, d3⟩ := LimS.ne hr Ap
    have m1 := mem_off q1 d1
    have m3 := mem_off q3 d3.symm
    have e : openS S.abs r.port = (r.a.shut, upd S.abs r.port { r.a with shut := false }) := by simp only [openS, ea]
    rw [e] at ret
    refine kdg_notin (by k_asm) (by k_mem) hd lo (intKind_is _ _ _ _) true (by rw [hv]; rfl) ?_
    k_steps
    refine kda_item (by k_asm) (by k_mem) hd (intKind_is _ _ _ _) hv ?_
    k_steps
    refine kda_item (by k_asm) (by k_mem) hd (intKind_is _ _ _ _) hv ?_
    refine led_cut (by k_asm) q2 fun N1 o1 => ?_
    k_steps
    obtain ⟨S', e1, e2, e3, e4⟩ := LimS.put_dict I hr Ap { r with a := { r.a with shut := false } } (by k_asm) rfl rfl rfl rfl rfl rfl
    exact ret S' _ _ (by k_asm) e4 e3 e1 e2
noncomputable def knownS (as : ATab) (p : Int) : List Int :=
  match at? as p with
  | none => []
  | some a => a.known
theorem known_c {w : World} {A A₀ : Around} {env : Env} {outer : List Env} {base h₀ : Heap} {L : Addr} {m : Str → Option Value} {s : Shared} {R : Result → Shared → Prop}
    {loose : List Str} {mean : ExcName → Option Value} {mg mb : Str → Option Value} {rest : List (Addr × Obj)} {S : LimS w} {port : Int} {tp : Nat}
    (B : Below A₀ base outer h₀) (F : Fr h₀ L s.heap m) (X : (Mine.hd.heap_1 w.params).In h₀) (N : News h₀ L s.heap (S.led ++ rest)) (T : Top topProg loose mean mg mb h₀) (hA : A.frames = some (env :: outer)) (hf : env.frame = some L) (hke : env.scope.kind = .function) (hroom : A.depth < 590) (hh : A.handled = none) (I : Inv S.abs)
    (ret : ∀ l vs ns n h' tk', Fr h₀ L h' m → News h₀ L h' ((l, listOf vs.toArray n) :: (S.led ++ rest)) → IntsAre vs ns → ns.Perm (knownS S.abs port) → ns.Pairwise (· ≤ ·) → R (.ok (.ret (.ref l))) { s with heap := h', toks := tk' }) :
    codeAny (model PR w) A (.call (.ref 166) ⟨[.ref S.aL, .int port tp], []⟩) R s := by
  have hL := S.mL (rest := rest)
  have hD := S.mD (rest := rest)
  have hR := S.mR (rest := rest)
  have hr1 : ∀ r ∈ S.rows, (r.rA, instObj 84 r.rD) ∈ S.led ++ rest := fun r h => S.m1 h
  have hr2 : ∀ r ∈ S.rows, (r.rD, r.dict w.params) ∈ S.led ++ rest := fun r h => S.m2 h
  have hr3 : ∀ r ∈ S.rows, (r.kA, listOf r.vs.toArray r.kn) ∈ S.led ++ rest := fun r h => S.m3 h
  have hd := S.hd
  have lo := S.lo
  have hlen := LimS.len I
  first | k_dflt ktr_enter | fail "no way in"
  k_steps
  rcases LimS.val I port with ⟨ea, hv⟩ | ⟨r, hr, rfl, ea, hv⟩
  · refine kda_in (by k_asm) (by k_mem) hd lo (intKind_is _ _ _ _) false (by rw [hv]; rfl) ?_
    k_steps
    have e : knownS S.abs port = [] := by simp only [knownS, ea]
    rw [e] at ret
    exact ret _ [] [] _ _ _ (by k_asm) (by k_asm) .nil .nil .nil
  · have q1 := hr1 r hr
    have q2 := hr2 r hr
    have q3 := hr3 r hr
    have hml : r.a.known.length ≤ 3 := I.klen (LimS.mabs hr)
    have e : knownS S.abs r.port = r.a.known := by simp only [knownS, ea]
    rw [e] at ret
    refine kda_in (by k_asm) (by k_mem) hd lo (intKind_is _ _ _ _) true (by rw [hv]; rfl) ?_
    k_steps
    refine kda_item (by k_asm) (by k_mem) hd (intKind_is _ _ _ _) hv ?_
    k_steps
    refine kso_sorted (by k_asm) (by k_asm) (News.isList (by k_asm) q3) r.ok (by omega) ?_
    intro D vs' ns' c h' F' N' l1 hi' _ hP hS _
    k_steps
    exact ret _ vs' ns' _ _ _ (by k_asm) (by k_asm) hi' hP hS
noncomputable def downS (as : ATab) (p : Int) : ATab :=
  match at? as p with
  | none => as
  | some a => if a.stay then as else upd as p { a with known := [] }
theorem down_c {w : World} {A A₀ : Around} {env : Env} {outer : List Env} {base h₀ : Heap} {L : Addr} {m : Str → Option Value} {s : Shared} {R : Result → Shared → Prop}
    {loose : List Str} {mean : ExcName → Option Value} {mg mb : Str → Option Value} {rest : List (Addr × Obj)} {S : LimS w} {port : Int} {tp : Nat}
    (B : Below A₀ base outer h₀) (F : Fr h₀ L s.heap m) (X : (Mine.hd.heap_1 w.params).In h₀) (N : News h₀ L s.heap (S.led ++ rest)) (T : Top topProg loose mean mg mb h₀) (hA : A.frames = some (env :: outer)) (hf : env.frame = some L) (hke : env.scope.kind = .function) (hroom : A.depth < 590) (hh : A.handled = none) (I : Inv S.abs) (Ap : Apart (S.led ++ rest))
    (ret : ∀ (S' : LimS w) h' tk', Fr h₀ L h' m → News h₀ L h' (S'.led ++ rest) → Apart (S'.led ++ rest) → S'.aL = S.aL → S'.abs = downS S.abs port → R (.ok (.ret .none)) { s with heap := h', toks := tk' }) :
    codeAny (model PR w) A (.call (.ref 159) ⟨[.ref S.aL, .int port tp], []⟩) R s := by
  have hL := S.mL (rest := rest)
  have hD := S.mD (rest := rest)
  have hR := S.mR (rest := rest)
  have hr1 : ∀ r ∈ S.rows, (r.rA, instObj 84 r.rD) ∈ S.led ++ rest := fun r h => S.m1 h
  have hr2 : ∀ r ∈ S.rows, (r.rD, r.dict w.params) ∈ S.led ++ rest := fun r h => S.m2 h
  have hr3 : ∀ r ∈ S.rows, (r.kA, listOf r.vs.toArray r.kn) ∈ S.led ++ rest := fun r h => S.m3 h
  have hd := S.hd
  have lo := S.lo
  have hlen := LimS.len I
  first | k_dflt ktr_enter | fail "no way in"
  k_steps
  rcases LimS.val I port with ⟨ea, hv⟩ | ⟨r, hr, rfl, ea, hv⟩
  · refine kda_in (by k_asm) (by k_mem) hd lo (intKind_is _ _ _ _) false (by rw [hv]; rfl) ?_
    k_steps
    have e : downS S.abs port = S.abs := by simp only [downS, ea]
    rw [e] at ret
    exact ret S _ _ (by k_asm) (by k_asm) Ap rfl rfl
  · have q1 := hr1 r hr
    have q2 := hr2 r hr
    have q3 := hr3 r hr
    obtain ⟨d1, d2, d3⟩ := LimS.ne hr Ap
    have m1 := mem_off q1 d1
    have m3 := mem_off q3 d3.symm
    have hL' := mem_off (a := r.rD) hL (apart_ne Ap hL q2 inst_dict)
    refine kda_in (by k_asm) (by k_mem) hd lo (intKind_is _ _ _ _) true (by rw [hv]; rfl) ?_
    k_steps
    refine kda_item (by k_asm) (by k_mem) hd (intKind_is _ _ _ _) hv ?_
    k_steps
    · have e : downS S.abs r.port = S.abs := by simp only [downS, ea]; simp [*]
      rw [e] at ret
      exact ret S _ _ (by k_asm) (by k_asm) Ap rfl rfl
    · rename_i l' _ _ _ l1
      have e : downS S.abs r.port = upd S.abs r.port { r.a with known := [] } := by simp only [downS, ea]; rw [if_neg (by simp [*])]
      rw [e] at ret
      refine kda_item (by k_asm) (by k_mem) hd (intKind_is _ _ _ _) hv ?_
      have m1 := mem_off (old := (l', listOf #[] 0) :: (S.led ++ rest)) (.tail _ q1) d1
      refine led_cut (by k_asm) (List.mem_cons_of_mem _ q2) fun N1 o1 => ?_
      k_steps
      obtain ⟨S', e1, e2, e3, e4⟩ := LimS.put I hr Ap { r with a := { r.a with known := [] }, vs := [], ok := .nil, kA := l', kn := 0 } rfl rfl rfl (.inr fun p hp => Nat.ne_of_lt (l1 p hp))
      refine ret S' _ _ (by k_asm) (kst_newsOf (by k_asm) fun p hp => ?_) e3 e1 e2
      rcases e4 p hp with h | ⟨h, n1, n2, n3⟩
      · simp only [LRow.led, List.mem_cons, List.not_mem_nil, or_false] at h
        rcases h with rfl | rfl | rfl
        · exact .tail _ m1
        · exact .head _
        · exact .tail _ (mem_off (.head _) (Nat.ne_of_gt (l1 _ q2)))
      · exact .tail _ (mem_off (.tail _ h) n2)
theorem set_L7 : True := by
  w_top off
  k_with_none
  k_with "way M" => refine' code_defM ?k1 ?k2 ?k3 ?k4 ?k5 ?kA ?kF ?kK ?kD ?k6 ?k7 ?k8 ?k9 ?kB ?_ ?c2 ?c3 ?c4 ?c5; (case kA => assumption); (case kF => assumption); (case kK => assumption); (case kD => assumption); (case k1 => k_asm); (case k2 => k_asm); (case k3 => k_asm); (case k4 => k_asm); (case k5 => k_asm); (case k6 => k_is); (case k7 => k_is); (case k8 => ktr_room); (case k9 => first | exact BindsTo.of_eq rfl | exact binds_K (by k_in) rfl (by k_is) rfl rfl rfl); (case c5 => decide); (case kB => exact locs rfl); (case c2 => exact rfl); (case c3 => exact rfl); (case c4 => exact rfl); k_whole
  k_with "way C" => refine' code_defC ?k1 ?k2 ?k3 ?k4 ?k5 ?kA ?kF ?kK ?k6 ?k7 ?k8 ?k9 ?kB ?kD ?_ ?c2 ?c3 ?c4; (case kA => first | assumption | exact rfl); (case kF => first | assumption | exact rfl); (case kK => assumption); (case k1 => k_asm); (case k2 => k_asm); (case k3 => k_asm); (case k4 => k_asm); (case k5 => k_asm); (case k6 => k_is); (case k7 => k_is); (case k8 => ktr_room); (case k9 => first | exact BindsTo.of_eq rfl | exact binds_K (by k_in) rfl (by k_is) rfl rfl rfl); (case kB => exact rfl); (case kD => decide +kernel); (case c2 => exact rfl); (case c3 => exact rfl); (case c4 => exact rfl); k_whole
  k_with "way D" => refine' code_def ?k1 ?k2 ?k3 ?k4 ?k5 ?kA ?kF ?kK ?k6 ?k7 ?k8 ?k9 ?kB ?_ ?c2 ?c3 ?c4 ?c5; (case kA => first | assumption | exact rfl); (case kF => first | assumption | exact rfl); (case kK => assumption); (case k1 => k_asm); (case k2 => k_asm); (case k3 => k_asm); (case k4 => k_asm); (case k5 => k_asm); (case k6 => k_is); (case k7 => k_is); (case k8 => ktr_room); (case k9 => first | exact BindsTo.of_eq rfl | exact binds_K (by k_in) rfl (by k_is) rfl rfl rfl); (case c5 => decide); (case kB => exact locs rfl); (case c2 => exact rfl); (case c3 => exact rfl); (case c4 => exact rfl); k_whole
  k_with "way CM" => refine' code_defCM ?k1 ?k2 ?k3 ?k4 ?k5 ?kA ?kF ?kK ?kE ?k6 ?k7 ?k8 ?k9 ?kB ?kD ?_ ?c2 ?c3 ?c4; (case kA => assumption); (case kF => assumption); (case kK => assumption); (case kE => assumption); (case k1 => k_asm); (case k2 => k_asm); (case k3 => k_asm); (case k4 => k_asm); (case k5 => k_asm); (case k6 => k_is); (case k7 => k_is); (case k8 => ktr_room); (case k9 => first | exact BindsTo.of_eq rfl | exact binds_K (by k_in) rfl (by k_is) rfl rfl rfl); (case kB => exact rfl); (case kD => decide +kernel); (case c2 => exact rfl); (case c3 => exact rfl); (case c4 => exact rfl); k_whole
  k_with "exec For Name Call cons nil" => (k_here; (with_unfolding_all refine' For_invVF (by k_asm) (by exact rfl) (by exact rfl) ?_; k_whole))
  k_with "unpackItems ref" => (k_here; k_dflt (refine' unpackItemsN_ (by k_asm) (by k_asm) (by kun_tup) (by assumption) (by exact rfl) ?_; k_whole); intro _ _ _; (try k_sweep))
  k_with "subscriptTail Name Name ref int" => ((with_reducible first | show wpAny _ _ (subscriptTail _ _ (Value.ref (LimS.aR _)) _) _ _ _ | show wpAny _ _ (subscriptTail _ _ (Value.ref (BookS.aB _)) _) _ _ _); refine stop_here ?_)
  k_with "compareOp In int ref" => ((with_reducible first | show wpAny _ _ (compareOp _ _ (Value.ref (LimS.aR _))) _ _ _ | show wpAny _ _ (compareOp _ _ (Value.ref (BookS.aB _))) _ _ _ | show wpAny _ _ (compareOp _ _ (Value.ref (LRow.kA _))) _ _ _ | show wpAny _ _ (compareOp _ _ (Value.ref (BRow.kA _))) _ _ _); refine stop_here ?_)
  k_with "compareOp NotIn int ref" => ((with_reducible first | show wpAny _ _ (compareOp _ _ (Value.ref (LimS.aR _))) _ _ _ | show wpAny _ _ (compareOp _ _ (Value.ref (BookS.aB _))) _ _ _ | show wpAny _ _ (compareOp _ _ (Value.ref (LRow.kA _))) _ _ _ | show wpAny _ _ (compareOp _ _ (Value.ref (BRow.kA _))) _ _ _); refine stop_here ?_)
  k_with "getMethod ref" => ((with_reducible first | show wpAny _ _ (getMethod (Value.ref (LimS.aR _)) _ _) _ _ _ | show wpAny _ _ (getMethod (Value.ref (BookS.aB _)) _ _) _ _ _); refine stop_here ?_)
  k_with "call builtin:len" => ((with_reducible first | show wpAny _ _ (call _ [Value.ref (LRow.kA _)]) _ _ _ | show wpAny _ _ (call _ [Value.ref (BRow.kA _)]) _ _ _); refine stop_here ?_)
  k_with "call ref" => ((with_reducible first | show wpAny _ _ (call (Value.ref 124) [Value.ref (LimS.aL _), _]) _ _ _); refine stop_here ?_)
  k_with "subscriptTail Name Slice ref ref" => refine stop_here ?_
  k_with "subscriptTail Attribute Name Name ref int" => ((with_reducible show wpAny _ _ (subscriptTail _ _ (Value.ref (LimS.aR _)) _) _ _ _); k_dflt (refine kba_turn (value' := PySem.Expr.Name (PySem.Str.ofString "_") ⟨0, 0, 0, 0⟩) (fun _ => rfl) ?_))
  k_with "subscriptTail Attribute Name ref int" => ((with_reducible show wpAny _ _ (subscriptTail _ _ (Value.ref (LimS.aR _)) _) _ _ _); k_dflt (refine kba_turn (value' := PySem.Expr.Name (PySem.Str.ofString "_") ⟨0, 0, 0, 0⟩) (fun _ => rfl) ?_))
  k_with "subscriptTail Subscript Subscript" => ((with_reducible show wpAny _ _ (subscriptTail _ _ (Value.ref (BRow.kA _)) _) _ _ _); k_dflt (refine kba_turn (value' := PySem.Expr.Name (PySem.Str.ofString "_") ⟨0, 0, 0, 0⟩) (fun _ => rfl) ?_))
  k_with "exec Raise" => refine stop_here ?_
  k_with "subscriptTail Subscript Name Name Constant ref int" => ((with_reducible show wpAny _ _ (subscriptTail _ _ (Value.ref (BRow.bA _)) _) _ _ _); k_dflt (refine item_at (vs := BRow.items _) (News.isList (by k_asm) (by k_mem)) (by decide) (by decide) rfl ?_))
  k_with "subscriptTail Name Constant ref int" => ((with_reducible show wpAny _ _ (subscriptTail _ _ (Value.ref (BRow.bA _)) _) _ _ _); k_dflt (refine item_at (vs := BRow.items _) (News.isList (by k_asm) (by k_mem)) (by decide) (by decide) rfl ?_))
  trivial
theorem ints_kf : ∀ {vs : List Value} {ns : List Int}, IntsAre vs ns → kf_ints vs = true
  | _, _, .nil => rfl
  | _, _, .cons n t h => by
    unfold kf_ints
    exact ints_kf h
theorem ints_del {k : Int} : ∀ {vs : List Value} {ns : List Int}, IntsAre vs ns → k ∈ ns → ∃ j q, kf_at k vs = some j ∧ ki_delL vs j = some q ∧ IntsAre q (ns.erase k)
  | _, _, .nil, h => nomatch h
  | _, _, .cons (vs := vs) (ns := ns) n t h, hm => by
    by_cases e : n = k
    · subst e
      refine ⟨0, vs, ?_, rfl, ?_⟩
      · unfold kf_at; simp [isInt]
      · rw [List.erase_cons_head]; exact h
    · have hm' : k ∈ ns := by
        rcases List.mem_cons.mp hm with z | z
        · exact absurd z.symm e
        · exact z
      obtain ⟨j, q, a, b, c⟩ := ints_del h hm'
      refine ⟨j + 1, .int n t :: q, ?_, ?_, ?_⟩
      · unfold kf_at
        rw [show isInt k (.int n t) = false by simpa [isInt] using e, a]
        rfl
      · unfold ki_delL; rw [b]
      · rw [List.erase_cons_tail (by simpa using e)]; exact .cons n t c
theorem remove_c {prog : Program} {w : World} {A : Around} {E : Value → Shared → Prop} {s : Shared} {h₀ : Heap} {L D : Addr} {m : Str → Option Value} {news : List (Addr × Obj)} {vs : List Value} {ns : List Int} {n : Nat} {k : Int} {t : Nat} {Q : Value → Shared → Prop}
    (F : Fr h₀ L s.heap m) (N : News h₀ L s.heap news) (hm : (D, listOf vs.toArray n) ∈ news) (hi : IntsAre vs ns) (hk : k ∈ ns) (hz : ns.length ≤ 64)
    (h : ∀ vs' h', Fr h₀ L h' m → News h₀ L h' ((D, listOf vs'.toArray (n + 1)) :: news.filter fun p => p.1 != D) → IntsAre vs' (ns.erase k) → Q .none { s with heap := h' }) : wpAny (model prog w) A (call (.builtin "list.remove") [.ref D, .int k t]) Q E s := by
  obtain ⟨N1, o1⟩ := led_at N hm
  obtain ⟨j, q, a, b, c⟩ := ints_del hi hk
  exact kf_remove F N1 (by simpa using ints_kf hi) (by simpa using a) (by simpa using b) (Upd.head fun p hp => o1 p hp D (.head _)) (by rw [sizeLine_eq]; simp [hi.length]; omega) fun h' F' N' => h q h' F' N' c
noncomputable def forgetS (as : ATab) (p mac : Int) : Bool × ATab :=
  match at? as p with
  | none => (false, as)
  | some a => if a.stay then (false, as) else if mac ∈ a.known then (true, upd as p { a with known := a.known.erase mac }) else (false, as)
theorem forget_c {w : World} {A A₀ : Around} {env : Env} {outer : List Env} {base h₀ : Heap} {L : Addr} {m : Str → Option Value} {s : Shared} {R : Result → Shared → Prop}
    {loose : List Str} {mean : ExcName → Option Value} {mg mb : Str → Option Value} {rest : List (Addr × Obj)} {S : LimS w} {port mac : Int} {tp tm : Nat}
    (B : Below A₀ base outer h₀) (F : Fr h₀ L s.heap m) (X : (Mine.hd.heap_1 w.params).In h₀) (N : News h₀ L s.heap (S.led ++ rest)) (T : Top topProg loose mean mg mb h₀) (hA : A.frames = some (env :: outer)) (hf : env.frame = some L) (hke : env.scope.kind = .function) (hroom : A.depth < 590) (hh : A.handled = none) (I : Inv S.abs) (Ap : Apart (S.led ++ rest))
    (ret : ∀ (S' : LimS w) h' tk', Fr h₀ L h' m → News h₀ L h' (S'.led ++ rest) → Apart (S'.led ++ rest) → S'.aL = S.aL → S'.abs = (forgetS S.abs port mac).2 → R (.ok (.ret (.bool (forgetS S.abs port mac).1))) { s with heap := h', toks := tk' }) :
    codeAny (model PR w) A (.call (.ref 152) ⟨[.ref S.aL, .int port tp, .int mac tm], []⟩) R s := by
  have hL := S.mL (rest := rest)
  have hD := S.mD (rest := rest)
  have hR := S.mR (rest := rest)
  have hr1 : ∀ r ∈ S.rows, (r.rA, instObj 84 r.rD) ∈ S.led ++ rest := fun r h => S.m1 h
  have hr2 : ∀ r ∈ S.rows, (r.rD, r.dict w.params) ∈ S.led ++ rest := fun r h => S.m2 h
  have hr3 : ∀ r ∈ S.rows, (r.kA, listOf r.vs.toArray r.kn) ∈ S.led ++ rest := fun r h => S.m3 h
  have hd := S.hd
  have lo := S.lo
  have hlen := LimS.len I
  first | k_dflt ktr_enter | fail "no way in"
  k_steps
  rcases LimS.val I port with ⟨ea, hv⟩ | ⟨r, hr, rfl, ea, hv⟩
  · refine kdg_notin (by k_asm) (by k_mem) hd lo (intKind_is _ _ _ _) false (by rw [hv]; rfl) ?_
    k_steps
    have e : forgetS S.abs port mac = (false, S.abs) := by simp only [forgetS, ea]
    rw [e] at ret
    exact ret S _ _ (by k_asm) (by k_asm) Ap rfl rfl
  · have q1 := hr1 r hr
    have q2 := hr2 r hr
    have q3 := hr3 r hr
    have hml : r.a.known.length ≤ 3 := I.klen (LimS.mabs hr)
    refine kdg_notin (by k_asm) (by k_mem) hd lo (intKind_is _ _ _ _) true (by rw [hv]; rfl) ?_
    k_steps
    refine kda_item (by k_asm) (by k_mem) hd (intKind_is _ _ _ _) hv ?_
    k_steps
    · have e : forgetS S.abs r.port mac = (false, S.abs) := by simp only [forgetS, ea]; simp [*]
      rw [e] at ret
      exact ret S _ _ (by k_asm) (by k_asm) Ap rfl rfl
    have hst : r.a.stay = false := by simp [*]
    refine kda_item (by k_asm) (by k_mem) hd (intKind_is _ _ _ _) hv ?_
    k_steps
    refine notin_c (by k_asm) q3 r.ok ?_
    by_cases hm : mac ∈ r.a.known
    · rw [decide_eq_true hm]
      have e : forgetS S.abs r.port mac = (true, upd S.abs r.port { r.a with known := r.a.known.erase mac }) := by simp only [forgetS, ea]; rw [if_neg (by simp [hst]), if_pos hm]
      rw [e] at ret
      k_steps
      refine kda_item (by k_asm) (by k_mem) hd (intKind_is _ _ _ _) hv ?_
      k_steps
      refine remove_c (by k_asm) (by k_asm) q3 r.ok hm (by omega) ?_
      intro vs' h' F' N' hi'
      k_steps
      obtain ⟨S', e1, e2, e3, e4⟩ := LimS.put_list I hr Ap { r with a := { r.a with known := r.a.known.erase mac }, vs := vs', ok := hi', kn := r.kn + 1 } (by k_asm) rfl rfl rfl rfl rfl
      exact ret S' _ _ (by k_asm) e4 e3 e1 e2
    · rw [decide_eq_false hm]
      have e : forgetS S.abs r.port mac = (false, S.abs) := by simp only [forgetS, ea]; rw [if_neg (by simp [hst]), if_neg hm]
      rw [e] at ret
      k_steps
      exact ret S _ _ (by k_asm) (by k_asm) Ap rfl rfl
theorem popm_c {prog : Program} {w : World} {KK : Type} [DecidableEq KK] {knd : KeyKind prog w KK} {A : Around} {E : Value → Shared → Prop} {s : Shared} {h₀ : Heap} {L d : Addr} {news : List (Addr × Obj)} {o : Obj} {kvs : List (KK × Value)} {pl : Sem Bool} {Q : Value × List Value → Shared → Prop} (N : News h₀ L s.heap news) (hp : (d, o) ∈ news) (hd : o.IsDictOf knd kvs) (h : Q (.builtin "dict.pop", [.ref d]) s) : wpAny (model prog w) A (getMethod (.ref d) "pop" pl) Q E s :=
  have hD := kda_dict N hp hd
  getMethod_builtin hD.typeIs PySem.F.plainAttrs_dict PySem.F.slot_dict_pop PySem.F.type_dict_pop hD.mapOf.noDict h
theorem pop_c {prog : Program} {w : World} {KK : Type} [DecidableEq KK] {knd : KeyKind prog w KK} {A : Around} {E : Value → Shared → Prop} {s : Shared} {h₀ : Heap} {L d : Addr} {m : Str → Option Value} {news : List (Addr × Obj)} {o : Obj} {kvs : List (KK × Value)} {k : KK} {key dflt : Value} {Q : Value → Shared → Prop}
    (F : Fr h₀ L s.heap m) (N : News h₀ L s.heap news) (hp : (d, o) ∈ news) (hd : o.IsDictOf knd kvs) (lo : (d == sysModules) = false) (hkey : knd.is k key = true) (hpart : (keyPart key).isSome = true) (hz : kvs.length ≤ 64)
    (h : ∀ v h' o', Fr h₀ L h' m → News h₀ L h' ((d, o') :: news.filter fun p => p.1 != d) → o'.IsDictOf knd (without kvs k) → Q v { s with heap := h', toks := s.toks + 1 }) :
    wpAny (model prog w) A (call (.builtin "dict.pop") [.ref d, key, dflt]) Q E s := by
  obtain ⟨N1, o1⟩ := led_at N hp
  cases hv : valueAt kvs k with
  | some v => exact kob_pop (more := [dflt]) F N1 (.head fun p hp => o1 p hp d (.head _)) hd hkey (.inr ⟨_, rfl⟩) hpart (PySem.F.args_dict_pop_3 _ _ _) hv (by rw [sizeLine_eq]; omega) fun h' o' F' N' hd' => h v h' o' F' N' hd'
  | none =>
    have hD := kda_dict N hp hd
    refine call_meetsIn PySem.F.slot_dict_pop hD.typeIs PySem.F.entry_dict_pop (PySem.F.args_dict_pop_3 _ _ _) (meets_dict_pop_default knd d hkey lo hpart dflt) ⟨kvs, hD, hv, ?_⟩
    refine h dflt _ o F N1 ?_
    rw [without_of_not_mem]
    · exact hd
    · intro hm
      obtain ⟨x, hx, rfl⟩ := List.mem_map.mp hm
      unfold valueAt at hv
      rw [Option.map_eq_none_iff, List.find?_eq_none] at hv
      exact hv x hx (by simp)
theorem LimS.drop {w : World} {S : LimS w} {rest : List (Addr × Obj)} {port : Int} {oR : Obj} (hn : Apart (S.led ++ rest)) (hd : oR.IsDictOf (intKind PR w) (without (kvsL S.rows) port)) :
    ∃ S' : LimS w, S'.aL = S.aL ∧ S'.abs = S.abs.filter (fun x => decide (x.1 ≠ port)) ∧ Apart (S'.led ++ rest) ∧ ∀ p ∈ S'.led ++ rest, p = (S.aR, oR) ∨ (p ∈ S.led ++ rest ∧ p.1 ≠ S.aR) := by
  obtain ⟨aL, dL, aR, kL, nL, oR0, rows, hd0, lo⟩ := S
  have sub : (rows.filter fun r => decide (r.port ≠ port)).flatMap (LRow.led w.params) |>.Sublist (rows.flatMap (LRow.led w.params)) := by
    clear hd hd0 hn
    induction rows with
    | nil => exact .slnil
    | cons r l ih =>
      rw [List.filter_cons]
      split
      · simp only [List.flatMap_cons]
        exact (List.Sublist.refl _).append ih
      · simp only [List.flatMap_cons]
        exact ih.trans (List.sublist_append_right _ _)
  refine ⟨⟨aL, dL, aR, kL, nL, oR, rows.filter fun r => decide (r.port ≠ port), ?_, lo⟩, rfl, ?_, ?_, ?_⟩
  · have e : without (kvsL rows) port = kvsL (rows.filter fun r => decide (r.port ≠ port)) := by
      unfold without kvsL
      rw [List.filter_map]
      rfl
    rw [← e]; exact hd
  · show (rows.filter fun r => decide (r.port ≠ port)).map LRow.abs = (rows.map LRow.abs).filter _
    rw [List.filter_map]
    rfl
  · unfold Apart LimS.led at hn ⊢
    simp only [List.cons_append, List.map_cons, List.map_append] at hn ⊢
    exact hn.sublist (.cons₂ _ (.cons₂ _ (.cons₂ _ ((sub.map _).append (List.Sublist.refl _)))))
  · intro p hp
    unfold LimS.led at hp hn ⊢
    simp only [List.cons_append, List.mem_cons, List.mem_append] at hp ⊢
    unfold Apart at hn
    simp only [List.cons_append, List.map_cons, List.nodup_cons, List.mem_cons, not_or] at hn
    rcases hp with rfl | rfl | rfl | hp
    · exact .inr ⟨.inl rfl, hn.1.2.1⟩
    · exact .inr ⟨.inr (.inl rfl), hn.2.1.1⟩
    · exact .inl rfl
    · have hp' : p ∈ rows.flatMap (LRow.led w.params) ++ rest := by
        rcases hp with h | h
        · exact List.mem_append_left _ (sub.subset h)
        · exact List.mem_append_right _ h
      refine .inr ⟨.inr (.inr (.inr (List.mem_append.mp hp'))), fun e => hn.2.2.1 (e ▸ List.mem_map_of_mem (f := Prod.fst) hp')⟩
theorem drop_c {w : World} {A A₀ : Around} {env : Env} {outer : List Env} {base h₀ : Heap} {L : Addr} {m : Str → Option Value} {s : Shared} {R : Result → Shared → Prop}
    {loose : List Str} {mean : ExcName → Option Value} {mg mb : Str → Option Value} {rest : List (Addr × Obj)} {S : LimS w} {port : Int} {tp : Nat}
    (B : Below A₀ base outer h₀) (F : Fr h₀ L s.heap m) (X : (Mine.hd.heap_1 w.params).In h₀) (N : News h₀ L s.heap (S.led ++ rest)) (T : Top topProg loose mean mg mb h₀) (hA : A.frames = some (env :: outer)) (hf : env.frame = some L) (hke : env.scope.kind = .function) (hroom : A.depth < 590) (hh : A.handled = none) (I : Inv S.abs) (Ap : Apart (S.led ++ rest))
    (ret : ∀ (S' : LimS w) h' tk', Fr h₀ L h' m → News h₀ L h' (S'.led ++ rest) → Apart (S'.led ++ rest) → S'.aL = S.aL → S'.abs = S.abs.filter (fun x => decide (x.1 ≠ port)) → R (.ok (.ret .none)) { s with heap := h', toks := tk' }) :
    codeAny (model PR w) A (.call (.ref 117) ⟨[.ref S.aL, .int port tp], []⟩) R s := by
  have hL := S.mL (rest := rest)
  have hD := S.mD (rest := rest)
  have hR := S.mR (rest := rest)
  have hr1 : ∀ r ∈ S.rows, (r.rA, instObj 84 r.rD) ∈ S.led ++ rest := fun r h => S.m1 h
  have hr2 : ∀ r ∈ S.rows, (r.rD, r.dict w.params) ∈ S.led ++ rest := fun r h => S.m2 h
  have hr3 : ∀ r ∈ S.rows, (r.kA, listOf r.vs.toArray r.kn) ∈ S.led ++ rest := fun r h => S.m3 h
  have hd := S.hd
  have lo := S.lo
  have hlen := LimS.len I
  first | k_dflt ktr_enter | fail "no way in"
  k_steps
  refine popm_c (by k_asm) hR hd ?_
  k_steps
  refine pop_c (by k_asm) (by k_asm) hR hd lo (intKind_is _ _ _ _) (by rfl) (by simp [kvsL]; omega) ?_
  intro v h' o' F' N' hd'
  k_steps
  obtain ⟨S', e1, e2, e3, e4⟩ := LimS.drop Ap hd'
  refine ret S' _ _ (by k_asm) (kst_newsOf (by k_asm) fun p hp => ?_) e3 e1 e2
  rcases e4 p hp with rfl | ⟨h, n1⟩
  · exact .head _
  · exact .tail _ (mem_off h n1)
theorem set_L8a : True := by
  w_top off
  k_with_none
  k_with "way M" => refine' code_defM ?k1 ?k2 ?k3 ?k4 ?k5 ?kA ?kF ?kK ?kD ?k6 ?k7 ?k8 ?k9 ?kB ?_ ?c2 ?c3 ?c4 ?c5; (case kA => assumption); (case kF => assumption); (case kK => assumption); (case kD => assumption); (case k1 => k_asm); (case k2 => k_asm); (case k3 => k_asm); (case k4 => k_asm); (case k5 => k_asm); (case k6 => k_is); (case k7 => k_is); (case k8 => ktr_room); (case k9 => first | exact BindsTo.of_eq rfl | exact binds_K (by k_in) rfl (by k_is) rfl rfl rfl); (case c5 => decide); (case kB => exact locs rfl); (case c2 => exact rfl); (case c3 => exact rfl); (case c4 => exact rfl); k_whole
  k_with "way C" => refine' code_defC ?k1 ?k2 ?k3 ?k4 ?k5 ?kA ?kF ?kK ?k6 ?k7 ?k8 ?k9 ?kB ?kD ?_ ?c2 ?c3 ?c4; (case kA => first | assumption | exact rfl); (case kF => first | assumption | exact rfl); (case kK => assumption); (case k1 => k_asm); (case k2 => k_asm); (case k3 => k_asm); (case k4 => k_asm); (case k5 => k_asm); (case k6 => k_is); (case k7 => k_is); (case k8 => ktr_room); (case k9 => first | exact BindsTo.of_eq rfl | exact binds_K (by k_in) rfl (by k_is) rfl rfl rfl); (case kB => exact rfl); (case kD => decide +kernel); (case c2 => exact rfl); (case c3 => exact rfl); (case c4 => exact rfl); k_whole
  k_with "way D" => refine' code_def ?k1 ?k2 ?k3 ?k4 ?k5 ?kA ?kF ?kK ?k6 ?k7 ?k8 ?k9 ?kB ?_ ?c2 ?c3 ?c4 ?c5; (case kA => first | assumption | exact rfl); (case kF => first | assumption | exact rfl); (case kK => assumption); (case k1 => k_asm); (case k2 => k_asm); (case k3 => k_asm); (case k4 => k_asm); (case k5 => k_asm); (case k6 => k_is); (case k7 => k_is); (case k8 => ktr_room); (case k9 => first | exact BindsTo.of_eq rfl | exact binds_K (by k_in) rfl (by k_is) rfl rfl rfl); (case c5 => decide); (case kB => exact locs rfl); (case c2 => exact rfl); (case c3 => exact rfl); (case c4 => exact rfl); k_whole
  k_with "way CM" => refine' code_defCM ?k1 ?k2 ?k3 ?k4 ?k5 ?kA ?kF ?kK ?kE ?k6 ?k7 ?k8 ?k9 ?kB ?kD ?_ ?c2 ?c3 ?c4; (case kA => assumption); (case kF => assumption); (case kK => assumption); (case kE => assumption); (case k1 => k_asm); (case k2 => k_asm); (case k3 => k_asm); (case k4 => k_asm); (case k5 => k_asm); (case k6 => k_is); (case k7 => k_is); (case k8 => ktr_room); (case k9 => first | exact BindsTo.of_eq rfl | exact binds_K (by k_in) rfl (by k_is) rfl rfl rfl); (case kB => exact rfl); (case kD => decide +kernel); (case c2 => exact rfl); (case c3 => exact rfl); (case c4 => exact rfl); k_whole
  k_with "exec For Name Call cons nil" => (k_here; (with_unfolding_all refine' For_invVF (by k_asm) (by exact rfl) (by exact rfl) ?_; k_whole))
  k_with "unpackItems ref" => (k_here; k_dflt (refine' unpackItemsN_ (by k_asm) (by k_asm) (by kun_tup) (by assumption) (by exact rfl) ?_; k_whole); intro _ _ _; (try k_sweep))
  k_with "subscriptTail Name Name ref int" => ((with_reducible first | show wpAny _ _ (subscriptTail _ _ (Value.ref (LimS.aR _)) _) _ _ _ | show wpAny _ _ (subscriptTail _ _ (Value.ref (BookS.aB _)) _) _ _ _); refine stop_here ?_)
  k_with "compareOp In int ref" => ((with_reducible first | show wpAny _ _ (compareOp _ _ (Value.ref (LimS.aR _))) _ _ _ | show wpAny _ _ (compareOp _ _ (Value.ref (BookS.aB _))) _ _ _ | show wpAny _ _ (compareOp _ _ (Value.ref (LRow.kA _))) _ _ _ | show wpAny _ _ (compareOp _ _ (Value.ref (BRow.kA _))) _ _ _); refine stop_here ?_)
  k_with "compareOp NotIn int ref" => ((with_reducible first | show wpAny _ _ (compareOp _ _ (Value.ref (LimS.aR _))) _ _ _ | show wpAny _ _ (compareOp _ _ (Value.ref (BookS.aB _))) _ _ _ | show wpAny _ _ (compareOp _ _ (Value.ref (LRow.kA _))) _ _ _ | show wpAny _ _ (compareOp _ _ (Value.ref (BRow.kA _))) _ _ _); refine stop_here ?_)
  k_with "getMethod ref" => ((with_reducible first | show wpAny _ _ (getMethod (Value.ref (LimS.aR _)) _ _) _ _ _ | show wpAny _ _ (getMethod (Value.ref (BookS.aB _)) _ _) _ _ _); refine stop_here ?_)
  k_with "call builtin:len" => ((with_reducible first | show wpAny _ _ (call _ [Value.ref (LRow.kA _)]) _ _ _ | show wpAny _ _ (call _ [Value.ref (BRow.kA _)]) _ _ _); refine stop_here ?_)
  k_with "call ref" => ((with_reducible first | show wpAny _ _ (call (Value.ref 124) [Value.ref (LimS.aL _), _]) _ _ _); refine stop_here ?_)
  k_with "subscriptTail Name Slice ref ref" => refine stop_here ?_
  k_with "subscriptTail Attribute Name Name ref int" => ((with_reducible show wpAny _ _ (subscriptTail _ _ (Value.ref (LimS.aR _)) _) _ _ _); k_dflt (refine kba_turn (value' := PySem.Expr.Name (PySem.Str.ofString "_") ⟨0, 0, 0, 0⟩) (fun _ => rfl) ?_))
  k_with "subscriptTail Attribute Name ref int" => ((with_reducible show wpAny _ _ (subscriptTail _ _ (Value.ref (LimS.aR _)) _) _ _ _); k_dflt (refine kba_turn (value' := PySem.Expr.Name (PySem.Str.ofString "_") ⟨0, 0, 0, 0⟩) (fun _ => rfl) ?_))
  k_with "subscriptTail Subscript Subscript" => ((with_reducible show wpAny _ _ (subscriptTail _ _ (Value.ref (BRow.kA _)) _) _ _ _); k_dflt (refine kba_turn (value' := PySem.Expr.Name (PySem.Str.ofString "_") ⟨0, 0, 0, 0⟩) (fun _ => rfl) ?_))
  k_with "exec Raise" => refine stop_here ?_
  k_with "subscriptTail Subscript Name Name Constant ref int" => ((with_reducible show wpAny _ _ (subscriptTail _ _ (Value.ref (BRow.bA _)) _) _ _ _); k_dflt (refine item_at (vs := BRow.items _) (News.isList (by k_asm) (by k_mem)) (by decide) (by decide) rfl ?_))
  k_with "subscriptTail Name Constant ref int" => ((with_reducible show wpAny _ _ (subscriptTail _ _ (Value.ref (BRow.bA _)) _) _ _ _); k_dflt (refine item_at (vs := BRow.items _) (News.isList (by k_asm) (by k_mem)) (by decide) (by decide) rfl ?_))
  trivial
theorem row_c {w : World} {A A₀ : Around} {env : Env} {outer : List Env} {base h₀ : Heap} {L : Addr} {m : Str → Option Value} {s : Shared} {R : Result → Shared → Prop}
    {loose : List Str} {mean : ExcName → Option Value} {mg mb : Str → Option Value} {news : List (Addr × Obj)} {v1 v2 v3 : Value}
    (B : Below A₀ base outer h₀) (F : Fr h₀ L s.heap m) (X : (Mine.hd.heap_1 w.params).In h₀) (N : News h₀ L s.heap news) (T : Top topProg loose mean mg mb h₀) (hA : A.frames = some (env :: outer)) (hf : env.frame = some L) (hke : env.scope.kind = .function) (hroom : A.depth < 595) (hh : A.handled = none)
    (ret : ∀ x d l k1 k2 k3 k4 k5 h' tk', Fr h₀ L h' m → News h₀ L h' ((x, instObj 84 d) :: (d, dictOf [⟨PyData.keyHash w.params "most", .str "most" k1, v1⟩, ⟨PyData.keyHash w.params "way", .str "way" k2, v2⟩, ⟨PyData.keyHash w.params "is_sticky", .str "is_sticky" k3, v3⟩,
  ⟨PyData.keyHash w.params "known", .str "known" k4, .ref l⟩, ⟨PyData.keyHash w.params "is_shut", .str "is_shut" k5, .bool false⟩] 5) :: news) → (∀ p ∈ news, p.1 < d) → d < x → R (.ok (.ret (.ref x))) { s with heap := h', toks := tk' }) :
    codeAny (model PR w) A (.call (.ref 84) ⟨[v1, v2, v3], []⟩) R s := by
  refine make_K (K := Mine.hd.heap_1 w.params) F N (X.keeps F.keep) (by k_is) (by k_is) (by k_is) ?_
  intro x d h' F' N' l1 l2
  have off : OwnOff news [d] := fun p hp b hb => by rw [List.mem_singleton.mp hb]; exact Nat.ne_of_lt (l1 p hp)
  have l3 := l2
  k_lt2 l2
  first | k_dflt ktr_enter | fail "no way in"
  k_steps
  exact ret _ _ _ _ _ _ _ _ _ _ (by k_asm) (kst_newsOf (by k_asm) fun p hp => .tail _ hp) l1 l3
noncomputable def setS (as : ATab) (p : Int) (a : ARow) : ATab := if as.any (fun x => decide (x.1 = p)) then upd as p a else as ++ [(p, a)]
theorem LimS.set {w : World} {S : LimS w} {rest : List (Addr × Obj)} (I : Inv S.abs) (hn : Apart (S.led ++ rest)) (r' : LRow) {oR : Obj} (hd : oR.IsDictOf (intKind PR w) (stored (kvsL S.rows) r'.port (.ref r'.rA)))
    (f1 : ∀ p ∈ S.led ++ rest, p.1 ≠ r'.rA) (f2 : ∀ p ∈ S.led ++ rest, p.1 ≠ r'.rD) (f3 : ∀ p ∈ S.led ++ rest, p.1 ≠ r'.kA) (n1 : r'.rA ≠ r'.rD) (n2 : r'.rA ≠ r'.kA) (n3 : r'.rD ≠ r'.kA) :
    ∃ S' : LimS w, S'.aL = S.aL ∧ S'.abs = setS S.abs r'.port r'.a ∧ Apart (S'.led ++ rest) ∧ ∀ p ∈ S'.led ++ rest, p = (S.aR, oR) ∨ p ∈ r'.led w.params ∨ (p ∈ S.led ++ rest ∧ p.1 ≠ S.aR) := by
  have hnd := LimS.nd I
  obtain ⟨aL, dL, aR, kL, nL, oR0, rows, hd0, lo⟩ := S
  have main : ∀ l1 l2 : List LRow, (∀ p ∈ l1.flatMap (LRow.led w.params) ++ (l2.flatMap (LRow.led w.params) ++ rest), p ∈ rows.flatMap (LRow.led w.params) ++ rest) →
      Apart ((aL, instObj 169 dL) :: (dL, limDict w.params kL nL aR) :: (aR, oR) :: (l1.flatMap (LRow.led w.params) ++ (l2.flatMap (LRow.led w.params) ++ rest))) →
      oR.IsDictOf (intKind PR w) (kvsL (l1 ++ r' :: l2)) → (l1 ++ r' :: l2).map LRow.abs = setS (rows.map LRow.abs) r'.port r'.a →
      ∃ S' : LimS w, S'.aL = aL ∧ S'.abs = setS (rows.map LRow.abs) r'.port r'.a ∧ Apart (S'.led ++ rest) ∧ ∀ p ∈ S'.led ++ rest, p = (aR, oR) ∨ p ∈ r'.led w.params ∨ (p ∈ (LimS.led ⟨aL, dL, aR, kL, nL, oR0, rows, hd0, lo⟩ ++ rest) ∧ p.1 ≠ aR) := by
    intro l1 l2 hsub hap hd' habs
    refine ⟨⟨aL, dL, aR, kL, nL, oR, l1 ++ r' :: l2, hd', lo⟩, rfl, habs, ?_, ?_⟩
    · have key : ∀ a : Addr, (∀ p ∈ (LimS.led ⟨aL, dL, aR, kL, nL, oR0, rows, hd0, lo⟩ ++ rest), p.1 ≠ a) → a ∉ (((aL, instObj 169 dL) :: (dL, limDict w.params kL nL aR) :: (aR, oR) :: (l1.flatMap (LRow.led w.params) ++ (l2.flatMap (LRow.led w.params) ++ rest))).map (·.1)) := by
        intro a ha hm
        obtain ⟨p, hp, rfl⟩ := List.mem_map.mp hm
        simp only [List.mem_cons] at hp
        rcases hp with rfl | rfl | rfl | hp
        · exact ha (aL, instObj 169 dL) LimS.mL rfl
        · exact ha (dL, limDict w.params kL nL aR) LimS.mD rfl
        · exact ha (aR, oR0) LimS.mR rfl
        · refine ha p ?_ rfl
          unfold LimS.led
          have := hsub p hp
          simp only [List.cons_append, List.mem_cons]
          exact .inr (.inr (.inr this))
      have g1 := key _ f1
      have g2 := key _ f2
      have g3 := key _ f3
      have perm : (((LimS.led ⟨aL, dL, aR, kL, nL, oR, l1 ++ r' :: l2, hd', lo⟩ ++ rest).map (·.1))).Perm (r'.rA :: r'.rD :: r'.kA :: (((aL, instObj 169 dL) :: (dL, limDict w.params kL nL aR) :: (aR, oR) :: (l1.flatMap (LRow.led w.params) ++ (l2.flatMap (LRow.led w.params) ++ rest))).map (·.1))) := by
        have e : (LimS.led ⟨aL, dL, aR, kL, nL, oR, l1 ++ r' :: l2, hd', lo⟩ ++ rest) = ((aL, instObj 169 dL) :: (dL, limDict w.params kL nL aR) :: (aR, oR) :: l1.flatMap (LRow.led w.params)) ++ ([(r'.rA, instObj 84 r'.rD), (r'.rD, r'.dict w.params), (r'.kA, listOf r'.vs.toArray r'.kn)] ++ (l2.flatMap (LRow.led w.params) ++ rest)) := by
          simp [LimS.led, LRow.led]
        rw [e]
        refine ((List.perm_append_comm_assoc _ _ _).map _).trans ?_
        simp
      refine (perm.nodup_iff).mpr ?_
      simp only [List.nodup_cons, List.mem_cons, not_or]
      exact ⟨⟨n1, n2, by simpa using g1⟩, ⟨n3, by simpa using g2⟩, by simpa using g3, by simpa [Apart] using hap⟩
    · intro p hp
      have hp' : p = (aL, instObj 169 dL) ∨ p = (dL, limDict w.params kL nL aR) ∨ p = (aR, oR) ∨ p ∈ r'.led w.params ∨ p ∈ l1.flatMap (LRow.led w.params) ++ (l2.flatMap (LRow.led w.params) ++ rest) := by
        simp only [LimS.led, List.flatMap_append, List.flatMap_cons, List.cons_append, List.mem_cons, List.mem_append] at hp ⊢
        grind
      unfold Apart at hap
      simp only [List.map_cons, List.nodup_cons, List.mem_cons, not_or] at hap
      rcases hp' with rfl | rfl | rfl | h | h
      · exact .inr (.inr ⟨LimS.mL, hap.1.2.1⟩)
      · exact .inr (.inr ⟨LimS.mD, hap.2.1.1⟩)
      · exact .inl rfl
      · exact .inr (.inl h)
      · refine .inr (.inr ⟨?_, fun e => hap.2.2.1 (e ▸ List.mem_map_of_mem (f := Prod.fst) h)⟩)
        unfold LimS.led
        simp only [List.cons_append, List.mem_cons]
        exact .inr (.inr (.inr (hsub p h)))
  by_cases hp : ∃ r ∈ rows, r.port = r'.port
  · obtain ⟨r, hr, hrp⟩ := hp
    obtain ⟨l1, l2, rfl⟩ := List.append_of_mem hr
    simp only [List.map_append, List.map_cons, List.nodup_append, List.nodup_cons, List.mem_cons] at hnd
    have o1 : ∀ q ∈ l1, q.port ≠ r'.port := fun q hq => hrp ▸ hnd.2.2 _ (List.mem_map_of_mem hq) _ (.inl rfl)
    have o2 : ∀ q ∈ l2, q.port ≠ r'.port := fun q hq e => hnd.2.1.1 (hrp ▸ e ▸ List.mem_map_of_mem (f := fun r : LRow => r.port) hq)
    have e1 := upd_off (a := r'.a) o1
    have e2 := upd_off (a := r'.a) o2
    unfold upd at e1 e2
    refine main l1 l2 ?_ ?_ ?_ ?_
    · intro p hp
      simp only [List.flatMap_append, List.flatMap_cons, List.mem_append] at hp ⊢
      grind
    · unfold Apart LimS.led at hn
      unfold Apart
      simp only [List.map_cons, List.map_append, List.flatMap_append, List.flatMap_cons, List.cons_append, List.append_assoc] at hn ⊢
      exact hn.sublist (.cons₂ _ (.cons₂ _ (.cons₂ _ ((List.Sublist.refl _).append (List.sublist_append_right _ _)))))
    · have e : stored (kvsL (l1 ++ r :: l2)) r'.port (.ref r'.rA) = kvsL (l1 ++ r' :: l2) := by
        have m1 : ∀ l : List LRow, (∀ q ∈ l, q.port ≠ r'.port) → (kvsL l).map (fun kv => if kv.1 = r'.port then (kv.1, Value.ref r'.rA) else kv) = kvsL l := by
          intro l hl
          unfold kvsL
          rw [List.map_map]
          refine List.map_congr_left fun q hq => ?_
          simp [hl q hq]
        have s1 : kvsL (l1 ++ r :: l2) = kvsL l1 ++ (r.port, .ref r.rA) :: kvsL l2 := by simp [kvsL]
        have s2 : kvsL (l1 ++ r' :: l2) = kvsL l1 ++ (r'.port, .ref r'.rA) :: kvsL l2 := by simp [kvsL]
        unfold stored
        rw [s1, s2, if_pos (by simp [hrp])]
        simp only [List.map_append, List.map_cons]
        rw [m1 l1 o1, m1 l2 o2]
        simp [hrp]
      rw [← e]; exact hd
    · unfold setS
      rw [if_pos (by simp [LRow.abs, hrp])]
      unfold upd
      simp only [List.map_append, List.map_cons] at e1 e2 ⊢
      rw [e1, e2]
      simp [LRow.abs, hrp]
  · have o1 : ∀ q ∈ rows, q.port ≠ r'.port := fun q hq e => hp ⟨q, hq, e⟩
    refine main rows [] ?_ ?_ ?_ ?_
    · intro p hp
      simpa using hp
    · simpa [LimS.led, Apart] using hn
    · have e : stored (kvsL rows) r'.port (.ref r'.rA) = kvsL (rows ++ [r']) := by
        unfold stored
        rw [if_neg]
        · simp [kvsL]
        · simp only [List.any_eq_true, not_exists, not_and]
          intro x hx
          obtain ⟨q, hq, rfl⟩ := List.mem_map.mp hx
          simpa using o1 q hq
      rw [← e]; exact hd
    · unfold setS
      rw [if_neg]
      · simp [LRow.abs]
      · simp only [List.any_eq_true, not_exists, not_and]
        intro x hx
        obtain ⟨q, hq, rfl⟩ := List.mem_map.mp hx
        exact fun h => o1 q hq (of_decide_eq_true h)
theorem stored_at {kvs : List (Int × Value)} {k : Int} {v : Value} : valueAt (stored kvs k v) k = some v := by
  unfold stored valueAt
  split
  · rename_i h
    obtain ⟨x, hx, e⟩ := List.any_eq_true.mp h
    induction kvs with
    | nil => cases hx
    | cons q l ih =>
      rw [List.map_cons, List.find?_cons]
      by_cases hq : q.1 = k
      · simp [hq]
      · simp only [hq, if_false, decide_false]
        rcases List.mem_cons.mp hx with rfl | hx
        · exact absurd (of_decide_eq_true e) hq
        · exact ih (List.any_eq_true.mpr ⟨x, hx, e⟩) hx
  · rename_i h
    have hn : kvs.find? (fun kv => decide (kv.1 = k)) = none := by
      rw [List.find?_eq_none]
      intro x hx hk
      exact h (List.any_eq_true.mpr ⟨x, hx, hk⟩)
    rw [List.find?_append, hn]
    simp
theorem set_L8 : True := by
  w_top off
  k_with_none
  k_with "way M" => refine' code_defM ?k1 ?k2 ?k3 ?k4 ?k5 ?kA ?kF ?kK ?kD ?k6 ?k7 ?k8 ?k9 ?kB ?_ ?c2 ?c3 ?c4 ?c5; (case kA => assumption); (case kF => assumption); (case kK => assumption); (case kD => assumption); (case k1 => k_asm); (case k2 => k_asm); (case k3 => k_asm); (case k4 => k_asm); (case k5 => k_asm); (case k6 => k_is); (case k7 => k_is); (case k8 => ktr_room); (case k9 => first | exact BindsTo.of_eq rfl | exact binds_K (by k_in) rfl (by k_is) rfl rfl rfl); (case c5 => decide); (case kB => exact locs rfl); (case c2 => exact rfl); (case c3 => exact rfl); (case c4 => exact rfl); k_whole
  k_with "way C" => refine' code_defC ?k1 ?k2 ?k3 ?k4 ?k5 ?kA ?kF ?kK ?k6 ?k7 ?k8 ?k9 ?kB ?kD ?_ ?c2 ?c3 ?c4; (case kA => first | assumption | exact rfl); (case kF => first | assumption | exact rfl); (case kK => assumption); (case k1 => k_asm); (case k2 => k_asm); (case k3 => k_asm); (case k4 => k_asm); (case k5 => k_asm); (case k6 => k_is); (case k7 => k_is); (case k8 => ktr_room); (case k9 => first | exact BindsTo.of_eq rfl | exact binds_K (by k_in) rfl (by k_is) rfl rfl rfl); (case kB => exact rfl); (case kD => decide +kernel); (case c2 => exact rfl); (case c3 => exact rfl); (case c4 => exact rfl); k_whole
  k_with "way D" => refine' code_def ?k1 ?k2 ?k3 ?k4 ?k5 ?kA ?kF ?kK ?k6 ?k7 ?k8 ?k9 ?kB ?_ ?c2 ?c3 ?c4 ?c5; (case kA => first | assumption | exact rfl); (case kF => first | assumption | exact rfl); (case kK => assumption); (case k1 => k_asm); (case k2 => k_asm); (case k3 => k_asm); (case k4 => k_asm); (case k5 => k_asm); (case k6 => k_is); (case k7 => k_is); (case k8 => ktr_room); (case k9 => first | exact BindsTo.of_eq rfl | exact binds_K (by k_in) rfl (by k_is) rfl rfl rfl); (case c5 => decide); (case kB => exact locs rfl); (case c2 => exact rfl); (case c3 => exact rfl); (case c4 => exact rfl); k_whole
  k_with "way CM" => refine' code_defCM ?k1 ?k2 ?k3 ?k4 ?k5 ?kA ?kF ?kK ?kE ?k6 ?k7 ?k8 ?k9 ?kB ?kD ?_ ?c2 ?c3 ?c4; (case kA => assumption); (case kF => assumption); (case kK => assumption); (case kE => assumption); (case k1 => k_asm); (case k2 => k_asm); (case k3 => k_asm); (case k4 => k_asm); (case k5 => k_asm); (case k6 => k_is); (case k7 => k_is); (case k8 => ktr_room); (case k9 => first | exact BindsTo.of_eq rfl | exact binds_K (by k_in) rfl (by k_is) rfl rfl rfl); (case kB => exact rfl); (case kD => decide +kernel); (case c2 => exact rfl); (case c3 => exact rfl); (case c4 => exact rfl); k_whole
  k_with "exec For Name Call cons nil" => (k_here; (with_unfolding_all refine' For_invVF (by k_asm) (by exact rfl) (by exact rfl) ?_; k_whole))
  k_with "unpackItems ref" => (k_here; k_dflt (refine' unpackItemsN_ (by k_asm) (by k_asm) (by kun_tup) (by assumption) (by exact rfl) ?_; k_whole); intro _ _ _; (try k_sweep))
  k_with "subscriptTail Name Name ref int" => ((with_reducible first | show wpAny _ _ (subscriptTail _ _ (Value.ref (LimS.aR _)) _) _ _ _ | show wpAny _ _ (subscriptTail _ _ (Value.ref (BookS.aB _)) _) _ _ _); refine stop_here ?_)
  k_with "compareOp In int ref" => ((with_reducible first | show wpAny _ _ (compareOp _ _ (Value.ref (LimS.aR _))) _ _ _ | show wpAny _ _ (compareOp _ _ (Value.ref (BookS.aB _))) _ _ _ | show wpAny _ _ (compareOp _ _ (Value.ref (LRow.kA _))) _ _ _ | show wpAny _ _ (compareOp _ _ (Value.ref (BRow.kA _))) _ _ _); refine stop_here ?_)
  k_with "compareOp NotIn int ref" => ((with_reducible first | show wpAny _ _ (compareOp _ _ (Value.ref (LimS.aR _))) _ _ _ | show wpAny _ _ (compareOp _ _ (Value.ref (BookS.aB _))) _ _ _ | show wpAny _ _ (compareOp _ _ (Value.ref (LRow.kA _))) _ _ _ | show wpAny _ _ (compareOp _ _ (Value.ref (BRow.kA _))) _ _ _); refine stop_here ?_)
  k_with "getMethod ref" => ((with_reducible first | show wpAny _ _ (getMethod (Value.ref (LimS.aR _)) _ _) _ _ _ | show wpAny _ _ (getMethod (Value.ref (BookS.aB _)) _ _) _ _ _); refine stop_here ?_)
  k_with "call builtin:len" => ((with_reducible first | show wpAny _ _ (call _ [Value.ref (LRow.kA _)]) _ _ _ | show wpAny _ _ (call _ [Value.ref (BRow.kA _)]) _ _ _); refine stop_here ?_)
  k_with "call ref" => ((with_reducible first | show wpAny _ _ (call (Value.ref 124) [Value.ref (LimS.aL _), _]) _ _ _); refine stop_here ?_)
  k_with "subscriptTail Name Slice ref ref" => refine stop_here ?_
  k_with "subscriptTail Attribute Name Name ref int" => ((with_reducible show wpAny _ _ (subscriptTail _ _ (Value.ref (LimS.aR _)) _) _ _ _); k_dflt (refine kba_turn (value' := PySem.Expr.Name (PySem.Str.ofString "_") ⟨0, 0, 0, 0⟩) (fun _ => rfl) ?_))
  k_with "subscriptTail Attribute Name ref int" => ((with_reducible show wpAny _ _ (subscriptTail _ _ (Value.ref (LimS.aR _)) _) _ _ _); k_dflt (refine kba_turn (value' := PySem.Expr.Name (PySem.Str.ofString "_") ⟨0, 0, 0, 0⟩) (fun _ => rfl) ?_))
  k_with "subscriptTail Subscript Subscript" => ((with_reducible show wpAny _ _ (subscriptTail _ _ (Value.ref (BRow.kA _)) _) _ _ _); k_dflt (refine kba_turn (value' := PySem.Expr.Name (PySem.Str.ofString "_") ⟨0, 0, 0, 0⟩) (fun _ => rfl) ?_))
  k_with "exec Raise" => refine stop_here ?_
  k_with "subscriptTail Subscript Name Name Constant ref int" => ((with_reducible show wpAny _ _ (subscriptTail _ _ (Value.ref (BRow.bA _)) _) _ _ _); k_dflt (refine item_at (vs := BRow.items _) (News.isList (by k_asm) (by k_mem)) (by decide) (by decide) rfl ?_))
  k_with "subscriptTail Name Constant ref int" => ((with_reducible show wpAny _ _ (subscriptTail _ _ (Value.ref (BRow.bA _)) _) _ _ _); k_dflt (refine item_at (vs := BRow.items _) (News.isList (by k_asm) (by k_mem)) (by decide) (by decide) rfl ?_))
  trivial
theorem news_cons {h₀ h : Heap} {L : Addr} {l l' : List (Addr × Obj)} {p : Addr × Obj} (hp : p ∈ l') (N' : News h₀ L h l') (N : News h₀ L h l) : News h₀ L h (p :: l) := fun q hq => by
  rcases List.mem_cons.mp hq with rfl | hq
  · exact N' _ hp
  · exact N _ hq
theorem LimS.ne3 {w : World} {S : LimS w} {rest : List (Addr × Obj)} (hn : Apart (S.led ++ rest)) : S.aL ≠ S.aR ∧ S.dL ≠ S.aR := by
  unfold LimS.led Apart at hn
  simp only [List.cons_append, List.map_cons, List.nodup_cons, List.mem_cons, not_or] at hn
  exact ⟨hn.1.2.1, hn.2.1.1⟩
theorem seti_c {prog : Program} {w : World} {KK : Type} [DecidableEq KK] {knd : KeyKind prog w KK} {A : Around} {E : Value → Shared → Prop} {s : Shared} {h₀ : Heap} {L d : Addr} {m : Str → Option Value} {news : List (Addr × Obj)} {o : Obj} {kvs : List (KK × Value)} {k : KK} {key v : Value} {Q : Unit → Shared → Prop}
    (F : Fr h₀ L s.heap m) (N : News h₀ L s.heap news) (hp : (d, o) ∈ news) (hd : o.IsDictOf knd kvs) (hkey : knd.is k key = true) (hz : kvs.length ≤ 64)
    (h : ∀ h' o', Fr h₀ L h' m → News h₀ L h' ((d, o') :: news.filter fun p => p.1 != d) → o'.IsDictOf knd (stored kvs k v) → Q () { s with heap := h', toks := s.toks + 1 }) : wpAny (model prog w) A (setItem (.ref d) key v) Q E s := by
  obtain ⟨N1, o1⟩ := led_at N hp
  exact kda_set F N1 (.head fun p hp => o1 p hp d (.head _)) hd hkey (by rw [sizeLine_eq]; omega) h
theorem set_c {w : World} {A A₀ : Around} {env : Env} {outer : List Env} {base h₀ : Heap} {L : Addr} {m : Str → Option Value} {s : Shared} {R : Result → Shared → Prop}
    {loose : List Str} {mean : ExcName → Option Value} {mg mb : Str → Option Value} {rest : List (Addr × Obj)} {S : LimS w} {port most : Int} {tp tm tw : Nat} {way : Str} {stay : Bool}
    (B : Below A₀ base outer h₀) (F : Fr h₀ L s.heap m) (X : (Mine.hd.heap_1 w.params).In h₀) (N : News h₀ L s.heap (S.led ++ rest)) (T : Top topProg loose mean mg mb h₀) (hA : A.frames = some (env :: outer)) (hf : env.frame = some L) (hke : env.scope.kind = .function) (hroom : A.depth < 590) (hh : A.handled = none) (I : Inv S.abs) (Ap : Apart (S.led ++ rest)) (hm1 : 1 ≤ most) (hm3 : most ≤ 3) (hw : way = "drop" ∨ way = "shut")
    (ret : ∀ (S' : LimS w) h' tk', Fr h₀ L h' m → News h₀ L h' (S'.led ++ rest) → Apart (S'.led ++ rest) → S'.aL = S.aL → S'.abs = setS S.abs port ⟨most, way, stay, (knownS S.abs port).take most.toNat, false⟩ → R (.ok (.ret .none)) { s with heap := h', toks := tk' }) :
    codeAny (model PR w) A (.call (.ref 110) ⟨[.ref S.aL, .int port tp, .int most tm, .str way tw, .bool stay], []⟩) R s := by
  have hL := S.mL (rest := rest)
  have hD := S.mD (rest := rest)
  have hR := S.mR (rest := rest)
  have hr1 : ∀ r ∈ S.rows, (r.rA, instObj 84 r.rD) ∈ S.led ++ rest := fun r h => S.m1 h
  have hr2 : ∀ r ∈ S.rows, (r.rD, r.dict w.params) ∈ S.led ++ rest := fun r h => S.m2 h
  have hr3 : ∀ r ∈ S.rows, (r.kA, listOf r.vs.toArray r.kn) ∈ S.led ++ rest := fun r h => S.m3 h
  have hd := S.hd
  have lo := S.lo
  have hlen := LimS.len I
  first | k_dflt ktr_enter | fail "no way in"
  k_steps
  refine notin_tuple_strs (kun_topT (by k_asm) (by k_asm) (by k_is)) (.cons _ _ (.cons _ _ .nil)) ?_
  have hb : ([("drop" : Str), "shut"].any (· == way)) = true := by rcases hw with rfl | rfl <;> decide
  rw [hb]
  k_steps
  rcases LimS.val I port with ⟨ea, hv⟩ | ⟨r, hr, hrp, ea, hv⟩
  case' inl =>
    refine kda_in (by k_asm) (by k_mem) hd lo (intKind_is _ _ _ _) false (by rw [hv]; rfl) ?_
    k_steps
    rename_i lk _ l1 _ F' N'
    obtain ⟨vs, ks, hi, hk, hvs⟩ : ∃ (vs : List Value) (ks : List Int), IntsAre vs ks ∧ ks = (knownS S.abs port).take most.toNat ∧ vs.toArray = #[] := ⟨[], [], .nil, by simp [knownS, ea], rfl⟩
    rw [← hvs] at N'
  case' inr =>
    have q1 := hr1 r hr
    have q2 := hr2 r hr
    have q3 := hr3 r hr
    have hml : r.a.known.length ≤ 3 := I.klen (LimS.mabs hr)
    refine kda_in (by k_asm) (by k_mem) hd lo (intKind_is _ _ _ _) true (by rw [hv]; rfl) ?_
    k_steps
    refine kda_item (by k_asm) (by k_mem) hd (intKind_is _ _ _ _) hv ?_
    k_steps
    k_dflt (refine' kmk_slice_ints (vs := r.vs) (ns := r.a.known) (ms := r.a.known.take most.toNat) ?aF ?aN ?al ?ap ?aq r.ok ?am rfl ?_ ?as ?a9 ?az)
    case aF => k_asm
    case aN => k_asm
    case al => exact News.isList (by k_asm) q3
    case ap => kmk_part
    case aq => kmk_part
    case am => exact kmk_upto r.ok (by omega)
    case as => with_unfolding_all rfl
    case a9 => kmk_pure
    case az => exact kmk_sz r.ok (by rw [sizeLine_eq]; omega)
    intro lk vs h' F' N' l1 hi _ _
    have hk : r.a.known.take most.toNat = (knownS S.abs port).take most.toNat := by simp only [knownS, ea]
    k_steps
  all_goals
    rw [hk] at hi
    refine wpAny_call (row_c (by assumption) (by k_asm) (by k_asm) (by k_asm) (by k_asm) (by show Option.map _ A.frames = _; rw [hA]; rfl) rfl rfl (by show A.depth + 1 < 595; first | exact room1 hroom (by decide) | exact room1 hdp (by decide) | omega) (by exact hh) ?_)
    intro x d l k1 k2 k3 k4 k5 h' tk' F' N' lr1 lr2
    have fx : ∀ p ∈ S.led ++ rest, p.1 < d := fun p hp => lr1 p (.tail _ hp)
    have fk : lk < d := lr1 _ (.head _)
    k_steps
    refine seti_c (by k_asm) (by k_asm) (by k_mem) hd (intKind_is _ _ _ _) (by simp [kvsL]; omega) ?_
    intro h' o' F' N' hd'
    obtain ⟨e1, e2⟩ := LimS.ne3 Ap
    have aRd : S.aR < d := fx _ hR
    have aRx : S.aR < x := Nat.lt_trans aRd lr2
    have aRk : S.aR < lk := l1 _ hR
    have N2 := news_cons (.tail _ (mem_off (.tail _ (.head _)) (Nat.ne_of_gt aRd))) N' (news_cons (.tail _ (mem_off (.head _) (Nat.ne_of_gt aRx))) N' (news_cons (.tail _ (mem_off (.tail _ (.tail _ (.head _))) (Nat.ne_of_gt aRk))) N' (news_cons (.head _) N'
      (kst_newsOf (l' := (S.led ++ rest).filter fun p => p.1 != S.aR) N' fun p hp => .tail _ (mem_off (.tail _ (.tail _ (.tail _ (List.mem_filter.mp hp).1))) (by simpa using (List.mem_filter.mp hp).2))))))
    have o2 : OwnOff ((S.led ++ rest).filter fun p => p.1 != S.aR) [d] := fun p hp b hb => by
      rw [List.mem_singleton.mp hb]; exact Nat.ne_of_lt (fx p (List.mem_filter.mp hp).1)
    have g1 := mem_off hL e1
    have g2 := mem_off hD e2
    have aRd' := ltN aRd
    have fk' := ltN fk
    have lr2' := ltN lr2
    clear N'
    k_steps
    refine kda_item (by k_asm) (.tail _ (.tail _ (.tail _ (.head _)))) hd' (intKind_is _ _ _ _) stored_at ?_
    k_steps
    obtain ⟨S', z1, z2, z3, z4⟩ := LimS.set I Ap ⟨port, ⟨most, way, stay, (knownS S.abs port).take most.toNat, false⟩, x, d, lk, vs, hi, k1, k2, k3, k4, k5, tm, tw, 0⟩ hd' (fun p hp => Nat.ne_of_lt (Nat.lt_trans (fx p hp) lr2)) (fun p hp => Nat.ne_of_lt (fx p hp)) (fun p hp => Nat.ne_of_lt (l1 p hp)) (Nat.ne_of_gt lr2) (Nat.ne_of_gt (Nat.lt_trans fk lr2)) (Nat.ne_of_gt fk)
    refine ret S' _ _ (by k_asm) (kst_newsOf (by k_asm) fun p hp => ?_) z3 z1 z2
    rcases z4 p hp with rfl | h | ⟨h, n1⟩
    · exact .tail _ (.tail _ (.tail _ (.head _)))
    · simp only [LRow.led, List.mem_cons, List.not_mem_nil, or_false] at h
      rcases h with rfl | rfl | rfl
      · exact .tail _ (.head _)
      · exact .head _
      · exact .tail _ (.tail _ (.head _))
    · exact .tail _ (.tail _ (.tail _ (.tail _ (mem_off h n1))))
theorem set_L9 : True := by
  w_top off
  k_with_none
  k_with "way M" => refine' code_defM ?k1 ?k2 ?k3 ?k4 ?k5 ?kA ?kF ?kK ?kD ?k6 ?k7 ?k8 ?k9 ?kB ?_ ?c2 ?c3 ?c4 ?c5; (case kA => assumption); (case kF => assumption); (case kK => assumption); (case kD => assumption); (case k1 => k_asm); (case k2 => k_asm); (case k3 => k_asm); (case k4 => k_asm); (case k5 => k_asm); (case k6 => k_is); (case k7 => k_is); (case k8 => ktr_room); (case k9 => first | exact BindsTo.of_eq rfl | exact binds_K (by k_in) rfl (by k_is) rfl rfl rfl); (case c5 => decide); (case kB => exact locs rfl); (case c2 => exact rfl); (case c3 => exact rfl); (case c4 => exact rfl); k_whole
  k_with "way C" => refine' code_defC ?k1 ?k2 ?k3 ?k4 ?k5 ?kA ?kF ?kK ?k6 ?k7 ?k8 ?k9 ?kB ?kD ?_ ?c2 ?c3 ?c4; (case kA => first | assumption | exact rfl); (case kF => first | assumption | exact rfl); (case kK => assumption); (case k1 => k_asm); (case k2 => k_asm); (case k3 => k_asm); (case k4 => k_asm); (case k5 => k_asm); (case k6 => k_is); (case k7 => k_is); (case k8 => ktr_room); (case k9 => first | exact BindsTo.of_eq rfl | exact binds_K (by k_in) rfl (by k_is) rfl rfl rfl); (case kB => exact rfl); (case kD => decide +kernel); (case c2 => exact rfl); (case c3 => exact rfl); (case c4 => exact rfl); k_whole
  k_with "way D" => refine' code_def ?k1 ?k2 ?k3 ?k4 ?k5 ?kA ?kF ?kK ?k6 ?k7 ?k8 ?k9 ?kB ?_ ?c2 ?c3 ?c4 ?c5; (case kA => first | assumption | exact rfl); (case kF => first | assumption | exact rfl); (case kK => assumption); (case k1 => k_asm); (case k2 => k_asm); (case k3 => k_asm); (case k4 => k_asm); (case k5 => k_asm); (case k6 => k_is); (case k7 => k_is); (case k8 => ktr_room); (case k9 => first | exact BindsTo.of_eq rfl | exact binds_K (by k_in) rfl (by k_is) rfl rfl rfl); (case c5 => decide); (case kB => exact locs rfl); (case c2 => exact rfl); (case c3 => exact rfl); (case c4 => exact rfl); k_whole
  k_with "way CM" => refine' code_defCM ?k1 ?k2 ?k3 ?k4 ?k5 ?kA ?kF ?kK ?kE ?k6 ?k7 ?k8 ?k9 ?kB ?kD ?_ ?c2 ?c3 ?c4; (case kA => assumption); (case kF => assumption); (case kK => assumption); (case kE => assumption); (case k1 => k_asm); (case k2 => k_asm); (case k3 => k_asm); (case k4 => k_asm); (case k5 => k_asm); (case k6 => k_is); (case k7 => k_is); (case k8 => ktr_room); (case k9 => first | exact BindsTo.of_eq rfl | exact binds_K (by k_in) rfl (by k_is) rfl rfl rfl); (case kB => exact rfl); (case kD => decide +kernel); (case c2 => exact rfl); (case c3 => exact rfl); (case c4 => exact rfl); k_whole
  k_with "exec For Name Call cons nil" => (k_here; (with_unfolding_all refine' For_invVF (by k_asm) (by exact rfl) (by exact rfl) ?_; k_whole))
  k_with "unpackItems ref" => (k_here; k_dflt (refine' unpackItemsN_ (by k_asm) (by k_asm) (by kun_tup) (by assumption) (by exact rfl) ?_; k_whole); intro _ _ _; (try k_sweep))
  k_with "subscriptTail Name Name ref int" => ((with_reducible first | show wpAny _ _ (subscriptTail _ _ (Value.ref (LimS.aR _)) _) _ _ _ | show wpAny _ _ (subscriptTail _ _ (Value.ref (BookS.aB _)) _) _ _ _); refine stop_here ?_)
  k_with "compareOp In int ref" => ((with_reducible first | show wpAny _ _ (compareOp _ _ (Value.ref (LimS.aR _))) _ _ _ | show wpAny _ _ (compareOp _ _ (Value.ref (BookS.aB _))) _ _ _ | show wpAny _ _ (compareOp _ _ (Value.ref (LRow.kA _))) _ _ _ | show wpAny _ _ (compareOp _ _ (Value.ref (BRow.kA _))) _ _ _); refine stop_here ?_)
  k_with "compareOp NotIn int ref" => ((with_reducible first | show wpAny _ _ (compareOp _ _ (Value.ref (LimS.aR _))) _ _ _ | show wpAny _ _ (compareOp _ _ (Value.ref (BookS.aB _))) _ _ _ | show wpAny _ _ (compareOp _ _ (Value.ref (LRow.kA _))) _ _ _ | show wpAny _ _ (compareOp _ _ (Value.ref (BRow.kA _))) _ _ _); refine stop_here ?_)
  k_with "getMethod ref" => ((with_reducible first | show wpAny _ _ (getMethod (Value.ref (LimS.aR _)) _ _) _ _ _ | show wpAny _ _ (getMethod (Value.ref (BookS.aB _)) _ _) _ _ _); refine stop_here ?_)
  k_with "call builtin:len" => ((with_reducible first | show wpAny _ _ (call _ [Value.ref (LRow.kA _)]) _ _ _ | show wpAny _ _ (call _ [Value.ref (BRow.kA _)]) _ _ _); refine stop_here ?_)
  k_with "call ref" => ((with_reducible first | show wpAny _ _ (call (Value.ref 124) [Value.ref (LimS.aL _), _]) _ _ _); refine stop_here ?_)
  k_with "subscriptTail Name Slice ref ref" => refine stop_here ?_
  k_with "subscriptTail Attribute Name Name ref int" => ((with_reducible show wpAny _ _ (subscriptTail _ _ (Value.ref (LimS.aR _)) _) _ _ _); k_dflt (refine kba_turn (value' := PySem.Expr.Name (PySem.Str.ofString "_") ⟨0, 0, 0, 0⟩) (fun _ => rfl) ?_))
  k_with "subscriptTail Attribute Name ref int" => ((with_reducible show wpAny _ _ (subscriptTail _ _ (Value.ref (LimS.aR _)) _) _ _ _); k_dflt (refine kba_turn (value' := PySem.Expr.Name (PySem.Str.ofString "_") ⟨0, 0, 0, 0⟩) (fun _ => rfl) ?_))
  k_with "subscriptTail Subscript Subscript" => ((with_reducible show wpAny _ _ (subscriptTail _ _ (Value.ref (BRow.kA _)) _) _ _ _); k_dflt (refine kba_turn (value' := PySem.Expr.Name (PySem.Str.ofString "_") ⟨0, 0, 0, 0⟩) (fun _ => rfl) ?_))
  k_with "exec Raise" => refine stop_here ?_
  k_with "subscriptTail Subscript Name Name Constant ref int" => ((with_reducible show wpAny _ _ (subscriptTail _ _ (Value.ref (BRow.bA _)) _) _ _ _); k_dflt (refine item_at (vs := BRow.items _) (News.isList (by k_asm) (by k_mem)) (by decide) (by decide) rfl ?_))
  k_with "subscriptTail Name Constant ref int" => ((with_reducible show wpAny _ _ (subscriptTail _ _ (Value.ref (BRow.bA _)) _) _ _ _); k_dflt (refine item_at (vs := BRow.items _) (News.isList (by k_asm) (by k_mem)) (by decide) (by decide) rfl ?_))
  trivial
theorem pair_none {prog : Program} {w : World} {A : Around} {E : Value → Shared → Prop} {s : Shared} {t : Addr} {p : Int} {tp : Nat} {Q : Value → Shared → Prop} (ht : s.heap.IsTuple t #[.none, .int p tp]) (h : Q (.bool false) s) : wpAny (model prog w) A (compareOp .NotIn .none (.ref t)) Q E s := by
  refine PySem.SeqAt.notIn_tupleAt (fun y => match y with | .none => true | _ => false) ht (fun y hy => ?_) (by simpa using h)
  simp only [List.mem_toArray, List.mem_cons, List.not_mem_nil, or_false] at hy
  rcases hy with rfl | rfl
  · exact PySem.SeqAt.EqAt.same _
  · exact PySem.SeqAt.EqAt.int_none _ _
theorem pair_int {prog : Program} {w : World} {A : Around} {E : Value → Shared → Prop} {s : Shared} {t : Addr} {p k : Int} {tp tk : Nat} {Q : Value → Shared → Prop} (ht : s.heap.IsTuple t #[.none, .int p tp]) (h : Q (.bool (!(p == k))) s) : wpAny (model prog w) A (compareOp .NotIn (.int k tk) (.ref t)) Q E s := by
  refine PySem.SeqAt.notIn_tupleAt (fun y => match y with | .int p _ => p == k | _ => false) ht (fun y hy => ?_) (by simpa using h)
  simp only [List.mem_toArray, List.mem_cons, List.not_mem_nil, or_false] at hy
  rcases hy with rfl | rfl
  · exact PySem.SeqAt.EqAt.none_int _ _
  · exact PySem.SeqAt.EqAt.int_int _ _ _ _
theorem get_c {prog : Program} {w : World} {KK : Type} [DecidableEq KK] {knd : KeyKind prog w KK} {A : Around} {E : Value → Shared → Prop} {s : Shared} {h₀ : Heap} {L d : Addr} {news : List (Addr × Obj)} {o : Obj} {kvs : List (KK × Value)} {k : KK} {key v : Value} {Q : Value → Shared → Prop} (N : News h₀ L s.heap news) (hp : (d, o) ∈ news) (hd : o.IsDictOf knd kvs) (lo : (d == sysModules) = false) (hkey : knd.is k key = true) (hl : valueAt kvs k = some v) (h : Q v { s with toks := s.toks + 1 }) :
    wpAny (model prog w) A (call (.builtin "dict.get") [.ref d, key]) Q E s := kdg_get1 N hp hd lo hkey _ hl h
theorem get_n {prog : Program} {w : World} {KK : Type} [DecidableEq KK] {knd : KeyKind prog w KK} {A : Around} {E : Value → Shared → Prop} {s : Shared} {h₀ : Heap} {L d : Addr} {news : List (Addr × Obj)} {o : Obj} {kvs : List (KK × Value)} {k : KK} {key : Value} {Q : Value → Shared → Prop} (N : News h₀ L s.heap news) (hp : (d, o) ∈ news) (hd : o.IsDictOf knd kvs) (lo : (d == sysModules) = false) (hkey : knd.is k key = true) (hl : valueAt kvs k = none) (h : Q .none { s with toks := s.toks + 1 }) :
    wpAny (model prog w) A (call (.builtin "dict.get") [.ref d, key]) Q E s := kdg_get1 N hp hd lo hkey _ hl h
noncomputable def putOK (as : ATab) (p mac : Int) : Bool :=
  match at? as p with
  | none => false
  | some a => decide (mac ∈ a.known) || (free as mac && decide ((a.known.length : Int) < a.most))
noncomputable def putS (as : ATab) (p mac : Int) : ATab :=
  match at? as p with
  | none => as
  | some a => if mac ∈ a.known then as else upd as p { a with known := a.known ++ [mac] }
theorem put_c {w : World} {A A₀ : Around} {env : Env} {outer : List Env} {base h₀ : Heap} {L : Addr} {m : Str → Option Value} {s : Shared} {R : Result → Shared → Prop}
    {loose : List Str} {mean : ExcName → Option Value} {mg mb : Str → Option Value} {rest : List (Addr × Obj)} {S : LimS w} {port mac : Int} {tp tm : Nat}
    (B : Below A₀ base outer h₀) (F : Fr h₀ L s.heap m) (X : (Mine.hd.heap_1 w.params).In h₀) (N : News h₀ L s.heap (S.led ++ rest)) (T : Top topProg loose mean mg mb h₀) (hA : A.frames = some (env :: outer)) (hf : env.frame = some L) (hke : env.scope.kind = .function) (hroom : A.depth < 590) (hh : A.handled = none) (I : Inv S.abs) (Ap : Apart (S.led ++ rest)) (ok : putOK S.abs port mac = true)
    (ret : ∀ (S' : LimS w) h' tk', Fr h₀ L h' m → News h₀ L h' (S'.led ++ rest) → Apart (S'.led ++ rest) → S'.aL = S.aL → S'.abs = putS S.abs port mac → R (.ok (.ret .none)) { s with heap := h', toks := tk' }) :
    codeAny (model PR w) A (.call (.ref 145) ⟨[.ref S.aL, .int port tp, .int mac tm], []⟩) R s := by
  have hL := S.mL (rest := rest)
  have hD := S.mD (rest := rest)
  have hR := S.mR (rest := rest)
  have hr1 : ∀ r ∈ S.rows, (r.rA, instObj 84 r.rD) ∈ S.led ++ rest := fun r h => S.m1 h
  have hr2 : ∀ r ∈ S.rows, (r.rD, r.dict w.params) ∈ S.led ++ rest := fun r h => S.m2 h
  have hr3 : ∀ r ∈ S.rows, (r.kA, listOf r.vs.toArray r.kn) ∈ S.led ++ rest := fun r h => S.m3 h
  have hd := S.hd
  have lo := S.lo
  have hlen := LimS.len I
  first | k_dflt ktr_enter | fail "no way in"
  k_steps
  rcases LimS.val I port with ⟨ea, hv⟩ | ⟨r, hr, rfl, ea, hv⟩
  · exfalso
    simp [putOK, ea] at ok
  · have q1 := hr1 r hr
    have q2 := hr2 r hr
    have q3 := hr3 r hr
    have hml : r.a.known.length ≤ 3 := I.klen (LimS.mabs hr)
    refine kdg_method (by k_asm) hR hd ?_
    k_steps
    refine get_c (by k_asm) hR hd lo (intKind_is _ _ _ _) hv ?_
    k_steps
    refine wpAny_call (holder_c (by assumption) (by k_asm) (by k_asm) (by k_asm) (by k_asm) (by show Option.map _ A.frames = _; rw [hA]; rfl) rfl rfl (by show A.depth + 1 < 600; first | exact room1 hroom (by decide) | exact room1 hdp (by decide) | omega) (by exact hh) I ?_)
    intro v h' tk' F' N' hs
    rcases hs with ⟨rfl, hnone⟩ | ⟨x, hx, t, rfl, hmem⟩
    · k_steps
      refine pair_none (News.isTup (by k_asm) (by k_mem)) ?_
      k_steps
      refine len_c (by k_asm) (by k_mem) r.ok (by omega) ?_
      have nin := hnone _ (LimS.mabs hr)
      have hlt : (r.a.known.length : Int) < r.a.most := by simp [putOK, ea, show mac ∉ r.a.known from nin] at ok; exact ok.2
      k_steps
      refine append_c (vs := r.vs) (n := r.kn) (by k_asm) (by k_asm) (by k_mem) (by rw [r.ok.length]; omega) ?_
      intro h'' F'' N''
      k_steps
      have e : putS S.abs r.port mac = upd S.abs r.port { r.a with known := r.a.known ++ [mac] } := by
        simp only [putS, ea]
        rw [if_neg nin]
      rw [e] at ret
      obtain ⟨S', e1, e2, e3, e4⟩ := LimS.put_list I hr Ap { r with a := { r.a with known := r.a.known ++ [mac] }, vs := r.vs ++ [.int mac tm], ok := ints_snoc r.ok _ _, kn := r.kn + 1 } (kst_newsOf (by k_asm) fun p hp => by
        rcases List.mem_cons.mp hp with rfl | hp
        · exact .head _
        · exact .tail _ (mem_off (.tail _ (.tail _ (List.mem_filter.mp hp).1)) (by simpa using (List.mem_filter.mp hp).2))) rfl rfl rfl rfl rfl
      exact ret S' _ _ (by k_asm) e4 e3 e1 e2
    · have hx1 : x = (r.port, r.a) := by
        have hnf : free S.abs mac ≠ true := fun hf => free_iff.mp hf x hx hmem
        have hk : mac ∈ r.a.known := by
          simp [putOK, ea, hnf] at ok
          exact ok
        exact nodup_inj I.nd hx (LimS.mabs hr) (I.uniq _ hx _ (LimS.mabs hr) mac hmem hk)
      subst hx1
      have e : putS S.abs r.port mac = S.abs := by
        simp only [putS, ea]
        rw [if_pos hmem]
      rw [e] at ret
      k_steps
      refine pair_int (News.isTup (by k_asm) (by k_mem)) ?_
      rw [show (!(r.port == r.port)) = false by simp]
      k_steps
      exact ret S _ _ (by k_asm) (kst_newsOf (by k_asm) fun p hp => .tail _ (.tail _ hp)) Ap rfl rfl
theorem leave_raiseT {M : Model} {A : Around} {E : Value → Shared → Prop} {s' : Shared} {base g : Heap} {outer : List Env} {L a e t : Addr} {m : Str → Option Value} {name : Str} {scope : Scope} {cd : Value} {Q : Unit → Shared → Prop} {old news : List (Addr × Obj)} {C : Addr} {dd : Option Addr} {vs : List Value}
    (K : Below A base outer g) (F : Fr g L s'.heap m) (N : News g L s'.heap ((e, excObj C t dd) :: (t, tupObj vs) :: old)) (hs : ∀ p ∈ news, p ∈ old) (l1 : ∀ p ∈ old, p.1 < e) (l2 : e < t)
    (hQ : ∀ h', RaisedS base g outer e (.ref C) t vs news h' → g.UpToSlots h' → Q () { s' with heap := h' }) (hk : scope.kind = .function := by rfl) :
    wpAny M (A.deeper (envOf name scope L a cd)) (leaving (envOf name scope L a cd) (.ref e)) Q E s' :=
  leave_raiseM K F (kst_newsOf N fun p hp => by
    rcases List.mem_cons.mp hp with rfl | hp
    · exact .head _
    · rcases List.mem_cons.mp hp with rfl | hp
      · exact .tail _ (.head _)
      · exact .tail _ (.tail _ (hs p hp))) (fun p hp => ⟨Nat.ne_of_lt (l1 p (hs p hp)), Nat.ne_of_lt (Nat.lt_trans (l1 p (hs p hp)) l2)⟩) hQ hk
theorem put_r {w : World} {A A₀ : Around} {env : Env} {outer : List Env} {base h₀ : Heap} {L : Addr} {m : Str → Option Value} {s : Shared} {R : Result → Shared → Prop}
    {loose : List Str} {mean : ExcName → Option Value} {mg mb : Str → Option Value} {rest : List (Addr × Obj)} {S : LimS w} {port mac : Int} {tp tm : Nat}
    (B : Below A₀ base outer h₀) (F : Fr h₀ L s.heap m) (X : (Mine.hd.heap_1 w.params).In h₀) (N : News h₀ L s.heap (S.led ++ rest)) (T : Top topProg loose mean mg mb h₀) (hA : A.frames = some (env :: outer)) (hf : env.frame = some L) (hke : env.scope.kind = .function) (hroom : A.depth < 590) (hh : A.handled = none) (I : Inv S.abs) (Ap : Apart (S.led ++ rest)) (bad : putOK S.abs port mac = false)
    (ret : ∀ G e t vs h' tk, Fr h₀ L G m → RaisedS base G (env :: outer) e (.ref 64) t vs (S.led ++ rest) h' → G.UpToSlots h' → R (.error (.ref e)) { s with heap := h', toks := tk }) :
    codeAny (model PR w) A (.call (.ref 145) ⟨[.ref S.aL, .int port tp, .int mac tm], []⟩) R s := by
  have hL := S.mL (rest := rest)
  have hD := S.mD (rest := rest)
  have hR := S.mR (rest := rest)
  have hr1 : ∀ r ∈ S.rows, (r.rA, instObj 84 r.rD) ∈ S.led ++ rest := fun r h => S.m1 h
  have hr2 : ∀ r ∈ S.rows, (r.rD, r.dict w.params) ∈ S.led ++ rest := fun r h => S.m2 h
  have hr3 : ∀ r ∈ S.rows, (r.kA, listOf r.vs.toArray r.kn) ∈ S.led ++ rest := fun r h => S.m3 h
  have hd := S.hd
  have lo := S.lo
  have hlen := LimS.len I
  first | k_dflt ktr_enter | fail "no way in"
  k_steps
  rcases LimS.val I port with ⟨ea, hv⟩ | ⟨r, hr, rfl, ea, hv⟩
  · refine kdg_method (by k_asm) hR hd ?_
    k_steps
    refine get_n (by k_asm) hR hd lo (intKind_is _ _ _ _) hv ?_
    k_steps
    refine wpAny_call (holder_c (by assumption) (by k_asm) (by k_asm) (by k_asm) (by k_asm) (by show Option.map _ A.frames = _; rw [hA]; rfl) rfl rfl (by show A.depth + 1 < 600; first | exact room1 hroom (by decide) | exact room1 hdp (by decide) | omega) (by exact hh) I ?_)
    intro v h' tk' F' N' hs
    k_steps
    refine Raise_mine (K := Mine.hd.heap_1 w.params) (C := 64) (by exact hh) ?_
    k_steps
    refine wpAny_call (make64 (by assumption) (by k_asm) (by k_asm) (by k_asm) (by k_asm) (by show Option.map _ A.frames = _; rw [hA]; rfl) rfl rfl (by show A.depth + 1 < 600; first | exact room1 hroom (by decide) | exact room1 hdp (by decide) | omega) (by exact hh) ?_)
    intro e t d h' tk' F' N' l1 l2
    refine ⟨e, t, some d, rfl, (N' _ (.head _)).1, Frag.In.keeps (by k_asm) F'.keep, raises64 w, ?_⟩
    k_unfold
    refine leave_raiseT (news := S.led ++ rest) (by assumption) (by k_asm) N' (fun p hp => by first | exact .tail _ hp | exact .tail _ (.tail _ hp)) l1 l2 ?_
    intro h'' R' U'
    exact ret _ _ _ _ _ _ (by assumption) R' U'
  · have q1 := hr1 r hr
    have q2 := hr2 r hr
    have q3 := hr3 r hr
    have hml : r.a.known.length ≤ 3 := I.klen (LimS.mabs hr)
    refine kdg_method (by k_asm) hR hd ?_
    k_steps
    refine get_c (by k_asm) hR hd lo (intKind_is _ _ _ _) hv ?_
    k_steps
    refine wpAny_call (holder_c (by assumption) (by k_asm) (by k_asm) (by k_asm) (by k_asm) (by show Option.map _ A.frames = _; rw [hA]; rfl) rfl rfl (by show A.depth + 1 < 600; first | exact room1 hroom (by decide) | exact room1 hdp (by decide) | omega) (by exact hh) I ?_)
    intro v h' tk' F' N' hs
    rcases hs with ⟨rfl, hnone⟩ | ⟨x, hx, t, rfl, hmem⟩
    case' inl =>
      have nin := hnone _ (LimS.mabs hr)
      have hlt : ¬ (r.a.known.length : Int) < r.a.most := by simp [putOK, ea, free_iff.mpr hnone] at bad; omega
      k_steps
      refine pair_none (News.isTup (by k_asm) (by k_mem)) ?_
      k_steps
      refine len_c (by k_asm) (by k_mem) r.ok (by omega) ?_
      k_steps
    case' inr =>
      have hne : (r.port == x.1) = false := by
        apply beq_false_of_ne
        intro e
        have hx1 : x = (r.port, r.a) := nodup_inj I.nd hx (LimS.mabs hr) e.symm
        rw [hx1] at hmem
        simp [putOK, ea, show mac ∈ r.a.known from hmem] at bad
      k_steps
      refine pair_int (News.isTup (by k_asm) (by k_mem)) ?_
      rw [hne]
      k_steps
    all_goals
      refine Raise_mine (K := Mine.hd.heap_1 w.params) (C := 64) (by exact hh) ?_
      k_steps
      refine wpAny_call (make64 (by assumption) (by k_asm) (by k_asm) (by k_asm) (by k_asm) (by show Option.map _ A.frames = _; rw [hA]; rfl) rfl rfl (by show A.depth + 1 < 600; first | exact room1 hroom (by decide) | exact room1 hdp (by decide) | omega) (by exact hh) ?_)
      intro e t d h' tk' F' N' l1 l2
      refine ⟨e, t, some d, rfl, (N' _ (.head _)).1, Frag.In.keeps (by k_asm) F'.keep, raises64 w, ?_⟩
      k_unfold
      refine leave_raiseT (news := S.led ++ rest) (by assumption) (by k_asm) N' (fun p hp => by first | exact .tail _ hp | exact .tail _ (.tail _ hp)) l1 l2 ?_
      intro h'' R' U'
      exact ret _ _ _ _ _ _ (by assumption) R' U'
theorem upd_keys {as : ATab} {p : Int} {a : ARow} : (upd as p a).map (·.1) = as.map (·.1) := by
  unfold upd
  rw [List.map_map]
  refine List.map_congr_left fun x _ => ?_
  by_cases h : x.1 = p <;> simp [h]
theorem upd_mem {as : ATab} {p : Int} {a : ARow} {x : Int × ARow} (h : x ∈ upd as p a) : x = (p, a) ∨ (x ∈ as ∧ x.1 ≠ p) := by
  obtain ⟨y, hy, rfl⟩ := List.mem_map.mp h
  by_cases e : y.1 = p
  · rw [if_pos e]; exact .inl rfl
  · rw [if_neg e]; exact .inr ⟨hy, e⟩
theorem inv_nil : Inv [] := ⟨List.nodup_nil, (fun _ h => nomatch h), (fun _ h => nomatch h), (fun _ h => nomatch h), (fun _ h => nomatch h), (fun _ h => nomatch h)⟩
theorem inv_upd {as : ATab} {p : Int} {a a' : ARow} (I : Inv as) (h : at? as p = some a) (m : 1 ≤ a'.most ∧ a'.most ≤ 3) (r : (a'.known.length : Int) ≤ a'.most) (wy : a'.way = "drop" ∨ a'.way = "shut")
    (u : ∀ k ∈ a'.known, k ∈ a.known ∨ ∀ x ∈ as, k ∉ x.2.known) : Inv (upd as p a') := by
  have hp := at_mem h
  have key : ∀ y ∈ as, y.1 ≠ p → ∀ k, k ∈ a'.known → k ∈ y.2.known → False := fun y hy hne k hk hky => by
    rcases u k hk with z | z
    · exact hne (I.uniq y hy (p, a) hp k hky z)
    · exact z y hy hky
  refine ⟨by rw [upd_keys]; exact I.nd, fun x hx => ?_, fun x hx => ?_, fun x hx => ?_, fun x hx => ?_, fun x hx y hy k hkx hky => ?_⟩
  · rcases upd_mem hx with rfl | ⟨hx, _⟩
    · exact I.ports (p, a) hp
    · exact I.ports _ hx
  · rcases upd_mem hx with rfl | ⟨hx, _⟩
    · exact m
    · exact I.most _ hx
  · rcases upd_mem hx with rfl | ⟨hx, _⟩
    · exact r
    · exact I.room _ hx
  · rcases upd_mem hx with rfl | ⟨hx, _⟩
    · exact wy
    · exact I.way _ hx
  · rcases upd_mem hx with rfl | ⟨hx, nx⟩
    · rcases upd_mem hy with rfl | ⟨hy, ny⟩
      · rfl
      · exact (key y hy ny k hkx hky).elim
    · rcases upd_mem hy with rfl | ⟨hy, ny⟩
      · exact (key x hx nx k hky hkx).elim
      · exact I.uniq x hx y hy k hkx hky
theorem inv_same {as : ATab} {p : Int} {a a' : ARow} (I : Inv as) (h : at? as p = some a) (e1 : a'.most = a.most) (e2 : a'.way = a.way) (e3 : a'.known.length ≤ a.known.length) (e4 : ∀ k ∈ a'.known, k ∈ a.known) : Inv (upd as p a') := by
  have hp := at_mem h
  have h1 := I.most _ hp
  have h2 := I.room _ hp
  have h3 := I.way _ hp
  refine inv_upd I h (by rw [e1]; exact h1) ?_ (by rw [e2]; exact h3) fun k hk => .inl (e4 k hk)
  rw [e1]
  have : (a'.known.length : Int) ≤ a.known.length := by omega
  exact Int.le_trans this h2
theorem inv_more {as : ATab} {p mac : Int} {a : ARow} (I : Inv as) (h : at? as p = some a) (f : free as mac = true) (l : (a.known.length : Int) < a.most) : Inv (upd as p { a with known := a.known ++ [mac] }) := by
  have hp := at_mem h
  refine inv_upd I h (I.most _ hp) ?_ (I.way _ hp) fun k hk => ?_
  · simp only [List.length_append, List.length_cons, List.length_nil]; omega
  · rcases List.mem_append.mp hk with z | z
    · exact .inl z
    · rw [List.mem_singleton.mp z]; exact .inr (free_iff.mp f)
theorem inv_asked {as : ATab} {p mac : Int} (I : Inv as) : Inv (askedS as p mac).2 := by
  unfold askedS
  cases h : at? as p with
  | none => exact I
  | some a =>
    dsimp only
    split
    · exact I
    · split
      · exact I
      · split
        · rename_i hc
          rw [Bool.and_eq_true, decide_eq_true_eq] at hc
          exact inv_more I h hc.1 hc.2
        · exact inv_same I h rfl rfl (Nat.le_refl _) fun k hk => hk
theorem inv_put {as : ATab} {p mac : Int} (I : Inv as) (ok : putOK as p mac = true) : Inv (putS as p mac) := by
  unfold putS
  unfold putOK at ok
  cases h : at? as p with
  | none => exact I
  | some a =>
    rw [h] at ok
    dsimp only at ok ⊢
    split
    · exact I
    · rename_i hm
      rw [decide_eq_false hm, Bool.false_or, Bool.and_eq_true, decide_eq_true_eq] at ok
      exact inv_more I h ok.1 ok.2
theorem inv_filter {as : ATab} {f : Int × ARow → Bool} (I : Inv as) : Inv (as.filter f) := by
  have s : ∀ x ∈ as.filter f, x ∈ as := fun x hx => (List.mem_filter.mp hx).1
  exact ⟨I.nd.sublist (List.filter_sublist.map _), fun x hx => I.ports x (s x hx), fun x hx => I.most x (s x hx), fun x hx => I.room x (s x hx), fun x hx => I.way x (s x hx), fun x hx y hy => I.uniq x (s x hx) y (s y hy)⟩
theorem inv_set {as : ATab} {p most : Int} {way : Str} {stay : Bool} (I : Inv as) (hp : 1 ≤ p ∧ p ≤ 4) (hm : 1 ≤ most ∧ most ≤ 3) (hw : way = "drop" ∨ way = "shut") : Inv (setS as p ⟨most, way, stay, (knownS as p).take most.toNat, false⟩) := by
  have hl : (((knownS as p).take most.toNat).length : Int) ≤ most := by
    have := List.length_take_le most.toNat (knownS as p)
    omega
  unfold setS
  cases h : at? as p with
  | some a =>
    have hpm := at_mem h
    rw [if_pos (List.any_eq_true.mpr ⟨_, hpm, by simp⟩)]
    refine inv_upd I h hm hl hw fun k hk => .inl ?_
    have hk' := List.mem_of_mem_take hk
    simpa only [knownS, h] using hk'
  | none =>
    have hn := at_none h
    rw [if_neg (by
      rw [List.any_eq_true]
      rintro ⟨x, hx, e⟩
      exact hn x hx (of_decide_eq_true e))]
    have hk : (knownS as p).take most.toNat = [] := by simp [knownS, h]
    rw [hk]
    have cs : ∀ x ∈ as ++ [(p, (⟨most, way, stay, [], false⟩ : ARow))], x ∈ as ∨ x = (p, ⟨most, way, stay, [], false⟩) := fun x hx => by
      rcases List.mem_append.mp hx with z | z
      · exact .inl z
      · exact .inr (List.mem_singleton.mp z)
    refine ⟨?_, fun x hx => ?_, fun x hx => ?_, fun x hx => ?_, fun x hx => ?_, fun x hx y hy k hkx hky => ?_⟩
    · rw [List.map_append, List.nodup_append]
      refine ⟨I.nd, by simp, fun a ha b hb => ?_⟩
      obtain ⟨x, hx, rfl⟩ := List.mem_map.mp ha
      simp only [List.map_cons, List.map_nil, List.mem_singleton] at hb
      subst hb
      exact hn x hx
    · rcases cs x hx with z | rfl
      · exact I.ports x z
      · exact hp
    · rcases cs x hx with z | rfl
      · exact I.most x z
      · exact hm
    · rcases cs x hx with z | rfl
      · exact I.room x z
      · show ((0 : Nat) : Int) ≤ most
        omega
    · rcases cs x hx with z | rfl
      · exact I.way x z
      · exact hw
    · rcases cs x hx with zx | rfl
      · rcases cs y hy with zy | rfl
        · exact I.uniq x zx y zy k hkx hky
        · exact nomatch hky
      · exact nomatch hkx
theorem at_of_mem {as : ATab} (hn : (as.map (·.1)).Nodup) {p : Int} {a : ARow} (h : (p, a) ∈ as) : at? as p = some a := by
  cases e : at? as p with
  | none => exact absurd rfl (at_none e _ h)
  | some b =>
    have := nodup_inj hn (at_mem e) h rfl
    rw [(Prod.mk.inj this).2]
theorem known_of_mem {as : ATab} (I : Inv as) {x : Int × ARow} (h : x ∈ as) : knownS as x.1 = x.2.known := by
  unfold knownS
  rw [at_of_mem I.nd (p := x.1) (a := x.2) h]
noncomputable def heldL (as : ATab) (mac : Int) (ks : List Int) : List Int := ks.filter fun p => decide (mac ∈ knownS as p)
theorem held_nil {as : ATab} {mac : Int} {ks : List Int} (I : Inv as) (hp : ks.Perm (as.map (·.1))) : heldL as mac ks = [] ↔ free as mac = true := by
  unfold heldL
  rw [List.filter_eq_nil_iff, free_iff]
  constructor
  · intro h x hx
    have := h x.1 (hp.mem_iff.mpr (List.mem_map_of_mem (f := fun x : Int × ARow => x.1) hx))
    rw [known_of_mem I hx] at this
    simpa using this
  · intro h p hpk
    obtain ⟨x, hx, rfl⟩ := List.mem_map.mp (hp.mem_iff.mp hpk)
    have := h x hx
    rw [known_of_mem I hx]
    simpa using this
theorem nodup_one {p : Int} : ∀ {l : List Int}, l.Nodup → p ∈ l → (∀ q ∈ l, q = p) → l = [p]
  | [], _, h, _ => nomatch h
  | [q], _, _, h => by rw [h q (.head _)]
  | q :: r :: l, hn, _, h => by
    have e1 := h q (.head _)
    have e2 := h r (.tail _ (.head _))
    simp only [List.nodup_cons, List.mem_cons, not_or] at hn
    exact absurd (e1.trans e2.symm) hn.1.1
theorem held_one {as : ATab} {mac port : Int} {ks : List Int} (I : Inv as) (hp : ks.Perm (as.map (·.1))) : heldL as mac ks = [port] ↔ mac ∈ knownS as port := by
  constructor
  · intro h
    have : port ∈ heldL as mac ks := by rw [h]; exact .head _
    simpa using (List.mem_filter.mp this).2
  · intro h
    have hx : ∃ a, at? as port = some a ∧ mac ∈ a.known := by
      unfold knownS at h
      cases e : at? as port with
      | none => rw [e] at h; exact nomatch h
      | some a => rw [e] at h; exact ⟨a, rfl, h⟩
    obtain ⟨a, ea, ha⟩ := hx
    have hm := at_mem ea
    refine nodup_one ?_ ?_ ?_
    · exact (hp.nodup_iff.mpr I.nd).sublist List.filter_sublist
    · exact List.mem_filter.mpr ⟨hp.mem_iff.mpr (List.mem_map_of_mem (f := fun x : Int × ARow => x.1) hm), by simpa using h⟩
    · intro q hq
      obtain ⟨hq1, hq2⟩ := List.mem_filter.mp hq
      obtain ⟨x, hx, rfl⟩ := List.mem_map.mp (hp.mem_iff.mp hq1)
      rw [known_of_mem I hx] at hq2
      exact I.uniq x hx _ hm mac (by simpa using hq2) ha
theorem held_take {as : ATab} {mac : Int} {ks : List Int} {i : Nat} {p : Int} (h : ks[i]? = some p) : heldL as mac (ks.take (i + 1)) = heldL as mac (ks.take i) ++ if mac ∈ knownS as p then [p] else [] := by
  unfold heldL
  rw [List.take_succ, h, List.filter_append]
  congr 1
  by_cases hm : mac ∈ knownS as p <;> simp [hm]
theorem held_mem {as : ATab} {mac : Int} {ks : List Int} {p : Int} (I : Inv as) (hp : ks.Perm (as.map (·.1))) : heldL as mac ks = [] → mac ∉ knownS as p := fun h hm => by
  have := (held_one (port := p) I hp).mpr hm
  rw [h] at this
  cases this
theorem putOK_eq {as : ATab} {mac p : Int} : putOK as p mac = match at? as p with | none => false | some a => decide (mac ∈ knownS as p) || (free as mac && decide ((a.known.length : Int) < a.most)) := by
  unfold putOK knownS
  cases at? as p <;> rfl
theorem set_L10 : True := by
  w_top off
  k_with_none
  k_with "way M" => refine' code_defM ?k1 ?k2 ?k3 ?k4 ?k5 ?kA ?kF ?kK ?kD ?k6 ?k7 ?k8 ?k9 ?kB ?_ ?c2 ?c3 ?c4 ?c5; (case kA => assumption); (case kF => assumption); (case kK => assumption); (case kD => assumption); (case k1 => k_asm); (case k2 => k_asm); (case k3 => k_asm); (case k4 => k_asm); (case k5 => k_asm); (case k6 => k_is); (case k7 => k_is); (case k8 => ktr_room); (case k9 => first | exact BindsTo.of_eq rfl | exact binds_K (by k_in) rfl (by k_is) rfl rfl rfl); (case c5 => decide); (case kB => exact locs rfl); (case c2 => exact rfl); (case c3 => exact rfl); (case c4 => exact rfl); k_whole
  k_with "way C" => refine' code_defC ?k1 ?k2 ?k3 ?k4 ?k5 ?kA ?kF ?kK ?k6 ?k7 ?k8 ?k9 ?kB ?kD ?_ ?c2 ?c3 ?c4; (case kA => first | assumption | exact rfl); (case kF => first | assumption | exact rfl); (case kK => assumption); (case k1 => k_asm); (case k2 => k_asm); (case k3 => k_asm); (case k4 => k_asm); (case k5 => k_asm); (case k6 => k_is); (case k7 => k_is); (case k8 => ktr_room); (case k9 => first | exact BindsTo.of_eq rfl | exact binds_K (by k_in) rfl (by k_is) rfl rfl rfl); (case kB => exact rfl); (case kD => decide +kernel); (case c2 => exact rfl); (case c3 => exact rfl); (case c4 => exact rfl); k_whole
  k_with "way D" => refine' code_def ?k1 ?k2 ?k3 ?k4 ?k5 ?kA ?kF ?kK ?k6 ?k7 ?k8 ?k9 ?kB ?_ ?c2 ?c3 ?c4 ?c5; (case kA => first | assumption | exact rfl); (case kF => first | assumption | exact rfl); (case kK => assumption); (case k1 => k_asm); (case k2 => k_asm); (case k3 => k_asm); (case k4 => k_asm); (case k5 => k_asm); (case k6 => k_is); (case k7 => k_is); (case k8 => ktr_room); (case k9 => first | exact BindsTo.of_eq rfl | exact binds_K (by k_in) rfl (by k_is) rfl rfl rfl); (case c5 => decide); (case kB => exact locs rfl); (case c2 => exact rfl); (case c3 => exact rfl); (case c4 => exact rfl); k_whole
  k_with "way CM" => refine' code_defCM ?k1 ?k2 ?k3 ?k4 ?k5 ?kA ?kF ?kK ?kE ?k6 ?k7 ?k8 ?k9 ?kB ?kD ?_ ?c2 ?c3 ?c4; (case kA => assumption); (case kF => assumption); (case kK => assumption); (case kE => assumption); (case k1 => k_asm); (case k2 => k_asm); (case k3 => k_asm); (case k4 => k_asm); (case k5 => k_asm); (case k6 => k_is); (case k7 => k_is); (case k8 => ktr_room); (case k9 => first | exact BindsTo.of_eq rfl | exact binds_K (by k_in) rfl (by k_is) rfl rfl rfl); (case kB => exact rfl); (case kD => decide +kernel); (case c2 => exact rfl); (case c3 => exact rfl); (case c4 => exact rfl); k_whole
  k_with "exec For Name Call cons nil" => (k_here; (with_unfolding_all refine' For_invVF (by k_asm) (by exact rfl) (by exact rfl) ?_; k_whole))
  k_with "unpackItems ref" => (k_here; k_dflt (refine' unpackItemsN_ (by k_asm) (by k_asm) (by kun_tup) (by assumption) (by exact rfl) ?_; k_whole); intro _ _ _; (try k_sweep))
  k_with "subscriptTail Name Name ref int" => ((with_reducible first | show wpAny _ _ (subscriptTail _ _ (Value.ref (LimS.aR _)) _) _ _ _ | show wpAny _ _ (subscriptTail _ _ (Value.ref (BookS.aB _)) _) _ _ _); refine stop_here ?_)
  k_with "compareOp In int ref" => ((with_reducible first | show wpAny _ _ (compareOp _ _ (Value.ref (LimS.aR _))) _ _ _ | show wpAny _ _ (compareOp _ _ (Value.ref (BookS.aB _))) _ _ _ | show wpAny _ _ (compareOp _ _ (Value.ref (LRow.kA _))) _ _ _ | show wpAny _ _ (compareOp _ _ (Value.ref (BRow.kA _))) _ _ _); refine stop_here ?_)
  k_with "compareOp NotIn int ref" => ((with_reducible first | show wpAny _ _ (compareOp _ _ (Value.ref (LimS.aR _))) _ _ _ | show wpAny _ _ (compareOp _ _ (Value.ref (BookS.aB _))) _ _ _ | show wpAny _ _ (compareOp _ _ (Value.ref (LRow.kA _))) _ _ _ | show wpAny _ _ (compareOp _ _ (Value.ref (BRow.kA _))) _ _ _); refine stop_here ?_)
  k_with "getMethod ref" => ((with_reducible first | show wpAny _ _ (getMethod (Value.ref (LimS.aR _)) _ _) _ _ _ | show wpAny _ _ (getMethod (Value.ref (BookS.aB _)) _ _) _ _ _); refine stop_here ?_)
  k_with "call builtin:len" => ((with_reducible first | show wpAny _ _ (call _ [Value.ref (LRow.kA _)]) _ _ _ | show wpAny _ _ (call _ [Value.ref (BRow.kA _)]) _ _ _); refine stop_here ?_)
  k_with "call ref" => ((with_reducible first | show wpAny _ _ (call (Value.ref 124) [Value.ref (LimS.aL _), _]) _ _ _); refine stop_here ?_)
  k_with "subscriptTail Name Slice ref ref" => refine stop_here ?_
  k_with "subscriptTail Attribute Name Name ref int" => ((with_reducible show wpAny _ _ (subscriptTail _ _ (Value.ref (LimS.aR _)) _) _ _ _); k_dflt (refine kba_turn (value' := PySem.Expr.Name (PySem.Str.ofString "_") ⟨0, 0, 0, 0⟩) (fun _ => rfl) ?_))
  k_with "subscriptTail Attribute Name ref int" => ((with_reducible show wpAny _ _ (subscriptTail _ _ (Value.ref (LimS.aR _)) _) _ _ _); k_dflt (refine kba_turn (value' := PySem.Expr.Name (PySem.Str.ofString "_") ⟨0, 0, 0, 0⟩) (fun _ => rfl) ?_))
  k_with "subscriptTail Subscript Subscript" => ((with_reducible show wpAny _ _ (subscriptTail _ _ (Value.ref (BRow.kA _)) _) _ _ _); k_dflt (refine kba_turn (value' := PySem.Expr.Name (PySem.Str.ofString "_") ⟨0, 0, 0, 0⟩) (fun _ => rfl) ?_))
  k_with "exec Raise" => refine stop_here ?_
  k_with "subscriptTail Subscript Name Name Constant ref int" => ((with_reducible show wpAny _ _ (subscriptTail _ _ (Value.ref (BRow.bA _)) _) _ _ _); k_dflt (refine item_at (vs := BRow.items _) (News.isList (by k_asm) (by k_mem)) (by decide) (by decide) rfl ?_))
  k_with "subscriptTail Name Constant ref int" => ((with_reducible show wpAny _ _ (subscriptTail _ _ (Value.ref (BRow.bA _)) _) _ _ _); k_dflt (refine item_at (vs := BRow.items _) (News.isList (by k_asm) (by k_mem)) (by decide) (by decide) rfl ?_))
  trivial
theorem takeA {w : World} {A A₀ : Around} {env : Env} {outer : List Env} {base h₀ : Heap} {L : Addr} {m : Str → Option Value} {s : Shared} {R : Result → Shared → Prop}
    {loose : List Str} {mean : ExcName → Option Value} {mg mb : Str → Option Value} {rest : List (Addr × Obj)} {aS : Addr} {x y top : Int} {tx ty tt n : Nat}
    (B : Below A₀ base outer h₀) (F : Fr h₀ L s.heap m) (X : (Mine.hd.heap_1 w.params).In h₀) (N : News h₀ L s.heap ((aS, srcObj x y tx ty n) :: rest)) (T : Top topProg loose mean mg mb h₀) (hA : A.frames = some (env :: outer)) (hf : env.frame = some L) (hke : env.scope.kind = .function) (hroom : A.depth < 700)
    (off : OwnOff rest [aS]) (hx : 0 ≤ x) (hy0 : 0 ≤ y) (hy : y < 2147483647) (ht : 2 ≤ top) (ht' : top ≤ 12)
    (ret : ∀ r tr x' y' tx' ty' n' h' tk', Fr h₀ L h' m → News h₀ L h' ((aS, srcObj x' y' tx' ty' n') :: rest) → 0 ≤ x' → 0 ≤ y' → y' < 2147483647 → 0 ≤ r → r < top → R (.ok (.ret (.int r tr))) { s with heap := h', toks := tk' }) :
    codeAny (model PR w) A (.call (.ref 218) ⟨[.ref aS, .int top tt], []⟩) R s := by
  have ht0 : 0 < top := by omega
  first | k_dflt ktr_enter | fail "no way in"
  k_steps
  · exact ret _ _ _ _ _ _ _ _ _ (by k_asm) (by k_asm) (fdiv_lo _ _ hx ht0) hy0 hy (fmod_lo _ _ ht0) (fmod_hi _ _ ht0)
  · refine mul_int ?_ (PySem.IntMulOk.of_left (PySem.intBits_le_64 ?_ ?_))
    rotate_left
    · have := fmod_lo (y * 39373 + 7) 2147483647 (by omega)
      show -(2 ^ 64) < (y * 39373 + 7).fmod 2147483647
      omega
    · have := fmod_hi (y * 39373 + 7) 2147483647 (by omega)
      show (y * 39373 + 7).fmod 2147483647 < 2 ^ 64
      omega
    k_steps
    exact ret _ _ _ _ _ _ _ _ _ (by k_asm) (by k_asm) hx (fmod_lo _ _ (by omega)) (fmod_hi _ _ (by omega)) (fmod_lo _ _ ht0) (fmod_hi _ _ ht0)
theorem len_v {prog : Program} {w : World} {A : Around} {E : Value → Shared → Prop} {s : Shared} {h₀ : Heap} {L D : Addr} {news : List (Addr × Obj)} {vs : List Value} {n : Nat} {Q : Value → Shared → Prop} (N : News h₀ L s.heap news) (hm : (D, listOf vs.toArray n) ∈ news) (hz : vs.length ≤ 64) (h : Q (.int vs.length (s.toks + 1)) { s with toks := s.toks + 1 + 1 }) : wpAny (model prog w) A (call (.builtin "len") [.ref D]) Q E s :=
  kun_lenL (PySem.IsL.isList (n := n) (N _ hm).1) (by simp) (by omega) h
theorem oneA {w : World} {A A₀ : Around} {env : Env} {outer : List Env} {base h₀ : Heap} {L : Addr} {m : Str → Option Value} {s : Shared} {R : Result → Shared → Prop}
    {loose : List Str} {mean : ExcName → Option Value} {mg mb : Str → Option Value} {rest : List (Addr × Obj)} {aS aT : Addr} {x y : Int} {tx ty n nT : Nat} {vs : List Value}
    (B : Below A₀ base outer h₀) (F : Fr h₀ L s.heap m) (X : (Mine.hd.heap_1 w.params).In h₀) (N : News h₀ L s.heap ((aS, srcObj x y tx ty n) :: rest)) (T : Top topProg loose mean mg mb h₀) (hA : A.frames = some (env :: outer)) (hf : env.frame = some L) (hke : env.scope.kind = .function) (hroom : A.depth < 690)
    (off : OwnOff rest [aS]) (hx : 0 ≤ x) (hy0 : 0 ≤ y) (hy : y < 2147483647) (hT : (aT, listOf vs.toArray nT) ∈ rest) (h2 : 2 ≤ vs.length) (h12 : vs.length ≤ 12)
    (ret : ∀ v x' y' tx' ty' n' h' tk', Fr h₀ L h' m → News h₀ L h' ((aS, srcObj x' y' tx' ty' n') :: rest) → 0 ≤ x' → 0 ≤ y' → y' < 2147483647 → v ∈ vs → R (.ok (.ret v)) { s with heap := h', toks := tk' }) :
    codeAny (model PR w) A (.call (.ref 225) ⟨[.ref aS, .ref aT], []⟩) R s := by
  first | k_dflt ktr_enter | fail "no way in"
  k_steps
  refine len_v (by k_asm) (List.mem_cons_of_mem _ hT) (by omega) ?_
  k_steps
  refine wpAny_call (takeA (by assumption) (by k_asm) (by k_asm) (by k_asm) (by k_asm) (by show Option.map _ A.frames = _; rw [hA]; rfl) rfl rfl (by show A.depth + 1 < 700; first | exact room1 hroom (by decide) | exact room1 hdp (by decide) | omega) (by assumption) hx hy0 hy (by omega) (by omega) ?_)
  intro r tr x' y' tx' ty' n' h' tk' F' N' hx' hy0' hy' hr0 hr1
  dsimp only
  obtain ⟨j, hj⟩ : ∃ j : Nat, r = j := ⟨r.toNat, by omega⟩
  subst hj
  have hjl : j < vs.length := by omega
  refine kim_list (x := vs[j]) (by k_asm) (List.mem_cons_of_mem _ hT) rfl rfl (by omega) (by omega) (by simp [hjl]) ?_ (by with_unfolding_all rfl) (by intro _; with_unfolding_all rfl)
  k_steps
  exact ret _ _ _ _ _ _ _ _ (by k_asm) (by k_asm) hx' hy0' hy' (List.getElem_mem _)
section
/-- a row of the law's own book, with where it lies -/
structure BRow where
  port : Int
  a : ARow
  bA : Addr
  kA : Addr
  vs : List Value
  ok : IntsAre vs a.known
  tm : Nat
  tw : Nat
  bn : Nat
  kn : Nat
noncomputable abbrev BRow.obj (r : BRow) : Obj := listOf #[.int r.a.most r.tm, .str r.a.way r.tw, .bool r.a.stay, .ref r.kA, .bool r.a.shut] r.bn
noncomputable abbrev BRow.items (r : BRow) : List Value := [.int r.a.most r.tm, .str r.a.way r.tw, .bool r.a.stay, .ref r.kA, .bool r.a.shut]
noncomputable def BRow.led (r : BRow) : List (Addr × Obj) := [(r.bA, r.obj), (r.kA, listOf r.vs.toArray r.kn)]
noncomputable def kvsB (rows : List BRow) : List (Int × Value) := rows.map fun r => (r.port, .ref r.bA)
structure BookS (w : World) where
  aB : Addr
  oB : Obj
  rows : List BRow
  hd : oB.IsDictOf (intKind PR w) (kvsB rows)
  lo : (aB == sysModules) = false
noncomputable def BRow.abs (r : BRow) : Int × ARow := (r.port, r.a)
noncomputable def BookS.abs {w : World} (S : BookS w) : ATab := S.rows.map BRow.abs
noncomputable def BookS.led {w : World} (S : BookS w) : List (Addr × Obj) := (S.aB, S.oB) :: S.rows.flatMap BRow.led
section
variable {w : World} {S : BookS w} {rest : List (Addr × Obj)}
theorem BookS.mB : (S.aB, S.oB) ∈ S.led ++ rest := .head _
theorem BookS.mrow {r : BRow} (h : r ∈ S.rows) {p : Addr × Obj} (hp : p ∈ r.led) : p ∈ S.led ++ rest :=
  List.mem_append_left _ (.tail _ (List.mem_flatMap.mpr ⟨r, h, hp⟩))
theorem BookS.m1 {r : BRow} (h : r ∈ S.rows) : (r.bA, r.obj) ∈ S.led ++ rest := BookS.mrow h (.head _)
theorem BookS.m2 {r : BRow} (h : r ∈ S.rows) : (r.kA, listOf r.vs.toArray r.kn) ∈ S.led ++ rest := BookS.mrow h (.tail _ (.head _))
theorem BookS.mabs {r : BRow} (h : r ∈ S.rows) : (r.port, r.a) ∈ S.abs := List.mem_map_of_mem (f := BRow.abs) h
end
theorem kvsB_at {rows : List BRow} (hn : (rows.map (·.port)).Nodup) {r : BRow} (hr : r ∈ rows) : valueAt (kvsB rows) r.port = some (.ref r.bA) := by
  induction rows with
  | nil => cases hr
  | cons q rest ih =>
    simp only [List.map_cons, List.nodup_cons] at hn
    unfold valueAt kvsB
    rw [List.map_cons, List.find?_cons]
    rcases List.mem_cons.mp hr with rfl | hr
    · simp
    · have hne : q.port ≠ r.port := fun e => hn.1 (e ▸ List.mem_map_of_mem hr)
      simp only [hne, decide_false]
      exact ih hn.2 hr
theorem kvsB_none {rows : List BRow} {p : Int} (h : ∀ r ∈ rows, r.port ≠ p) : valueAt (kvsB rows) p = none := by
  unfold valueAt kvsB
  rw [Option.map_eq_none_iff, List.find?_eq_none]
  intro x hx
  obtain ⟨r, hr, rfl⟩ := List.mem_map.mp hx
  simpa using h r hr
theorem kvsB_keys (rows : List BRow) : (kvsB rows).map (·.1) = rows.map (·.port) := by simp [kvsB]
theorem BookS.nd {w : World} {S : BookS w} (I : Inv S.abs) : (S.rows.map (·.port)).Nodup := by
  have := I.nd
  unfold BookS.abs at this
  rw [List.map_map] at this
  exact this
theorem BookS.len {w : World} {S : BookS w} (I : Inv S.abs) : S.rows.length ≤ 4 := by
  have := I.len
  unfold BookS.abs at this
  rwa [List.length_map] at this
theorem BookS.row {w : World} {S : BookS w} {p : Int} {a : ARow} (h : at? S.abs p = some a) : ∃ r ∈ S.rows, r.port = p ∧ r.a = a := by
  obtain ⟨r, hr, e⟩ := List.mem_map.mp (at_mem h)
  exact ⟨r, hr, (Prod.mk.inj e).1, (Prod.mk.inj e).2⟩
theorem BookS.val {w : World} {S : BookS w} (I : Inv S.abs) (p : Int) : (at? S.abs p = none ∧ valueAt (kvsB S.rows) p = none) ∨ ∃ r ∈ S.rows, r.port = p ∧ at? S.abs p = some r.a ∧ valueAt (kvsB S.rows) p = some (.ref r.bA) := by
  cases h : at? S.abs p with
  | none => exact .inl ⟨rfl, kvsB_none fun r hr => at_none h _ (List.mem_map_of_mem (f := BRow.abs) hr)⟩
  | some a =>
    obtain ⟨r, hr, h1, h2⟩ := BookS.row h
    exact .inr ⟨r, hr, h1, by rw [h2], h1 ▸ kvsB_at (BookS.nd I) hr⟩
theorem upd_offB {l : List BRow} {p : Int} {a : ARow} (h : ∀ q ∈ l, q.port ≠ p) : upd (l.map BRow.abs) p a = l.map BRow.abs := by
  unfold upd
  rw [List.map_map]
  refine List.map_congr_left fun q hq => ?_
  simp [BRow.abs, h q hq]
theorem BookS.put {w : World} {S : BookS w} {rest : List (Addr × Obj)} {r : BRow} (I : Inv S.abs) (hr : r ∈ S.rows) (hn : Apart (S.led ++ rest)) (r' : BRow) (hp : r'.port = r.port) (h1 : r'.bA = r.bA) (h3 : r'.kA = r.kA ∨ ∀ p ∈ S.led ++ rest, p.1 ≠ r'.kA) :
    ∃ S' : BookS w, S'.aB = S.aB ∧ S'.abs = upd S.abs r.port r'.a ∧ Apart (S'.led ++ rest) ∧ ∀ p ∈ S'.led ++ rest, p ∈ r'.led ∨ (p ∈ S.led ++ rest ∧ p.1 ≠ r.bA ∧ p.1 ≠ r.kA) := by
  have hnd := BookS.nd I
  obtain ⟨aB, oB, rows, hd, lo⟩ := S
  obtain ⟨l1, l2, rfl⟩ := List.append_of_mem hr
  simp only [List.map_append, List.map_cons, List.nodup_append, List.nodup_cons, List.mem_cons] at hnd
  have o1 : ∀ q ∈ l1, q.port ≠ r.port := fun q hq => hnd.2.2 _ (List.mem_map_of_mem hq) _ (.inl rfl)
  have o2 : ∀ q ∈ l2, q.port ≠ r.port := fun q hq e => hnd.2.1.1 (e ▸ List.mem_map_of_mem (f := fun r : BRow => r.port) hq)
  refine ⟨⟨aB, oB, l1 ++ r' :: l2, ?_, lo⟩, rfl, ?_, ?_, ?_⟩
  · simpa [kvsB, hp, h1] using hd
  · show (l1 ++ r' :: l2).map BRow.abs = upd ((l1 ++ r :: l2).map BRow.abs) r.port r'.a
    have e1 := upd_offB (a := r'.a) o1
    have e2 := upd_offB (a := r'.a) o2
    unfold upd at e1 e2 ⊢
    simp only [List.map_append, List.map_cons] at e1 e2 ⊢
    rw [e1, e2]
    simp [BRow.abs, hp]
  · have hn' := hn
    simp only [BookS.led, Apart, List.flatMap_append, List.flatMap_cons, BRow.led, List.map_append, List.map_cons, List.cons_append, List.nil_append, List.append_assoc, h1] at hn' ⊢
    rcases h3 with h3 | h3
    · rw [h3]; exact hn'
    · have := nodup_swap (b := r'.kA) (x := aB :: ((l1.flatMap BRow.led).map (·.1) ++ [r.bA])) (a := r.kA) (y := (l2.flatMap BRow.led).map (·.1) ++ rest.map (·.1)) (by simpa [BRow.led] using hn') (fun hm => by
        have hm' : r'.kA ∈ ((BookS.led ⟨aB, oB, l1 ++ r :: l2, hd, lo⟩ ++ rest).map (·.1)) := by
          simpa [BookS.led, BRow.led] using hm
        obtain ⟨p, hp, e⟩ := List.mem_map.mp hm'
        exact h3 p hp e)
      simpa [BRow.led] using this
  · intro p hp'
    have hn' : Apart (((aB, oB) :: (l1.flatMap BRow.led)) ++ (r.led ++ (l2.flatMap BRow.led ++ rest))) := by
      simpa [BookS.led] using hn
    have h' : p ∈ ((aB, oB) :: (l1.flatMap BRow.led)) ++ (r'.led ++ (l2.flatMap BRow.led ++ rest)) := by
      simpa [BookS.led] using hp'
    rcases led_split hn' h' with h | ⟨h, ho⟩
    · exact .inl h
    · exact .inr ⟨by simpa [BookS.led] using h, ho (r.bA, _) (.head _), ho (r.kA, _) (.tail _ (.head _))⟩
theorem BookS.drop {w : World} {S : BookS w} {rest : List (Addr × Obj)} {port : Int} {oB : Obj} (hn : Apart (S.led ++ rest)) (hd : oB.IsDictOf (intKind PR w) (without (kvsB S.rows) port)) :
    ∃ S' : BookS w, S'.aB = S.aB ∧ S'.abs = S.abs.filter (fun x => decide (x.1 ≠ port)) ∧ Apart (S'.led ++ rest) ∧ ∀ p ∈ S'.led ++ rest, p = (S.aB, oB) ∨ (p ∈ S.led ++ rest ∧ p.1 ≠ S.aB) := by
  obtain ⟨aB, oB0, rows, hd0, lo⟩ := S
  have sub : (rows.filter fun r => decide (r.port ≠ port)).flatMap BRow.led |>.Sublist (rows.flatMap BRow.led) := by
    clear hd hd0 hn
    induction rows with
    | nil => exact .slnil
    | cons r l ih =>
      rw [List.filter_cons]
      split
      · simp only [List.flatMap_cons]
        exact (List.Sublist.refl _).append ih
      · simp only [List.flatMap_cons]
        exact ih.trans (List.sublist_append_right _ _)
  refine ⟨⟨aB, oB, rows.filter fun r => decide (r.port ≠ port), ?_, lo⟩, rfl, ?_, ?_, ?_⟩
  · have e : without (kvsB rows) port = kvsB (rows.filter fun r => decide (r.port ≠ port)) := by
      unfold without kvsB
      rw [List.filter_map]
      rfl
    rw [← e]; exact hd
  · show (rows.filter fun r => decide (r.port ≠ port)).map BRow.abs = (rows.map BRow.abs).filter _
    rw [List.filter_map]
    rfl
  · unfold Apart BookS.led at hn ⊢
    simp only [List.cons_append, List.map_cons, List.map_append] at hn ⊢
    exact hn.sublist (.cons₂ _ ((sub.map _).append (List.Sublist.refl _)))
  · intro p hp
    unfold BookS.led at hp hn ⊢
    simp only [List.cons_append, List.mem_cons, List.mem_append] at hp ⊢
    unfold Apart at hn
    simp only [List.cons_append, List.map_cons, List.nodup_cons] at hn
    rcases hp with rfl | hp
    · exact .inl rfl
    · have hp' : p ∈ rows.flatMap BRow.led ++ rest := by
        rcases hp with h | h
        · exact List.mem_append_left _ (sub.subset h)
        · exact List.mem_append_right _ h
      refine .inr ⟨.inr (List.mem_append.mp hp'), fun e => hn.1 (e ▸ List.mem_map_of_mem (f := Prod.fst) hp')⟩
theorem BookS.set {w : World} {S : BookS w} {rest : List (Addr × Obj)} (I : Inv S.abs) (hn : Apart (S.led ++ rest)) (r' : BRow) {oB : Obj} (hd : oB.IsDictOf (intKind PR w) (stored (kvsB S.rows) r'.port (.ref r'.bA)))
    (f1 : ∀ p ∈ S.led ++ rest, p.1 ≠ r'.bA) (f3 : ∀ p ∈ S.led ++ rest, p.1 ≠ r'.kA) (n2 : r'.bA ≠ r'.kA) :
    ∃ S' : BookS w, S'.aB = S.aB ∧ S'.abs = setS S.abs r'.port r'.a ∧ Apart (S'.led ++ rest) ∧ ∀ p ∈ S'.led ++ rest, p = (S.aB, oB) ∨ p ∈ r'.led ∨ (p ∈ S.led ++ rest ∧ p.1 ≠ S.aB) := by
  have hnd := BookS.nd I
  obtain ⟨aB, oB0, rows, hd0, lo⟩ := S
  have main : ∀ l1 l2 : List BRow, (∀ p ∈ l1.flatMap BRow.led ++ (l2.flatMap BRow.led ++ rest), p ∈ rows.flatMap BRow.led ++ rest) →
      Apart ((aB, oB) :: (l1.flatMap BRow.led ++ (l2.flatMap BRow.led ++ rest))) →
      oB.IsDictOf (intKind PR w) (kvsB (l1 ++ r' :: l2)) → (l1 ++ r' :: l2).map BRow.abs = setS (rows.map BRow.abs) r'.port r'.a →
      ∃ S' : BookS w, S'.aB = aB ∧ S'.abs = setS (rows.map BRow.abs) r'.port r'.a ∧ Apart (S'.led ++ rest) ∧ ∀ p ∈ S'.led ++ rest, p = (aB, oB) ∨ p ∈ r'.led ∨ (p ∈ (BookS.led ⟨aB, oB0, rows, hd0, lo⟩ ++ rest) ∧ p.1 ≠ aB) := by
    intro l1 l2 hsub hap hd' habs
    refine ⟨⟨aB, oB, l1 ++ r' :: l2, hd', lo⟩, rfl, habs, ?_, ?_⟩
    · have key : ∀ a : Addr, (∀ p ∈ (BookS.led ⟨aB, oB0, rows, hd0, lo⟩ ++ rest), p.1 ≠ a) → a ∉ (((aB, oB) :: (l1.flatMap BRow.led ++ (l2.flatMap BRow.led ++ rest))).map (·.1)) := by
        intro a ha hm
        obtain ⟨p, hp, rfl⟩ := List.mem_map.mp hm
        simp only [List.mem_cons] at hp
        rcases hp with rfl | hp
        · exact ha (aB, oB0) BookS.mB rfl
        · refine ha p ?_ rfl
          unfold BookS.led
          have := hsub p hp
          simp only [List.cons_append, List.mem_cons]
          exact .inr this
      have g1 := key _ f1
      have g3 := key _ f3
      have perm : (((BookS.led ⟨aB, oB, l1 ++ r' :: l2, hd', lo⟩ ++ rest).map (·.1))).Perm (r'.bA :: r'.kA :: (((aB, oB) :: (l1.flatMap BRow.led ++ (l2.flatMap BRow.led ++ rest))).map (·.1))) := by
        have e : (BookS.led ⟨aB, oB, l1 ++ r' :: l2, hd', lo⟩ ++ rest) = ((aB, oB) :: l1.flatMap BRow.led) ++ ([(r'.bA, r'.obj), (r'.kA, listOf r'.vs.toArray r'.kn)] ++ (l2.flatMap BRow.led ++ rest)) := by
          simp [BookS.led, BRow.led]
        rw [e]
        refine ((List.perm_append_comm_assoc _ _ _).map _).trans ?_
        simp
      refine (perm.nodup_iff).mpr ?_
      simp only [List.nodup_cons, List.mem_cons, not_or]
      exact ⟨⟨n2, by simpa using g1⟩, by simpa using g3, by simpa [Apart] using hap⟩
    · intro p hp
      have hp' : p = (aB, oB) ∨ p ∈ r'.led ∨ p ∈ l1.flatMap BRow.led ++ (l2.flatMap BRow.led ++ rest) := by
        simp only [BookS.led, List.flatMap_append, List.flatMap_cons, List.cons_append, List.mem_cons, List.mem_append] at hp ⊢
        grind
      unfold Apart at hap
      simp only [List.map_cons, List.nodup_cons] at hap
      rcases hp' with rfl | h | h
      · exact .inl rfl
      · exact .inr (.inl h)
      · refine .inr (.inr ⟨?_, fun e => hap.1 (e ▸ List.mem_map_of_mem (f := Prod.fst) h)⟩)
        unfold BookS.led
        simp only [List.cons_append, List.mem_cons]
        exact .inr (hsub p h)
  by_cases hp : ∃ r ∈ rows, r.port = r'.port
  · obtain ⟨r, hr, hrp⟩ := hp
    obtain ⟨l1, l2, rfl⟩ := List.append_of_mem hr
    simp only [List.map_append, List.map_cons, List.nodup_append, List.nodup_cons, List.mem_cons] at hnd
    have o1 : ∀ q ∈ l1, q.port ≠ r'.port := fun q hq => hrp ▸ hnd.2.2 _ (List.mem_map_of_mem hq) _ (.inl rfl)
    have o2 : ∀ q ∈ l2, q.port ≠ r'.port := fun q hq e => hnd.2.1.1 (hrp ▸ e ▸ List.mem_map_of_mem (f := fun r : BRow => r.port) hq)
    have e1 := upd_offB (a := r'.a) o1
    have e2 := upd_offB (a := r'.a) o2
    unfold upd at e1 e2
    refine main l1 l2 ?_ ?_ ?_ ?_
    · intro p hp
      simp only [List.flatMap_append, List.flatMap_cons, List.mem_append] at hp ⊢
      grind
    · unfold Apart BookS.led at hn
      unfold Apart
      simp only [List.map_cons, List.map_append, List.flatMap_append, List.flatMap_cons, List.cons_append, List.append_assoc] at hn ⊢
      exact hn.sublist (.cons₂ _ ((List.Sublist.refl _).append (List.sublist_append_right _ _)))
    · have e : stored (kvsB (l1 ++ r :: l2)) r'.port (.ref r'.bA) = kvsB (l1 ++ r' :: l2) := by
        have m1 : ∀ l : List BRow, (∀ q ∈ l, q.port ≠ r'.port) → (kvsB l).map (fun kv => if kv.1 = r'.port then (kv.1, Value.ref r'.bA) else kv) = kvsB l := by
          intro l hl
          unfold kvsB
          rw [List.map_map]
          refine List.map_congr_left fun q hq => ?_
          simp [hl q hq]
        have s1 : kvsB (l1 ++ r :: l2) = kvsB l1 ++ (r.port, .ref r.bA) :: kvsB l2 := by simp [kvsB]
        have s2 : kvsB (l1 ++ r' :: l2) = kvsB l1 ++ (r'.port, .ref r'.bA) :: kvsB l2 := by simp [kvsB]
        unfold stored
        rw [s1, s2, if_pos (by simp [hrp])]
        simp only [List.map_append, List.map_cons]
        rw [m1 l1 o1, m1 l2 o2]
        simp [hrp]
      rw [← e]; exact hd
    · unfold setS
      rw [if_pos (by simp [BRow.abs, hrp])]
      unfold upd
      simp only [List.map_append, List.map_cons] at e1 e2 ⊢
      rw [e1, e2]
      simp [BRow.abs, hrp]
  · have o1 : ∀ q ∈ rows, q.port ≠ r'.port := fun q hq e => hp ⟨q, hq, e⟩
    refine main rows [] ?_ ?_ ?_ ?_
    · intro p hp
      simpa using hp
    · simpa [BookS.led, Apart] using hn
    · have e : stored (kvsB rows) r'.port (.ref r'.bA) = kvsB (rows ++ [r']) := by
        unfold stored
        rw [if_neg]
        · simp [kvsB]
        · simp only [List.any_eq_true, not_exists, not_and]
          intro x hx
          obtain ⟨q, hq, rfl⟩ := List.mem_map.mp hx
          simpa using o1 q hq
      rw [← e]; exact hd
    · unfold setS
      rw [if_neg]
      · simp [BRow.abs]
      · simp only [List.any_eq_true, not_exists, not_and]
        intro x hx
        obtain ⟨q, hq, rfl⟩ := List.mem_map.mp hx
        exact fun h => o1 q hq (of_decide_eq_true h)
theorem item_at {prog : Program} {w : World} {A : Around} {E : Value → Shared → Prop} {s : Shared} {value slice : PySem.Expr} {l : Addr} {vs : List Value} {k : Int} {u : Tok} {v : Value} {Q : Value → Shared → Prop}
    (hl : s.heap.IsList l vs.toArray) (h0 : 0 ≤ k) (hhi : k < 2 ^ 63) (hx : vs[k.toNat]? = some v) (h : Q v s)
    (hs : subscripted slice false (.ref l) (.int k u) = operate [.ref l, .int k u] (getItem (.ref l) (.int k u)) := by with_unfolding_all rfl) :
    wpAny (model prog w) A (subscriptTail value slice (.ref l) (.int k u)) Q E s :=
  tail_any hl.typeIs slot_list_getitem.lookup (wpAny_getItem_list hl h0 hhi (by simpa using hx) h) hs
end
theorem mem_off' {old pre : List (Addr × Obj)} {a : Addr} {p : Addr × Obj} (h : p ∈ old) (hne : p.1 ≠ a) : p ∈ (pre ++ old).filter fun p => p.1 != a := mem_off (List.mem_append_right _ h) hne
theorem BookS.ne {w : World} {S : BookS w} {rest : List (Addr × Obj)} (I : Inv S.abs) {r : BRow} (hr : r ∈ S.rows) (hn : Apart (S.led ++ rest)) : r.bA ≠ r.kA := by
  obtain ⟨aB, oB, rows, hd, lo⟩ := S
  obtain ⟨l1, l2, rfl⟩ := List.append_of_mem hr
  intro e
  simp only [BookS.led, Apart, List.flatMap_append, List.flatMap_cons, BRow.led, List.map_append, List.map_cons, List.map_nil, List.cons_append, List.nil_append, List.append_assoc, List.nodup_cons, List.nodup_append] at hn
  exact hn.2.2.1.1 (by rw [e]; exact .head _)
theorem BookS.put_list {w : World} {S : BookS w} {rest : List (Addr × Obj)} (pre : List (Addr × Obj)) {r : BRow} {h₀ h : Heap} {L : Addr} (I : Inv S.abs) (hr : r ∈ S.rows) (hn : Apart (S.led ++ rest)) (r' : BRow)
    (N : News h₀ L h ((r.kA, listOf r'.vs.toArray r'.kn) :: (pre ++ (S.led ++ rest)).filter fun p => p.1 != r.kA)) (hp : r'.port = r.port) (h1 : r'.bA = r.bA) (h3 : r'.kA = r.kA) (h4 : r'.obj = r.obj) :
    ∃ S' : BookS w, S'.aB = S.aB ∧ S'.abs = upd S.abs r.port r'.a ∧ Apart (S'.led ++ rest) ∧ News h₀ L h (S'.led ++ rest) := by
  obtain ⟨S', e1, e2, e3, e4⟩ := BookS.put I hr hn r' hp h1 (.inl h3)
  refine ⟨S', e1, e2, e3, kst_newsOf N fun p hp => ?_⟩
  rcases e4 p hp with h | ⟨h, n1, n2⟩
  · simp only [BRow.led, List.mem_cons, List.not_mem_nil, or_false] at h
    rcases h with rfl | rfl
    · rw [h1, h4]; exact .tail _ (mem_off' (BookS.m1 hr) (BookS.ne I hr hn))
    · rw [h3]; exact .head _
  · exact .tail _ (mem_off' h n2)
theorem BookS.put_row {w : World} {S : BookS w} {rest : List (Addr × Obj)} (pre : List (Addr × Obj)) {r : BRow} {h₀ h : Heap} {L : Addr} (I : Inv S.abs) (hr : r ∈ S.rows) (hn : Apart (S.led ++ rest)) (r' : BRow)
    (N : News h₀ L h ((r.bA, r'.obj) :: (pre ++ (S.led ++ rest)).filter fun p => p.1 != r.bA)) (hp : r'.port = r.port) (h1 : r'.bA = r.bA) (h3 : r'.kA = r.kA) (h4 : r'.vs = r.vs) (h5 : r'.kn = r.kn) :
    ∃ S' : BookS w, S'.aB = S.aB ∧ S'.abs = upd S.abs r.port r'.a ∧ Apart (S'.led ++ rest) ∧ News h₀ L h (S'.led ++ rest) := by
  obtain ⟨S', e1, e2, e3, e4⟩ := BookS.put I hr hn r' hp h1 (.inl h3)
  refine ⟨S', e1, e2, e3, kst_newsOf N fun p hp => ?_⟩
  rcases e4 p hp with h | ⟨h, n1, n2⟩
  · simp only [BRow.led, List.mem_cons, List.not_mem_nil, or_false] at h
    rcases h with rfl | rfl
    · rw [h1]; exact .head _
    · rw [h3, h4, h5]; exact .tail _ (mem_off' (BookS.m2 hr) (BookS.ne I hr hn).symm)
  · exact .tail _ (mem_off' h n1)
theorem setat_c {prog : Program} {w : World} {A : Around} {E : Value → Shared → Prop} {s : Shared} {h₀ : Heap} {L D : Addr} {m : Str → Option Value} {news : List (Addr × Obj)} {vs : List Value} {n : Nat} {k : Int} {t : Tok} {v : Value} {Q : Unit → Shared → Prop}
    (F : Fr h₀ L s.heap m) (N : News h₀ L s.heap news) (hm : (D, listOf vs.toArray n) ∈ news) (h0 : 0 ≤ k) (h1 : k < vs.length) (hfit : k < 2 ^ 63)
    (h : ∀ h', Fr h₀ L h' m → News h₀ L h' ((D, listOf (vs.set k.toNat v).toArray n) :: news.filter fun p => p.1 != D) → Q () { s with heap := h' }) :
    wpAny (model prog w) A (setItem (.ref D) (.int k t) v) Q E s := by
  obtain ⟨N1, o1⟩ := led_at N hm
  have z := N (D, listOf vs.toArray n) hm
  refine ki_setAt z.1 h0 hfit (by simpa using h1) (h _ (F.change (Heap.SameBut.update ..) z.2.1 z.2.2) (ki_turn (pre := []) _ N1 (fun _ h => nomatch h) (fun p hp => o1 p hp D (.head _)) ?_ ?_))
  · apply Array.toList_inj.mp
    simp
  · simp
section
open PyProof.Rows.LCg PyProof.Rows.LCt
section
variable {prog : Program} {w : World} {A : Around} {E : Value → Shared → Prop} {s : Shared} {h₀ : Heap} {L : Addr} {m : Str → Option Value} {env : Env}
theorem compEnd_mono {s₁ : Shared} {I C D : Addr} {oI oC oD : Obj} {S : List (Addr × Obj) → Prop} {r r' : Value → List (Addr × Obj) → Prop} {y : Value} {s₂ : Shared} (h : ∀ y nx, S nx → r y nx → r' y nx) (x : CompEnd h₀ L m s₁ I oI C oC D oD S r y s₂) : CompEnd h₀ L m s₁ I oI C oC D oD S r' y s₂ := by
  obtain ⟨h', tk, nx, e, F, N, o, hS, hr⟩ := x
  exact ⟨h', tk, nx, e, F, N, o, hS, h y nx hS hr⟩
/-- a comprehension with a test, by an invariant -/
theorem rest_of {ct elt : Expr} {x : Str} {scope : Scope} {cl : List (Str × Addr)} {S : List (Addr × Obj) → Prop} {P : Nat → Value → Prop} {Fin : List Value → List (Addr × Obj) → Prop} {n : Nat} (J : Nat → List Value → List (Addr × Obj) → Prop) (fin : ∀ ys nx, S nx → J n ys nx → Fin ys nx)
    (turn : ∀ i ys nx v I oI C oC D m₂ h tk (E' : Value → Shared → Prop), i < n → P i v → S nx → J i ys nx → NsObj oC m₂ → m₂ x = some v → Fr h₀ L h m → News h₀ L h ((I, oI) :: (C, oC) :: (D, lst ys) :: nx) → Off3 I C D nx → ((@Ne Nat I C) ∧ (@Ne Nat I D) ∧ (@Ne Nat C D)) →
      wpAny (model prog w) A (isTrue ct (compEnvC scope cl C env) (eval ct (compEnvC scope cl C env))) (fun ok s' => if ok = true then
        wpAny (model prog w) A (eval elt (compEnvC scope cl C env)) (CompEnd h₀ L m { s with heap := h, toks := tk } I oI C oC D (lst ys) S (fun y nx' => J (i + 1) (ys ++ [y]) nx')) E' s'
        else CompEnd h₀ L m { s with heap := h, toks := tk } I oI C oC D (lst ys) S (fun _ nx' => J (i + 1) ys nx') Value.none s') E' { s with heap := h, toks := tk }) :
    ∀ k i ys nx, i + k = n → S nx → J i ys nx → CompRestT prog w A h₀ L m env ct elt x scope cl s S P Fin k i ys nx
  | 0, i, ys, nx, e, hS, hj => CompRestT.zero (fin ys nx hS (by rw [← e]; exact hj))
  | k + 1, i, ys, nx, e, hS, hj => CompRestT.succ fun v I oI C oC D m₂ h tk E' hP hC hx F N o3 hne => by
    refine wpAny_mono (turn i ys nx v I oI C oC D m₂ h tk E' (by omega) hP hS hj hC hx F N o3 hne) (fun ok s' z => ?_) fun _ _ z => z
    split at z
    · rename_i hk
      rw [if_pos hk]
      exact wpAny_mono z (fun y s₂ q => compEnd_mono (fun y nx' hS' hr => rest_of J fin turn k (i + 1) _ nx' (by omega) hS' hr) q) fun _ _ q => q
    · rename_i hk
      rw [if_neg hk]
      exact compEnd_mono (fun y nx' hS' hr => rest_of J fin turn k (i + 1) _ nx' (by omega) hS' hr) z
theorem rest_fix {ct elt : Expr} {x : Str} {scope : Scope} {cl : List (Str × Addr)} {S : List (Addr × Obj) → Prop} {P : Nat → Value → Prop} {Fin : List Value → List (Addr × Obj) → Prop} {n : Nat} {news : List (Addr × Obj)} (J : Nat → List Value → Prop) (hS : S news) (j0 : J 0 []) (fin : ∀ ys, J n ys → Fin ys news)
    (turn : ∀ i ys v I oI C oC D m₂ h tk (E' : Value → Shared → Prop), i < n → P i v → J i ys → NsObj oC m₂ → m₂ x = some v → Fr h₀ L h m → News h₀ L h ((I, oI) :: (C, oC) :: (D, lst ys) :: news) → Off3 I C D news → ((@Ne Nat I C) ∧ (@Ne Nat I D) ∧ (@Ne Nat C D)) →
      wpAny (model prog w) A (isTrue ct (compEnvC scope cl C env) (eval ct (compEnvC scope cl C env))) (fun ok s' => if ok = true then
        wpAny (model prog w) A (eval elt (compEnvC scope cl C env)) (CompEnd h₀ L m { s with heap := h, toks := tk } I oI C oC D (lst ys) S (fun y nx' => nx' = news ∧ J (i + 1) (ys ++ [y]))) E' s'
        else CompEnd h₀ L m { s with heap := h, toks := tk } I oI C oC D (lst ys) S (fun _ nx' => nx' = news ∧ J (i + 1) ys) Value.none s') E' { s with heap := h, toks := tk }) :
    CompRestT prog w A h₀ L m env ct elt x scope cl s S P Fin n 0 [] news :=
  rest_of (fun i ys nx => nx = news ∧ J i ys) (fun ys nx _ h => h.1 ▸ fin ys h.2) (fun i ys nx v I oI C oC D m₂ h tk E' hi hP _ hj hC hx F N o3 hne => by
    obtain ⟨rfl, hj⟩ := hj
    exact turn i ys v I oI C oC D m₂ h tk E' hi hP hj hC hx F N o3 hne) n 0 [] news (Nat.zero_add n) hS ⟨rfl, j0⟩
noncomputable def SrcD {K : Type} [DecidableEq K] (prog : Program) (w : World) (knd : KeyKind prog w K) (A : Around) (h₀ : Heap) (L : Addr) (m : Str → Option Value) (env : Env) (ct elt : Expr) (x : Str) (scope : Scope) (cl : List (Str × Addr)) (Q : Value → Shared → Prop) (xv : Value) (s₁ : Shared) : Prop :=
  ∃ d o kvs news, xv = .ref d ∧ A.handled = none ∧ Fr h₀ L s₁.heap m ∧ News h₀ L s₁.heap news ∧ (d, o) ∈ news ∧ Obj.IsDictOf knd o kvs ∧ (d == sysModules) = false ∧ kvs.length ≤ 64 ∧
    ∀ g, CompRestT prog w A h₀ L m env ct elt x scope cl { s₁ with heap := g } (fun nx => (d, o) ∈ nx) (fun i v => ∃ k x, kvs[i]? = some (k, x) ∧ knd.is k v = true) (FinE h₀ L m { s₁ with heap := g } Q) kvs.length 0 [] news
theorem srcD_of {K : Type} [DecidableEq K] {knd : KeyKind prog w K} {ct elt : Expr} {x : Str} {scope : Scope} {cl : List (Str × Addr)} {Q : Value → Shared → Prop} {d : Addr} {o : Obj} {kvs : List (K × Value)} {news : List (Addr × Obj)} (hh : A.handled = none) (F : Fr h₀ L s.heap m) (N : News h₀ L s.heap news) (hm : (d, o) ∈ news) (hd : o.IsDictOf knd kvs) (lo : (d == sysModules) = false) (hsz : kvs.length ≤ 64)
    (k : ∀ g, CompRestT prog w A h₀ L m env ct elt x scope cl { s with heap := g } (fun nx => (d, o) ∈ nx) (fun i v => ∃ k x, kvs[i]? = some (k, x) ∧ knd.is k v = true) (FinE h₀ L m { s with heap := g } Q) kvs.length 0 [] news) :
    SrcD prog w knd A h₀ L m env ct elt x scope cl Q (.ref d) s := ⟨d, o, kvs, news, rfl, hh, F, N, hm, hd, lo, hsz, k⟩
theorem ListComp_dict {K : Type} [DecidableEq K] {knd : KeyKind prog w K} {ct elt iter : Expr} {x : Str} {px : Pos} {scope : Scope} {cl : List (Str × Addr)} {pos : Pos} {Q : Value → Shared → Prop} (F₀ : Fr h₀ L s.heap m)
    (hclos : closureFor scope env = pure cl) (hcell : ∀ y ∈ scope.names, y.2 ≠ .cell) (hkind : scope.kind = .function)
    (hnames : ∀ y ∈ scope.names, y.2 = .local → scope.names.lookup y.1 = some .local) (hx : scope.names.lookup x = some .local)
    (h : wpAny (model prog w) A (eval iter env) (SrcD prog w knd A h₀ L m env ct elt x scope cl Q) E s)
    (hs : ∀ x, foldedSetIterable iter env x = pure x := by intro _; rfl) :
    wpAny (model prog w) A (eval (.ListComp elt [⟨.Name x px, iter, [ct], 0⟩] scope pos) env) Q E s := by
  rw [eval_ListComp]
  refine wpAny_comprehension_free (use := none) rfl hs hclos hkind hnames (wpAny_mono h (fun xv s₁ h₁ => ?_) fun _ _ e => e)
  obtain ⟨d, o, kvs, news, rfl, hh, F, N, hm, hd, lo, hsz, R⟩ := h₁
  obtain ⟨ep, hat⟩ := (kda_dict N hm hd).dictAt
  have hlt : d < s₁.heap.objs.size := hat.lt_size
  refine wpAny_pyIter_dict lo hat ?_
  refine block_T (Walks.dictKeys hh s₁.heap.objs.size d (Nat.ne_of_lt hlt) kvs ep) (by rw [sizeLine_eq]; omega) (fun i h st => by obtain ⟨o, e, _⟩ := st.1; exact ⟨o, e⟩) (S := fun nx => (d, o) ∈ nx) ?_ hcell hkind hx ⟨⟨_, Heap.get?_push_size _ rfl, rfl, rfl⟩, hat.push _⟩ (fun b hb => ?_)
    (F.keeps fun b o e => Heap.get?_push_of_some _ e) (N.grown fun b o e => Heap.get?_push_of_some _ e) (Nat.ne_of_lt F.ns.lt) (next_is_new F) (fun p hp => Nat.ne_of_lt (Heap.lt_size (N p hp).1)) hm (R _) ?_
  · intro i h h' o₁ nw st e e' k N' hm'
    refine ⟨by obtain ⟨o', q, r⟩ := st.1; rw [e] at q; cases q; exact ⟨o₁, e', r⟩, ?_⟩
    obtain ⟨o₂, es, ho, r⟩ := hat
    have e2 : o₂ = o := Option.some.inj (ho.symm.trans (N _ hm).1)
    subst e2
    exact ⟨o₂, es, (N' _ hm').1, r⟩
  · show b < (s₁.heap.push _).objs.size
    rw [Heap.size_push]
    rcases List.mem_cons.mp hb with rfl | hb
    · exact Nat.lt_succ_self _
    · rw [List.mem_singleton.mp hb]; exact Nat.lt_succ_of_lt hlt
  · intro D C h tk m' ys news' F' N' o1 hn hC₀ hD₀ hCL hDL hCD offC fin
    refine ⟨m', hn, fun h'' hs'' => fin D h'' tk (F'.change hs'' hCL hC₀) (fun p hp => ?_) o1⟩
    refine ⟨hs''.extBut _ _ ?_ (N' p hp).1, (N' p hp).2⟩
    rcases List.mem_cons.mp hp with rfl | hp
    · exact Ne.symm hCD
    · exact offC p hp
end
end
theorem set_L12 : True := by
  w_top off
  k_with_none
  k_with "way M" => refine' code_defM ?k1 ?k2 ?k3 ?k4 ?k5 ?kA ?kF ?kK ?kD ?k6 ?k7 ?k8 ?k9 ?kB ?_ ?c2 ?c3 ?c4 ?c5; (case kA => assumption); (case kF => assumption); (case kK => assumption); (case kD => assumption); (case k1 => k_asm); (case k2 => k_asm); (case k3 => k_asm); (case k4 => k_asm); (case k5 => k_asm); (case k6 => k_is); (case k7 => k_is); (case k8 => ktr_room); (case k9 => first | exact BindsTo.of_eq rfl | exact binds_K (by k_in) rfl (by k_is) rfl rfl rfl); (case c5 => decide); (case kB => exact locs rfl); (case c2 => exact rfl); (case c3 => exact rfl); (case c4 => exact rfl); k_whole
  k_with "way C" => refine' code_defC ?k1 ?k2 ?k3 ?k4 ?k5 ?kA ?kF ?kK ?k6 ?k7 ?k8 ?k9 ?kB ?kD ?_ ?c2 ?c3 ?c4; (case kA => first | assumption | exact rfl); (case kF => first | assumption | exact rfl); (case kK => assumption); (case k1 => k_asm); (case k2 => k_asm); (case k3 => k_asm); (case k4 => k_asm); (case k5 => k_asm); (case k6 => k_is); (case k7 => k_is); (case k8 => ktr_room); (case k9 => first | exact BindsTo.of_eq rfl | exact binds_K (by k_in) rfl (by k_is) rfl rfl rfl); (case kB => exact rfl); (case kD => decide +kernel); (case c2 => exact rfl); (case c3 => exact rfl); (case c4 => exact rfl); k_whole
  k_with "way D" => refine' code_def ?k1 ?k2 ?k3 ?k4 ?k5 ?kA ?kF ?kK ?k6 ?k7 ?k8 ?k9 ?kB ?_ ?c2 ?c3 ?c4 ?c5; (case kA => first | assumption | exact rfl); (case kF => first | assumption | exact rfl); (case kK => assumption); (case k1 => k_asm); (case k2 => k_asm); (case k3 => k_asm); (case k4 => k_asm); (case k5 => k_asm); (case k6 => k_is); (case k7 => k_is); (case k8 => ktr_room); (case k9 => first | exact BindsTo.of_eq rfl | exact binds_K (by k_in) rfl (by k_is) rfl rfl rfl); (case c5 => decide); (case kB => exact locs rfl); (case c2 => exact rfl); (case c3 => exact rfl); (case c4 => exact rfl); k_whole
  k_with "way CM" => refine' code_defCM ?k1 ?k2 ?k3 ?k4 ?k5 ?kA ?kF ?kK ?kE ?k6 ?k7 ?k8 ?k9 ?kB ?kD ?_ ?c2 ?c3 ?c4; (case kA => assumption); (case kF => assumption); (case kK => assumption); (case kE => assumption); (case k1 => k_asm); (case k2 => k_asm); (case k3 => k_asm); (case k4 => k_asm); (case k5 => k_asm); (case k6 => k_is); (case k7 => k_is); (case k8 => ktr_room); (case k9 => first | exact BindsTo.of_eq rfl | exact binds_K (by k_in) rfl (by k_is) rfl rfl rfl); (case kB => exact rfl); (case kD => decide +kernel); (case c2 => exact rfl); (case c3 => exact rfl); (case c4 => exact rfl); k_whole
  k_with "exec For Name Call cons nil" => (k_here; (with_unfolding_all refine' For_invVF (by k_asm) (by exact rfl) (by exact rfl) ?_; k_whole))
  k_with "unpackItems ref" => (k_here; k_dflt (refine' unpackItemsN_ (by k_asm) (by k_asm) (by kun_tup) (by assumption) (by exact rfl) ?_; k_whole); intro _ _ _; (try k_sweep))
  k_with "subscriptTail Name Name ref int" => ((with_reducible first | show wpAny _ _ (subscriptTail _ _ (Value.ref (LimS.aR _)) _) _ _ _ | show wpAny _ _ (subscriptTail _ _ (Value.ref (BookS.aB _)) _) _ _ _); refine stop_here ?_)
  k_with "compareOp In int ref" => ((with_reducible first | show wpAny _ _ (compareOp _ _ (Value.ref (LimS.aR _))) _ _ _ | show wpAny _ _ (compareOp _ _ (Value.ref (BookS.aB _))) _ _ _ | show wpAny _ _ (compareOp _ _ (Value.ref (LRow.kA _))) _ _ _ | show wpAny _ _ (compareOp _ _ (Value.ref (BRow.kA _))) _ _ _); refine stop_here ?_)
  k_with "compareOp NotIn int ref" => ((with_reducible first | show wpAny _ _ (compareOp _ _ (Value.ref (LimS.aR _))) _ _ _ | show wpAny _ _ (compareOp _ _ (Value.ref (BookS.aB _))) _ _ _ | show wpAny _ _ (compareOp _ _ (Value.ref (LRow.kA _))) _ _ _ | show wpAny _ _ (compareOp _ _ (Value.ref (BRow.kA _))) _ _ _); refine stop_here ?_)
  k_with "getMethod ref" => ((with_reducible first | show wpAny _ _ (getMethod (Value.ref (LimS.aR _)) _ _) _ _ _ | show wpAny _ _ (getMethod (Value.ref (BookS.aB _)) _ _) _ _ _); refine stop_here ?_)
  k_with "call builtin:len" => ((with_reducible first | show wpAny _ _ (call _ [Value.ref (LRow.kA _)]) _ _ _ | show wpAny _ _ (call _ [Value.ref (BRow.kA _)]) _ _ _); refine stop_here ?_)
  k_with "call ref" => ((with_reducible first | show wpAny _ _ (call (Value.ref 124) [Value.ref (LimS.aL _), _]) _ _ _); refine stop_here ?_)
  k_with "subscriptTail Name Slice ref ref" => refine stop_here ?_
  k_with "subscriptTail Attribute Name Name ref int" => ((with_reducible show wpAny _ _ (subscriptTail _ _ (Value.ref (LimS.aR _)) _) _ _ _); k_dflt (refine kba_turn (value' := PySem.Expr.Name (PySem.Str.ofString "_") ⟨0, 0, 0, 0⟩) (fun _ => rfl) ?_))
  k_with "subscriptTail Attribute Name ref int" => ((with_reducible show wpAny _ _ (subscriptTail _ _ (Value.ref (LimS.aR _)) _) _ _ _); k_dflt (refine kba_turn (value' := PySem.Expr.Name (PySem.Str.ofString "_") ⟨0, 0, 0, 0⟩) (fun _ => rfl) ?_))
  k_with "subscriptTail Subscript Subscript" => ((with_reducible show wpAny _ _ (subscriptTail _ _ (Value.ref (BRow.kA _)) _) _ _ _); k_dflt (refine kba_turn (value' := PySem.Expr.Name (PySem.Str.ofString "_") ⟨0, 0, 0, 0⟩) (fun _ => rfl) ?_))
  k_with "exec Raise" => refine stop_here ?_
  k_with "subscriptTail Subscript Name Name Constant ref int" => ((with_reducible show wpAny _ _ (subscriptTail _ _ (Value.ref (BRow.bA _)) _) _ _ _); k_dflt (refine item_at (vs := BRow.items _) (News.isList (by k_asm) (by k_mem)) (by decide) (by decide) rfl ?_))
  k_with "subscriptTail Name Constant ref int" => ((with_reducible show wpAny _ _ (subscriptTail _ _ (Value.ref (BRow.bA _)) _) _ _ _); k_dflt (refine item_at (vs := BRow.items _) (News.isList (by k_asm) (by k_mem)) (by decide) (by decide) rfl ?_))
  k_with "subscriptTail" => (k_here; k_dflt (refine kim_list (lo := BRow.obj _) (l := BRow.items _) (by k_asm) (by k_mem) rfl rfl (by decide) (by decide) rfl ?_))
  trivial
theorem lasked_c {w : World} {A A₀ : Around} {env : Env} {outer : List Env} {base h₀ : Heap} {L : Addr} {m : Str → Option Value} {s : Shared} {R : Result → Shared → Prop}
    {loose : List Str} {mean : ExcName → Option Value} {mg mb : Str → Option Value} {rest : List (Addr × Obj)} {S : BookS w} {port mac : Int} {tp tm : Nat}
    (B : Below A₀ base outer h₀) (F : Fr h₀ L s.heap m) (X : (Mine.hd.heap_1 w.params).In h₀) (N : News h₀ L s.heap (S.led ++ rest)) (T : Top topProg loose mean mg mb h₀) (hA : A.frames = some (env :: outer)) (hf : env.frame = some L) (hke : env.scope.kind = .function) (hroom : A.depth < 590) (hh : A.handled = none) (hun : A.units < 9000) (I : Inv S.abs) (Ap : Apart (S.led ++ rest))
    (ret : ∀ t (S' : BookS w) h' tk', Fr h₀ L h' m → News h₀ L h' (S'.led ++ rest) → Apart (S'.led ++ rest) → S'.aB = S.aB → S'.abs = (askedS S.abs port mac).2 → R (.ok (.ret (.str (askedS S.abs port mac).1 t))) { s with heap := h', toks := tk' }) :
    codeAny (model PR w) A (.call (.ref 237) ⟨[.ref S.aB, .int port tp, .int mac tm], []⟩) R s := by
  have hB := S.mB (rest := rest)
  have hb1 : ∀ r ∈ S.rows, (r.bA, r.obj) ∈ S.led ++ rest := fun r h => S.m1 h
  have hb2 : ∀ r ∈ S.rows, (r.kA, listOf r.vs.toArray r.kn) ∈ S.led ++ rest := fun r h => S.m2 h
  have hd := S.hd
  have lo := S.lo
  have hlen := BookS.len I
  first | k_dflt ktr_enter | fail "no way in"
  k_steps
  rcases BookS.val I port with ⟨ea, hv⟩ | ⟨r, hr, rfl, ea, hv⟩
  · refine kdg_notin (by k_asm) (by k_mem) hd lo (intKind_is _ _ _ _) false (by rw [hv]; rfl) ?_
    k_steps
    have e : askedS S.abs port mac = (("let" : Str), S.abs) := by simp only [askedS, ea]
    rw [e] at ret
    exact ret _ S _ _ (by k_asm) (kst_newsOf (by k_asm) fun p hp => .tail _ (.tail _ hp)) Ap rfl rfl
  · have q1 := hb1 r hr
    have q2 := hb2 r hr
    have hml : r.a.known.length ≤ 3 := I.klen (BookS.mabs hr)
    refine kdg_notin (by k_asm) (by k_mem) hd lo (intKind_is _ _ _ _) true (by rw [hv]; rfl) ?_
    k_steps
    refine kda_item (by k_asm) (by k_mem) hd (intKind_is _ _ _ _) hv ?_
    k_steps
    · have e : askedS S.abs r.port mac = (("shut" : Str), S.abs) := by simp only [askedS, ea]; simp [*]
      rw [e] at ret
      exact ret _ S _ _ (by k_asm) (kst_newsOf (by k_asm) fun p hp => .tail _ (.tail _ hp)) Ap rfl rfl
    have hs0 : r.a.shut = false := by simp [*]
    refine in_c (by k_asm) (by k_mem) r.ok ?_
    by_cases hk : mac ∈ r.a.known
    · rw [decide_eq_true hk]
      k_steps
      have e : askedS S.abs r.port mac = (("let" : Str), S.abs) := by
        simp only [askedS, ea]
        rw [if_neg (by simp [hs0]), if_pos hk]
      rw [e] at ret
      exact ret _ S _ _ (by k_asm) (kst_newsOf (by k_asm) fun p hp => .tail _ (.tail _ hp)) Ap rfl rfl
    rw [decide_eq_false hk]
    k_steps
    refine len_c (by k_asm) (by k_mem) r.ok (by omega) ?_
    k_steps
    · rename_i hlt
      refine ListComp_dict (knd := intKind PR w) (F₀ := by k_asm) (by with_unfolding_all rfl) (by decide) (by rfl) (by decide) (by rfl) ?_
      k_steps
      refine srcD_of (by exact hh) (by k_asm) (by k_asm) (by k_mem) hd lo (by simp [kvsB]; omega) fun g => ?_
      refine rest_fix (fun i ys => ∃ ns, IntsAre ys ns ∧ (ns = [] ↔ ∀ j, j < i → ∀ r, S.rows[j]? = some r → mac ∉ r.a.known)) (by k_mem) ⟨[], .nil, fun _ j hj => absurd hj (Nat.not_lt_zero j), fun _ => rfl⟩ ?_ ?_
      · rintro ys ⟨ns, hns, hj⟩ D h tk F' N' o1
        have hfree : decide (ns = ([] : List Int)) = free S.abs mac := by
          rw [Bool.eq_iff_iff, decide_eq_true_eq, hj, free_iff]
          constructor
          · intro h x hx
            obtain ⟨q, hq, rfl⟩ := List.mem_map.mp hx
            obtain ⟨j, hjl, rfl⟩ := List.getElem_of_mem hq
            exact h j (by simpa [kvsB] using hjl) _ (List.getElem?_eq_some_iff.mpr ⟨hjl, rfl⟩)
          · intro h j hjl q hq
            exact h _ (BookS.mabs (List.mem_of_getElem? hq))
        k_steps
        · have hfr : free S.abs mac = true := by rw [← hfree]; assumption
          refine append_c (vs := r.vs) (n := r.kn) (by k_asm) (by k_asm) (by k_mem) (by rw [r.ok.length]; omega) ?_
          intro h'' F'' N''
          k_steps
          have e : askedS S.abs r.port mac = (("let" : Str), upd S.abs r.port { r.a with known := r.a.known ++ [mac] }) := by
            simp only [askedS, ea]
            rw [if_neg (by simp [hs0]), if_neg hk, if_pos (by rw [hfr]; simpa using hlt)]
          rw [e] at ret
          obtain ⟨S', e1, e2, e3, e4⟩ := BookS.put_list [_, _, _, _] I hr Ap { r with a := { r.a with known := r.a.known ++ [mac] }, vs := r.vs ++ [.int mac tm], ok := ints_snoc r.ok _ _, kn := r.kn + 1 } (by k_asm) rfl rfl rfl rfl
          exact ret _ S' _ _ (by k_asm) e4 e3 e1 e2
        · have hfr : free S.abs mac = false := by rw [← hfree]; assumption
          refine setat_c (vs := r.items) (n := r.bn) (by k_asm) (by k_asm) (by k_mem) (by decide) (by simp [BRow.items]) (by decide) ?_
          intro h'' F'' N''
          k_steps
          have e : askedS S.abs r.port mac = (r.a.way, upd S.abs r.port { r.a with shut := r.a.way == "shut" }) := by
            simp only [askedS, ea]
            rw [if_neg (by simp [hs0]), if_neg hk, if_neg (by simp [hfr])]
          rw [e] at ret
          obtain ⟨S', e1, e2, e3, e4⟩ := BookS.put_row [_, _, _, _] I hr Ap { r with a := { r.a with shut := r.a.way == "shut" } } (by k_asm) rfl rfl rfl rfl rfl
          exact ret _ S' _ _ (by k_asm) e4 e3 e1 e2
      · rintro i ys v I' oI C oC D m₂ h tk E' hi ⟨k, x, hkx, hkv⟩ ⟨ns, hns, hj⟩ hC hx F' N' o3 hne
        obtain ⟨t, rfl⟩ := Value.isInt_shape hkv
        obtain ⟨q, hq, rfl, hqm⟩ : ∃ q, S.rows[i]? = some q ∧ q.port = k ∧ q ∈ S.rows := by
          unfold kvsB at hkx
          rw [List.getElem?_map] at hkx
          obtain ⟨q, hq, e⟩ := Option.map_eq_some_iff.mp hkx
          exact ⟨q, hq, (Prod.mk.inj e).1, List.mem_of_getElem? hq⟩
        have p1 := hb1 q hqm
        have p2 := hb2 q hqm
        k_steps
        refine kda_item (by k_asm) (by k_mem) hd (intKind_is _ _ _ _) (kvsB_at (BookS.nd I) hqm) ?_
        k_steps
        refine in_c (by k_asm) (by k_mem) q.ok ?_
        by_cases hkq : mac ∈ q.a.known
        · rw [decide_eq_true hkq]
          k_steps
          refine PyProof.Rows.LCg.CompEnd.intro (by k_asm) (by k_asm) _ (fun p hp => hp) o3 (by k_mem) ⟨rfl, ?_⟩
          refine ⟨_, ints_snoc hns _ _, fun e => absurd e (by simp), fun hall => absurd hkq (hall i (Nat.lt_succ_self i) q hq)⟩
        · rw [decide_eq_false hkq]
          k_steps
          refine PyProof.Rows.LCg.CompEnd.intro (by k_asm) (by k_asm) _ (fun p hp => hp) o3 (by k_mem) ⟨rfl, ?_⟩
          refine ⟨ns, hns, ?_⟩
          rw [hj]
          refine ⟨fun h j hj' r' hr' => ?_, fun h j hj' r' hr' => h j (Nat.lt_succ_of_lt hj') r' hr'⟩
          rcases Nat.lt_succ_iff_lt_or_eq.mp hj' with hl | rfl
          · exact h j hl r' hr'
          · rw [hq] at hr'
            cases hr'
            exact hkq
    · rename_i hlt
      refine setat_c (vs := r.items) (n := r.bn) (by k_asm) (by k_asm) (by k_mem) (by decide) (by simp [BRow.items]) (by decide) ?_
      intro h'' F'' N''
      k_steps
      have e : askedS S.abs r.port mac = (r.a.way, upd S.abs r.port { r.a with shut := r.a.way == "shut" }) := by
        simp only [askedS, ea]
        rw [if_neg (by simp [hs0]), if_neg hk, if_neg (by simp [hlt])]
      rw [e] at ret
      obtain ⟨S', e1, e2, e3, e4⟩ := BookS.put_row [_, _] I hr Ap { r with a := { r.a with shut := r.a.way == "shut" } } (by k_asm) rfl rfl rfl rfl rfl
      exact ret _ S' _ _ (by k_asm) e4 e3 e1 e2
section
theorem src_swap {h₀ h : Heap} {L aS : Addr} {o o' : Obj} {pre X rest : List (Addr × Obj)} (Ap : Apart (X ++ ((aS, o) :: rest))) (hpre : ∀ p ∈ pre, p.1 ≠ aS)
    (N : News h₀ L h ((aS, o') :: (pre ++ (X ++ ((aS, o) :: rest))).filter fun p => p.1 != aS)) : News h₀ L h (pre ++ (X ++ ((aS, o') :: rest))) := by
  unfold Apart at Ap
  rw [List.map_append, List.map_cons, List.nodup_append, List.nodup_cons] at Ap
  refine kst_newsOf N fun p hp => ?_
  rcases List.mem_append.mp hp with hp | hp
  · exact .tail _ (mem_off (List.mem_append_left _ hp) (hpre p hp))
  · rcases List.mem_append.mp hp with hp | hp
    · exact .tail _ (mem_off (List.mem_append_right _ (List.mem_append_left _ hp)) (Ap.2.2 _ (List.mem_map_of_mem (f := Prod.fst) hp) _ (.head _)))
    · rcases List.mem_cons.mp hp with rfl | hp
      · exact .head _
      · exact .tail _ (mem_off (List.mem_append_right _ (List.mem_append_right _ (.tail _ hp))) fun e => Ap.2.1.1 (by rw [← e]; exact (show p.1 ∈ _ from List.mem_map_of_mem (f := Prod.fst) hp)))
theorem apart_swap {aS : Addr} {o o' : Obj} {X rest : List (Addr × Obj)} (Ap : Apart (X ++ ((aS, o) :: rest))) : Apart (X ++ ((aS, o') :: rest)) := by
  unfold Apart at Ap ⊢
  simpa using Ap
/-- the deeds' ledger -/
noncomputable abbrev deed {w : World} (S : LimS w) (T : BookS w) (aS : Addr) (x y : Int) (tx ty n : Nat) (rest : List (Addr × Obj)) : List (Addr × Obj) := (S.led ++ T.led) ++ ((aS, srcObj x y tx ty n) :: rest)
section
variable {w : World} {S : LimS w} {T : BookS w} {aS : Addr} {x y : Int} {tx ty n : Nat} {rest : List (Addr × Obj)}
theorem deed_S : deed S T aS x y tx ty n rest = S.led ++ (T.led ++ ((aS, srcObj x y tx ty n) :: rest)) := by unfold deed; rw [List.append_assoc]
theorem apart_T (h : Apart (deed S T aS x y tx ty n rest)) : Apart (T.led ++ (S.led ++ ((aS, srcObj x y tx ty n) :: rest))) := by
  unfold Apart deed at *
  refine (List.Perm.nodup_iff (List.Perm.map _ ?_)).mp h
  rw [← List.append_assoc]
  exact (List.perm_append_comm).append_right _
theorem apart_T' (h : Apart (T.led ++ (S.led ++ ((aS, srcObj x y tx ty n) :: rest)))) : Apart (deed S T aS x y tx ty n rest) := by
  unfold Apart deed at *
  refine (List.Perm.nodup_iff (List.Perm.map _ ?_)).mpr h
  rw [← List.append_assoc]
  exact (List.perm_append_comm).append_right _
theorem apart_S (h : Apart (deed S T aS x y tx ty n rest)) : Apart (S.led ++ (T.led ++ ((aS, srcObj x y tx ty n) :: rest))) := by rw [← deed_S]; exact h
theorem apart_S' (h : Apart (S.led ++ (T.led ++ ((aS, srcObj x y tx ty n) :: rest)))) : Apart (deed S T aS x y tx ty n rest) := by rw [deed_S]; exact h
theorem sub_T {p : Addr × Obj} (h : p ∈ T.led ++ (S.led ++ ((aS, srcObj x y tx ty n) :: rest))) : p ∈ deed S T aS x y tx ty n rest := by
  simp only [deed, List.mem_append] at h ⊢
  grind
theorem sub_S {p : Addr × Obj} (h : p ∈ S.led ++ (T.led ++ ((aS, srcObj x y tx ty n) :: rest))) : p ∈ deed S T aS x y tx ty n rest := by rw [deed_S]; exact h
theorem from_T {p : Addr × Obj} (h : p ∈ deed S T aS x y tx ty n rest) : p ∈ T.led ++ (S.led ++ ((aS, srcObj x y tx ty n) :: rest)) := by
  simp only [deed, List.mem_append] at h ⊢
  grind
theorem from_S {p : Addr × Obj} (h : p ∈ deed S T aS x y tx ty n rest) : p ∈ S.led ++ (T.led ++ ((aS, srcObj x y tx ty n) :: rest)) := by rw [← deed_S]; exact h
theorem deed_src : (aS, srcObj x y tx ty n) ∈ deed S T aS x y tx ty n rest := List.mem_append_right _ (.head _)
theorem deed_rest {p : Addr × Obj} (h : p ∈ rest) : p ∈ deed S T aS x y tx ty n rest := List.mem_append_right _ (.tail _ h)
theorem deed_B : (T.aB, T.oB) ∈ deed S T aS x y tx ty n rest := sub_T BookS.mB
theorem deed_b1 {r : BRow} (h : r ∈ T.rows) : (r.bA, r.obj) ∈ deed S T aS x y tx ty n rest := sub_T (BookS.m1 h)
theorem deed_b2 {r : BRow} (h : r ∈ T.rows) : (r.kA, listOf r.vs.toArray r.kn) ∈ deed S T aS x y tx ty n rest := sub_T (BookS.m2 h)
end
theorem deed_list {w : World} {S : LimS w} {T : BookS w} {aS : Addr} {x y : Int} {tx ty n : Nat} {rest : List (Addr × Obj)} (pre : List (Addr × Obj)) {r : BRow} {h₀ h : Heap} {L : Addr} (I : Inv T.abs) (hr : r ∈ T.rows) (Ap : Apart (deed S T aS x y tx ty n rest)) (r' : BRow)
    (N : News h₀ L h ((r.kA, listOf r'.vs.toArray r'.kn) :: (pre ++ deed S T aS x y tx ty n rest).filter fun p => p.1 != r.kA)) (hpre : ∀ p ∈ pre, p.1 ≠ r.kA) (hp : r'.port = r.port) (h1 : r'.bA = r.bA) (h3 : r'.kA = r.kA) (h4 : r'.obj = r.obj) :
    ∃ T' : BookS w, T'.aB = T.aB ∧ T'.abs = upd T.abs r.port r'.a ∧ Apart (deed S T' aS x y tx ty n rest) ∧ News h₀ L h (pre ++ deed S T' aS x y tx ty n rest) := by
  obtain ⟨T', e1, e2, e3, e4⟩ := BookS.put I hr (apart_T Ap) r' hp h1 (.inl h3)
  refine ⟨T', e1, e2, apart_T' e3, kst_newsOf N fun p hp => ?_⟩
  rcases List.mem_append.mp hp with hp | hp
  · exact .tail _ (mem_off (List.mem_append_left _ hp) (hpre p hp))
  · rcases e4 p (from_T hp) with h | ⟨h, n1, n2⟩
    · simp only [BRow.led, List.mem_cons, List.not_mem_nil, or_false] at h
      rcases h with rfl | rfl
      · rw [h1, h4]; exact .tail _ (mem_off' (deed_b1 hr) (BookS.ne I hr (apart_T Ap)))
      · rw [h3]; exact .head _
    · exact .tail _ (mem_off' (sub_T h) n2)
theorem deed_row {w : World} {S : LimS w} {T : BookS w} {aS : Addr} {x y : Int} {tx ty n : Nat} {rest : List (Addr × Obj)} (pre : List (Addr × Obj)) {r : BRow} {h₀ h : Heap} {L : Addr} (I : Inv T.abs) (hr : r ∈ T.rows) (Ap : Apart (deed S T aS x y tx ty n rest)) (r' : BRow)
    (N : News h₀ L h ((r.bA, r'.obj) :: (pre ++ deed S T aS x y tx ty n rest).filter fun p => p.1 != r.bA)) (hpre : ∀ p ∈ pre, p.1 ≠ r.bA) (hp : r'.port = r.port) (h1 : r'.bA = r.bA) (h3 : r'.kA = r.kA) (h4 : r'.vs = r.vs) (h5 : r'.kn = r.kn) :
    ∃ T' : BookS w, T'.aB = T.aB ∧ T'.abs = upd T.abs r.port r'.a ∧ Apart (deed S T' aS x y tx ty n rest) ∧ News h₀ L h (pre ++ deed S T' aS x y tx ty n rest) := by
  obtain ⟨T', e1, e2, e3, e4⟩ := BookS.put I hr (apart_T Ap) r' hp h1 (.inl h3)
  refine ⟨T', e1, e2, apart_T' e3, kst_newsOf N fun p hp => ?_⟩
  rcases List.mem_append.mp hp with hp | hp
  · exact .tail _ (mem_off (List.mem_append_left _ hp) (hpre p hp))
  · rcases e4 p (from_T hp) with h | ⟨h, n1, n2⟩
    · simp only [BRow.led, List.mem_cons, List.not_mem_nil, or_false] at h
      rcases h with rfl | rfl
      · rw [h1]; exact .head _
      · rw [h3, h4, h5]; exact .tail _ (mem_off' (deed_b2 hr) (BookS.ne I hr (apart_T Ap)).symm)
    · exact .tail _ (mem_off' (sub_T h) n1)
theorem off1_mem {D : Addr} : ∀ {l : List (Addr × Obj)}, LCg.Off1 D l → ∀ p ∈ l, p.1 ≠ D
  | [], _, _, h => nomatch h
  | _ :: _, x, p, h => by
    rcases List.mem_cons.mp h with rfl | h
    · exact x.1
    · exact off1_mem x.2 p h
noncomputable abbrev lamQual : Str := "_law_told_right.<locals>.<lambda>"
/-- the table of the code of the told deed: with the code of its lambda or not yet -/
inductive Lam : List (Addr × Obj) → Prop
  | fresh : Lam [(239, tabObj #[])]
  | made (c' : Addr) (oc : Obj) (vs : Array Value) (t : Tok) : oc.data = .fields vs → vs[1]? = some (.str lamQual t) → Lam [(239, tabObj #[rawInt 151, rawInt 46, .ref c']), (c', oc)]
end
section
theorem kts64 (w : World) : ktsIn (Mine.hd.heap_1 w.params) 64 "BaseException" = true := by kernel_rfl
theorem kts44 (w : World) : ktsIn (Mine.hd.heap_1 w.params) 44 "BaseException" = true := by kernel_rfl
noncomputable def LamHas (lam : List (Addr × Obj)) (c' : Addr) : Prop := ∃ oc vs t, (c', oc) ∈ lam ∧ oc.data = .fields vs ∧ vs[1]? = some (.str lamQual t)
theorem LamHas.rec {lam : List (Addr × Obj)} {c' : Addr} {h₀ h : Heap} {L : Addr} (x : LamHas lam c') (N : News h₀ L h lam) : h.CodeRec (.ref c') lamQual := by
  obtain ⟨oc, vs, t, hm, hd, hv⟩ := x
  exact codeRec_news N hm hd hv
theorem Lam.mem {lam : List (Addr × Obj)} (x : Lam lam) : ∃ o, ((239 : Addr), o) ∈ lam := by
  cases x with
  | fresh => exact ⟨_, .head _⟩
  | made => exact ⟨_, .head _⟩
section
variable {w : World} {M : Model} {A : Around} {E : Value → Shared → Prop} {s : Shared} {h₀ : Heap} {L a : Addr} {m mg mb : Str → Option Value} {cn : Str} {cs : Scope} {ccd : Value} {cl : List (Str × Addr)} {p : Program} {loose : List Str} {mean : ExcName → Option Value}
  {S : LimS w} {T : BookS w} {aS : Addr} {x y : Int} {tx ty n : Nat} {lam rest pre : List (Addr × Obj)} {params : Arguments} {body : Expr} {scope : Scope} {clos : List (Str × Addr)} {pos : Pos}
theorem lam_c {Q : Value → Shared → Prop} (Lm : Lam lam) (F : Fr h₀ L s.heap m) (N : News h₀ L s.heap (pre ++ deed S T aS x y tx ty n (lam ++ rest))) (Ap : Apart (deed S T aS x y tx ty n (lam ++ rest))) (hpre : ∀ p ∈ pre, p.1 ≠ 239) (TT : Top p loose mean mg mb h₀) (C : CodeHd h₀ 241 239) (hcd : ccd = .ref 241)
    (hl : pos.line = 151) (hc : pos.col = 46) (hq : (envX cn cs L a ccd cl).qual ++ "<lambda>" = lamQual) (hcl : closureFor scope (envX cn cs L a ccd cl) = pure clos) (hdef : defaultsOf params (envX cn cs L a ccd cl) = ([], []))
    (h : ∀ f c' ctv lam' h' tk', Fr h₀ L h' m → News h₀ L h' ((f, kla_obj "<lambda>" lamQual params body scope clos ((mg "__name__").getD .none) c' ctv) :: (pre ++ deed S T aS x y tx ty n (lam' ++ rest))) → Lam lam' → Apart (deed S T aS x y tx ty n (lam' ++ rest)) → LamHas lam' c' →
      (∀ p ∈ pre, p.1 < f) → (∀ p ∈ deed S T aS x y tx ty n (lam' ++ rest), p.1 < f) → Q (.ref f) { s with heap := h', toks := tk' }) :
    wpAny M A (eval (.Lambda params body scope pos) (envX cn cs L a ccd cl)) Q E s := by
  refine kla_eval hdef ?_
  rw [hq]
  cases Lm with
  | fresh =>
    have hm : ((239 : Addr), tabObj #[]) ∈ pre ++ deed S T aS x y tx ty n ([((239 : Addr), tabObj #[])] ++ rest) := List.mem_append_right _ (deed_rest (.head _))
    obtain ⟨N1, o1⟩ := led_at N hm
    refine kla_nest F N1 TT C hcd (UpdF.head fun p hp => o1 p hp 239 (.head _)) trivial rfl hcl ?_
    intro f c' oc vs t ctv h' tk F' N' hd hv l1 l2
    have l1' : ∀ p ∈ pre ++ deed S T aS x y tx ty n ([((239 : Addr), tabObj #[])] ++ rest), p.1 < c' := fun q hq => by
      by_cases e : q.1 = 239
      · have := l1 _ (.head _)
        rw [e]; exact this
      · exact l1 q (.tail _ (mem_off hq e))
    have Ap0 := Ap
    unfold Apart deed at Ap
    have hdm : ∀ q ∈ deed S T aS x y tx ty n (([(239, tabObj #[rawInt 151, rawInt 46, .ref c']), (c', oc)] : List (Addr × Obj)) ++ rest), q = (239, tabObj #[rawInt 151, rawInt 46, .ref c']) ∨ q = (c', oc) ∨ (q ∈ deed S T aS x y tx ty n ([((239 : Addr), tabObj #[])] ++ rest) ∧ q.1 ≠ 239) := by
      intro q hq
      simp only [List.cons_append, List.nil_append, List.map_append, List.map_cons, List.nodup_append, List.nodup_cons, List.mem_append, List.mem_cons] at Ap
      simp only [deed, List.cons_append, List.nil_append, List.mem_append, List.mem_cons] at hq ⊢
      rcases hq with hq | hq | hq | hq | hq
      · refine .inr (.inr ⟨.inl hq, Ap.2.2 _ ?_ _ (.inr (.inl rfl))⟩)
        rcases hq with hq | hq
        · exact .inl (List.mem_map_of_mem (f := Prod.fst) hq)
        · exact .inr (List.mem_map_of_mem (f := Prod.fst) hq)
      · refine .inr (.inr ⟨.inr (.inl hq), ?_⟩)
        rw [hq]
        exact fun e => Ap.2.1.1 (.inl e)
      · exact .inl hq
      · exact .inr (.inl hq)
      · refine .inr (.inr ⟨.inr (.inr (.inr hq)), fun e => Ap.2.1.2.1 ?_⟩)
        rw [← e]
        exact (show q.1 ∈ _ from List.mem_map_of_mem (f := Prod.fst) hq)
    have l3 : ∀ q ∈ deed S T aS x y tx ty n (([(239, tabObj #[rawInt 151, rawInt 46, .ref c']), (c', oc)] : List (Addr × Obj)) ++ rest), q.1 < f := by
      intro q hq
      rcases hdm q hq with rfl | rfl | ⟨h1, _⟩
      · exact Nat.lt_trans (show (239 : Addr) < c' from l1' _ hm) l2
      · exact l2
      · exact Nat.lt_trans (l1' _ (List.mem_append_right _ h1)) l2
    refine h f c' ctv [(239, tabObj #[rawInt 151, rawInt 46, .ref c']), (c', oc)] h' tk F' (kst_newsOf N' fun q hq => ?_) (.made c' oc vs t hd hv) ?_ ⟨oc, vs, t, .tail _ (.head _), hd, hv⟩ (fun q hq => Nat.lt_trans (l1' q (List.mem_append_left _ hq)) l2) l3
    · have e : (#[] : Array Value) ++ #[rawInt ↑pos.line, rawInt ↑pos.col, .ref c'] = #[rawInt 151, rawInt 46, .ref c'] := by rw [hl, hc]; rfl
      rw [e]
      rcases List.mem_cons.mp hq with rfl | hq
      · exact .head _
      · refine .tail _ ?_
        rcases List.mem_append.mp hq with hq | hq
        · exact .tail _ (.tail _ (mem_off (List.mem_append_left _ hq) (hpre q hq)))
        · rcases hdm q hq with rfl | rfl | ⟨h1, h2⟩
          · exact .tail _ (.head _)
          · exact .head _
          · exact .tail _ (.tail _ (mem_off (List.mem_append_right _ h1) h2))
    · have hc' : c' ∉ (deed S T aS x y tx ty n ([((239 : Addr), tabObj #[])] ++ rest)).map (·.1) := fun hm' => by
        obtain ⟨q, hq, e⟩ := List.mem_map.mp hm'
        exact Nat.ne_of_lt (l1' q (List.mem_append_right _ hq)) e
      have pm : ((deed S T aS x y tx ty n (([(239, tabObj #[rawInt 151, rawInt 46, .ref c']), (c', oc)] : List (Addr × Obj)) ++ rest)).map (·.1)).Perm (c' :: (deed S T aS x y tx ty n ([((239 : Addr), tabObj #[])] ++ rest)).map (·.1)) := by
        unfold deed
        simp only [List.map_append, List.map_cons, List.map_nil, List.cons_append, List.nil_append, List.append_assoc]
        have p0 : ∀ (a b : List Addr) (u v : Addr) (z : List Addr), (a ++ (b ++ u :: v :: c' :: z)).Perm (c' :: (a ++ (b ++ u :: v :: z))) := fun a b u v z => by
          have := List.perm_middle (a := c') (l₁ := a ++ b ++ [u, v]) (l₂ := z)
          simpa using this
        exact p0 _ _ _ _ _
      exact (pm.nodup_iff).mpr (List.nodup_cons.mpr ⟨hc', Ap0⟩)
  | made c' oc vs t hd hv =>
    have hm : ((239 : Addr), tabObj #[rawInt 151, rawInt 46, .ref c']) ∈ pre ++ deed S T aS x y tx ty n ([((239 : Addr), tabObj #[rawInt 151, rawInt 46, .ref c']), (c', oc)] ++ rest) := List.mem_append_right _ (deed_rest (.head _))
    refine kla_hit (c' := c') F N TT C hcd hm trivial ?_ hcl ?_
    · show codeAmong pos [rawInt 151, rawInt 46, .ref c'] = some (.ref c')
      unfold codeAmong rawInt
      rw [hl, hc]
      rfl
    · intro f ctv h' tk F' N' l1
      exact h f c' ctv _ h' tk F' N' (.made c' oc vs t hd hv) Ap ⟨oc, vs, t, .tail _ (.head _), hd, hv⟩ (fun q hq => l1 q (List.mem_append_left _ hq)) (fun q hq => l1 q (List.mem_append_right _ hq))
end
end
theorem set_L13 : True := by
  w_top off
  k_with_none
  k_with "way M" => refine' code_defM ?k1 ?k2 ?k3 ?k4 ?k5 ?kA ?kF ?kK ?kD ?k6 ?k7 ?k8 ?k9 ?kB ?_ ?c2 ?c3 ?c4 ?c5; (case kA => assumption); (case kF => assumption); (case kK => assumption); (case kD => assumption); (case k1 => k_asm); (case k2 => k_asm); (case k3 => k_asm); (case k4 => k_asm); (case k5 => k_asm); (case k6 => k_is); (case k7 => k_is); (case k8 => ktr_room); (case k9 => first | exact BindsTo.of_eq rfl | exact binds_K (by k_in) rfl (by k_is) rfl rfl rfl); (case c5 => decide); (case kB => exact locs rfl); (case c2 => exact rfl); (case c3 => exact rfl); (case c4 => exact rfl); k_whole
  k_with "way C" => refine' code_defC ?k1 ?k2 ?k3 ?k4 ?k5 ?kA ?kF ?kK ?k6 ?k7 ?k8 ?k9 ?kB ?kD ?_ ?c2 ?c3 ?c4; (case kA => first | assumption | exact rfl); (case kF => first | assumption | exact rfl); (case kK => assumption); (case k1 => k_asm); (case k2 => k_asm); (case k3 => k_asm); (case k4 => k_asm); (case k5 => k_asm); (case k6 => k_is); (case k7 => k_is); (case k8 => ktr_room); (case k9 => first | exact BindsTo.of_eq rfl | exact binds_K (by k_in) rfl (by k_is) rfl rfl rfl); (case kB => exact rfl); (case kD => decide +kernel); (case c2 => exact rfl); (case c3 => exact rfl); (case c4 => exact rfl); k_whole
  k_with "way D" => refine' code_def ?k1 ?k2 ?k3 ?k4 ?k5 ?kA ?kF ?kK ?k6 ?k7 ?k8 ?k9 ?kB ?_ ?c2 ?c3 ?c4 ?c5; (case kA => first | assumption | exact rfl); (case kF => first | assumption | exact rfl); (case kK => assumption); (case k1 => k_asm); (case k2 => k_asm); (case k3 => k_asm); (case k4 => k_asm); (case k5 => k_asm); (case k6 => k_is); (case k7 => k_is); (case k8 => ktr_room); (case k9 => first | exact BindsTo.of_eq rfl | exact binds_K (by k_in) rfl (by k_is) rfl rfl rfl); (case c5 => decide); (case kB => exact locs rfl); (case c2 => exact rfl); (case c3 => exact rfl); (case c4 => exact rfl); k_whole
  k_with "way CM" => refine' code_defCM ?k1 ?k2 ?k3 ?k4 ?k5 ?kA ?kF ?kK ?kE ?k6 ?k7 ?k8 ?k9 ?kB ?kD ?_ ?c2 ?c3 ?c4; (case kA => assumption); (case kF => assumption); (case kK => assumption); (case kE => assumption); (case k1 => k_asm); (case k2 => k_asm); (case k3 => k_asm); (case k4 => k_asm); (case k5 => k_asm); (case k6 => k_is); (case k7 => k_is); (case k8 => ktr_room); (case k9 => first | exact BindsTo.of_eq rfl | exact binds_K (by k_in) rfl (by k_is) rfl rfl rfl); (case kB => exact rfl); (case kD => decide +kernel); (case c2 => exact rfl); (case c3 => exact rfl); (case c4 => exact rfl); k_whole
  k_with "exec For Name Call cons nil" => (k_here; (with_unfolding_all refine' For_invVF (by k_asm) (by exact rfl) (by exact rfl) ?_; k_whole))
  k_with "unpackItems ref" => (k_here; k_dflt (refine' unpackItemsN_ (by k_asm) (by k_asm) (by kun_tup) (by assumption) (by exact rfl) ?_; k_whole); intro _ _ _; (try k_sweep))
  k_with "subscriptTail Name Name ref int" => ((with_reducible first | show wpAny _ _ (subscriptTail _ _ (Value.ref (LimS.aR _)) _) _ _ _ | show wpAny _ _ (subscriptTail _ _ (Value.ref (BookS.aB _)) _) _ _ _); refine stop_here ?_)
  k_with "compareOp In int ref" => ((with_reducible first | show wpAny _ _ (compareOp _ _ (Value.ref (LimS.aR _))) _ _ _ | show wpAny _ _ (compareOp _ _ (Value.ref (BookS.aB _))) _ _ _ | show wpAny _ _ (compareOp _ _ (Value.ref (LRow.kA _))) _ _ _ | show wpAny _ _ (compareOp _ _ (Value.ref (BRow.kA _))) _ _ _); refine stop_here ?_)
  k_with "compareOp NotIn int ref" => ((with_reducible first | show wpAny _ _ (compareOp _ _ (Value.ref (LimS.aR _))) _ _ _ | show wpAny _ _ (compareOp _ _ (Value.ref (BookS.aB _))) _ _ _ | show wpAny _ _ (compareOp _ _ (Value.ref (LRow.kA _))) _ _ _ | show wpAny _ _ (compareOp _ _ (Value.ref (BRow.kA _))) _ _ _); refine stop_here ?_)
  k_with "getMethod ref" => ((with_reducible first | show wpAny _ _ (getMethod (Value.ref (LimS.aR _)) _ _) _ _ _ | show wpAny _ _ (getMethod (Value.ref (BookS.aB _)) _ _) _ _ _); refine stop_here ?_)
  k_with "call builtin:len" => ((with_reducible first | show wpAny _ _ (call _ [Value.ref (LRow.kA _)]) _ _ _ | show wpAny _ _ (call _ [Value.ref (BRow.kA _)]) _ _ _); refine stop_here ?_)
  k_with "call ref" => ((with_reducible first | show wpAny _ _ (call (Value.ref 124) [Value.ref (LimS.aL _), _]) _ _ _); refine stop_here ?_)
  k_with "subscriptTail Name Slice ref ref" => refine stop_here ?_
  k_with "subscriptTail Attribute Name Name ref int" => ((with_reducible show wpAny _ _ (subscriptTail _ _ (Value.ref (LimS.aR _)) _) _ _ _); k_dflt (refine kba_turn (value' := PySem.Expr.Name (PySem.Str.ofString "_") ⟨0, 0, 0, 0⟩) (fun _ => rfl) ?_))
  k_with "subscriptTail Attribute Name ref int" => ((with_reducible show wpAny _ _ (subscriptTail _ _ (Value.ref (LimS.aR _)) _) _ _ _); k_dflt (refine kba_turn (value' := PySem.Expr.Name (PySem.Str.ofString "_") ⟨0, 0, 0, 0⟩) (fun _ => rfl) ?_))
  k_with "subscriptTail Subscript Subscript" => ((with_reducible show wpAny _ _ (subscriptTail _ _ (Value.ref (BRow.kA _)) _) _ _ _); k_dflt (refine kba_turn (value' := PySem.Expr.Name (PySem.Str.ofString "_") ⟨0, 0, 0, 0⟩) (fun _ => rfl) ?_))
  k_with "exec Raise" => refine stop_here ?_
  k_with "subscriptTail Subscript Name Name Constant ref int" => ((with_reducible show wpAny _ _ (subscriptTail _ _ (Value.ref (BRow.bA _)) _) _ _ _); k_dflt (refine item_at (vs := BRow.items _) (News.isList (by k_asm) (by k_mem)) (by decide) (by decide) rfl ?_))
  k_with "subscriptTail Name Constant ref int" => ((with_reducible show wpAny _ _ (subscriptTail _ _ (Value.ref (BRow.bA _)) _) _ _ _); k_dflt (refine item_at (vs := BRow.items _) (News.isList (by k_asm) (by k_mem)) (by decide) (by decide) rfl ?_))
  k_with "exec Assign cons ListComp" => refine stop_here ?_
  k_with "eval Lambda" => refine stop_here ?_
  k_with "call ref" => ((with_reducible first | show wpAny _ _ (call (Value.ref 218) _) _ _ _ | show wpAny _ _ (call (Value.ref 145) _) _ _ _ | show wpAny _ _ (call (Value.ref 152) _) _ _ _| show wpAny _ _ (call (Value.ref 232) _) _ _ _); refine stop_here ?_)
  k_with "subscriptTail" => (k_here; k_dflt (refine kim_list (lo := BRow.obj _) (l := BRow.items _) (by k_asm) (by k_mem) rfl rfl (by decide) (by decide) rfl ?_))
  trivial
theorem told_c {w : World} {A A₀ : Around} {env : Env} {outer : List Env} {base h₀ : Heap} {L : Addr} {m : Str → Option Value} {s : Shared} {R : Result → Shared → Prop}
    {loose : List Str} {mean : ExcName → Option Value} {mg mb : Str → Option Value} {rest lam : List (Addr × Obj)} {S : LimS w} {Bk : BookS w} {aS : Addr} {x y port mac : Int} {tx ty n tp tm : Nat}
    (B : Below A₀ base outer h₀) (F : Fr h₀ L s.heap m) (X : (Mine.hd.heap_1 w.params).In h₀) (N : News h₀ L s.heap (deed S Bk aS x y tx ty n (lam ++ rest))) (T : Top topProg loose mean mg mb h₀) (hA : A.frames = some (env :: outer)) (hf : env.frame = some L) (hke : env.scope.kind = .function) (hroom : A.depth < 530) (hh : A.handled = none) (hun : A.units < 8000) (D : KtsDicts (frs outer) h₀) (XB : (Mine.hd.heap_1 w.params).In base) (CH : CodeHd h₀ 241 239)
    (e : S.abs = Bk.abs) (I : Inv Bk.abs) (Ap : Apart (deed S Bk aS x y tx ty n (lam ++ rest))) (hx : 0 ≤ x) (hy0 : 0 ≤ y) (hy : y < 2147483647)
    (Lm : Lam lam)
    (ret : ∀ (S' : LimS w) (Bk' : BookS w) x' y' tx' ty' n' lam' h₀' h' tk', Back A₀ base outer h₀ L m h' (deed S' Bk' aS x' y' tx' ty' n' (lam' ++ rest)) h₀' → Apart (deed S' Bk' aS x' y' tx' ty' n' (lam' ++ rest)) → S'.aL = S.aL → Bk'.aB = Bk.aB → S'.abs = Bk'.abs → Inv Bk'.abs → Lam lam' → 0 ≤ x' → 0 ≤ y' → y' < 2147483647 →
      R (.ok (.ret (.bool true))) { s with heap := h', toks := tk' }) :
    codeAny (model PR w) A (.call (.ref 242) ⟨[.ref aS, .ref S.aL, .ref Bk.aB, .int port tp, .int mac tm], []⟩) R s := by
  have mS := deed_src (S := S) (T := Bk) (aS := aS) (x := x) (y := y) (tx := tx) (ty := ty) (n := n) (rest := lam ++ rest)
  have mB := deed_B (S := S) (T := Bk) (aS := aS) (x := x) (y := y) (tx := tx) (ty := ty) (n := n) (rest := lam ++ rest)
  have hb1 : ∀ r ∈ Bk.rows, (r.bA, r.obj) ∈ deed S Bk aS x y tx ty n (lam ++ rest) := fun r h => deed_b1 h
  have hb2 : ∀ r ∈ Bk.rows, (r.kA, listOf r.vs.toArray r.kn) ∈ deed S Bk aS x y tx ty n (lam ++ rest) := fun r h => deed_b2 h
  have hd := Bk.hd
  have lo := Bk.lo
  have hlen := BookS.len I
  first | k_dflt ktr_enter | fail "no way in"
  rename (∀ p ∈ deed S Bk aS x y tx ty n (lam ++ rest), _) => lall
  k_steps
  refine LCt.Assign_ListComp_T (F₀ := by k_asm) (by rfl) (by with_unfolding_all rfl) (by with_unfolding_all rfl) (by decide) (by rfl) (by decide) (by rfl) (by rfl) (by rfl) ?_
  k_steps
  refine sorted_dict (by exact hh) (by k_asm) (by k_asm) (by k_mem) hd lo (by simp [kvsB]; omega) ?_
  intro DL vs ks c h' tk F' N' lD hvi hP hS
  rw [kvsB_keys] at hP
  have hP' : ks.Perm (Bk.abs.map (·.1)) := by unfold BookS.abs; rw [List.map_map]; exact hP
  have hkl : vs.length ≤ 4 := by
    have h1 := hP.length_eq
    have h2 := hvi.length
    simp only [List.length_map] at h1
    omega
  k_steps
  refine LCt.CompSrcT.ledger (by exact hh) (by k_asm) (by k_asm) (List.Mem.head _) (by rw [sizeLine_eq]; simp; omega) fun g => ?_
  refine rest_fix (fun i ys => IntsAre ys (heldL Bk.abs mac (ks.take i))) (.inr ⟨_, List.Mem.head _, rfl, _, rfl⟩) .nil ?_ ?_
  · intro ys hys DH h tk F' N' o1
    have hys' : IntsAre ys (heldL Bk.abs mac ks) := by
      have : vs.toArray.size = ks.length := by simpa using hvi.length
      rw [this, List.take_length] at hys
      exact hys
    have aSL := ltN (lall _ mS)
    dsimp only
    k_steps
    obtain ⟨N1, oS⟩ := led_at N' (by k_mem : (aS, srcObj x y tx ty n) ∈ _)
    refine wpAny_call (takeA (by assumption) (by k_asm) (by k_asm) N1 (by k_asm) (by show Option.map _ A.frames = _; rw [hA]; rfl) rfl rfl (by show A.depth + 1 < 700; first | exact room1 hroom (by decide) | exact room1 hdp (by decide) | omega) oS hx hy0 hy (by decide) (by decide) ?_)
    intro r tr x' y' tx' ty' n' h' tk' F' N' hx' hy0' hy' hr0 hr1
    have N' : News _ _ _ (_ :: _ :: _ :: _ :: _ :: _ :: deed S Bk aS x' y' tx' ty' n' (lam ++ rest)) := src_swap (pre := [_, _, _, _, _, _]) Ap (fun p hp => by
      simp only [List.mem_cons, List.not_mem_nil, or_false] at hp
      rcases hp with rfl | rfl | rfl | rfl | rfl | rfl
      · exact (off1_mem o1 _ (by k_mem : (aS, srcObj x y tx ty n) ∈ _)).symm
      · exact Nat.ne_of_gt (lD _ (by k_mem : (aS, srcObj x y tx ty n) ∈ _))
      all_goals exact Nat.ne_of_gt (by dsimp only; omega)) N'
    have Ap' : Apart (deed S Bk aS x' y' tx' ty' n' (lam ++ rest)) := apart_swap (o' := srcObj x' y' tx' ty' n') Ap
    clear Ap
    have mS := deed_src (S := S) (T := Bk) (aS := aS) (x := x') (y := y') (tx := tx') (ty := ty') (n := n') (rest := lam ++ rest)
    have mB := deed_B (S := S) (T := Bk) (aS := aS) (x := x') (y := y') (tx := tx') (ty := ty') (n := n') (rest := lam ++ rest)
    have hb1 : ∀ r ∈ Bk.rows, (r.bA, r.obj) ∈ deed S Bk aS x' y' tx' ty' n' (lam ++ rest) := fun r h => deed_b1 h
    have hb2 : ∀ r ∈ Bk.rows, (r.kA, listOf r.vs.toArray r.kn) ∈ deed S Bk aS x' y' tx' ty' n' (lam ++ rest) := fun r h => deed_b2 h
    have IS : Inv S.abs := by rw [e]; exact I
    dsimp only
    k_steps
    have hcl : (9000 : Nat) < cLine := by have : cLine = 9900 := rfl; omega
    rotate_left
    · have hk : mac ∈ knownS Bk.abs port := (held_one I hP').mp (by assumption)
      rcases BookS.val I port with ⟨ea, hv⟩ | ⟨r, hr, rfl, ea, hv⟩
      · exact absurd hk (by simp [knownS, ea])
      have hkr : mac ∈ r.a.known := by rw [← known_of_mem I (BookS.mabs hr)]; exact hk
      have hml : r.a.known.length ≤ 3 := I.klen (BookS.mabs hr)
      have p1 := hb1 r hr
      have p2 := hb2 r hr
      refine kda_item (by k_asm) (by k_mem) hd (intKind_is _ _ _ _) hv ?_
      k_steps
      · have hst : r.a.stay = true := by simp [*]
        have ef : forgetS S.abs r.port mac = (false, S.abs) := by rw [e]; simp only [forgetS, ea]; rw [if_pos hst]
        rename News _ _ _ _ => NN
        have NS := kst_newsOf (l' := S.led ++ (Bk.led ++ ((aS, srcObj x' y' tx' ty' n') :: (lam ++ rest)))) NN (fun p hp => List.mem_append_right [_, _, _, _, _, _, _] (sub_S hp))
        refine wpAny_call (forget_c (rest := Bk.led ++ ((aS, srcObj x' y' tx' ty' n') :: (lam ++ rest))) (by assumption) (by k_asm) (by k_asm) NS (by k_asm) (by show Option.map _ A.frames = _; rw [hA]; rfl) rfl rfl (by show A.depth + 1 < 590; first | exact room1 hroom (by decide) | exact room1 hdp (by decide) | omega) (by exact hh) IS (apart_S Ap') ?_)
        intro S' h' tk' F' N' aP e1 e2
        rw [ef] at e2
        have hval : ((forgetS S.abs r.port mac).1 == !r.a.stay) = true := by rw [ef, hst]; rfl
        k_steps
        refine ⟨_, _, _, _, KtsTurn.refl, by k_asm, kst_newsOf (by k_asm) fun p hp => from_S hp, fun h₀' Y => by rw [hval]; exact ret S' Bk _ _ _ _ _ lam h₀' _ _ Y (apart_S' aP) e1 rfl (by rw [e2]; exact e) I Lm hx' hy0' hy'⟩
      · have hst : r.a.stay = false := by simp [*]
        have ef : forgetS S.abs r.port mac = (true, upd S.abs r.port { r.a with known := r.a.known.erase mac }) := by rw [e]; simp only [forgetS, ea]; rw [if_neg (by simp [hst]), if_pos hkr]
        refine kda_item (by k_asm) (by k_mem) hd (intKind_is _ _ _ _) hv ?_
        k_steps
        rename News _ _ _ _ => NN
        have NC : News _ _ _ (_ :: _ :: _ :: _ :: deed S Bk aS x' y' tx' ty' n' (lam ++ rest)) := kst_newsOf NN (fun p hp => .tail _ (.tail _ (.tail _ hp)))
        clear NN
        refine remove_c (vs := r.vs) (n := r.kn) (by k_asm) NC (.tail _ (.tail _ (.tail _ (.tail _ p2)))) r.ok hkr (by omega) ?_
        intro vs' h' F' N' hi'
        have kAL := ltN (lall _ (deed_b2 hr))
        obtain ⟨B2, z1, z2, z3, z4⟩ := deed_list [_, _, _, _] I hr Ap' { r with a := { r.a with known := r.a.known.erase mac }, vs := vs', ok := hi', kn := r.kn + 1 } N' (fun p hp => by
          simp only [List.mem_cons, List.not_mem_nil, or_false] at hp
          rcases hp with rfl | rfl | rfl | rfl
          all_goals exact Nat.ne_of_gt (by dsimp only; omega)) rfl rfl rfl rfl
        have N' : News _ _ _ (_ :: _ :: _ :: _ :: deed S B2 aS x' y' tx' ty' n' (lam ++ rest)) := z4
        clear NC z4
        k_steps
        have NS := kst_newsOf (l' := S.led ++ (B2.led ++ ((aS, srcObj x' y' tx' ty' n') :: (lam ++ rest)))) N' (fun p hp => List.mem_append_right [_, _, _, _] (sub_S hp))
        refine wpAny_call (forget_c (rest := B2.led ++ ((aS, srcObj x' y' tx' ty' n') :: (lam ++ rest))) (by assumption) (by k_asm) (by k_asm) NS (by k_asm) (by show Option.map _ A.frames = _; rw [hA]; rfl) rfl rfl (by show A.depth + 1 < 590; first | exact room1 hroom (by decide) | exact room1 hdp (by decide) | omega) (by exact hh) IS (apart_S z3) ?_)
        intro S' h' tk' F' N' aP e1 e2
        rw [ef] at e2
        have hval : ((forgetS S.abs r.port mac).1 == !r.a.stay) = true := by rw [ef, hst]; rfl
        k_steps
        refine ⟨_, _, _, _, KtsTurn.refl, by k_asm, kst_newsOf (by k_asm) fun p hp => from_S hp, fun h₀' Y => by rw [hval]; exact ret S' B2 _ _ _ _ _ lam h₀' _ _ Y (apart_S' aP) e1 z1 (by rw [e2, z2, e]) (by rw [z2]; exact inv_same I ea rfl rfl List.length_erase_le fun k hk => List.mem_of_mem_erase hk) Lm hx' hy0' hy'⟩
    · have hk : mac ∉ knownS Bk.abs port := fun hm => absurd ((held_one I hP').mpr hm) (by assumption)
      have ef : forgetS S.abs port mac = (false, S.abs) := by
        rw [e]; unfold forgetS knownS at *
        cases h : at? Bk.abs port with
        | none => rfl
        | some a => rw [h] at hk; dsimp only at hk ⊢; rw [if_neg hk]; split <;> rfl
      rename News _ _ _ _ => NN
      have NS := kst_newsOf (l' := S.led ++ (Bk.led ++ ((aS, srcObj x' y' tx' ty' n') :: (lam ++ rest)))) NN (fun p hp => List.mem_append_right [_, _, _, _, _, _, _] (sub_S hp))
      refine wpAny_call (forget_c (rest := Bk.led ++ ((aS, srcObj x' y' tx' ty' n') :: (lam ++ rest))) (by assumption) (by k_asm) (by k_asm) NS (by k_asm) (by show Option.map _ A.frames = _; rw [hA]; rfl) rfl rfl (by show A.depth + 1 < 590; first | exact room1 hroom (by decide) | exact room1 hdp (by decide) | omega) (by exact hh) IS (apart_S Ap') ?_)
      intro S' h' tk' F' N' aP e1 e2
      rw [ef] at e2
      have hval : ((forgetS S.abs port mac).1 == decide (heldL Bk.abs mac ks = [port])) = true := by rw [ef, decide_eq_false (by assumption)]; rfl
      k_steps
      refine ⟨_, _, _, _, KtsTurn.refl, by k_asm, kst_newsOf (by k_asm) fun p hp => from_S hp, fun h₀' Y => by rw [hval]; exact ret S' Bk _ _ _ _ _ lam h₀' _ _ Y (apart_S' aP) e1 rfl (by rw [e2]; exact e) I Lm hx' hy0' hy'⟩
    · obtain ⟨o239, h239⟩ := Lm.mem
      have l239 := ltN (lall _ (deed_rest (List.mem_append_left _ h239)))
      rcases BookS.val I port with ⟨ea, hv⟩ | ⟨r, hr, rfl, ea, hv⟩
      · have bad : putOK S.abs port mac = false := by rw [e]; simp [putOK, ea]
        refine kda_in (by k_asm) (by k_mem) hd lo (intKind_is _ _ _ _) false (by rw [hv]; rfl) ?_
        k_steps
        rename News _ _ _ _ => NN
        have NC : News _ _ _ ([_, _, _, _] ++ deed S Bk aS x' y' tx' ty' n' (lam ++ rest)) := kst_newsOf NN (fun p hp => .tail _ (.tail _ hp))
        refine lam_c Lm (by k_asm) NC Ap' (fun p hp => by
          simp only [List.mem_cons, List.not_mem_nil, or_false] at hp
          rcases hp with rfl | rfl | rfl | rfl
          all_goals exact Nat.ne_of_gt (by dsimp only; omega)) (by k_asm) (CH.keeps (Front.stays (by assumption))) rfl rfl rfl rfl rfl rfl ?_
        intro f c' ctv lam' h' tk' F' N' Lm' Ap'' hLH lf1 lf2
        clear NC NN
        have lf := allLt_of lf2
        rw [List.cons_append, List.cons_append, List.cons_append, List.cons_append, List.nil_append] at N'
        k_steps
        refine wpAny_call (refused_c (news' := S.led ++ (Bk.led ++ ((aS, srcObj x' y' tx' ty' n') :: (lam' ++ rest)))) (by assumption) (by k_asm) (by k_asm) N' (by k_asm) (by show Option.map _ A.frames = _; rw [hA]; rfl) rfl rfl (by show A.depth + 1 < 550; first | exact room1 hroom (by decide) | exact room1 hdp (by decide) | omega) (by exact hh) (Front.dicts (by assumption)) XB (kts64 w) ?_ ?_ ?_)
        · clear N' F'
          intro A2 A02 env2 outer2 base2 h2 L2 m2 s2 R2 loose2 mean2 mg2 mb2 B2 F2 X2 N2 T2 hA2 hf2 hke2 hd2 hh2 ret2
          have hrec := hLH.rec (kst_newsOf N2 fun p hp => .tail _ (.tail _ (.tail _ (.tail _ (.tail _ (deed_rest (List.mem_append_left _ hp)))))))
          refine kla_code B2 F2 X2 N2 T2 hA2 hf2 hke2 (List.Mem.head _) hrec (by ktr_room) rfl (locs rfl) ?_ rfl rfl rfl (by decide)
          intro g3 L3 h3 FG3 F3 N3 B3 X3 T3
          dsimp only
          k_steps
          refine wpAny_call (put_r (S := S) (rest := Bk.led ++ ((aS, srcObj x' y' tx' ty' n') :: (lam' ++ rest))) (by assumption) (by k_asm) (by k_asm) (kst_newsOf N3 fun p hp => .tail _ (List.mem_append_right [_, _, _, _] (sub_S hp))) (by k_asm) (by show Option.map _ A2.frames = _; rw [hA2]; rfl) rfl rfl (by show A2.depth + 1 < 590; first | exact room1 hd2 (by decide) | exact room1 hdd2 (by decide) | omega) (by exact hh2) IS (apart_S Ap'') bad ?_)
          intro G e2 t2 vs2 h'' tk2 FG2 R3 U3
          dsimp only
          refine leave_onM hA2 rfl FG2 R3 U3 ?_
          intro h4 R4 U4
          exact ret2 g3 e2 t2 vs2 h4 tk2 FG3 R4 U4
        · intro g2 L2 h2 N2
          exact FnAt.of N2 (.head _)
        · intro h₀2 h' tk' Y
          k_steps
          exact ⟨_, _, _, _, Y.turn, Y.fr, kst_newsOf Y.news (fun p hp => from_S hp), fun h₀' Y' => ret S Bk x' y' tx' ty' n' lam' h₀' _ _ Y' Ap'' rfl rfl e I Lm' hx' hy0' hy'⟩
      · refine kda_in (by k_asm) (by k_mem) hd lo (intKind_is _ _ _ _) true (by rw [hv]; rfl) ?_
        k_steps
        · exact absurd (show [r.port] = ([] : List Int) by rw [← (by assumption : heldL Bk.abs mac ks = [r.port])]; exact of_decide_eq_true (by assumption)) (by simp)
        · rename_i h1 h2
          have hk : mac ∈ knownS Bk.abs r.port := (held_one I hP').mp (by assumption)
          have good : putOK S.abs r.port mac = true := by rw [e, putOK_eq, ea]; simp [hk]
          have hkr : mac ∈ r.a.known := by rw [← known_of_mem I (BookS.mabs hr)]; exact hk
          rename News _ _ _ _ => NN
          have NS := kst_newsOf (l' := S.led ++ (Bk.led ++ ((aS, srcObj x' y' tx' ty' n') :: (lam ++ rest)))) NN (fun p hp => List.mem_append_right [_, _, _, _, _, _, _, _] (sub_S hp))
          refine wpAny_call (put_c (rest := Bk.led ++ ((aS, srcObj x' y' tx' ty' n') :: (lam ++ rest))) (by assumption) (by k_asm) (by k_asm) NS (by k_asm) (by show Option.map _ A.frames = _; rw [hA]; rfl) rfl rfl (by show A.depth + 1 < 590; first | exact room1 hroom (by decide) | exact room1 hdp (by decide) | omega) (by exact hh) IS (apart_S Ap') good ?_)
          intro S' h' tk' F' N' aP e1 e2
          have e3 : S'.abs = Bk.abs := by
            rw [e2, e]
            simp only [putS, ea]
            rw [if_pos hkr]
          k_steps
          exact ⟨_, _, _, _, KtsTurn.refl, by k_asm, kst_newsOf (by k_asm) fun p hp => from_S hp, fun h₀' Y => ret S' Bk _ _ _ _ _ lam h₀' _ _ Y (apart_S' aP) e1 rfl e3 I Lm hx' hy0' hy'⟩
        · rename_i h1 h2
          have hnil : heldL Bk.abs mac ks = [] := of_decide_eq_true (by assumption)
          have hk : mac ∉ knownS Bk.abs r.port := held_mem I hP' hnil
          have hfr : free Bk.abs mac = true := (held_nil I hP').mp hnil
          have hkr : mac ∉ r.a.known := by rw [← known_of_mem I (BookS.mabs hr)]; exact hk
          have hml : r.a.known.length ≤ 3 := I.klen (BookS.mabs hr)
          have p1 := hb1 r hr
          have p2 := hb2 r hr
          refine kda_item (by k_asm) (by k_mem) hd (intKind_is _ _ _ _) hv ?_
          k_steps
          refine len_c (by k_asm) (by k_mem) r.ok (by omega) ?_
          k_steps
          refine kda_item (by k_asm) (by k_mem) hd (intKind_is _ _ _ _) hv ?_
          k_steps
          · have good : putOK S.abs r.port mac = true := by
              rw [e, putOK_eq, ea]
              simp only [hfr, Bool.true_and]
              rw [decide_eq_true (by assumption : (r.a.known.length : Int) < r.a.most), Bool.or_true]
            refine kda_item (by k_asm) (by k_mem) hd (intKind_is _ _ _ _) hv ?_
            k_steps
            rename News _ _ _ _ => NN
            have NC : News _ _ _ (_ :: _ :: _ :: _ :: deed S Bk aS x' y' tx' ty' n' (lam ++ rest)) := kst_newsOf NN (fun p hp => (.tail _ (.tail _ (.tail _ (.tail _ (.tail _ hp))))))
            clear NN
            refine append_c (vs := r.vs) (n := r.kn) (by k_asm) NC (.tail _ (.tail _ (.tail _ (.tail _ p2)))) (by rw [r.ok.length]; omega) ?_
            intro h' F' N'
            have kAL := ltN (lall _ (deed_b2 hr))
            obtain ⟨B2, z1, z2, z3, z4⟩ := deed_list [_, _, _, _] I hr Ap' { r with a := { r.a with known := r.a.known ++ [mac] }, vs := r.vs ++ [.int mac tm], ok := ints_snoc r.ok _ _, kn := r.kn + 1 } N' (fun p hp => by
              simp only [List.mem_cons, List.not_mem_nil, or_false] at hp
              rcases hp with rfl | rfl | rfl | rfl
              all_goals exact Nat.ne_of_gt (by dsimp only; omega)) rfl rfl rfl rfl
            have N' : News _ _ _ (_ :: _ :: _ :: _ :: deed S B2 aS x' y' tx' ty' n' (lam ++ rest)) := z4
            clear NC z4
            k_steps
            have NS := kst_newsOf (l' := S.led ++ (B2.led ++ ((aS, srcObj x' y' tx' ty' n') :: (lam ++ rest)))) N' (fun p hp => List.mem_append_right [_, _, _, _] (sub_S hp))
            refine wpAny_call (put_c (rest := B2.led ++ ((aS, srcObj x' y' tx' ty' n') :: (lam ++ rest))) (by assumption) (by k_asm) (by k_asm) NS (by k_asm) (by show Option.map _ A.frames = _; rw [hA]; rfl) rfl rfl (by show A.depth + 1 < 590; first | exact room1 hroom (by decide) | exact room1 hdp (by decide) | omega) (by exact hh) IS (apart_S z3) good ?_)
            intro S' h' tk' F' N' aP e1 e2
            have e3 : S'.abs = B2.abs := by
              rw [e2, z2, e]
              simp only [putS, ea]
              rw [if_neg hkr]
            have I2 : Inv B2.abs := by
              rw [← e3, e2]
              exact inv_put IS good
            k_steps
            exact ⟨_, _, _, _, KtsTurn.refl, by k_asm, kst_newsOf (by k_asm) fun p hp => from_S hp, fun h₀' Y => ret S' B2 _ _ _ _ _ lam h₀' _ _ Y (apart_S' aP) e1 z1 e3 I2 Lm hx' hy0' hy'⟩
          · have bad : putOK S.abs r.port mac = false := by
              rw [e, putOK_eq, ea]
              simp only [hfr, Bool.true_and]
              rw [decide_eq_false hk, decide_eq_false (by assumption : ¬ (r.a.known.length : Int) < r.a.most)]
              rfl
            rename News _ _ _ _ => NN
            have NC : News _ _ _ ([_, _, _, _] ++ deed S Bk aS x' y' tx' ty' n' (lam ++ rest)) := kst_newsOf NN (fun p hp => (.tail _ (.tail _ (.tail _ (.tail _ hp)))))
            refine lam_c Lm (by k_asm) NC Ap' (fun p hp => by
              simp only [List.mem_cons, List.not_mem_nil, or_false] at hp
              rcases hp with rfl | rfl | rfl | rfl
              all_goals exact Nat.ne_of_gt (by dsimp only; omega)) (by k_asm) (CH.keeps (Front.stays (by assumption))) rfl rfl rfl rfl rfl rfl ?_
            intro f c' ctv lam' h' tk' F' N' Lm' Ap'' hLH lf1 lf2
            clear NC NN
            have lf := allLt_of lf2
            rw [List.cons_append, List.cons_append, List.cons_append, List.cons_append, List.nil_append] at N'
            k_steps
            refine wpAny_call (refused_c (news' := S.led ++ (Bk.led ++ ((aS, srcObj x' y' tx' ty' n') :: (lam' ++ rest)))) (by assumption) (by k_asm) (by k_asm) N' (by k_asm) (by show Option.map _ A.frames = _; rw [hA]; rfl) rfl rfl (by show A.depth + 1 < 550; first | exact room1 hroom (by decide) | exact room1 hdp (by decide) | omega) (by exact hh) (Front.dicts (by assumption)) XB (kts64 w) ?_ ?_ ?_)
            · clear N' F'
              intro A2 A02 env2 outer2 base2 h2 L2 m2 s2 R2 loose2 mean2 mg2 mb2 B2 F2 X2 N2 T2 hA2 hf2 hke2 hd2 hh2 ret2
              have hrec := hLH.rec (kst_newsOf N2 fun p hp => .tail _ (.tail _ (.tail _ (.tail _ (.tail _ (deed_rest (List.mem_append_left _ hp)))))))
              refine kla_code B2 F2 X2 N2 T2 hA2 hf2 hke2 (List.Mem.head _) hrec (by ktr_room) rfl (locs rfl) ?_ rfl rfl rfl (by decide)
              intro g3 L3 h3 FG3 F3 N3 B3 X3 T3
              dsimp only
              k_steps
              refine wpAny_call (put_r (S := S) (rest := Bk.led ++ ((aS, srcObj x' y' tx' ty' n') :: (lam' ++ rest))) (by assumption) (by k_asm) (by k_asm) (kst_newsOf N3 fun p hp => .tail _ (List.mem_append_right [_, _, _, _] (sub_S hp))) (by k_asm) (by show Option.map _ A2.frames = _; rw [hA2]; rfl) rfl rfl (by show A2.depth + 1 < 590; first | exact room1 hd2 (by decide) | exact room1 hdd2 (by decide) | omega) (by exact hh2) IS (apart_S Ap'') bad ?_)
              intro G e2 t2 vs2 h'' tk2 FG2 R3 U3
              dsimp only
              refine leave_onM hA2 rfl FG2 R3 U3 ?_
              intro h4 R4 U4
              exact ret2 g3 e2 t2 vs2 h4 tk2 FG3 R4 U4
            · intro g2 L2 h2 N2
              exact FnAt.of N2 (.head _)
            · intro h₀2 h' tk' Y
              k_steps
              exact ⟨_, _, _, _, Y.turn, Y.fr, kst_newsOf Y.news (fun p hp => from_S hp), fun h₀' Y' => ret S Bk x' y' tx' ty' n' lam' h₀' _ _ Y' Ap'' rfl rfl e I Lm' hx' hy0' hy'⟩
        · have hk : mac ∉ knownS Bk.abs r.port := fun hm => absurd ((held_one I hP').mpr hm) (by assumption)
          have hnf : free Bk.abs mac = false := by
            cases hf : free Bk.abs mac with
            | false => rfl
            | true => exact absurd ((held_nil I hP').mpr hf) (of_decide_eq_false (by assumption))
          have bad : putOK S.abs r.port mac = false := by rw [e, putOK_eq, ea]; simp [hk, hnf]
          rename News _ _ _ _ => NN
          have NC : News _ _ _ ([_, _, _, _] ++ deed S Bk aS x' y' tx' ty' n' (lam ++ rest)) := kst_newsOf NN (fun p hp => (.tail _ (.tail _ (.tail _ (.tail _ hp)))))
          refine lam_c Lm (by k_asm) NC Ap' (fun p hp => by
            simp only [List.mem_cons, List.not_mem_nil, or_false] at hp
            rcases hp with rfl | rfl | rfl | rfl
            all_goals exact Nat.ne_of_gt (by dsimp only; omega)) (by k_asm) (CH.keeps (Front.stays (by assumption))) rfl rfl rfl rfl rfl rfl ?_
          intro f c' ctv lam' h' tk' F' N' Lm' Ap'' hLH lf1 lf2
          clear NC NN
          have lf := allLt_of lf2
          rw [List.cons_append, List.cons_append, List.cons_append, List.cons_append, List.nil_append] at N'
          k_steps
          refine wpAny_call (refused_c (news' := S.led ++ (Bk.led ++ ((aS, srcObj x' y' tx' ty' n') :: (lam' ++ rest)))) (by assumption) (by k_asm) (by k_asm) N' (by k_asm) (by show Option.map _ A.frames = _; rw [hA]; rfl) rfl rfl (by show A.depth + 1 < 550; first | exact room1 hroom (by decide) | exact room1 hdp (by decide) | omega) (by exact hh) (Front.dicts (by assumption)) XB (kts64 w) ?_ ?_ ?_)
          · clear N' F'
            intro A2 A02 env2 outer2 base2 h2 L2 m2 s2 R2 loose2 mean2 mg2 mb2 B2 F2 X2 N2 T2 hA2 hf2 hke2 hd2 hh2 ret2
            have hrec := hLH.rec (kst_newsOf N2 fun p hp => .tail _ (.tail _ (.tail _ (.tail _ (.tail _ (deed_rest (List.mem_append_left _ hp)))))))
            refine kla_code B2 F2 X2 N2 T2 hA2 hf2 hke2 (List.Mem.head _) hrec (by ktr_room) rfl (locs rfl) ?_ rfl rfl rfl (by decide)
            intro g3 L3 h3 FG3 F3 N3 B3 X3 T3
            dsimp only
            k_steps
            refine wpAny_call (put_r (S := S) (rest := Bk.led ++ ((aS, srcObj x' y' tx' ty' n') :: (lam' ++ rest))) (by assumption) (by k_asm) (by k_asm) (kst_newsOf N3 fun p hp => .tail _ (List.mem_append_right [_, _, _, _] (sub_S hp))) (by k_asm) (by show Option.map _ A2.frames = _; rw [hA2]; rfl) rfl rfl (by show A2.depth + 1 < 590; first | exact room1 hd2 (by decide) | exact room1 hdd2 (by decide) | omega) (by exact hh2) IS (apart_S Ap'') bad ?_)
            intro G e2 t2 vs2 h'' tk2 FG2 R3 U3
            dsimp only
            refine leave_onM hA2 rfl FG2 R3 U3 ?_
            intro h4 R4 U4
            exact ret2 g3 e2 t2 vs2 h4 tk2 FG3 R4 U4
          · intro g2 L2 h2 N2
            exact FnAt.of N2 (.head _)
          · intro h₀2 h' tk' Y
            k_steps
            exact ⟨_, _, _, _, Y.turn, Y.fr, kst_newsOf Y.news (fun p hp => from_S hp), fun h₀' Y' => ret S Bk x' y' tx' ty' n' lam' h₀' _ _ Y' Ap'' rfl rfl e I Lm' hx' hy0' hy'⟩
  · intro i ys v I' oI C oC DD m₂ h tk E' hi hv hys hC hx' F' N' o3 hne
    have hik : i < ks.length := by
      have := hvi.length
      simp at hi
      omega
    obtain ⟨t, hvt⟩ := hvi.get i ks[i] (by simp [hik])
    have hv' : vs[i]? = some v := by simpa using hv
    rw [hvt] at hv'
    obtain rfl := Option.some.inj hv'
    obtain ⟨q, hqm, hqp⟩ : ∃ q ∈ Bk.rows, q.port = ks[i] := List.mem_map.mp (hP.mem_iff.mp (List.getElem_mem hik))
    have p1 := hb1 q hqm
    have p2 := hb2 q hqm
    have hkn : knownS Bk.abs ks[i] = q.a.known := by rw [← hqp]; exact known_of_mem I (BookS.mabs hqm)
    have htk := held_take (as := Bk.abs) (mac := mac) (ks := ks) (i := i) (p := ks[i]) (by simp [hik])
    rw [hkn] at htk
    generalize ks[i] = kp at *
    subst hqp
    k_steps
    refine kda_item (by k_asm) (by k_mem) hd (intKind_is _ _ _ _) (kvsB_at (BookS.nd I) hqm) ?_
    k_steps
    refine in_c (by k_asm) (by k_mem) q.ok ?_
    by_cases hkq : mac ∈ q.a.known
    · rw [decide_eq_true hkq]
      rw [if_pos hkq] at htk
      k_steps
      refine PyProof.Rows.LCg.CompEnd.intro (by k_asm) (by k_asm) _ (fun p hp => hp) o3 (.inr ⟨_, List.Mem.head _, rfl, _, rfl⟩) ⟨rfl, ?_⟩
      rw [htk]
      exact ints_snoc hys _ _
    · rw [decide_eq_false hkq]
      rw [if_neg hkq, List.append_nil] at htk
      k_steps
      refine PyProof.Rows.LCg.CompEnd.intro (by k_asm) (by k_asm) _ (fun p hp => hp) o3 (.inr ⟨_, List.Mem.head _, rfl, _, rfl⟩) ⟨rfl, ?_⟩
      rw [htk]
      exact hys
section
open PySem.Spec
theorem allLt_in {d : Addr} : ∀ {l : List (Addr × Obj)}, AllLt d l → ∀ p ∈ l, p.1 < d
  | [], _, _, h => nomatch h
  | _ :: _, x, p, h => by
    rcases List.mem_cons.mp h with rfl | h
    · exact x.1
    · exact allLt_in x.2 p h
structure WRow where
  mac : Int
  ks : List Int
  tA : Addr
  t3 : Nat
  tm : Nat
  lA : Addr
  vs : List Value
  ok : IntsAre vs ks
  kn : Nat
noncomputable def WRow.x (r : WRow) : List Int × Addr × Value := ([3, r.mac], r.tA, .ref r.lA)
noncomputable def WRow.led (r : WRow) : List (Addr × Obj) := [(r.tA, tupObj [.int 3 r.t3, .int r.mac r.tm]), (r.lA, listOf r.vs.toArray r.kn)]
noncomputable abbrev tkd (w : World) : HeapKind PR w (List Int) := tupleKind (intKind PR w)
structure WatS (w : World) where
  aT : Addr
  oT : Obj
  rows : List WRow
  es : Array DictEntry
  ep : Nat
  hc : oT.ExactDict
  hd : oT.data = .dict es ep
  he : es.toList = (rows.map WRow.x).map (entryOfKey (tkd w))
  lo : (aT == sysModules) = false
  nd : (rows.map (·.mac)).Nodup
noncomputable def WatS.led {w : World} (S : WatS w) : List (Addr × Obj) := (S.aT, S.oT) :: S.rows.flatMap WRow.led
noncomputable abbrev WTab := List (Int × List Int)
noncomputable def WatS.abs {w : World} (S : WatS w) : WTab := S.rows.map fun r => (r.mac, r.ks)
noncomputable def wget (as : WTab) (mac : Int) : List Int := ((as.find? fun x => decide (x.1 = mac)).map (·.2)).getD []
section
variable {w : World} {S : WatS w} {rest : List (Addr × Obj)}
theorem WatS.mT : (S.aT, S.oT) ∈ S.led ++ rest := .head _
theorem WatS.mrow {r : WRow} (h : r ∈ S.rows) {p : Addr × Obj} (hp : p ∈ r.led) : p ∈ S.led ++ rest := List.mem_append_left _ (.tail _ (List.mem_flatMap.mpr ⟨r, h, hp⟩))
theorem WatS.m1 {r : WRow} (h : r ∈ S.rows) : (r.tA, tupObj [.int 3 r.t3, .int r.mac r.tm]) ∈ S.led ++ rest := WatS.mrow h (.head _)
theorem WatS.m2 {r : WRow} (h : r ∈ S.rows) : (r.lA, listOf r.vs.toArray r.kn) ∈ S.led ++ rest := WatS.mrow h (.tail _ (.head _))
theorem tup_key {h : Heap} {a : Addr} {mac : Int} {t3 tm : Nat} (ho : h.get? a = some (tupObj [.int 3 t3, .int mac tm])) : IsTupleKey (intKind PR w) h [3, mac] a :=
  ⟨_, _, _, ho, rfl, rfl, .cons (intKind_is _ _ _ _) (.cons (intKind_is _ _ _ _) .nil)⟩
theorem WatS.keys (S : WatS w) : ((S.rows.map WRow.x).map (·.1)).Nodup := by
  have := S.nd
  rw [List.map_map]
  have e : ((fun x : List Int × Addr × Value => x.1) ∘ WRow.x) = (fun m : Int => [3, m]) ∘ (fun r : WRow => r.mac) := rfl
  rw [e, ← List.map_map]
  exact List.Pairwise.map (fun m : Int => [3, m]) (fun a b hne h => hne (by simpa using h)) this
theorem WatS.dictH {h₀ h : Heap} {L : Addr} (N : News h₀ L h (S.led ++ rest)) : h.DictOfH (tkd w) S.aT (S.rows.map WRow.x) :=
  ⟨S.oT, S.es, S.ep, (N _ WatS.mT).1, S.hc, S.hd, S.he, fun x hx => by
    obtain ⟨r, hr, rfl⟩ := List.mem_map.mp hx
    exact tup_key (N _ (WatS.m1 hr)).1, S.keys⟩
theorem WatS.raw {h₀ h : Heap} {L : Addr} (N : News h₀ L h (S.led ++ rest)) : DictRaw h S.aT S.es S.ep := ⟨S.oT, (N _ WatS.mT).1, S.hc, S.hd⟩
theorem WatS.atKey_some {r : WRow} (hr : r ∈ S.rows) : atKey (S.rows.map WRow.x) [3, r.mac] = some (r.tA, .ref r.lA) := by
  obtain ⟨j, hj, e⟩ := List.getElem_of_mem hr
  exact atKey_of_get S.keys (i := j) (by rw [List.getElem?_map, List.getElem?_eq_getElem hj, e]; rfl)
theorem WatS.atKey_none {mac : Int} (h : ∀ r ∈ S.rows, r.mac ≠ mac) : atKey (S.rows.map WRow.x) [3, mac] = none := by
  unfold atKey
  rw [Option.map_eq_none_iff, List.find?_eq_none]
  intro x hx
  obtain ⟨r, hr, rfl⟩ := List.mem_map.mp hx
  simpa [WRow.x] using h r hr
theorem wget_some {r : WRow} (hr : r ∈ S.rows) : wget S.abs r.mac = r.ks := by
  unfold wget WatS.abs
  have : ∀ rows : List WRow, (rows.map (·.mac)).Nodup → r ∈ rows → (rows.map fun r => (r.mac, r.ks)).find? (fun x => decide (x.1 = r.mac)) = some (r.mac, r.ks) := by
    intro rows
    induction rows with
    | nil => intro _ h; cases h
    | cons q l ih =>
      intro hn hr
      simp only [List.map_cons, List.nodup_cons] at hn
      rw [List.map_cons, List.find?_cons]
      rcases List.mem_cons.mp hr with rfl | hr
      · simp
      · have : q.mac ≠ r.mac := fun e => hn.1 (e ▸ List.mem_map_of_mem (f := fun r : WRow => r.mac) hr)
        simp only [this, decide_false]
        exact ih hn.2 hr
  rw [this S.rows S.nd hr]
  rfl
theorem wget_none {mac : Int} (h : ∀ r ∈ S.rows, r.mac ≠ mac) : wget S.abs mac = [] := by
  unfold wget WatS.abs
  rw [List.find?_eq_none.mpr]
  · rfl
  · intro x hx
    obtain ⟨r, hr, rfl⟩ := List.mem_map.mp hx
    simpa using h r hr
theorem WatS.val (S : WatS w) (mac : Int) : (∀ r ∈ S.rows, r.mac ≠ mac) ∨ ∃ r ∈ S.rows, r.mac = mac := by
  by_cases h : ∃ r ∈ S.rows, r.mac = mac
  · exact .inr h
  · exact .inl fun r hr e => h ⟨r, hr, e⟩
end
section
variable {w : World} {S : WatS w} {rest : List (Addr × Obj)} {A : Around} {E : Value → Shared → Prop} {s : Shared} {h₀ : Heap} {L a : Addr} {m : Str → Option Value} {news : List (Addr × Obj)} {mac : Int} {t3 tm : Nat}
theorem wget_m {pl : Sem Bool} {Q : Value × List Value → Shared → Prop} (N : News h₀ L s.heap news) (hs : ∀ p ∈ S.led, p ∈ news) (h : Q (.builtin "dict.get", [.ref S.aT]) s) : wpAny (model PR w) A (getMethod (.ref S.aT) "get" pl) Q E s := by
  have hD := WatS.dictH (S := S) (rest := []) (kst_newsOf N fun p hp => hs p (by simpa using hp))
  exact getMethod_builtin hD.typeIs PySem.F.plainAttrs_dict PySem.F.slot_dict_get PySem.F.type_dict_get (dictOfH_noDict hD) h
theorem wget_c {l : Addr} {Q : Value → Shared → Prop} (hu : A.units + 1 < cLine) (N : News h₀ L s.heap news) (hs : ∀ p ∈ S.led, p ∈ news) (hk : (a, tupObj [.int 3 t3, .int mac tm]) ∈ news)
    (h1 : ∀ r ∈ S.rows, r.mac = mac → Q (.ref r.lA) { s with toks := s.toks + 3 }) (h2 : (∀ r ∈ S.rows, r.mac ≠ mac) → Q (.ref l) { s with toks := s.toks + 3 }) :
    wpAny (model PR w) A (call (.builtin "dict.get") [.ref S.aT, .ref a, .ref l]) Q E s := by
  have hD := WatS.dictH (S := S) (rest := []) (kst_newsOf N fun p hp => hs p (by simpa using hp))
  refine call_meetsIn PySem.F.slot_dict_get hD.typeIs PySem.F.entry_dict_get (PySem.F.args_dict_get_3 _ _ _) (meetsH_dict_get_default (tkd w) S.aT a S.lo (.ref l)) ⟨hu, [3, mac], _, tup_key (N _ hk).1, hD, ?_⟩
  rcases S.val mac with h | ⟨r, hr, rfl⟩
  · rw [WatS.atKey_none h]
    exact h2 h
  · rw [WatS.atKey_some hr]
    exact h1 r hr rfl
theorem wget_l {lE : Addr} {nE : Nat} {Q : Value → Shared → Prop} (hu : A.units + 1 < cLine) (N : News h₀ L s.heap news) (hs : ∀ p ∈ S.led, p ∈ news) (hk : (a, tupObj [.int 3 t3, .int mac tm]) ∈ news) (hE : (lE, listOf (List.toArray ([] : List Value)) nE) ∈ news)
    (h : ∀ l vs kn, (l, listOf vs.toArray kn) ∈ news → IntsAre vs (wget S.abs mac) → Q (.ref l) { s with toks := s.toks + 3 }) :
    wpAny (model PR w) A (call (.builtin "dict.get") [.ref S.aT, .ref a, .ref lE]) Q E s :=
  wget_c hu N hs hk (fun r hr e => h _ _ _ (hs _ (.tail _ (List.mem_flatMap.mpr ⟨r, hr, .tail _ (.head _)⟩))) (by rw [← e, wget_some hr]; exact r.ok)) (fun hn => h _ _ _ hE (by rw [wget_none hn]; exact .nil))
theorem witem_c {value slice : Expr} {r : WRow} {Q : Value → Shared → Prop} (hu : A.units + 1 < cLine) (N : News h₀ L s.heap news) (hs : ∀ p ∈ S.led, p ∈ news) (hr : r ∈ S.rows) (hk : (a, tupObj [.int 3 t3, .int r.mac tm]) ∈ news)
    (h : Q (.ref r.lA) { s with toks := s.toks + 3 })
    (hss : subscripted slice false (.ref S.aT) (.ref a) = operate [.ref S.aT, .ref a] (getItem (.ref S.aT) (.ref a)) := by with_unfolding_all rfl) (hg : ∀ r, letTemporaryGo value (.ref S.aT) r = pure () := by intro _; with_unfolding_all rfl) :
    wpAny (model PR w) A (subscriptTail value slice (.ref S.aT) (.ref a)) Q E s := by
  have hD := WatS.dictH (S := S) (rest := []) (kst_newsOf N fun p hp => hs p (by simpa using hp))
  exact subscriptTail_builtin hD.typeIs slot_dict_getitem.lookup (wpAny_getItem_heap (knd := tkd w) hu (tup_key (N _ hk).1) hD (WatS.atKey_some hr) h) hss hg
noncomputable def wsetS (as : WTab) (mac : Int) (ks : List Int) : WTab := if as.any (fun x => decide (x.1 = mac)) then as.map (fun x => if x.1 = mac then (mac, ks) else x) else as ++ [(mac, ks)]
theorem off_dict {o : Obj} {h : Heap} {d : Addr} {p : Addr × Obj} (hd : h.get? d = some o) (hc : o.ExactDict) (hp : h.get? p.1 = some p.2) (hne : p.2.cls ≠ .type "dict") : p.1 ≠ d := fun e => by
  rw [e, hd] at hp
  obtain rfl := Option.some.inj hp
  exact hne hc.1
theorem wrow_cls {r : WRow} {p : Addr × Obj} (hp : p ∈ r.led) : p.2.cls ≠ .type "dict" := by
  simp only [WRow.led, List.mem_cons, List.not_mem_nil, or_false] at hp
  rcases hp with rfl | rfl
  · show (Value.type "tuple") ≠ .type "dict"; simp
  · show (Value.type "list") ≠ .type "dict"; simp
theorem WatS.news_of {S S' : WatS w} {h' : Heap} (N : News h₀ L s.heap news) (hm : (S.aT, S.oT) ∈ news) (eT : S'.aT = S.aT) (ho : h'.get? S.aT = some S'.oT) (hs : Heap.SameBut S.aT s.heap h') (hr : ∀ r ∈ S'.rows, ∀ p ∈ r.led, p ∈ news) :
    News h₀ L h' (S'.led ++ news.filter fun p => p.1 != S.aT) := fun p hp => by
  rcases List.mem_append.mp hp with hp | hp
  · rcases List.mem_cons.mp hp with rfl | hp
    · rw [eT]; exact ⟨ho, (N _ hm).2⟩
    · obtain ⟨r, hr', hp'⟩ := List.mem_flatMap.mp hp
      have n := N p (hr r hr' p hp')
      have hne : p.1 ≠ S.aT := off_dict (N _ hm).1 S.hc n.1 (wrow_cls hp')
      exact ⟨hs.extBut _ _ hne n.1, n.2⟩
  · obtain ⟨hp, hne⟩ := List.mem_filter.mp hp
    have n := N p hp
    exact ⟨hs.extBut _ _ (by simpa using hne) n.1, n.2⟩
theorem wset_c {l : Addr} {vs : List Value} {ks : List Int} {n : Nat} {Q : Unit → Shared → Prop} (hu : A.units + 1 < cLine) (F : Fr h₀ L s.heap m) (N : News h₀ L s.heap news) (hs : ∀ p ∈ S.led, p ∈ news) (hk : (a, tupObj [.int 3 t3, .int mac tm]) ∈ news) (hl : (l, listOf vs.toArray n) ∈ news) (hi : IntsAre vs ks) (hz : S.rows.length ≤ 64)
    (h : ∀ h' (S' : WatS w), Fr h₀ L h' m → S'.aT = S.aT → S'.abs = wsetS S.abs mac ks → News h₀ L h' (S'.led ++ news.filter fun p => p.1 != S.aT) → (∀ p ∈ S'.led, p.1 = S.aT ∨ (∃ q ∈ S.led, q.1 = p.1) ∨ p.1 = a ∨ p.1 = l) → (S'.rows.length ≤ S.rows.length + 1) → Q () { s with heap := h', toks := s.toks + 3 }) :
    wpAny (model PR w) A (setItem (.ref S.aT) (.ref a) (.ref l)) Q E s := by
  have hm := hs _ (.head _ : (S.aT, S.oT) ∈ S.led)
  have hD := WatS.dictH (S := S) (rest := []) (kst_newsOf N fun p hp => hs p (by simpa using hp))
  refine wpAny_setItem_heap (knd := tkd w) (hsz := by rw [List.length_map, sizeLine_eq]; omega) hu (tup_key (N _ hk).1) hD fun h' hm' hs' => ?_
  obtain ⟨o', es', ep', ho', hc', hd', he', _, _⟩ := hm'
  have fin : ∀ rows' : List WRow, storedH (S.rows.map WRow.x) [3, mac] a (.ref l) = rows'.map WRow.x → (rows'.map (·.mac)).Nodup → (∀ r ∈ rows', ∀ p ∈ r.led, p ∈ news) → (rows'.map fun r => (r.mac, r.ks)) = wsetS S.abs mac ks → (∀ r ∈ rows', ∀ p ∈ r.led, (∃ q ∈ S.led, q.1 = p.1) ∨ p.1 = a ∨ p.1 = l) → rows'.length ≤ S.rows.length + 1 → Q () { s with heap := h', toks := s.toks + 3 } :=
    fun rows' e1 e2 e3 e4 e5 e6 => by
      rw [e1] at he'
      exact h h' ⟨S.aT, o', rows', es', ep', hc', hd', he', S.lo, e2⟩ (F.change hs' (N _ hm).2.1 (N _ hm).2.2) rfl e4 (WatS.news_of N hm rfl ho' hs' e3) (fun p hp => by
        rcases List.mem_cons.mp hp with rfl | hp
        · exact .inl rfl
        · obtain ⟨r, hr, hp⟩ := List.mem_flatMap.mp hp
          exact .inr (e5 r hr p hp)) e6
  rcases S.val mac with hv | ⟨r, hr, rfl⟩
  · refine fin (S.rows ++ [⟨mac, ks, a, t3, tm, l, vs, hi, n⟩]) ?_ ?_ ?_ ?_ ?_ (by simp)
    · rw [storedH_new (WatS.atKey_none hv), List.map_append]; rfl
    · rw [List.map_append, List.nodup_append]
      refine ⟨S.nd, by simp, fun x hx y hy => ?_⟩
      obtain ⟨q, hq, rfl⟩ := List.mem_map.mp hx
      simp only [List.map_cons, List.map_nil, List.mem_singleton] at hy
      rw [hy]
      exact hv q hq
    · intro r hr p hp
      rcases List.mem_append.mp hr with hr | hr
      · exact hs p (.tail _ (List.mem_flatMap.mpr ⟨r, hr, hp⟩))
      · rw [List.mem_singleton.mp hr] at hp
        simp only [WRow.led, List.mem_cons, List.not_mem_nil, or_false] at hp
        rcases hp with rfl | rfl
        · exact hk
        · exact hl
    · unfold wsetS WatS.abs
      rw [if_neg, List.map_append]
      · rfl
      · simp only [List.any_eq_true, not_exists, not_and]
        intro x hx
        obtain ⟨q, hq, rfl⟩ := List.mem_map.mp hx
        simpa using hv q hq
    · intro r hr p hp
      rcases List.mem_append.mp hr with hr | hr
      · exact .inl ⟨p, .tail _ (List.mem_flatMap.mpr ⟨r, hr, hp⟩), rfl⟩
      · rw [List.mem_singleton.mp hr] at hp
        simp only [WRow.led, List.mem_cons, List.not_mem_nil, or_false] at hp
        rcases hp with rfl | rfl
        · exact .inr (.inl rfl)
        · exact .inr (.inr rfl)
  · refine fin (S.rows.map fun q => if q.mac = r.mac then { q with ks := ks, lA := l, vs := vs, ok := hi, kn := n } else q) ?_ ?_ ?_ ?_ ?_ (by simp)
    · rw [storedH_old (WatS.atKey_some hr), List.map_map, List.map_map]
      refine List.map_congr_left fun q _ => ?_
      by_cases e : q.mac = r.mac
      · simp [putAt, WRow.x, e]
      · simp [putAt, WRow.x, e]
    · rw [List.map_map]
      have e : (S.rows.map ((fun x : WRow => x.mac) ∘ fun q => if q.mac = r.mac then { q with ks := ks, lA := l, vs := vs, ok := hi, kn := n } else q)) = S.rows.map (·.mac) := List.map_congr_left fun q _ => by
        by_cases e : q.mac = r.mac <;> simp [e]
      rw [e]
      exact S.nd
    · intro q hq p hp
      obtain ⟨q0, hq0, rfl⟩ := List.mem_map.mp hq
      by_cases e : q0.mac = r.mac
      · rw [if_pos e] at hp
        simp only [WRow.led, List.mem_cons, List.not_mem_nil, or_false] at hp
        rcases hp with rfl | rfl
        · exact hs _ (.tail _ (List.mem_flatMap.mpr ⟨q0, hq0, .head _⟩))
        · exact hl
      · rw [if_neg e] at hp
        exact hs p (.tail _ (List.mem_flatMap.mpr ⟨q0, hq0, hp⟩))
    · unfold wsetS WatS.abs
      rw [if_pos, List.map_map, List.map_map]
      · refine List.map_congr_left fun q _ => ?_
        by_cases e : q.mac = r.mac <;> simp [e]
      · exact List.any_eq_true.mpr ⟨_, List.mem_map_of_mem hr, by simp⟩
    · intro q hq p hp
      obtain ⟨q0, hq0, rfl⟩ := List.mem_map.mp hq
      by_cases e : q0.mac = r.mac
      · rw [if_pos e] at hp
        simp only [WRow.led, List.mem_cons, List.not_mem_nil, or_false] at hp
        rcases hp with rfl | rfl
        · exact .inl ⟨_, .tail _ (List.mem_flatMap.mpr ⟨q0, hq0, .head _⟩), rfl⟩
        · exact .inr (.inr rfl)
      · rw [if_neg e] at hp
        exact .inl ⟨p, .tail _ (List.mem_flatMap.mpr ⟨q0, hq0, hp⟩), rfl⟩
theorem wpop_c {r : WRow} {Q : Value → Shared → Prop} (hu : A.units + 1 < cLine) (F : Fr h₀ L s.heap m) (N : News h₀ L s.heap news) (hs : ∀ p ∈ S.led, p ∈ news) (hr : r ∈ S.rows) (hk : (a, tupObj [.int 3 t3, .int r.mac tm]) ∈ news) (hz : S.rows.length ≤ 64)
    (h : ∀ h' (S' : WatS w), Fr h₀ L h' m → S'.aT = S.aT → S'.abs = S.abs.filter (fun x => decide (x.1 ≠ r.mac)) → News h₀ L h' (S'.led ++ news.filter fun p => p.1 != S.aT) → (∀ p ∈ S'.led, p.1 = S.aT ∨ p ∈ S.led) → S'.rows.length ≤ S.rows.length → Q (.ref r.lA) { s with heap := h', toks := s.toks + 3 }) :
    wpAny (model PR w) A (call (.builtin "dict.pop") [.ref S.aT, .ref a]) Q E s := by
  have hm := hs _ (.head _ : (S.aT, S.oT) ∈ S.led)
  have hD := WatS.dictH (S := S) (rest := []) (kst_newsOf N fun p hp => hs p (by simpa using hp))
  refine popH (knd := tkd w) hu (tup_key (N _ hk).1) hD (WatS.atKey_some hr) (by rw [List.length_map, sizeLine_eq]; omega) fun h' hm' hs' => ?_
  obtain ⟨o', es', ep', ho', hc', hd', he', _, _⟩ := hm'
  have e1 : withoutH (S.rows.map WRow.x) [3, r.mac] = (S.rows.filter fun q => decide (q.mac ≠ r.mac)).map WRow.x := by
    unfold withoutH
    rw [List.filter_map]
    congr 1
    refine List.filter_congr fun q _ => ?_
    simp [WRow.x]
  rw [e1] at he'
  refine h h' ⟨S.aT, o', S.rows.filter fun q => decide (q.mac ≠ r.mac), es', ep', hc', hd', he', S.lo, S.nd.sublist (List.filter_sublist.map _)⟩ (F.change hs' (N _ hm).2.1 (N _ hm).2.2) rfl ?_ (WatS.news_of N hm rfl ho' hs' fun q hq p hp => hs p (.tail _ (List.mem_flatMap.mpr ⟨q, (List.mem_filter.mp hq).1, hp⟩))) (fun p hp => by
    rcases List.mem_cons.mp hp with rfl | hp
    · exact .inl rfl
    · obtain ⟨q, hq, hp⟩ := List.mem_flatMap.mp hp
      exact .inr (.tail _ (List.mem_flatMap.mpr ⟨q, (List.mem_filter.mp hq).1, hp⟩))) (List.length_filter_le _ _)
  show (S.rows.filter fun q => decide (q.mac ≠ r.mac)).map (fun r => (r.mac, r.ks)) = (S.rows.map fun r => (r.mac, r.ks)).filter _
  rw [List.filter_map]
  rfl
theorem wpop_m {pl : Sem Bool} {Q : Value × List Value → Shared → Prop} (N : News h₀ L s.heap news) (hs : ∀ p ∈ S.led, p ∈ news) (h : Q (.builtin "dict.pop", [.ref S.aT]) s) : wpAny (model PR w) A (getMethod (.ref S.aT) "pop" pl) Q E s := by
  have hD := WatS.dictH (S := S) (rest := []) (kst_newsOf N fun p hp => hs p (by simpa using hp))
  exact getMethod_builtin hD.typeIs PySem.F.plainAttrs_dict PySem.F.slot_dict_pop PySem.F.type_dict_pop (dictOfH_noDict hD) h
theorem wat_after {S S' : WatS w} {rest : List (Addr × Obj)} {h : Heap} (pre0 pre : List (Addr × Obj)) (N : News h₀ L h (S'.led ++ ((pre0 ++ pre) ++ (S.led ++ rest)).filter fun p => p.1 != S.aT)) (hpre : ∀ p ∈ pre, p.1 ≠ S.aT) (off : ∀ p ∈ rest, p.1 ≠ S.aT) : News h₀ L h (pre ++ (S'.led ++ rest)) :=
  kst_newsOf N fun p hp => by
    rcases List.mem_append.mp hp with hp | hp
    · exact List.mem_append_right _ (mem_off (List.mem_append_left _ (List.mem_append_right _ hp)) (hpre p hp))
    · rcases List.mem_append.mp hp with hp | hp
      · exact List.mem_append_left _ hp
      · exact List.mem_append_right _ (mem_off (List.mem_append_right _ (List.mem_append_right _ hp)) (off p hp))
theorem witem_e {value slice : Expr} {d : Addr} {r : WRow} {Q : Value → Shared → Prop} (e : S.aT = d) (hu : A.units + 1 < cLine) (N : News h₀ L s.heap news) (hs : ∀ p ∈ S.led, p ∈ news) (hr : r ∈ S.rows) (hk : (a, tupObj [.int 3 t3, .int r.mac tm]) ∈ news)
    (h : Q (.ref r.lA) { s with toks := s.toks + 3 })
    (hss : subscripted slice false (.ref d) (.ref a) = operate [.ref d, .ref a] (getItem (.ref d) (.ref a)) := by with_unfolding_all rfl) (hg : ∀ r, letTemporaryGo value (.ref d) r = pure () := by intro _; with_unfolding_all rfl) :
    wpAny (model PR w) A (subscriptTail value slice (.ref d) (.ref a)) Q E s := by
  subst e
  exact witem_c hu N hs hr hk h hss hg
theorem wset_row {S' : WatS w} {as : WTab} {ks : List Int} (e : S'.abs = wsetS as mac ks) : ∃ r ∈ S'.rows, r.mac = mac ∧ r.ks = ks := by
  have hm : (mac, ks) ∈ wsetS as mac ks := by
    unfold wsetS
    split
    · rename_i h
      obtain ⟨x, hx, hxm⟩ := List.any_eq_true.mp h
      exact List.mem_map.mpr ⟨x, hx, by rw [if_pos (of_decide_eq_true hxm)]⟩
    · exact List.mem_append_right _ (.head _)
  rw [← e] at hm
  obtain ⟨r, hr, he⟩ := List.mem_map.mp hm
  exact ⟨r, hr, (Prod.mk.inj he).1, (Prod.mk.inj he).2⟩
theorem wset_e {d l : Addr} {vs : List Value} {ks : List Int} {n : Nat} {Q : Unit → Shared → Prop} (e : S.aT = d) (hu : A.units + 1 < cLine) (F : Fr h₀ L s.heap m) (N : News h₀ L s.heap news) (hs : ∀ p ∈ S.led, p ∈ news) (hk : (a, tupObj [.int 3 t3, .int mac tm]) ∈ news) (hl : (l, listOf vs.toArray n) ∈ news) (hi : IntsAre vs ks) (hz : S.rows.length ≤ 64)
    (h : ∀ h' (S' : WatS w), Fr h₀ L h' m → S'.aT = S.aT → S'.abs = wsetS S.abs mac ks → News h₀ L h' (S'.led ++ news.filter fun p => p.1 != S.aT) → (∀ p ∈ S'.led, p.1 = S.aT ∨ (∃ q ∈ S.led, q.1 = p.1) ∨ p.1 = a ∨ p.1 = l) → (S'.rows.length ≤ S.rows.length + 1) → Q () { s with heap := h', toks := s.toks + 3 }) :
    wpAny (model PR w) A (setItem (.ref d) (.ref a) (.ref l)) Q E s := by
  subst e
  exact wset_c hu F N hs hk hl hi hz h
theorem wpop_e {d : Addr} {r : WRow} {Q : Value → Shared → Prop} (e : S.aT = d) (hu : A.units + 1 < cLine) (F : Fr h₀ L s.heap m) (N : News h₀ L s.heap news) (hs : ∀ p ∈ S.led, p ∈ news) (hr : r ∈ S.rows) (hk : (a, tupObj [.int 3 t3, .int r.mac tm]) ∈ news) (hz : S.rows.length ≤ 64)
    (h : ∀ h' (S' : WatS w), Fr h₀ L h' m → S'.aT = S.aT → S'.abs = S.abs.filter (fun x => decide (x.1 ≠ r.mac)) → News h₀ L h' (S'.led ++ news.filter fun p => p.1 != S.aT) → (∀ p ∈ S'.led, p.1 = S.aT ∨ p ∈ S.led) → S'.rows.length ≤ S.rows.length → Q (.ref r.lA) { s with heap := h', toks := s.toks + 3 }) :
    wpAny (model PR w) A (call (.builtin "dict.pop") [.ref d, .ref a]) Q E s := by
  subst e
  exact wpop_c hu F N hs hr hk hz h
theorem wpop_me {d : Addr} {pl : Sem Bool} {Q : Value × List Value → Shared → Prop} (e : S.aT = d) (N : News h₀ L s.heap news) (hs : ∀ p ∈ S.led, p ∈ news) (h : Q (.builtin "dict.pop", [.ref d]) s) : wpAny (model PR w) A (getMethod (.ref d) "pop" pl) Q E s := by
  subst e
  exact wpop_m N hs h
end
end
section
theorem allLt_mem {d : Addr} : ∀ {l : List (Addr × Obj)}, AllLt d l → ∀ p ∈ l, p.1 < d
  | [], _, _, h => nomatch h
  | _ :: _, x, p, h => by
    rcases List.mem_cons.mp h with rfl | h
    · exact x.1
    · exact allLt_mem x.2 p h
section
variable {w : World} {A A₀ : Around} {env : Env} {outer : List Env} {base h₀ : Heap} {L : Addr} {m : Str → Option Value} {s : Shared} {E : Value → Shared → Prop}
    {loose : List Str} {mean : ExcName → Option Value} {mg mb : Str → Option Value} {S : LimS w} {T : BookS w} {aS : Addr} {x y : Int} {tx ty n : Nat} {rest pre : List (Addr × Obj)}
theorem take_d {top : Int} {tt : Nat} {Q : Value → Shared → Prop} (B : Below A₀ base outer h₀) (F : Fr h₀ L s.heap m) (X : (Mine.hd.heap_1 w.params).In h₀) (N : News h₀ L s.heap (pre ++ deed S T aS x y tx ty n rest)) (TT : Top topProg loose mean mg mb h₀) (hA : A.frames = some (env :: outer)) (hf : env.frame = some L) (hke : env.scope.kind = .function) (hroom : A.depth < 700)
    (Ap : Apart (deed S T aS x y tx ty n rest)) (hpre : ∀ p ∈ pre, p.1 ≠ aS) (hx : 0 ≤ x) (hy0 : 0 ≤ y) (hy : y < 2147483647) (ht : 2 ≤ top) (ht' : top ≤ 12)
    (ret : ∀ r tr x' y' tx' ty' n' h' tk', Fr h₀ L h' m → News h₀ L h' (pre ++ deed S T aS x' y' tx' ty' n' rest) → Apart (deed S T aS x' y' tx' ty' n' rest) → 0 ≤ x' → 0 ≤ y' → y' < 2147483647 → 0 ≤ r → r < top → Q (.int r tr) { s with heap := h', toks := tk' }) :
    wpAny (model PR w) A (call (.ref 218) [.ref aS, .int top tt]) Q E s := by
  obtain ⟨N1, oS⟩ := led_at N (List.mem_append_right pre (deed_src (S := S) (T := T)))
  refine wpAny_call (takeA B F X N1 TT hA hf hke hroom oS hx hy0 hy ht ht' ?_)
  intro r tr x' y' tx' ty' n' h' tk' F' N' hx' hy0' hy' hr0 hr1
  exact ret r tr x' y' tx' ty' n' h' tk' F' (src_swap Ap hpre N') (apart_swap Ap) hx' hy0' hy' hr0 hr1
theorem one_d {aT : Addr} {nT : Nat} {vs : List Value} {Q : Value → Shared → Prop} (B : Below A₀ base outer h₀) (F : Fr h₀ L s.heap m) (X : (Mine.hd.heap_1 w.params).In h₀) (N : News h₀ L s.heap (pre ++ deed S T aS x y tx ty n rest)) (TT : Top topProg loose mean mg mb h₀) (hA : A.frames = some (env :: outer)) (hf : env.frame = some L) (hke : env.scope.kind = .function) (hroom : A.depth < 690)
    (Ap : Apart (deed S T aS x y tx ty n rest)) (hpre : ∀ p ∈ pre, p.1 ≠ aS) (hx : 0 ≤ x) (hy0 : 0 ≤ y) (hy : y < 2147483647) (hT : (aT, listOf vs.toArray nT) ∈ pre) (h2 : 2 ≤ vs.length) (h12 : vs.length ≤ 12)
    (ret : ∀ v x' y' tx' ty' n' h' tk', Fr h₀ L h' m → News h₀ L h' (pre ++ deed S T aS x' y' tx' ty' n' rest) → Apart (deed S T aS x' y' tx' ty' n' rest) → 0 ≤ x' → 0 ≤ y' → y' < 2147483647 → v ∈ vs → Q v { s with heap := h', toks := tk' }) :
    wpAny (model PR w) A (call (.ref 225) [.ref aS, .ref aT]) Q E s := by
  obtain ⟨N1, oS⟩ := led_at N (List.mem_append_right pre (deed_src (S := S) (T := T)))
  refine wpAny_call (oneA B F X N1 TT hA hf hke hroom oS hx hy0 hy (mem_off (List.mem_append_left _ hT) (hpre _ hT)) h2 h12 ?_)
  intro v x' y' tx' ty' n' h' tk' F' N' hx' hy0' hy' hv
  exact ret v x' y' tx' ty' n' h' tk' F' (src_swap Ap hpre N') (apart_swap Ap) hx' hy0' hy' hv
theorem deed_fresh {r : BRow} {h : Heap} (I : Inv T.abs) (hr : r ∈ T.rows) (Ap : Apart (deed S T aS x y tx ty n rest)) (r' : BRow) {NEWS : List (Addr × Obj)}
    (N : News h₀ L h ((r.bA, r'.obj) :: NEWS.filter fun p => p.1 != r.bA)) (m2 : (r'.kA, listOf r'.vs.toArray r'.kn) ∈ NEWS) (m3 : ∀ p ∈ deed S T aS x y tx ty n rest, p ∈ NEWS) (hp : r'.port = r.port) (h1 : r'.bA = r.bA) (f3 : ∀ p ∈ deed S T aS x y tx ty n rest, p.1 ≠ r'.kA) :
    ∃ T' : BookS w, T'.aB = T.aB ∧ T'.abs = upd T.abs r.port r'.a ∧ Apart (deed S T' aS x y tx ty n rest) ∧ News h₀ L h (deed S T' aS x y tx ty n rest) := by
  obtain ⟨T', e1, e2, e3, e4⟩ := BookS.put I hr (apart_T Ap) r' hp h1 (.inr fun p hp => f3 p (sub_T hp))
  refine ⟨T', e1, e2, apart_T' e3, kst_newsOf N fun p hp => ?_⟩
  rcases e4 p (from_T hp) with h | ⟨h, n1, n2⟩
  · simp only [BRow.led, List.mem_cons, List.not_mem_nil, or_false] at h
    rcases h with rfl | rfl
    · rw [h1]; exact .head _
    · exact .tail _ (mem_off m2 (f3 _ (deed_b1 hr)).symm)
  · exact .tail _ (mem_off (m3 _ (sub_T h)) n1)
theorem deed_set {h : Heap} (I : Inv T.abs) (Ap : Apart (deed S T aS x y tx ty n rest)) (r' : BRow) {oB : Obj} (hd : oB.IsDictOf (intKind PR w) (stored (kvsB T.rows) r'.port (.ref r'.bA))) {NEWS : List (Addr × Obj)}
    (N : News h₀ L h ((T.aB, oB) :: NEWS.filter fun p => p.1 != T.aB)) (m1 : (r'.bA, r'.obj) ∈ NEWS) (m2 : (r'.kA, listOf r'.vs.toArray r'.kn) ∈ NEWS) (m3 : ∀ p ∈ deed S T aS x y tx ty n rest, p ∈ NEWS)
    (f1 : ∀ p ∈ deed S T aS x y tx ty n rest, p.1 ≠ r'.bA) (f3 : ∀ p ∈ deed S T aS x y tx ty n rest, p.1 ≠ r'.kA) (n2 : r'.bA ≠ r'.kA) :
    ∃ T' : BookS w, T'.aB = T.aB ∧ T'.abs = setS T.abs r'.port r'.a ∧ Apart (deed S T' aS x y tx ty n rest) ∧ News h₀ L h (deed S T' aS x y tx ty n rest) := by
  obtain ⟨T', e1, e2, e3, e4⟩ := BookS.set I (apart_T Ap) r' hd (fun p hp => f1 p (sub_T hp)) (fun p hp => f3 p (sub_T hp)) n2
  refine ⟨T', e1, e2, apart_T' e3, kst_newsOf N fun p hp => ?_⟩
  rcases e4 p (from_T hp) with h | h | ⟨h, n1⟩
  · rw [h]; exact .head _
  · simp only [BRow.led, List.mem_cons, List.not_mem_nil, or_false] at h
    rcases h with rfl | rfl
    · exact .tail _ (mem_off m1 (f1 _ deed_B).symm)
    · exact .tail _ (mem_off m2 (f3 _ deed_B).symm)
  · exact .tail _ (mem_off (m3 _ (sub_T h)) n1)
theorem deed_drop {h : Heap} (Ap : Apart (deed S T aS x y tx ty n rest)) {port : Int} {oB : Obj} (hd : oB.IsDictOf (intKind PR w) (without (kvsB T.rows) port)) {NEWS : List (Addr × Obj)}
    (N : News h₀ L h ((T.aB, oB) :: NEWS.filter fun p => p.1 != T.aB)) (m3 : ∀ p ∈ deed S T aS x y tx ty n rest, p ∈ NEWS) :
    ∃ T' : BookS w, T'.aB = T.aB ∧ T'.abs = T.abs.filter (fun x => decide (x.1 ≠ port)) ∧ Apart (deed S T' aS x y tx ty n rest) ∧ News h₀ L h (deed S T' aS x y tx ty n rest) := by
  obtain ⟨T', e1, e2, e3, e4⟩ := BookS.drop (apart_T Ap) hd
  refine ⟨T', e1, e2, apart_T' e3, kst_newsOf N fun p hp => ?_⟩
  rcases e4 p (from_T hp) with h | ⟨h, n1⟩
  · rw [h]; exact .head _
  · exact .tail _ (mem_off (m3 _ (sub_T h)) n1)
end
end
section
theorem all_nil {P : Nat → Prop} : ∀ z ∈ ([] : List Nat), P z := fun _ h => nomatch h
theorem all_cons {P : Nat → Prop} {a : Nat} {l : List Nat} (h : P a) (t : ∀ z ∈ l, P z) : ∀ z ∈ a :: l, P z := fun z hz => (List.mem_cons.mp hz).elim (fun e => e ▸ h) (t z)
theorem off_nil {x : Addr} : ∀ p ∈ ([] : List (Addr × Obj)), p.1 ≠ x := fun _ h => nomatch h
theorem off_cons {a x : Addr} {o : Obj} {l : List (Addr × Obj)} (h : a ≠ x) (t : ∀ p ∈ l, p.1 ≠ x) : ∀ p ∈ (a, o) :: l, p.1 ≠ x := fun p hp => (List.mem_cons.mp hp).elim (fun e => by rw [e]; exact h) (t p)
theorem off_of {pre : List (Addr × Obj)} {x : Addr} (h : ∀ z ∈ pre.map (·.1), z ≠ x) : ∀ p ∈ pre, p.1 ≠ x := fun p hp => h p.1 (List.mem_map_of_mem (f := Prod.fst) hp)
theorem off_app {a b : List (Addr × Obj)} {x : Addr} (h : ∀ p ∈ a, p.1 ≠ x) (k : ∀ p ∈ b, p.1 ≠ x) : ∀ p ∈ a ++ b, p.1 ≠ x := fun p hp => (List.mem_append.mp hp).elim (h p) (k p)
theorem led_front {pre l r : List (Addr × Obj)} {p : Addr × Obj} (h : p ∈ l ++ (pre ++ r)) : p ∈ pre ++ (l ++ r) := by
  simp only [List.mem_append] at h ⊢
  grind
theorem led_back {pre l r : List (Addr × Obj)} {p : Addr × Obj} (h : p ∈ pre ++ (l ++ r)) : p ∈ l ++ (pre ++ r) := led_front h
theorem dis_of {l pre r : List (Addr × Obj)} (h : ∀ p ∈ l, p.1 ∉ pre.map (·.1)) (k : ∀ p ∈ l, ∀ q ∈ r, p.1 ≠ q.1) : ∀ p ∈ l, ∀ q ∈ pre ++ r, p.1 ≠ q.1 := fun p hp q hq =>
  (List.mem_append.mp hq).elim (fun z e => h p hp (by rw [e]; exact List.mem_map_of_mem (f := Prod.fst) z)) (k p hp q)
theorem dis_fix {l pre r : List (Addr × Obj)} (h : ∀ p ∈ l, ∀ q ∈ pre ++ r, p.1 ≠ q.1) : ∀ p ∈ l, p.1 ∉ pre.map (·.1) := fun p hp z => by
  obtain ⟨q, hq, e⟩ := List.mem_map.mp z
  exact h p hp q (List.mem_append_left _ hq) e.symm
theorem dis_rest {l pre r : List (Addr × Obj)} (h : ∀ p ∈ l, ∀ q ∈ pre ++ r, p.1 ≠ q.1) : ∀ p ∈ l, ∀ q ∈ r, p.1 ≠ q.1 := fun p hp q hq => h p hp q (List.mem_append_right _ hq)
theorem offCells {d : Addr} {l : List (Addr × Obj)} (h : AllLt d l) : OwnOff l [(d + 1 : Nat), (d + 1 + 1 : Nat)] := fun p hp b hb => by
  have hlt : p.1 < d := by
    induction l with
    | nil => cases hp
    | cons q l ih =>
      rcases List.mem_cons.mp hp with rfl | hp
      · exact h.1
      · exact ih h.2 hp
  simp only [List.mem_cons, List.not_mem_nil, or_false] at hb
  rcases hb with rfl | rfl
  · exact Nat.ne_of_lt (Nat.lt_succ_of_lt hlt)
  · exact Nat.ne_of_lt (Nat.lt_succ_of_lt (Nat.lt_succ_of_lt hlt))
theorem swap_g {h₀ h : Heap} {L aS : Addr} {o o' : Obj} {pre post : List (Addr × Obj)} (hpre : ∀ p ∈ pre, p.1 ≠ aS) (hpost : ∀ p ∈ post, p.1 ≠ aS)
    (N : News h₀ L h ((aS, o') :: (pre ++ ((aS, o) :: post)).filter fun p => p.1 != aS)) : News h₀ L h (pre ++ ((aS, o') :: post)) :=
  kst_newsOf N fun p hp => by
    rcases List.mem_append.mp hp with hp | hp
    · exact .tail _ (mem_off (List.mem_append_left _ hp) (hpre p hp))
    · rcases List.mem_cons.mp hp with rfl | hp
      · exact .head _
      · exact .tail _ (mem_off (List.mem_append_right _ (.tail _ hp)) (hpost p hp))
section
variable {w : World} {A A₀ : Around} {env : Env} {outer : List Env} {base h₀ : Heap} {L : Addr} {m : Str → Option Value} {s : Shared} {E : Value → Shared → Prop}
    {loose : List Str} {mean : ExcName → Option Value} {mg mb : Str → Option Value} {aS : Addr} {x y : Int} {tx ty n : Nat} {post pre : List (Addr × Obj)}
theorem take_g {top : Int} {tt : Nat} {Q : Value → Shared → Prop} (B : Below A₀ base outer h₀) (F : Fr h₀ L s.heap m) (X : (Mine.hd.heap_1 w.params).In h₀) (N : News h₀ L s.heap (pre ++ ((aS, srcObj x y tx ty n) :: post))) (TT : Top topProg loose mean mg mb h₀) (hA : A.frames = some (env :: outer)) (hf : env.frame = some L) (hke : env.scope.kind = .function) (hroom : A.depth < 700)
    (hpre : ∀ p ∈ pre, p.1 ≠ aS) (hpost : ∀ p ∈ post, p.1 ≠ aS) (hx : 0 ≤ x) (hy0 : 0 ≤ y) (hy : y < 2147483647) (ht : 2 ≤ top) (ht' : top ≤ 12)
    (ret : ∀ r tr x' y' tx' ty' n' h' tk', Fr h₀ L h' m → News h₀ L h' (pre ++ ((aS, srcObj x' y' tx' ty' n') :: post)) → 0 ≤ x' → 0 ≤ y' → y' < 2147483647 → 0 ≤ r → r < top → Q (.int r tr) { s with heap := h', toks := tk' }) :
    wpAny (model PR w) A (call (.ref 218) [.ref aS, .int top tt]) Q E s := by
  obtain ⟨N1, oS⟩ := led_at N (List.mem_append_right pre (.head _))
  refine wpAny_call (takeA B F X N1 TT hA hf hke hroom oS hx hy0 hy ht ht' ?_)
  intro r tr x' y' tx' ty' n' h' tk' F' N' hx' hy0' hy' hr0 hr1
  exact ret r tr x' y' tx' ty' n' h' tk' F' (swap_g hpre hpost N') hx' hy0' hy' hr0 hr1
theorem one_g {aT : Addr} {nT : Nat} {vs : List Value} {Q : Value → Shared → Prop} (B : Below A₀ base outer h₀) (F : Fr h₀ L s.heap m) (X : (Mine.hd.heap_1 w.params).In h₀) (N : News h₀ L s.heap (pre ++ ((aS, srcObj x y tx ty n) :: post))) (TT : Top topProg loose mean mg mb h₀) (hA : A.frames = some (env :: outer)) (hf : env.frame = some L) (hke : env.scope.kind = .function) (hroom : A.depth < 690)
    (hpre : ∀ p ∈ pre, p.1 ≠ aS) (hpost : ∀ p ∈ post, p.1 ≠ aS) (hx : 0 ≤ x) (hy0 : 0 ≤ y) (hy : y < 2147483647) (hT : (aT, listOf vs.toArray nT) ∈ pre) (h2 : 2 ≤ vs.length) (h12 : vs.length ≤ 12)
    (ret : ∀ v x' y' tx' ty' n' h' tk', Fr h₀ L h' m → News h₀ L h' (pre ++ ((aS, srcObj x' y' tx' ty' n') :: post)) → 0 ≤ x' → 0 ≤ y' → y' < 2147483647 → v ∈ vs → Q v { s with heap := h', toks := tk' }) :
    wpAny (model PR w) A (call (.ref 225) [.ref aS, .ref aT]) Q E s := by
  obtain ⟨N1, oS⟩ := led_at N (List.mem_append_right pre (.head _))
  refine wpAny_call (oneA B F X N1 TT hA hf hke hroom oS hx hy0 hy (mem_off (List.mem_append_left _ hT) (hpre _ hT)) h2 h12 ?_)
  intro v x' y' tx' ty' n' h' tk' F' N' hx' hy0' hy' hv
  exact ret v x' y' tx' ty' n' h' tk' F' (swap_g hpre hpost N') hx' hy0' hy' hv
end
end
section
open PySem.Spec
section
variable {prog : Program} {w : World} {A : Around} {E : Value → Shared → Prop} {s : Shared} {h₀ : Heap} {L a : Addr} {m : Str → Option Value} {news : List (Addr × Obj)} {vs : List Value} {n : Nat}
theorem sort_short {P : PySem.Fin → Shared → Prop} (F : Fr h₀ L s.heap m) (N : News h₀ L s.heap ((a, listOf vs.toArray n) :: news)) (hna : ∀ p ∈ news, p.1 ≠ a) (h1 : vs.length ≤ 1)
    (h : ∀ n' h', Fr h₀ L h' m → News h₀ L h' ((a, listOf vs.toArray n') :: news) → P (.done (.ret .none)) { s with heap := h' }) :
    wpAny (model prog w) A (Builtin.«list.sort» ⟨[.ref a], []⟩) P E s := by
  have z := N _ (.head _)
  have ho : s.heap.get? a = some (seqObj "list" vs.toArray n) := z.1
  have N0 : News h₀ L s.heap news := fun p hp => N p (.tail _ hp)
  have s1 := Heap.SameBut.update s.heap a (Obj.mapSeq fun _ => (#[] : Array Value))
  obtain ⟨e1, ho1⟩ : ∃ e1, (s.heap.update a (Obj.mapSeq fun _ => (#[] : Array Value))).get? a = some (seqObj "list" #[] e1) := ⟨_, get?_update_seq ho fun _ => #[]⟩
  have ho2 : (((s.heap.update a (Obj.mapSeq fun _ => (#[] : Array Value))).push (seqObj "tuple" vs.toArray 0)).push (seqObj "list" #[] 0)).get? a = some (seqObj "list" #[] e1) := Heap.get?_push_of_some _ (Heap.get?_push_of_some _ ho1)
  have F3 : Fr h₀ L (((s.heap.update a (Obj.mapSeq fun _ => (#[] : Array Value))).push (seqObj "tuple" vs.toArray 0)).push (seqObj "list" #[] 0)) m := ((kas_fr F s1 z.2.1 z.2.2).push _).push _
  have N2 : News h₀ L (((s.heap.update a (Obj.mapSeq fun _ => (#[] : Array Value))).push (seqObj "tuple" vs.toArray 0)).push (seqObj "list" #[] 0)) news :=
    (kas_news N0 s1 hna).grown fun b x e => Heap.get?_push_of_some _ (Heap.get?_push_of_some _ e)
  rw [list_sort_plain]
  refine wpAny_bind (listItems_at ho rfl ?_)
  refine wpAny_bind (listUpdate_at ho rfl ?_ (by rw [List.size_toArray, sizeLine_eq]; omega) (Nat.zero_le _))
  refine wpAny_bind (seqEpoch_at ho1 rfl ?_)
  refine wpAny_bind (wpAny_newTuple ?_ (by show vs.length ≤ _; rw [sizeLine_eq]; omega))
  refine wpAny_bind (wpAny_newList ?_ (Nat.zero_le _))
  refine wpAny_holding ?_
  show wpAny (model prog w) A _ P E { s with heap := ((s.heap.update a (Obj.mapSeq fun _ => (#[] : Array Value))).push (seqObj "tuple" vs.toArray 0)).push (seqObj "list" #[] 0) }
  dsimp only
  have hn2 : vs.toArray.size < 2 := by rw [List.size_toArray]; omega
  rw [if_pos hn2, if_pos hn2]
  refine wpAny_bind (wpAny_pure ?_)
  rw [StateT.run_pure]
  refine wpAny_bind (wpAny_pure ?_)
  dsimp only
  have hout : (arrOf (SortSt.mk' general' (vs.toArray.zip vs.toArray) #[] 7 none)).map (·.2) = vs.toArray := by
    show (vs.toArray.zip vs.toArray).map (·.2) = vs.toArray
    apply Array.toList_inj.mp
    have : ∀ l : List Value, List.map (fun x => x.2) (l.zip l) = l := fun l => by
      induction l with
      | nil => rfl
      | cons x l ih => simpa using ih
    simpa using this vs
  rw [hout]
  have s2 := Heap.SameBut.update (((s.heap.update a (Obj.mapSeq fun _ => (#[] : Array Value))).push (seqObj "tuple" vs.toArray 0)).push (seqObj "list" #[] 0)) a (Obj.mapSeq fun _ => vs.toArray)
  obtain ⟨c2, hc2⟩ : ∃ c2, ((((s.heap.update a (Obj.mapSeq fun _ => (#[] : Array Value))).push (seqObj "tuple" vs.toArray 0)).push (seqObj "list" #[] 0)).update a (Obj.mapSeq fun _ => vs.toArray)).get? a = some (seqObj "list" vs.toArray c2) := ⟨_, get?_update_seq ho2 fun _ => vs.toArray⟩
  refine wpAny_bind (seqEpoch_at ho2 rfl ?_)
  refine wpAny_bind (listUpdate_at ho2 rfl ?_ (Nat.zero_le _) (by rw [List.size_toArray, sizeLine_eq]; omega))
  simp only [bne_self_eq_false, Bool.false_eq_true, if_false]
  refine wpAny_pure (h c2 _ (kas_fr F3 s2 z.2.1 z.2.2) fun p hp => ?_)
  rcases List.mem_cons.mp hp with rfl | hp
  · exact ⟨hc2, z.2⟩
  · have n2 := N2 p hp
    exact ⟨s2.extBut _ _ (hna p hp) n2.1, n2.2⟩
theorem lsort_short {Q : Value → Shared → Prop} (F : Fr h₀ L s.heap m) (N : News h₀ L s.heap ((a, listOf vs.toArray n) :: news)) (hna : ∀ p ∈ news, p.1 ≠ a) (h1 : vs.length ≤ 1)
    (h : ∀ n' h', Fr h₀ L h' m → News h₀ L h' ((a, listOf vs.toArray n') :: news) → Q .none { s with heap := h' }) :
    wpAny (model prog w) A (call (.builtin "list.sort") [.ref a]) Q E s :=
  wpAny_call_entry slot_list_sort ⟨_, (N _ (.head _)).1, rfl⟩ entry_list_sort (sort_short F N hna h1 fun n' h' F' N' => ⟨_, rfl, h n' h' F' N'⟩) (args_list_sort _)
end
end
section
theorem set_L16a : True := by
  w_top off
  k_with_none
  k_with "exec For Name Call cons nil" => (k_here; (with_unfolding_all refine' For_invVF (by k_asm) (by exact rfl) (by exact rfl) ?_; k_whole))
  k_with "unpackItems ref" => (k_here; k_dflt (refine' unpackItemsN_ (by k_asm) (by k_asm) (by kun_tup) (by assumption) (by exact rfl) ?_; k_whole); intro _ _ _; (try k_sweep))
  k_with "subscriptTail Name Name ref int" => ((with_reducible first | show wpAny _ _ (subscriptTail _ _ (Value.ref (LimS.aR _)) _) _ _ _ | show wpAny _ _ (subscriptTail _ _ (Value.ref (BookS.aB _)) _) _ _ _); refine stop_here ?_)
  k_with "compareOp In int ref" => ((with_reducible first | show wpAny _ _ (compareOp _ _ (Value.ref (LimS.aR _))) _ _ _ | show wpAny _ _ (compareOp _ _ (Value.ref (BookS.aB _))) _ _ _ | show wpAny _ _ (compareOp _ _ (Value.ref (LRow.kA _))) _ _ _ | show wpAny _ _ (compareOp _ _ (Value.ref (BRow.kA _))) _ _ _); refine stop_here ?_)
  k_with "compareOp NotIn int ref" => ((with_reducible first | show wpAny _ _ (compareOp _ _ (Value.ref (LimS.aR _))) _ _ _ | show wpAny _ _ (compareOp _ _ (Value.ref (BookS.aB _))) _ _ _ | show wpAny _ _ (compareOp _ _ (Value.ref (LRow.kA _))) _ _ _ | show wpAny _ _ (compareOp _ _ (Value.ref (BRow.kA _))) _ _ _); refine stop_here ?_)
  k_with "getMethod ref" => ((with_reducible first | show wpAny _ _ (getMethod (Value.ref (LimS.aR _)) _ _) _ _ _ | show wpAny _ _ (getMethod (Value.ref (BookS.aB _)) _ _) _ _ _); refine stop_here ?_)
  k_with "call builtin:len" => ((with_reducible first | show wpAny _ _ (call _ [Value.ref (LRow.kA _)]) _ _ _ | show wpAny _ _ (call _ [Value.ref (BRow.kA _)]) _ _ _); refine stop_here ?_)
  k_with "call ref" => ((with_reducible first | show wpAny _ _ (call (Value.ref 124) [Value.ref (LimS.aL _), _]) _ _ _); refine stop_here ?_)
  k_with "subscriptTail Name Slice ref ref" => refine stop_here ?_
  k_with "subscriptTail Attribute Name Name ref int" => ((with_reducible show wpAny _ _ (subscriptTail _ _ (Value.ref (LimS.aR _)) _) _ _ _); k_dflt (refine kba_turn (value' := PySem.Expr.Name (PySem.Str.ofString "_") ⟨0, 0, 0, 0⟩) (fun _ => rfl) ?_))
  k_with "subscriptTail Attribute Name ref int" => ((with_reducible show wpAny _ _ (subscriptTail _ _ (Value.ref (LimS.aR _)) _) _ _ _); k_dflt (refine kba_turn (value' := PySem.Expr.Name (PySem.Str.ofString "_") ⟨0, 0, 0, 0⟩) (fun _ => rfl) ?_))
  k_with "subscriptTail Subscript Subscript" => ((with_reducible show wpAny _ _ (subscriptTail _ _ (Value.ref (BRow.kA _)) _) _ _ _); k_dflt (refine kba_turn (value' := PySem.Expr.Name (PySem.Str.ofString "_") ⟨0, 0, 0, 0⟩) (fun _ => rfl) ?_))
  k_with "exec Raise" => refine stop_here ?_
  k_with "subscriptTail Subscript Name Name Constant ref int" => ((with_reducible show wpAny _ _ (subscriptTail _ _ (Value.ref (BRow.bA _)) _) _ _ _); k_dflt (refine item_at (vs := BRow.items _) (News.isList (by k_asm) (by k_mem)) (by decide) (by decide) rfl ?_))
  k_with "subscriptTail Name Constant ref int" => ((with_reducible show wpAny _ _ (subscriptTail _ _ (Value.ref (BRow.bA _)) _) _ _ _); k_dflt (refine item_at (vs := BRow.items _) (News.isList (by k_asm) (by k_mem)) (by decide) (by decide) rfl ?_))
  trivial
noncomputable def tAs (rs : List WRow) : List Value := rs.map fun r => .ref r.tA
theorem wsort_c {w : World} {A : Around} {E : Value → Shared → Prop} {s : Shared} {h₀ : Heap} {L D : Addr} {m : Str → Option Value} {news : List (Addr × Obj)} {S : WatS w} {n : Nat} {Q : Value → Shared → Prop} (X : (Mine.hd.heap_1 w.params).In h₀)
    (F : Fr h₀ L s.heap m) (hlen : S.rows.length ≤ 2) (hun : A.units < 8900) (N : News h₀ L s.heap ((D, listOf (tAs S.rows).toArray n) :: news)) (hs : ∀ p ∈ S.led, p ∈ news) (hD : ∀ p ∈ news, p.1 < D)
    (h : ∀ rs n' h', rs.Perm S.rows → Fr h₀ L h' m → News h₀ L h' ((D, listOf (tAs rs).toArray n') :: news) → Q .none { s with heap := h' }) :
    wpAny (model PR w) A (call (.builtin "list.sort") [.ref D]) Q E s := by
  by_cases h1 : S.rows.length ≤ 1
  · exact lsort_short F N (fun p hp => Nat.ne_of_lt (hD p hp)) (by simp [tAs]; omega) fun n' h' F' N' => h S.rows n' h' (List.Perm.refl _) F' N'
  · obtain ⟨r1, r2, e⟩ : ∃ r1 r2, S.rows = [r1, r2] := by
      match hS : S.rows, hlen, h1 with
      | [r1, r2], _, _ => exact ⟨r1, r2, rfl⟩
      | [], _, h1 => simp at h1
      | [_], _, h1 => simp at h1
      | _ :: _ :: _ :: _, hl, _ => simp at hl
    have hne : r1.mac ≠ r2.mac := by
      have := S.nd
      rw [e] at this
      simpa using this
    have lD := allLt_of hD
    have m1 : (r1.tA, tupObj [.int 3 r1.t3, .int r1.mac r1.tm]) ∈ news := hs _ (.tail _ (List.mem_flatMap.mpr ⟨r1, by rw [e]; exact .head _, .head _⟩))
    have m2 : (r2.tA, tupObj [.int 3 r2.t3, .int r2.mac r2.tm]) ∈ news := hs _ (.tail _ (List.mem_flatMap.mpr ⟨r2, by rw [e]; exact .tail _ (.head _), .head _⟩))
    have f1 := h [r1, r2] 
    have f2 := h [r2, r1]
    rw [e] at f1 f2
    have g1 := fun n' h' => f1 n' h' (List.Perm.refl _)
    have g2 := fun n' h' => f2 n' h' (List.Perm.swap _ _ _)
    have e1 : tAs S.rows = [.ref r1.tA, .ref r2.tA] := by rw [e]; rfl
    rw [e1] at N
    clear h f1 f2 hlen h1 e1
    have o : OwnOff news [D] := fun p hp b hb => by rw [List.mem_singleton.mp hb]; exact Nat.ne_of_lt (hD p hp)
    refine kat_lsort (vs := [.ref r1.tA, .ref r2.tA]) F N (UpdF.head fun p hp => o p hp D (.head _)) rfl (by simp) (by simp) ?_
    intro e1 h' F' N'
    k_steps
    all_goals first | exact g1 _ _ (by k_asm) (by k_asm) | exact g2 _ _ (by k_asm) (by k_asm)
section
variable {prog : Program} {w : World} {A : Around} {E : Value → Shared → Prop} {s : Shared} {env : Env} {h₀ : Heap} {x : Str} {body : List Stmt} {Q : Flow → Shared → Prop}
theorem iter_vals {L l : Addr} {vs : List Value} {nn : Nat} {m₀ : Str → Option Value} {news : List (Addr × Obj)} (J : Nat → (Str → Option Value) → List (Addr × Obj) → Prop)
    (he : env.locals = L) (hh : A.handled = none) (hl : (l, listOf vs.toArray nn) ∈ news) (F : Fr h₀ L s.heap m₀) (N : News h₀ L s.heap news) (hj : J 0 m₀ news) (hJl : ∀ i m nx, J i m nx → (l, listOf vs.toArray nn) ∈ nx)
    (turn : ∀ i v m₁ nx h tk I oI, vs[i]? = some v → (∀ p ∈ nx, p.1 ≠ I) → J i m₁ nx → Fr h₀ L h (fun y => if y = x then some v else m₁ y) → News h₀ L h ((I, oI) :: nx) →
      wpAny (model prog w) A (execs body env) (TurnG h₀ L (J (i + 1)) I oI { s with heap := h, toks := tk } Q) E { s with heap := h, toks := tk })
    (done : ∀ m₁ nx h tk, J vs.length m₁ nx → Fr h₀ L h m₁ → News h₀ L h nx → Q .next { s with heap := h, toks := tk }) :
    wpAny (model prog w) A (pyIter (.ref l)) (fun it s₂ => LoopAtV prog w A h₀ env x body Q E it s₂) E s := by
  subst he
  have hol : s.heap.get? l = some (listOf vs.toArray nn) := (N _ hl).1
  have hls : s.heap.IsList l vs.toArray := ⟨_, hol, rfl, nn, rfl⟩
  have hlt : l < s.heap.objs.size := Heap.lt_size hol
  refine wpAny_pyIter_list hls ?_
  have W := Walks.list (prog := prog) (w := w) hh s.heap.objs.size l (Nat.ne_of_lt hlt) vs.toArray
  rw [List.size_toArray] at W
  refine loop_gen J W (.head _) (next_is_new F) (fun i h hs => by obtain ⟨⟨o, ho, _⟩, _⟩ := hs; exact ⟨o, ho⟩) ?_ ?_ ⟨⟨_, Heap.get?_push_size _ rfl, rfl, rfl⟩, hls.at fun o e => Heap.get?_push_of_some _ e⟩ (F.push _) (fun p hp => ⟨Heap.get?_push_of_some _ (N p hp).1, (N p hp).2⟩) hj ?_ ?_ ?_
  · intro hm
    rcases List.mem_cons.mp hm with e | hm
    · exact absurd F.ns.lt (e ▸ Nat.lt_irrefl _)
    · exact (N _ hl).2.1 (List.mem_singleton.mp hm).symm
  · intro p hp hI
    exact absurd (Heap.lt_size (N p hp).1) (hI ▸ Nat.lt_irrefl _)
  · intro b hb hne
    rcases List.mem_cons.mp hb with e | hb
    · exact absurd e hne
    · rw [List.mem_singleton.mp hb]; exact ⟨_, hJl⟩
  · intro i v m₁ nx h tk oI hin hP ho hJ F₁ N₁
    exact turn i v m₁ nx h tk _ oI (by simpa using hP) ho hJ F₁ N₁
  · exact done
end
theorem find_put {mac mac' : Int} {ks : List Int} : ∀ as : WTab, (as.map fun x => if x.1 = mac then (mac, ks) else x).find? (fun x => decide (x.1 = mac')) = if mac' = mac then (as.find? fun x => decide (x.1 = mac)).map fun _ => (mac, ks) else as.find? fun x => decide (x.1 = mac')
  | [] => by split <;> rfl
  | q :: l => by
    have ih := find_put (mac := mac) (mac' := mac') (ks := ks) l
    rw [List.map_cons, List.find?_cons, ih]
    by_cases e : q.1 = mac
    · by_cases e2 : mac' = mac
      · simp [e, e2]
      · have e3 : ¬ mac = mac' := fun z => e2 z.symm
        simp [e, e2, e3]
    · by_cases e2 : mac' = mac
      · subst e2
        simp [e]
      · by_cases e4 : q.1 = mac'
        · have : ¬ mac' = mac := e2
          simp [e, e4, this]
        · simp [e, e2, e4]
theorem wget_set {as : WTab} {mac mac' : Int} {ks : List Int} : wget (wsetS as mac ks) mac' = if mac' = mac then ks else wget as mac' := by
  unfold wget wsetS
  by_cases h : as.any (fun x => decide (x.1 = mac)) = true
  · rw [if_pos h, find_put]
    by_cases e : mac' = mac
    · rw [if_pos e, if_pos e]
      cases hf : as.find? fun x => decide (x.1 = mac) with
      | some y => rfl
      | none =>
        obtain ⟨x, hx, hxm⟩ := List.any_eq_true.mp h
        exact absurd hxm (List.find?_eq_none.mp hf x hx)
    · rw [if_neg e, if_neg e]
  · rw [if_neg h, List.find?_append]
    have hn : ∀ x ∈ as, ¬ x.1 = mac := fun x hx z => h (List.any_eq_true.mpr ⟨x, hx, by simpa using z⟩)
    by_cases e2 : mac' = mac
    · subst e2
      rw [List.find?_eq_none.mpr (fun x hx => by simpa using hn x hx)]
      simp
    · have e3 : ¬ mac = mac' := fun z => e2 z.symm
      simp [e2, e3]
theorem find_filt {mac mac' : Int} : ∀ as : WTab, (as.filter fun x => decide (x.1 ≠ mac)).find? (fun x => decide (x.1 = mac')) = if mac' = mac then none else as.find? fun x => decide (x.1 = mac')
  | [] => by split <;> rfl
  | q :: l => by
    have ih := find_filt (mac := mac) (mac' := mac') l
    by_cases e : q.1 = mac
    · rw [List.filter_cons_of_neg (by simpa using e), ih]
      by_cases e2 : mac' = mac
      · simp [e2]
      · have e3 : ¬ mac = mac' := fun z => e2 z.symm
        simp [e2, e, e3]
    · rw [List.filter_cons_of_pos (by simpa using e), List.find?_cons, ih]
      by_cases e2 : mac' = mac
      · subst e2
        simp [e]
      · rw [if_neg e2, if_neg e2, List.find?_cons]
theorem wget_filter {as : WTab} {mac mac' : Int} : wget (as.filter fun x => decide (x.1 ≠ mac)) mac' = if mac' = mac then [] else wget as mac' := by
  unfold wget
  rw [find_filt]
  by_cases e : mac' = mac
  · rw [if_pos e, if_pos e]; rfl
  · rw [if_neg e, if_neg e]
end
section
noncomputable abbrev upd3 (x a b : Str) (vx va vb : Option Value) (m₀ : Str → Option Value) : Str → Option Value := fun y => if y = b then vb else if y = a then va else if y = x then vx else m₀ y
theorem upd3_of {x a b : Str} {v1 v2 v3 vt vm vd : Option Value} {m₀ : Str → Option Value} : ∃ vx va vb, (fun y => if y = b then v1 else if y = a then v2 else if y = x then v3 else upd3 x a b vt vm vd m₀ y) = upd3 x a b vx va vb m₀ := ⟨v3, v2, v1, by
  funext y
  unfold upd3
  by_cases e1 : y = b
  · simp [e1]
  · by_cases e2 : y = a
    · subst e2; simp [e1]
    · by_cases e3 : y = x
      · subst e3; simp [e1, e2]
      · simp [e1, e2, e3]⟩
section
variable {prog : Program} {w : World} {A : Around} {E : Value → Shared → Prop} {s : Shared} {env : Env} {h₀ : Heap} {x : Str} {body : List Stmt} {Q : Flow → Shared → Prop}
theorem iter_range3 {a b : Str} {L r : Addr} {a₀ b₀ : Int} {t₀ u₀ v₀ : Tok} {n : Nat} {m₀ : Str → Option Value} {news : List (Addr × Obj)} (J : Nat → List (Addr × Obj) → Prop)
    (he : env.locals = L) (hh : A.handled = none) (hr : IsRange s.heap r a₀ b₀ 1 t₀ u₀ v₀) (hsmall : Builtin.Range.small a₀ b₀ 1 = true) (hn : Builtin.Range.rangeSize a₀ b₀ 1 = (n : Int)) (F : Fr h₀ L s.heap m₀) (N : News h₀ L s.heap news) (hj : J 0 news)
    (turn : ∀ i (k : Int) t nx h tk I oI vx va vb, i < n → k = a₀ + (i : Int) → (∀ p ∈ nx, p.1 ≠ I) → J i nx → Fr h₀ L h (fun y => if y = x then some (.int k t) else upd3 x a b vx va vb m₀ y) → News h₀ L h ((I, oI) :: nx) →
      wpAny (model prog w) A (execs body env) (TurnG h₀ L (fun m nx => (∃ vx va vb, m = upd3 x a b vx va vb m₀) ∧ J (i + 1) nx) I oI { s with heap := h, toks := tk } Q) E { s with heap := h, toks := tk })
    (done : ∀ vx va vb nx h tk, J n nx → Fr h₀ L h (upd3 x a b vx va vb m₀) → News h₀ L h nx → Q .next { s with heap := h, toks := tk }) :
    wpAny (model prog w) A (pyIter (.ref r)) (fun it s₂ => LoopAtV prog w A h₀ env x body Q E it s₂) E s := by
  subst he
  refine iter_range (fun i m nx => (∃ vx va vb, m = upd3 x a b vx va vb m₀) ∧ J i nx) hh hr hsmall hn F N ⟨⟨m₀ x, m₀ a, m₀ b, ?_⟩, hj⟩ ?_ ?_
  · funext y
    unfold upd3
    by_cases e1 : y = b
    · simp [e1]
    · by_cases e2 : y = a
      · subst e2
        by_cases e3 : y = b <;> simp [e3]
      · by_cases e3 : y = x
        · subst e3; simp [e1, e2]
        · simp [e1, e2, e3]
  · rintro i k t m₁ nx h tk I oI hi hk ho ⟨⟨vx, va, vb, rfl⟩, hJ⟩ F₁ N₁
    exact turn i k t nx h tk I oI vx va vb hi hk ho hJ F₁ N₁
  · rintro m₁ nx h tk ⟨⟨vx, va, vb, rfl⟩, hJ⟩ F₁ N₁
    exact done vx va vb nx h tk hJ F₁ N₁
end
/-- the figures of the moves -/
structure MovS (most : Nat) (span : Int) (i : Nat) (now : Int) (as : WTab) (T2 T4 : List Int) : Prop where
  now0 : 0 ≤ now
  nowi : now ≤ 3 * i
  l2 : T2.length ≤ i
  l4 : T4.length ≤ i
  w2 : WInv most span now T2 (wget as 2)
  w4 : WInv most span now T4 (wget as 4)
  p2 : ∀ t ∈ T2, 0 ≤ t
  p4 : ∀ t ∈ T4, 0 ≤ t
  len : ∀ mac, (wget as mac).length ≤ most + 1
  keys : ∀ x ∈ as, x.1 = 2 ∨ x.1 = 4
theorem wget_nil {as : WTab} {mac : Int} (h : ∀ x ∈ as, x.1 ≠ mac) : wget as mac = [] := by
  unfold wget
  rw [List.find?_eq_none.mpr (fun x hx => by simpa using h x hx)]
  rfl
theorem MovS.in_ {most : Nat} {span : Int} {i : Nat} {now : Int} {as : WTab} {T2 T4 : List Int} (M : MovS most span i now as T2 T4) (mac : Int) : ∀ t ∈ wget as mac, 0 ≤ t ∧ t ≤ now := by
  intro t ht
  by_cases h2 : mac = 2
  · subst h2
    obtain ⟨P, e, _⟩ := M.w2.cut
    have hm : t ∈ T2 := by rw [e]; exact List.mem_append_right _ ht
    exact ⟨M.p2 t hm, M.w2.upto t hm⟩
  · by_cases h4 : mac = 4
    · subst h4
      obtain ⟨P, e, _⟩ := M.w4.cut
      have hm : t ∈ T4 := by rw [e]; exact List.mem_append_right _ ht
      exact ⟨M.p4 t hm, M.w4.upto t hm⟩
    · rw [wget_nil (fun x hx e => by rcases M.keys x hx with h | h <;> omega)] at ht
      cases ht
theorem MovS.nil {most : Nat} {span : Int} : MovS most span 0 0 [] [] [] :=
  ⟨Int.le_refl _, by simp, Nat.le_refl _, Nat.le_refl _, WInv.nil, WInv.nil, (fun _ h => nomatch h), (fun _ h => nomatch h), (fun _ => Nat.zero_le _), fun _ h => nomatch h⟩
theorem MovS.keep {most : Nat} {span : Int} {i : Nat} {now : Int} {as as' : WTab} {T2 T4 : List Int} (M : MovS most span i now as T2 T4) (hk : ∀ x ∈ as', ∃ y ∈ as, y.1 = x.1) (hg : ∀ mac, wget as' mac = wKeep now span (wget as mac)) : MovS most span i now as' T2 T4 := by
  refine ⟨M.now0, M.nowi, M.l2, M.l4, ?_, ?_, M.p2, M.p4, fun mac => ?_, fun x hx => ?_⟩
  · rw [hg]; exact M.w2.keep.1
  · rw [hg]; exact M.w4.keep.1
  · rw [hg]; exact Nat.le_trans (List.length_filter_le _ _) (M.len mac)
  · obtain ⟨y, hy, e⟩ := hk x hx
    rw [← e]; exact M.keys y hy
theorem wPut_len {most : Nat} {now span : Int} {W : List Int} : (wPut most now span W).length ≤ most + 1 := by
  unfold wPut
  rw [List.length_drop]
  omega
theorem wset_keys {as : WTab} {mac : Int} {ks : List Int} : ∀ x ∈ wsetS as mac ks, x.1 = mac ∨ ∃ y ∈ as, y.1 = x.1 := by
  intro x hx
  unfold wsetS at hx
  split at hx
  · obtain ⟨y, hy, rfl⟩ := List.mem_map.mp hx
    by_cases e : y.1 = mac
    · rw [if_pos e]; exact .inl rfl
    · rw [if_neg e]; exact .inr ⟨y, hy, rfl⟩
  · rcases List.mem_append.mp hx with hx | hx
    · exact .inr ⟨x, hx, rfl⟩
    · rw [List.mem_singleton.mp hx]; exact .inl rfl
theorem MovS.put2 {most : Nat} {span : Int} {i : Nat} {now now' : Int} {as : WTab} {T2 T4 : List Int} (hs : 1 ≤ span) (M : MovS most span i now as T2 T4) (h1 : now ≤ now') (h2 : now' ≤ now + 3) :
    MovS most span (i + 1) now' (wsetS as 2 (wPut most now' span (wget as 2))) (T2 ++ [now']) T4 ∧ decide (most < (wPut most now' span (wget as 2)).length) = decide (most < (wDue now' span (T2 ++ [now'])).length) := by
  obtain ⟨a, b⟩ := (M.w2.later h1).put hs
  have := M.now0; have := M.nowi; have := M.l2; have := M.l4
  refine ⟨⟨by omega, by omega, by simp; omega, by omega, ?_, ?_, fun t ht => ?_, M.p4, fun mac => ?_, fun x hx => ?_⟩, b⟩
  · rw [wget_set, if_pos rfl]; exact a
  · rw [wget_set, if_neg (by decide)]; exact M.w4.later h1
  · rcases List.mem_append.mp ht with ht | ht
    · exact M.p2 t ht
    · rw [List.mem_singleton.mp ht]; omega
  · rw [wget_set]
    split
    · exact wPut_len
    · exact M.len mac
  · rcases wset_keys x hx with h | ⟨y, hy, h⟩
    · exact .inl h
    · rw [← h]; exact M.keys y hy
theorem MovS.put4 {most : Nat} {span : Int} {i : Nat} {now now' : Int} {as : WTab} {T2 T4 : List Int} (hs : 1 ≤ span) (M : MovS most span i now as T2 T4) (h1 : now ≤ now') (h2 : now' ≤ now + 3) :
    MovS most span (i + 1) now' (wsetS as 4 (wPut most now' span (wget as 4))) T2 (T4 ++ [now']) ∧ decide (most < (wPut most now' span (wget as 4)).length) = decide (most < (wDue now' span (T4 ++ [now'])).length) := by
  obtain ⟨a, b⟩ := (M.w4.later h1).put hs
  have := M.now0; have := M.nowi; have := M.l2; have := M.l4
  refine ⟨⟨by omega, by omega, by omega, by simp; omega, ?_, ?_, M.p2, fun t ht => ?_, fun mac => ?_, fun x hx => ?_⟩, b⟩
  · rw [wget_set, if_neg (by decide)]; exact M.w2.later h1
  · rw [wget_set, if_pos rfl]; exact a
  · rcases List.mem_append.mp ht with ht | ht
    · exact M.p4 t ht
    · rw [List.mem_singleton.mp ht]; omega
  · rw [wget_set]
    split
    · exact wPut_len
    · exact M.len mac
  · rcases wset_keys x hx with h | ⟨y, hy, h⟩
    · exact .inr h
    · rw [← h]; exact M.keys y hy
theorem WatS.rows2 {w : World} {S : WatS w} (h : ∀ x ∈ S.abs, x.1 = 2 ∨ x.1 = 4) : S.rows.length ≤ 2 := by
  have := nodup_len (l := S.rows.map (·.mac)) (k := [2, 4]) S.nd fun x hx => by
    obtain ⟨r, hr, rfl⟩ := List.mem_map.mp hx
    have := h _ (List.mem_map_of_mem (f := fun r : WRow => (r.mac, r.ks)) hr)
    simp only [List.mem_cons, List.not_mem_nil, or_false]
    exact this
  simpa using this
end
section
noncomputable abbrev upd4 (x a b c : Str) (vx va vb vc : Option Value) (m₀ : Str → Option Value) : Str → Option Value := fun y => if y = c then vc else if y = b then vb else if y = a then va else if y = x then vx else m₀ y
theorem upd4_of {x a b c : Str} {v1 v2 v3 v4 vt vm vd ve : Option Value} {m₀ : Str → Option Value} : ∃ vx va vb vc, (fun y => if y = c then v1 else if y = b then v2 else if y = a then v3 else if y = x then v4 else upd4 x a b c vt vm vd ve m₀ y) = upd4 x a b c vx va vb vc m₀ := ⟨v4, v3, v2, v1, by
  funext y
  unfold upd4
  by_cases e1 : y = c
  · simp [e1]
  · by_cases e2 : y = b
    · subst e2; simp [e1]
    · by_cases e3 : y = a
      · subst e3; simp [e1, e2]
      · by_cases e4 : y = x
        · subst e4; simp [e1, e2, e3]
        · simp [e1, e2, e3, e4]⟩
noncomputable abbrev upd2 (x a : Str) (vx va : Option Value) (m₀ : Str → Option Value) : Str → Option Value := fun y => if y = a then va else if y = x then vx else m₀ y
theorem upd2_of {x a : Str} {v1 v2 vt vm : Option Value} {m₀ : Str → Option Value} : ∃ vx va, (fun y => if y = a then v1 else if y = x then v2 else upd2 x a vt vm m₀ y) = upd2 x a vx va m₀ := ⟨v2, v1, by
  funext y
  unfold upd2
  by_cases e1 : y = a
  · simp [e1]
  · by_cases e2 : y = x
    · subst e2; simp [e1]
    · simp [e1, e2]⟩
section
variable {prog : Program} {w : World} {A : Around} {E : Value → Shared → Prop} {s : Shared} {env : Env} {h₀ : Heap} {x : Str} {body : List Stmt} {Q : Flow → Shared → Prop}
theorem iter_range4 {a b c : Str} {L r : Addr} {a₀ b₀ : Int} {t₀ u₀ v₀ : Tok} {n : Nat} {m₀ : Str → Option Value} {news : List (Addr × Obj)} (J : Nat → List (Addr × Obj) → Prop)
    (he : env.locals = L) (hh : A.handled = none) (hr : IsRange s.heap r a₀ b₀ 1 t₀ u₀ v₀) (hsmall : Builtin.Range.small a₀ b₀ 1 = true) (hn : Builtin.Range.rangeSize a₀ b₀ 1 = (n : Int)) (F : Fr h₀ L s.heap m₀) (N : News h₀ L s.heap news) (hj : J 0 news)
    (turn : ∀ i (k : Int) t nx h tk I oI vx va vb vc, i < n → k = a₀ + (i : Int) → (∀ p ∈ nx, p.1 ≠ I) → J i nx → Fr h₀ L h (fun y => if y = x then some (.int k t) else upd4 x a b c vx va vb vc m₀ y) → News h₀ L h ((I, oI) :: nx) →
      wpAny (model prog w) A (execs body env) (TurnG h₀ L (fun m nx => (∃ vx va vb vc, m = upd4 x a b c vx va vb vc m₀) ∧ J (i + 1) nx) I oI { s with heap := h, toks := tk } Q) E { s with heap := h, toks := tk })
    (done : ∀ vx va vb vc nx h tk, J n nx → Fr h₀ L h (upd4 x a b c vx va vb vc m₀) → News h₀ L h nx → Q .next { s with heap := h, toks := tk }) :
    wpAny (model prog w) A (pyIter (.ref r)) (fun it s₂ => LoopAtV prog w A h₀ env x body Q E it s₂) E s := by
  subst he
  refine iter_range (fun i m nx => (∃ vx va vb vc, m = upd4 x a b c vx va vb vc m₀) ∧ J i nx) hh hr hsmall hn F N ⟨⟨m₀ x, m₀ a, m₀ b, m₀ c, ?_⟩, hj⟩ ?_ ?_
  · funext y
    unfold upd4
    by_cases e1 : y = c
    · simp [e1]
    · by_cases e2 : y = b
      · subst e2; simp [e1]
      · by_cases e3 : y = a
        · subst e3; simp [e1, e2]
        · by_cases e4 : y = x
          · subst e4; simp [e1, e2, e3]
          · simp [e1, e2, e3, e4]
  · rintro i k t m₁ nx h tk I oI hi hk ho ⟨⟨vx, va, vb, vc, rfl⟩, hJ⟩ F₁ N₁
    exact turn i k t nx h tk I oI vx va vb vc hi hk ho hJ F₁ N₁
  · rintro m₁ nx h tk ⟨⟨vx, va, vb, vc, rfl⟩, hJ⟩ F₁ N₁
    exact done vx va vb vc nx h tk hJ F₁ N₁
theorem iter_range2 {a : Str} {L r : Addr} {a₀ b₀ : Int} {t₀ u₀ v₀ : Tok} {n : Nat} {m₀ : Str → Option Value} {news : List (Addr × Obj)} (J : Nat → List (Addr × Obj) → Prop)
    (he : env.locals = L) (hh : A.handled = none) (hr : IsRange s.heap r a₀ b₀ 1 t₀ u₀ v₀) (hsmall : Builtin.Range.small a₀ b₀ 1 = true) (hn : Builtin.Range.rangeSize a₀ b₀ 1 = (n : Int)) (F : Fr h₀ L s.heap m₀) (N : News h₀ L s.heap news) (hj : J 0 news)
    (turn : ∀ i (k : Int) t nx h tk I oI vx va, i < n → k = a₀ + (i : Int) → (∀ p ∈ nx, p.1 ≠ I) → J i nx → Fr h₀ L h (fun y => if y = x then some (.int k t) else upd2 x a vx va m₀ y) → News h₀ L h ((I, oI) :: nx) →
      wpAny (model prog w) A (execs body env) (TurnG h₀ L (fun m nx => (∃ vx va, m = upd2 x a vx va m₀) ∧ J (i + 1) nx) I oI { s with heap := h, toks := tk } Q) E { s with heap := h, toks := tk })
    (done : ∀ vx va nx h tk, J n nx → Fr h₀ L h (upd2 x a vx va m₀) → News h₀ L h nx → Q .next { s with heap := h, toks := tk }) :
    wpAny (model prog w) A (pyIter (.ref r)) (fun it s₂ => LoopAtV prog w A h₀ env x body Q E it s₂) E s := by
  subst he
  refine iter_range (fun i m nx => (∃ vx va, m = upd2 x a vx va m₀) ∧ J i nx) hh hr hsmall hn F N ⟨⟨m₀ x, m₀ a, ?_⟩, hj⟩ ?_ ?_
  · funext y
    unfold upd2
    by_cases e1 : y = a
    · simp [e1]
    · by_cases e2 : y = x
      · subst e2; simp [e1]
      · simp [e1, e2]
  · rintro i k t m₁ nx h tk I oI hi hk ho ⟨⟨vx, va, rfl⟩, hJ⟩ F₁ N₁
    exact turn i k t nx h tk I oI vx va hi hk ho hJ F₁ N₁
  · rintro m₁ nx h tk ⟨⟨vx, va, rfl⟩, hJ⟩ F₁ N₁
    exact done vx va nx h tk hJ F₁ N₁
end
theorem at_gt {as : ATab} {p : Int} (h : ∀ x ∈ as, x.1 < p) : at? as p = none := by
  unfold at?
  rw [List.find?_eq_none.mpr]
  · rfl
  · intro x hx
    have := h x hx
    simp only [decide_eq_true_eq]
    omega
theorem known_gt {as : ATab} {p : Int} (h : ∀ x ∈ as, x.1 < p) : knownS as p = [] := by
  unfold knownS
  rw [at_gt h]
theorem set_ports {as : ATab} {p q : Int} {a : ARow} (h : ∀ x ∈ as, x.1 < p) (hq : p < q) : ∀ x ∈ setS as p a, x.1 < q := by
  intro x hx
  unfold setS at hx
  split at hx
  · obtain ⟨y, hy, rfl⟩ := List.mem_map.mp hx
    have := h y hy
    split <;> (try dsimp only) <;> omega
  · rcases List.mem_append.mp hx with hx | hx
    · have := h x hx; omega
    · rw [List.mem_singleton.mp hx]; exact hq
/-- two sorted lists of the same ints are the same -/
theorem sorted_same {l k ns : List Int} (h1 : l.Perm ns) (h2 : k.Perm ns) (s1 : l.Pairwise (· ≤ ·)) (s2 : k.Pairwise (· ≤ ·)) : l = k :=
  List.Perm.eq_of_pairwise (fun a b _ _ h h' => Int.le_antisymm h h') s1 s2 (h1.trans h2.symm)
end
theorem set_L15 : True := by
  w_top off
  k_with_none
  k_with "way M" => refine' code_defM ?k1 ?k2 ?k3 ?k4 ?k5 ?kA ?kF ?kK ?kD ?k6 ?k7 ?k8 ?k9 ?kB ?_ ?c2 ?c3 ?c4 ?c5; (case kA => assumption); (case kF => assumption); (case kK => assumption); (case kD => assumption); (case k1 => k_asm); (case k2 => k_asm); (case k3 => k_asm); (case k4 => k_asm); (case k5 => k_asm); (case k6 => k_is); (case k7 => k_is); (case k8 => ktr_room); (case k9 => first | exact BindsTo.of_eq rfl | exact binds_K (by k_in) rfl (by k_is) rfl rfl rfl); (case c5 => decide); (case kB => exact locs rfl); (case c2 => exact rfl); (case c3 => exact rfl); (case c4 => exact rfl); k_whole
  k_with "way C" => refine' code_defC ?k1 ?k2 ?k3 ?k4 ?k5 ?kA ?kF ?kK ?k6 ?k7 ?k8 ?k9 ?kB ?kD ?_ ?c2 ?c3 ?c4; (case kA => first | assumption | exact rfl); (case kF => first | assumption | exact rfl); (case kK => assumption); (case k1 => k_asm); (case k2 => k_asm); (case k3 => k_asm); (case k4 => k_asm); (case k5 => k_asm); (case k6 => k_is); (case k7 => k_is); (case k8 => ktr_room); (case k9 => first | exact BindsTo.of_eq rfl | exact binds_K (by k_in) rfl (by k_is) rfl rfl rfl); (case kB => exact rfl); (case kD => decide +kernel); (case c2 => exact rfl); (case c3 => exact rfl); (case c4 => exact rfl); k_whole
  k_with "way D" => refine' code_def ?k1 ?k2 ?k3 ?k4 ?k5 ?kA ?kF ?kK ?k6 ?k7 ?k8 ?k9 ?kB ?_ ?c2 ?c3 ?c4 ?c5; (case kA => first | assumption | exact rfl); (case kF => first | assumption | exact rfl); (case kK => assumption); (case k1 => k_asm); (case k2 => k_asm); (case k3 => k_asm); (case k4 => k_asm); (case k5 => k_asm); (case k6 => k_is); (case k7 => k_is); (case k8 => ktr_room); (case k9 => first | exact BindsTo.of_eq rfl | exact binds_K (by k_in) rfl (by k_is) rfl rfl rfl); (case c5 => decide); (case kB => exact locs rfl); (case c2 => exact rfl); (case c3 => exact rfl); (case c4 => exact rfl); k_whole
  k_with "way CM" => refine' code_defCM ?k1 ?k2 ?k3 ?k4 ?k5 ?kA ?kF ?kK ?kE ?k6 ?k7 ?k8 ?k9 ?kB ?kD ?_ ?c2 ?c3 ?c4; (case kA => assumption); (case kF => assumption); (case kK => assumption); (case kE => assumption); (case k1 => k_asm); (case k2 => k_asm); (case k3 => k_asm); (case k4 => k_asm); (case k5 => k_asm); (case k6 => k_is); (case k7 => k_is); (case k8 => ktr_room); (case k9 => first | exact BindsTo.of_eq rfl | exact binds_K (by k_in) rfl (by k_is) rfl rfl rfl); (case kB => exact rfl); (case kD => decide +kernel); (case c2 => exact rfl); (case c3 => exact rfl); (case c4 => exact rfl); k_whole
  k_with "exec For Name Call cons nil" => (k_here; (with_unfolding_all refine' For_invVF (by k_asm) (by exact rfl) (by exact rfl) ?_; k_whole))
  k_with "unpackItems ref" => (k_here; k_dflt (refine' unpackItemsN_ (by k_asm) (by k_asm) (by kun_tup) (by assumption) (by exact rfl) ?_; k_whole); intro _ _ _; (try k_sweep))
  k_with "subscriptTail Name Name ref int" => ((with_reducible first | show wpAny _ _ (subscriptTail _ _ (Value.ref (LimS.aR _)) _) _ _ _ | show wpAny _ _ (subscriptTail _ _ (Value.ref (BookS.aB _)) _) _ _ _); refine stop_here ?_)
  k_with "compareOp In int ref" => ((with_reducible first | show wpAny _ _ (compareOp _ _ (Value.ref (LimS.aR _))) _ _ _ | show wpAny _ _ (compareOp _ _ (Value.ref (BookS.aB _))) _ _ _ | show wpAny _ _ (compareOp _ _ (Value.ref (LRow.kA _))) _ _ _ | show wpAny _ _ (compareOp _ _ (Value.ref (BRow.kA _))) _ _ _); refine stop_here ?_)
  k_with "compareOp NotIn int ref" => ((with_reducible first | show wpAny _ _ (compareOp _ _ (Value.ref (LimS.aR _))) _ _ _ | show wpAny _ _ (compareOp _ _ (Value.ref (BookS.aB _))) _ _ _ | show wpAny _ _ (compareOp _ _ (Value.ref (LRow.kA _))) _ _ _ | show wpAny _ _ (compareOp _ _ (Value.ref (BRow.kA _))) _ _ _); refine stop_here ?_)
  k_with "getMethod ref" => ((with_reducible first | show wpAny _ _ (getMethod (Value.ref (LimS.aR _)) _ _) _ _ _ | show wpAny _ _ (getMethod (Value.ref (BookS.aB _)) _ _) _ _ _); refine stop_here ?_)
  k_with "call builtin:len" => ((with_reducible first | show wpAny _ _ (call _ [Value.ref (LRow.kA _)]) _ _ _ | show wpAny _ _ (call _ [Value.ref (BRow.kA _)]) _ _ _); refine stop_here ?_)
  k_with "call ref" => ((with_reducible first | show wpAny _ _ (call (Value.ref 124) [Value.ref (LimS.aL _), _]) _ _ _); refine stop_here ?_)
  k_with "subscriptTail Name Slice ref ref" => refine stop_here ?_
  k_with "subscriptTail Attribute Name Name ref int" => ((with_reducible show wpAny _ _ (subscriptTail _ _ (Value.ref (LimS.aR _)) _) _ _ _); k_dflt (refine kba_turn (value' := PySem.Expr.Name (PySem.Str.ofString "_") ⟨0, 0, 0, 0⟩) (fun _ => rfl) ?_))
  k_with "subscriptTail Attribute Name ref int" => ((with_reducible show wpAny _ _ (subscriptTail _ _ (Value.ref (LimS.aR _)) _) _ _ _); k_dflt (refine kba_turn (value' := PySem.Expr.Name (PySem.Str.ofString "_") ⟨0, 0, 0, 0⟩) (fun _ => rfl) ?_))
  k_with "subscriptTail Subscript Subscript" => ((with_reducible show wpAny _ _ (subscriptTail _ _ (Value.ref (BRow.kA _)) _) _ _ _); k_dflt (refine kba_turn (value' := PySem.Expr.Name (PySem.Str.ofString "_") ⟨0, 0, 0, 0⟩) (fun _ => rfl) ?_))
  k_with "exec Raise" => refine stop_here ?_
  k_with "subscriptTail Subscript Name Name Constant ref int" => ((with_reducible show wpAny _ _ (subscriptTail _ _ (Value.ref (BRow.bA _)) _) _ _ _); k_dflt (refine item_at (vs := BRow.items _) (News.isList (by k_asm) (by k_mem)) (by decide) (by decide) rfl ?_))
  k_with "subscriptTail Name Constant ref int" => ((with_reducible show wpAny _ _ (subscriptTail _ _ (Value.ref (BRow.bA _)) _) _ _ _); k_dflt (refine item_at (vs := BRow.items _) (News.isList (by k_asm) (by k_mem)) (by decide) (by decide) rfl ?_))
  k_with "exec Assign cons ListComp" => refine stop_here ?_
  k_with "eval ListComp" => refine stop_here ?_
  k_with "getMethod ref" => ((with_reducible show wpAny _ _ (getMethod (Value.ref (WatS.aT _)) _ _) _ _ _); refine stop_here ?_)
  k_with "setItem ref ref" => ((with_reducible show wpAny _ _ (setItem (Value.ref (WatS.aT _)) _ _) _ _ _); refine stop_here ?_)
  k_with "subscriptTail Name Name ref ref" => ((with_reducible show wpAny _ _ (subscriptTail _ _ (Value.ref (WatS.aT _)) _) _ _ _); refine stop_here ?_)
  k_with "call builtin:dict.get" => ((with_reducible show wpAny _ _ (call _ [Value.ref (WatS.aT _), _, _]) _ _ _); refine stop_here ?_)
  trivial
noncomputable abbrev watDict (w : World) (k1 k2 k3 : Nat) (most span : Int) (tM tS : Nat) (aT : Addr) : Obj := dictOf [⟨PyData.keyHash w.params "most", .str "most" k1, .int most tM⟩, ⟨PyData.keyHash w.params "span", .str "span" k2, .int span tS⟩, ⟨PyData.keyHash w.params "times", .str "times" k3, .ref aT⟩] 3
theorem moved_c {w : World} {A A₀ : Around} {env : Env} {outer : List Env} {base h₀ : Heap} {L : Addr} {m : Str → Option Value} {s : Shared} {R : Result → Shared → Prop}
    {loose : List Str} {mean : ExcName → Option Value} {mg mb : Str → Option Value} {rest : List (Addr × Obj)} {S : WatS w} {aW dW : Addr} {mac now : Int} {tm tn tf k1 k2 k3 tM tS : Nat} {most span : Int}
    (B : Below A₀ base outer h₀) (F : Fr h₀ L s.heap m) (X : (Mine.hd.heap_1 w.params).In h₀) (N : News h₀ L s.heap (S.led ++ rest)) (T : Top topProg loose mean mg mb h₀) (hA : A.frames = some (env :: outer)) (hf : env.frame = some L) (hke : env.scope.kind = .function) (hroom : A.depth < 590) (hh : A.handled = none) (hun : A.units < 8000) (hW : (aW, instObj 200 dW) ∈ rest) (hdW : (dW, watDict w k1 k2 k3 most span tM tS S.aT) ∈ rest) (dis : ∀ p ∈ S.led, ∀ q ∈ rest, p.1 ≠ q.1)
    (hmost : 1 ≤ most ∧ most ≤ 3) (hspan : 1 ≤ span ∧ span ≤ 9) (hnow : 0 ≤ now ∧ now ≤ 100) (hks : (wget S.abs mac).length ≤ 4 ∧ ∀ t ∈ wget S.abs mac, 0 ≤ t ∧ t ≤ 100) (hrows : S.rows.length ≤ 2)
    (ret : ∀ (S' : WatS w) h' tk', Fr h₀ L h' m → News h₀ L h' (S'.led ++ rest) → S'.aT = S.aT → S'.abs = wsetS S.abs mac (wPut most.toNat now span (wget S.abs mac)) → (∀ p ∈ S'.led, ∀ q ∈ rest, p.1 ≠ q.1) → R (.ok (.ret (.bool (decide (most.toNat < (wPut most.toNat now span (wget S.abs mac)).length))))) { s with heap := h', toks := tk' }) :
    codeAny (model PR w) A (.call (.ref 192) ⟨[.ref aW, .int 3 tf, .int mac tm, .int now tn], []⟩) R s := by
  have hW' : (aW, instObj 200 dW) ∈ S.led ++ rest := List.mem_append_right _ hW
  have hdW' : (dW, watDict w k1 k2 k3 most span tM tS S.aT) ∈ S.led ++ rest := List.mem_append_right _ hdW
  have hl1 : ∀ r ∈ S.rows, (r.lA, listOf r.vs.toArray r.kn) ∈ S.led ++ rest := fun r h => WatS.m2 h
  have off : ∀ p ∈ rest, p.1 ≠ S.aT := fun q hq => (dis _ (.head _) q hq).symm
  have hL : ∀ p ∈ S.led, p ∈ S.led ++ rest := fun p h => List.mem_append_left _ h
  first | k_dflt ktr_enter | fail "no way in"
  rename (∀ p ∈ S.led ++ rest, _) => lall
  k_steps
  rename (_ ∧ _ ∧ AllLt _ (S.led ++ rest)) => lk1
  refine LCt.Assign_ListComp_T (F₀ := by k_asm) (by rfl) (by with_unfolding_all rfl) (by with_unfolding_all rfl) (by decide) (by rfl) (by decide) (by rfl) (by rfl) (by rfl) ?_
  k_steps
  refine wget_m (by k_asm) (fun p hp => .tail _ (.tail _ (.tail _ (hL p hp)))) ?_
  k_steps
  refine wget_l (t3 := tf) (tm := tm) (mac := mac) (nE := 0) (by show A.units + 3 + 1 < cLine; have : cLine = 9900 := rfl; omega) (by k_asm) (fun p hp => .tail _ (.tail _ (.tail _ (.tail _ (hL p hp))))) (by k_mem) (by k_mem) ?_
  intro l vs kn hl hvs
  rename News _ _ _ _ => NN
  k_steps
  have hvl := hvs.length
  refine LCt.CompSrcT.ledger (by exact hh) (by k_asm) NN hl (by rw [sizeLine_eq]; simp; omega) fun g => ?_
  refine rest_fix (fun i ys => IntsAre ys (wKeep now span ((wget S.abs mac).take i))) (.inr ⟨_, hl, rfl, _, rfl⟩) .nil ?_ ?_
  · intro ys hys DH h tk F' N' o1
    have hys' : IntsAre ys (wKeep now span (wget S.abs mac)) := by
      have : vs.toArray.size = (wget S.abs mac).length := by simpa using hvl
      rw [this, List.take_length] at hys
      exact hys
    dsimp only
    k_steps
    have hkl : (wKeep now span (wget S.abs mac)).length ≤ (wget S.abs mac).length := List.length_filter_le _ _
    have hyl := hys'.length
    refine kmk_add_ints (vs := ys) (ws := [.int now tn]) (ns := wKeep now span (wget S.abs mac)) (ms := [now]) (by k_asm) (by k_asm) (News.isList (n := ys.length) (by k_asm) (by k_mem)) (News.isList (n := 0) (by k_asm) (by k_mem)) hys' (.cons now tn .nil) ?_ (by rw [sizeLine_eq]; simp; omega)
    intro Dk us h' F' N' lDk hus
    dsimp only
    k_steps
    have hcut : (-(-most - 1)).toNat = most.toNat + 1 := by omega
    k_dflt (refine' kmk_slice_ints (vs := us) (ns := wKeep now span (wget S.abs mac) ++ [now]) (ms := wPut most.toNat now span (wget S.abs mac)) ?aF ?aN ?al ?ap ?aq hus ?am rfl ?_ ?as ?a9 ?az)
    case aF => k_asm
    case aN => k_asm
    case al => exact News.isList (n := 0) (by k_asm) (by k_mem)
    case ap => kmk_part
    case aq => kmk_part
    case am =>
      have z := kmk_from_neg hus (x := -most - 1) (by omega)
      rw [hcut] at z
      exact z
    case as => with_unfolding_all rfl
    case a9 => kmk_pure
    case az => exact kmk_sz hus (by rw [sizeLine_eq]; simp; omega)
    intro lk ws h' F' N' l1 hws hwc hwl
    k_steps
    have hwl4 : (wPut most.toNat now span (wget S.abs mac)).length ≤ 5 := by simp at hwl; omega
    refine wset_c (t3 := tf) (tm := tm) (mac := mac) (n := 0) (by show A.units + 3 + 1 < cLine; have : cLine = 9900 := rfl; omega) (by k_asm) (by k_asm) (fun p hp => List.mem_append_right [_, _, _, _, _, _, _, _] (hL p hp)) (by k_mem) (by k_mem) hws (by omega) ?_
    intro h' S' F' eT eabs N' hloc _
    have dis' : ∀ p ∈ S'.led, ∀ q ∈ rest, p.1 ≠ q.1 := fun p hp q hq => by
      have hqS : q ∈ S.led ++ rest := List.mem_append_right _ hq
      rcases hloc p hp with e0 | ⟨q', hq', e0⟩ | e0 | e0
      · rw [e0]; exact dis _ (.head _) q hq
      · rw [← e0]; exact dis q' hq' q hq
      · rw [e0]; exact Nat.ne_of_gt (allLt_in lk1.2.2 _ hqS)
      · rw [e0]; exact Nat.ne_of_gt (l1 q (List.mem_append_right [_, _, _, _, _, _, _] hqS))
    have aTL := ltN (lall _ WatS.mT)
    have aTk := ltN (allLt_in lk1.2.2 _ WatS.mT)
    have N2 := wat_after [_, _, _, _, _] [_, _, _] N' (fun p hp => by
      simp only [List.mem_cons, List.not_mem_nil, or_false] at hp
      rcases hp with rfl | rfl | rfl
      all_goals exact Nat.ne_of_gt (by dsimp only; omega)) off
    clear N'
    rw [List.cons_append, List.cons_append, List.cons_append, List.nil_append] at N2
    have hW2 : (aW, instObj 200 dW) ∈ S'.led ++ rest := List.mem_append_right _ hW
    have hdW2 : (dW, watDict w k1 k2 k3 most span tM tS S.aT) ∈ S'.led ++ rest := List.mem_append_right _ hdW
    obtain ⟨r, hr, hrm, hrk⟩ := wset_row eabs
    dsimp only
    k_steps
    subst hrm
    refine witem_e (t3 := tf) (tm := tm) eT (by show A.units + 3 + 1 < cLine; have : cLine = 9900 := rfl; omega) (by k_asm) (fun p hp => List.mem_append_right [_, _, _] (List.mem_append_left _ hp)) hr (by k_mem) ?_
    have q2 := WatS.m2 (rest := rest) hr
    have hrl : r.ks.length ≤ 5 := by rw [hrk]; exact hwl4
    k_steps
    refine len_c (by k_asm) (by k_mem) r.ok (by omega) ?_
    k_steps
    have hval : decide (most < (r.ks.length : Int)) = decide (most.toNat < (wPut most.toNat now span (wget S.abs r.mac)).length) := by
      rw [hrk, Bool.eq_iff_iff, decide_eq_true_eq, decide_eq_true_eq]
      omega
    rw [hval]
    exact ret S' _ _ (by k_asm) (kst_newsOf (by k_asm) fun p hp => .tail _ (.tail _ (.tail _ hp))) eT eabs dis'
  · intro i ys v I' oI C oC DD m₂ h tk E' hi hv hys hC hx' F' N' o3 hne
    have hik : i < (wget S.abs mac).length := by simp at hi; omega
    obtain ⟨t, hvt⟩ := hvs.get i (wget S.abs mac)[i] (by simp [hik])
    have hv' : vs[i]? = some v := by simpa using hv
    rw [hvt] at hv'
    obtain rfl := Option.some.inj hv'
    have hb := hks.2 _ (List.getElem_mem hik)
    have htk : wKeep now span ((wget S.abs mac).take (i + 1)) = wKeep now span ((wget S.abs mac).take i) ++ if now - (wget S.abs mac)[i] < span then [(wget S.abs mac)[i]] else [] := by
      unfold wKeep
      rw [List.take_add_one, List.getElem?_eq_getElem hik, List.filter_append]
      congr 1
      by_cases hc : now - (wget S.abs mac)[i] < span <;> simp [hc]
    generalize (wget S.abs mac)[i] = tv at *
    k_steps
    · refine PyProof.Rows.LCg.CompEnd.intro (by k_asm) (by k_asm) _ (fun p hp => hp) o3 (.inr ⟨_, hl, rfl, _, rfl⟩) ⟨rfl, ?_⟩
      rw [htk, if_pos (by assumption)]
      exact ints_snoc hys _ _
    · refine PyProof.Rows.LCg.CompEnd.intro (by k_asm) (by k_asm) _ (fun p hp => hp) o3 (.inr ⟨_, hl, rfl, _, rfl⟩) ⟨rfl, ?_⟩
      rw [htk, if_neg (by assumption), List.append_nil]
      exact hys
theorem set_L16 : True := by
  w_top off
  k_with_none
  k_with "way M" => refine' code_defM ?k1 ?k2 ?k3 ?k4 ?k5 ?kA ?kF ?kK ?kD ?k6 ?k7 ?k8 ?k9 ?kB ?_ ?c2 ?c3 ?c4 ?c5; (case kA => assumption); (case kF => assumption); (case kK => assumption); (case kD => assumption); (case k1 => k_asm); (case k2 => k_asm); (case k3 => k_asm); (case k4 => k_asm); (case k5 => k_asm); (case k6 => k_is); (case k7 => k_is); (case k8 => ktr_room); (case k9 => first | exact BindsTo.of_eq rfl | exact binds_K (by k_in) rfl (by k_is) rfl rfl rfl); (case c5 => decide); (case kB => exact locs rfl); (case c2 => exact rfl); (case c3 => exact rfl); (case c4 => exact rfl); k_whole
  k_with "way C" => refine' code_defC ?k1 ?k2 ?k3 ?k4 ?k5 ?kA ?kF ?kK ?k6 ?k7 ?k8 ?k9 ?kB ?kD ?_ ?c2 ?c3 ?c4; (case kA => first | assumption | exact rfl); (case kF => first | assumption | exact rfl); (case kK => assumption); (case k1 => k_asm); (case k2 => k_asm); (case k3 => k_asm); (case k4 => k_asm); (case k5 => k_asm); (case k6 => k_is); (case k7 => k_is); (case k8 => ktr_room); (case k9 => first | exact BindsTo.of_eq rfl | exact binds_K (by k_in) rfl (by k_is) rfl rfl rfl); (case kB => exact rfl); (case kD => decide +kernel); (case c2 => exact rfl); (case c3 => exact rfl); (case c4 => exact rfl); k_whole
  k_with "way D" => refine' code_def ?k1 ?k2 ?k3 ?k4 ?k5 ?kA ?kF ?kK ?k6 ?k7 ?k8 ?k9 ?kB ?_ ?c2 ?c3 ?c4 ?c5; (case kA => first | assumption | exact rfl); (case kF => first | assumption | exact rfl); (case kK => assumption); (case k1 => k_asm); (case k2 => k_asm); (case k3 => k_asm); (case k4 => k_asm); (case k5 => k_asm); (case k6 => k_is); (case k7 => k_is); (case k8 => ktr_room); (case k9 => first | exact BindsTo.of_eq rfl | exact binds_K (by k_in) rfl (by k_is) rfl rfl rfl); (case c5 => decide); (case kB => exact locs rfl); (case c2 => exact rfl); (case c3 => exact rfl); (case c4 => exact rfl); k_whole
  k_with "way CM" => refine' code_defCM ?k1 ?k2 ?k3 ?k4 ?k5 ?kA ?kF ?kK ?kE ?k6 ?k7 ?k8 ?k9 ?kB ?kD ?_ ?c2 ?c3 ?c4; (case kA => assumption); (case kF => assumption); (case kK => assumption); (case kE => assumption); (case k1 => k_asm); (case k2 => k_asm); (case k3 => k_asm); (case k4 => k_asm); (case k5 => k_asm); (case k6 => k_is); (case k7 => k_is); (case k8 => ktr_room); (case k9 => first | exact BindsTo.of_eq rfl | exact binds_K (by k_in) rfl (by k_is) rfl rfl rfl); (case kB => exact rfl); (case kD => decide +kernel); (case c2 => exact rfl); (case c3 => exact rfl); (case c4 => exact rfl); k_whole
  k_with "exec For Name Call cons nil" => (k_here; (with_unfolding_all refine' For_invVF (by k_asm) (by exact rfl) (by exact rfl) ?_; k_whole))
  k_with "unpackItems ref" => (k_here; k_dflt (refine' unpackItemsN_ (by k_asm) (by k_asm) (by kun_tup) (by assumption) (by exact rfl) ?_; k_whole); intro _ _ _; (try k_sweep))
  k_with "subscriptTail Name Name ref int" => ((with_reducible first | show wpAny _ _ (subscriptTail _ _ (Value.ref (LimS.aR _)) _) _ _ _ | show wpAny _ _ (subscriptTail _ _ (Value.ref (BookS.aB _)) _) _ _ _); refine stop_here ?_)
  k_with "compareOp In int ref" => ((with_reducible first | show wpAny _ _ (compareOp _ _ (Value.ref (LimS.aR _))) _ _ _ | show wpAny _ _ (compareOp _ _ (Value.ref (BookS.aB _))) _ _ _ | show wpAny _ _ (compareOp _ _ (Value.ref (LRow.kA _))) _ _ _ | show wpAny _ _ (compareOp _ _ (Value.ref (BRow.kA _))) _ _ _); refine stop_here ?_)
  k_with "compareOp NotIn int ref" => ((with_reducible first | show wpAny _ _ (compareOp _ _ (Value.ref (LimS.aR _))) _ _ _ | show wpAny _ _ (compareOp _ _ (Value.ref (BookS.aB _))) _ _ _ | show wpAny _ _ (compareOp _ _ (Value.ref (LRow.kA _))) _ _ _ | show wpAny _ _ (compareOp _ _ (Value.ref (BRow.kA _))) _ _ _); refine stop_here ?_)
  k_with "getMethod ref" => ((with_reducible first | show wpAny _ _ (getMethod (Value.ref (LimS.aR _)) _ _) _ _ _ | show wpAny _ _ (getMethod (Value.ref (BookS.aB _)) _ _) _ _ _); refine stop_here ?_)
  k_with "call builtin:len" => ((with_reducible first | show wpAny _ _ (call _ [Value.ref (LRow.kA _)]) _ _ _ | show wpAny _ _ (call _ [Value.ref (BRow.kA _)]) _ _ _); refine stop_here ?_)
  k_with "call ref" => ((with_reducible first | show wpAny _ _ (call (Value.ref 124) [Value.ref (LimS.aL _), _]) _ _ _); refine stop_here ?_)
  k_with "subscriptTail Name Slice ref ref" => refine stop_here ?_
  k_with "subscriptTail Attribute Name Name ref int" => ((with_reducible show wpAny _ _ (subscriptTail _ _ (Value.ref (LimS.aR _)) _) _ _ _); k_dflt (refine kba_turn (value' := PySem.Expr.Name (PySem.Str.ofString "_") ⟨0, 0, 0, 0⟩) (fun _ => rfl) ?_))
  k_with "subscriptTail Attribute Name ref int" => ((with_reducible show wpAny _ _ (subscriptTail _ _ (Value.ref (LimS.aR _)) _) _ _ _); k_dflt (refine kba_turn (value' := PySem.Expr.Name (PySem.Str.ofString "_") ⟨0, 0, 0, 0⟩) (fun _ => rfl) ?_))
  k_with "subscriptTail Subscript Subscript" => ((with_reducible show wpAny _ _ (subscriptTail _ _ (Value.ref (BRow.kA _)) _) _ _ _); k_dflt (refine kba_turn (value' := PySem.Expr.Name (PySem.Str.ofString "_") ⟨0, 0, 0, 0⟩) (fun _ => rfl) ?_))
  k_with "exec Raise" => refine stop_here ?_
  k_with "subscriptTail Subscript Name Name Constant ref int" => ((with_reducible show wpAny _ _ (subscriptTail _ _ (Value.ref (BRow.bA _)) _) _ _ _); k_dflt (refine item_at (vs := BRow.items _) (News.isList (by k_asm) (by k_mem)) (by decide) (by decide) rfl ?_))
  k_with "subscriptTail Name Constant ref int" => ((with_reducible show wpAny _ _ (subscriptTail _ _ (Value.ref (BRow.bA _)) _) _ _ _); k_dflt (refine item_at (vs := BRow.items _) (News.isList (by k_asm) (by k_mem)) (by decide) (by decide) rfl ?_))
  k_with "exec Assign cons ListComp" => refine stop_here ?_
  k_with "getMethod ref" => ((with_reducible show wpAny _ _ (getMethod (Value.ref (WatS.aT _)) _ _) _ _ _); refine stop_here ?_)
  k_with "setItem ref ref" => ((with_reducible show wpAny _ _ (setItem (Value.ref (WatS.aT _)) _ _) _ _ _); refine stop_here ?_)
  k_with "subscriptTail Name Name ref ref" => ((with_reducible show wpAny _ _ (subscriptTail _ _ (Value.ref (WatS.aT _)) _) _ _ _); refine stop_here ?_)
  k_with "call builtin:sorted" => refine stop_here ?_
  k_with "call builtin:dict.pop" => refine stop_here ?_
  trivial
theorem expire_c {w : World} {A A₀ : Around} {env : Env} {outer : List Env} {base h₀ : Heap} {L : Addr} {m : Str → Option Value} {s : Shared} {R : Result → Shared → Prop}
    {loose : List Str} {mean : ExcName → Option Value} {mg mb : Str → Option Value} {rest : List (Addr × Obj)} {S : WatS w} {aW dW : Addr} {now : Int} {tn k1 k2 k3 tM tS : Nat} {most span : Int}
    (B : Below A₀ base outer h₀) (F : Fr h₀ L s.heap m) (X : (Mine.hd.heap_1 w.params).In h₀) (N : News h₀ L s.heap (S.led ++ rest)) (T : Top topProg loose mean mg mb h₀) (hA : A.frames = some (env :: outer)) (hf : env.frame = some L) (hke : env.scope.kind = .function) (hroom : A.depth < 590) (hh : A.handled = none) (hun : A.units < 8000) (hW : (aW, instObj 200 dW) ∈ rest) (hdW : (dW, watDict w k1 k2 k3 most span tM tS S.aT) ∈ rest) (dis : ∀ p ∈ S.led, ∀ q ∈ rest, p.1 ≠ q.1)
    (hspan : 1 ≤ span ∧ span ≤ 9) (hnow : 0 ≤ now ∧ now ≤ 100) (hks : ∀ mac, (wget S.abs mac).length ≤ 4 ∧ ∀ t ∈ wget S.abs mac, 0 ≤ t ∧ t ≤ 100) (hrows : S.rows.length ≤ 2)
    (ret : ∀ (S' : WatS w) h' tk', Fr h₀ L h' m → News h₀ L h' (S'.led ++ rest) → S'.aT = S.aT → S'.rows.length ≤ 2 → (∀ x ∈ S'.abs, ∃ y ∈ S.abs, y.1 = x.1) → (∀ mac, wget S'.abs mac = wKeep now span (wget S.abs mac)) → (∀ p ∈ S'.led, ∀ q ∈ rest, p.1 ≠ q.1) → R (.ok (.ret .none)) { s with heap := h', toks := tk' }) :
    codeAny (model PR w) A (.call (.ref 197) ⟨[.ref aW, .int now tn], []⟩) R s := by
  have hW' : (aW, instObj 200 dW) ∈ S.led ++ rest := List.mem_append_right _ hW
  have hdW' : (dW, watDict w k1 k2 k3 most span tM tS S.aT) ∈ S.led ++ rest := List.mem_append_right _ hdW
  have off : ∀ p ∈ rest, p.1 ≠ S.aT := fun q hq => (dis _ (.head _) q hq).symm
  have hL : ∀ p ∈ S.led, p ∈ S.led ++ rest := fun p h => List.mem_append_left _ h
  first | k_dflt ktr_enter | fail "no way in"
  rename (∀ p ∈ S.led ++ rest, _) => lall
  k_steps
  rename News _ _ _ _ => N0
  have hsz : S.es.size = S.rows.length := by rw [← Array.length_toList, S.he]; simp
  refine kdu_sorted (raw_src (es := S.es) (ep := S.ep) S.lo) (by exact hh) (by k_asm) N0 (WatS.raw (S := S) (rest := rest) (kst_newsOf N0 fun p hp => .tail _ (.tail _ hp))) (by rw [hsz, sizeLine_eq]; omega) ?_
  intro D h' tk vs F' N' lD hlen hv
  have hvs : vs = tAs S.rows := by
    apply List.ext_getElem?
    intro j
    by_cases hj : j < vs.length
    · obtain ⟨en, he1, he2⟩ := hv j vs[j] (by simp [hj])
      have hj2 : j < S.rows.length := by omega
      have he3 : S.es[j]? = some (entryOfKey (tkd w) (WRow.x S.rows[j])) := by
        rw [entry_at S.he j, List.getElem?_map, List.getElem?_eq_getElem hj2]; rfl
      rw [he3] at he1
      rw [List.getElem?_eq_getElem hj, he2, ← Option.some.inj he1]
      unfold tAs
      rw [List.getElem?_map, List.getElem?_eq_getElem hj2]
      rfl
    · rw [List.getElem?_eq_none (by omega), List.getElem?_eq_none (by unfold tAs; rw [List.length_map]; omega)]
  subst hvs
  refine wsort_c (S := S) (by k_asm) F' hrows (by show A.units + 3 + 1 < 8900; omega) N' (fun p hp => .tail _ (.tail _ (hL p hp))) lD ?_
  intro rs n' h' hperm F' N'
  clear hv hlen
  have aTL := ltN (lall _ WatS.mT)
  have aTD := ltN (lD _ (.tail _ (.tail _ WatS.mT)))
  have mtup : ∀ r ∈ S.rows, (r.tA, tupObj [.int 3 r.t3, .int r.mac r.tm]) ∈ S.rows.map fun r => ((r.tA, tupObj [.int 3 r.t3, .int r.mac r.tm]) : Addr × Obj) := fun r hr => List.mem_map_of_mem (f := fun r : WRow => ((r.tA, tupObj [.int 3 r.t3, .int r.mac r.tm]) : Addr × Obj)) hr
  have otup : ∀ p ∈ (S.rows.map fun r => ((r.tA, tupObj [.int 3 r.t3, .int r.mac r.tm]) : Addr × Obj)), p.1 ≠ S.aT := fun p hp => by
    obtain ⟨r, hr, rfl⟩ := List.mem_map.mp hp
    exact off_dict (N' _ (.tail _ (.tail _ (.tail _ WatS.mT)))).1 S.hc (N' _ (.tail _ (.tail _ (.tail _ (WatS.m1 hr))))).1 (by show (Value.type "tuple") ≠ .type "dict"; simp)
  generalize htups : (S.rows.map fun r => ((r.tA, tupObj [.int 3 r.t3, .int r.mac r.tm]) : Addr × Obj)) = tups at *
  have NX : News _ _ _ ((D, listOf (tAs rs).toArray n') :: _ :: _ :: (tups ++ (S.led ++ rest))) := kst_newsOf N' fun p hp => by
    rcases List.mem_cons.mp hp with rfl | hp
    · exact .head _
    · rcases List.mem_cons.mp hp with rfl | hp
      · exact .tail _ (.head _)
      · rcases List.mem_cons.mp hp with rfl | hp
        · exact .tail _ (.tail _ (.head _))
        · rcases List.mem_append.mp hp with hp | hp
          · rw [← htups] at hp
            obtain ⟨r, hr, rfl⟩ := List.mem_map.mp hp
            exact .tail _ (.tail _ (.tail _ (WatS.m1 hr)))
          · exact .tail _ (.tail _ (.tail _ hp))
  clear N'
  refine iter_vals (l := D) (vs := tAs rs) (nn := n') (fun i _ nx => ∃ Si : WatS w, nx = (D, listOf (tAs rs).toArray n') :: _ :: _ :: (tups ++ (Si.led ++ rest)) ∧ (∀ p ∈ Si.led, ∀ q ∈ rest, p.1 ≠ q.1) ∧ Si.aT = S.aT ∧ Si.rows.length ≤ 2 ∧ (∀ x ∈ Si.abs, ∃ y ∈ S.abs, y.1 = x.1) ∧ (∀ r ∈ rs.take i, wget Si.abs r.mac = wKeep now span r.ks) ∧ (∀ r ∈ rs.drop i, wget Si.abs r.mac = r.ks ∧ ∃ q ∈ Si.rows, q.mac = r.mac))
    (by rfl) (by exact hh) (List.Mem.head _) F' NX ⟨S, rfl, dis, rfl, hrows, (fun x hx => ⟨x, hx, rfl⟩), (fun r hr => nomatch hr), fun r hr => ?_⟩ (fun i m nx hJ => by obtain ⟨Si, rfl, _⟩ := hJ; exact List.Mem.head _) ?_ ?_
  · have hrS : r ∈ S.rows := hperm.mem_iff.mp (by simpa using hr)
    exact ⟨wget_some hrS, r, hrS, rfl⟩
  · rintro i v m₁ nx h' tk' I' oI hiv ho ⟨Si, rfl, disi, eT, hl2, hsub, hdone, hleft⟩ F' N'
    obtain ⟨r, hri, rfl⟩ : ∃ r, rs[i]? = some r ∧ v = .ref r.tA := by
      unfold tAs at hiv
      rw [List.getElem?_map] at hiv
      obtain ⟨r, h1, h2⟩ := Option.map_eq_some_iff.mp hiv
      exact ⟨r, h1, h2.symm⟩
    have hrS : r ∈ S.rows := hperm.mem_iff.mp (List.mem_of_getElem? hri)
    have hdrop : rs.drop i = r :: rs.drop (i + 1) := by
      obtain ⟨hlt, he⟩ := List.getElem?_eq_some_iff.mp hri
      rw [List.drop_eq_getElem_cons hlt, he]
    obtain ⟨hgr, q, hq, hqm⟩ := hleft r (by rw [hdrop]; exact .head _)
    have hqk : q.ks = r.ks := by rw [← hgr, ← hqm, wget_some hq]
    have hkb := hks r.mac
    rw [wget_some hrS] at hkb
    have hkey : (r.tA, tupObj [.int 3 r.t3, .int q.mac r.tm]) ∈ tups := by
      rw [hqm, ← htups]
      exact List.mem_map_of_mem (f := fun r : WRow => ((r.tA, tupObj [.int 3 r.t3, .int r.mac r.tm]) : Addr × Obj)) hrS
    have hW3 : (aW, instObj 200 dW) ∈ tups ++ (Si.led ++ rest) := List.mem_append_right _ (List.mem_append_right _ hW)
    have hdW3 : (dW, watDict w k1 k2 k3 most span tM tS S.aT) ∈ tups ++ (Si.led ++ rest) := List.mem_append_right _ (List.mem_append_right _ hdW)
    have hkey3 : (r.tA, tupObj [.int 3 r.t3, .int q.mac r.tm]) ∈ tups ++ (Si.led ++ rest) := List.mem_append_left _ hkey
    have hL3 : ∀ p ∈ Si.led, p ∈ tups ++ (Si.led ++ rest) := fun p hp => List.mem_append_right _ (List.mem_append_left _ hp)
    have hql : (q.lA, listOf q.vs.toArray q.kn) ∈ tups ++ (Si.led ++ rest) := List.mem_append_right _ (WatS.m2 hq)
    have haI : S.aT ≠ I' := fun e0 => ho _ (.tail _ (.tail _ (.tail _ (hL3 _ (.head _))))) (by rw [← e0, ← eT])
    have hnr : (rs.map (·.mac)).Nodup := ((hperm.map _).nodup_iff).mpr S.nd
    have hsplit : rs = rs.take i ++ r :: rs.drop (i + 1) := by rw [← hdrop, List.take_append_drop]
    have htake : rs.take (i + 1) = rs.take i ++ [r] := by rw [List.take_add_one, hri]; rfl
    have hlater : ∀ r' ∈ rs.drop (i + 1), r'.mac ≠ r.mac := fun r' hr' e0 => by
      rw [hsplit, List.map_append, List.map_cons, List.nodup_append, List.nodup_cons] at hnr
      exact hnr.2.1.1 (by rw [← e0]; exact List.mem_map_of_mem (f := fun r : WRow => r.mac) hr')
    have hearl : ∀ r' ∈ rs.take i, r'.mac ≠ r.mac := fun r' hr' e0 => by
      rw [hsplit, List.map_append, List.map_cons, List.nodup_append, List.nodup_cons] at hnr
      exact hnr.2.2 _ (List.mem_map_of_mem (f := fun r : WRow => r.mac) hr') _ (.head _) e0
    have hnd : ∀ p ∈ [(D, listOf (tAs rs).toArray n')], p.1 ≠ S.aT := fun p hp => by rw [List.mem_singleton.mp hp]; exact Nat.ne_of_gt aTD
    have hvl := q.ok.length
    rw [hqk] at hvl
    k_steps
    refine LCt.Assign_ListComp_T (F₀ := by k_asm) (by rfl) (by with_unfolding_all rfl) (by with_unfolding_all rfl) (by decide) (by rfl) (by decide) (by rfl) (by rfl) (by rfl) ?_
    k_steps
    refine witem_e (t3 := r.t3) (tm := r.tm) eT (by show A.units + 3 + 1 < cLine; have : cLine = 9900 := rfl; omega) (by k_asm) (fun p hp => .tail _ (.tail _ (.tail _ (.tail _ (hL3 p hp))))) hq (by k_mem) ?_
    k_steps
    refine LCt.CompSrcT.ledger (by exact hh) (by k_asm) (by k_asm) (.tail _ (.tail _ (.tail _ (.tail _ hql)))) (by rw [sizeLine_eq]; simp; omega) fun g => ?_
    refine rest_fix (fun j ys => IntsAre ys (wKeep now span (r.ks.take j))) (.inr ⟨_, .tail _ (.tail _ (.tail _ (.tail _ hql))), rfl, _, rfl⟩) .nil ?_ ?_
    · intro ys hys DH h tk F' N' o1
      have hys' : IntsAre ys (wKeep now span r.ks) := by
        have : q.vs.toArray.size = r.ks.length := by simpa using hvl
        rw [this, List.take_length] at hys
        exact hys
      dsimp only
      k_steps
      · have hnil : wKeep now span r.ks = [] := of_decide_eq_true (by assumption)
        refine wpop_me eT (by k_asm) (fun p hp => .tail _ (.tail _ (.tail _ (.tail _ (.tail _ (.tail _ (hL3 p hp))))))) ?_
        k_steps
        refine wpop_e (t3 := r.t3) (tm := r.tm) eT (by show A.units + 3 + 1 < cLine; have : cLine = 9900 := rfl; omega) (by k_asm) (by k_asm) (fun p hp => List.mem_append_right [_, _, _, _, _, _] (hL3 p hp)) hq (by k_mem) (by omega) ?_
        intro h' S2 F' e2T eabs N' hloc hlen2
        have dis2 : ∀ p ∈ S2.led, ∀ q ∈ rest, p.1 ≠ q.1 := fun p hp q hq => by
          rcases hloc p hp with e0 | h0
          · rw [e0]; exact disi _ (.head _) q hq
          · exact disi p h0 q hq
        have N2 := wat_after [_, _] ([_, _, _, _] ++ tups) N' (fun p hp => by
          rw [eT]
          rcases List.mem_append.mp hp with hp | hp
          · simp only [List.mem_cons, List.not_mem_nil, or_false] at hp
            rcases hp with rfl | rfl | rfl | rfl
            · exact haI.symm
            all_goals exact Nat.ne_of_gt (by dsimp only; omega)
          · exact otup p hp) (by rw [eT]; exact off)
        clear N'
        rw [List.append_assoc, List.cons_append, List.cons_append, List.cons_append, List.cons_append, List.nil_append] at N2
        k_steps
        refine ⟨_, _, _, _, rfl, by k_asm, N2, fun p hp => ?_, S2, rfl, dis2, e2T.trans eT, by omega, fun x hx => ?_, fun r' hr' => ?_, fun r' hr' => ?_⟩
        · simp only [List.mem_cons, List.mem_append] at hp
          rcases hp with hp | hp | hp | hp | hp | hp
          · rw [hp]; exact ho _ (.head _)
          · rw [hp]; exact ho _ (.tail _ (.head _))
          · rw [hp]; exact ho _ (.tail _ (.tail _ (.head _)))
          · exact ho _ (.tail _ (.tail _ (.tail _ (List.mem_append_left _ hp))))
          · rcases hloc p hp with e0 | h0
            · rw [e0, eT]; exact haI
            · exact ho _ (.tail _ (.tail _ (.tail _ (hL3 _ h0))))
          · exact ho _ (.tail _ (.tail _ (.tail _ (List.mem_append_right _ (List.mem_append_right _ hp)))))
        · rw [eabs] at hx
          exact hsub x (List.mem_filter.mp hx).1
        · rw [eabs, wget_filter, hqm]
          rw [htake] at hr'
          rcases List.mem_append.mp hr' with hr' | hr'
          · rw [if_neg (hearl r' hr')]; exact hdone r' hr'
          · rw [List.mem_singleton.mp hr', if_pos rfl, hnil]
        · have hr2 := hlater r' hr'
          obtain ⟨g1, q', hq', hqm'⟩ := hleft r' (by rw [hdrop]; exact .tail _ hr')
          refine ⟨by rw [eabs, wget_filter, hqm, if_neg hr2]; exact g1, ?_⟩
          have hx : (q'.mac, q'.ks) ∈ S2.abs := by
            rw [eabs]
            exact List.mem_filter.mpr ⟨List.mem_map_of_mem (f := fun r : WRow => (r.mac, r.ks)) hq', by rw [hqm, hqm']; simpa using hr2⟩
          obtain ⟨q2, hq2, e0⟩ := List.mem_map.mp hx
          exact ⟨q2, hq2, ((Prod.mk.inj e0).1).trans hqm'⟩
      · refine wset_e (t3 := r.t3) (tm := r.tm) (mac := q.mac) (n := ys.length) eT (by show A.units + 3 + 1 < cLine; have : cLine = 9900 := rfl; omega) (by k_asm) (by k_asm) (fun p hp => List.mem_append_right [_, _, _, _, _, _] (hL3 p hp)) (by k_mem) (by k_mem) hys' (by omega) ?_
        intro h' S2 F' e2T eabs N' hloc _
        have dis2 : ∀ p ∈ S2.led, ∀ q ∈ rest, p.1 ≠ q.1 := fun p hp q hq => by
          rcases hloc p hp with e0 | ⟨q', hq', e0⟩ | e0 | e0
          · rw [e0]; exact disi _ (.head _) q hq
          · rw [← e0]; exact disi q' hq' q hq
          · rw [e0]
            exact dis _ (List.mem_cons_of_mem _ (List.mem_flatMap.mpr ⟨r, hrS, .head _⟩)) q hq
          · rw [e0]; exact (off1_mem o1 q (List.mem_append_right [_, _, _, _] (List.mem_append_right _ (List.mem_append_right _ hq)))).symm
        have N2 := wat_after [_, _] ([_, _, _, _] ++ tups) N' (fun p hp => by
          rw [eT]
          rcases List.mem_append.mp hp with hp | hp
          · simp only [List.mem_cons, List.not_mem_nil, or_false] at hp
            rcases hp with rfl | rfl | rfl | rfl
            · exact haI.symm
            all_goals exact Nat.ne_of_gt (by dsimp only; omega)
          · exact otup p hp) (by rw [eT]; exact off)
        clear N'
        rw [List.append_assoc, List.cons_append, List.cons_append, List.cons_append, List.cons_append, List.nil_append] at N2
        have hany : Si.abs.any (fun x => decide (x.1 = q.mac)) = true := List.any_eq_true.mpr ⟨_, List.mem_map_of_mem (f := fun r : WRow => (r.mac, r.ks)) hq, by simp⟩
        have hlen2 : S2.rows.length ≤ 2 := by
          have z := congrArg List.length eabs
          unfold wsetS WatS.abs at z
          unfold WatS.abs at hany
          rw [if_pos hany] at z
          simp only [List.length_map] at z
          omega
        k_steps
        refine ⟨_, _, _, _, rfl, by k_asm, N2, fun p hp => ?_, S2, rfl, dis2, e2T.trans eT, hlen2, fun x hx => ?_, fun r' hr' => ?_, fun r' hr' => ?_⟩
        · simp only [List.mem_cons, List.mem_append] at hp
          rcases hp with hp | hp | hp | hp | hp | hp
          · rw [hp]; exact ho _ (.head _)
          · rw [hp]; exact ho _ (.tail _ (.head _))
          · rw [hp]; exact ho _ (.tail _ (.tail _ (.head _)))
          · exact ho _ (.tail _ (.tail _ (.tail _ (List.mem_append_left _ hp))))
          · rcases hloc p hp with e0 | ⟨q', hq', e0⟩ | e0 | e0
            · rw [e0, eT]; exact haI
            · rw [← e0]; exact ho _ (.tail _ (.tail _ (.tail _ (hL3 _ hq'))))
            · rw [e0]; exact ho _ (.tail _ (.tail _ (.tail _ hkey3)))
            · rw [e0]; exact (off1_mem o1 _ (.head _)).symm
          · exact ho _ (.tail _ (.tail _ (.tail _ (List.mem_append_right _ (List.mem_append_right _ hp)))))
        · rw [eabs] at hx
          unfold wsetS at hx
          rw [if_pos hany] at hx
          obtain ⟨y, hy, rfl⟩ := List.mem_map.mp hx
          by_cases e0 : y.1 = q.mac
          · rw [if_pos e0]
            obtain ⟨z, hz, e1⟩ := hsub y hy
            exact ⟨z, hz, e1.trans e0⟩
          · rw [if_neg e0]; exact hsub y hy
        · rw [eabs, wget_set, hqm]
          rw [htake] at hr'
          rcases List.mem_append.mp hr' with hr' | hr'
          · rw [if_neg (hearl r' hr')]; exact hdone r' hr'
          · rw [List.mem_singleton.mp hr', if_pos rfl]
        · have hr2 := hlater r' hr'
          obtain ⟨g1, q', hq', hqm'⟩ := hleft r' (by rw [hdrop]; exact .tail _ hr')
          refine ⟨by rw [eabs, wget_set, hqm, if_neg hr2]; exact g1, ?_⟩
          have hx : (q'.mac, q'.ks) ∈ S2.abs := by
            rw [eabs]
            unfold wsetS
            rw [if_pos hany]
            refine List.mem_map.mpr ⟨_, List.mem_map_of_mem (f := fun r : WRow => (r.mac, r.ks)) hq', ?_⟩
            rw [if_neg (by rw [hqm, hqm']; exact hr2)]
          obtain ⟨q2, hq2, e0⟩ := List.mem_map.mp hx
          exact ⟨q2, hq2, ((Prod.mk.inj e0).1).trans hqm'⟩
    · intro j ys v I2 oI2 C oC DD m₂ h tk E' hj hv hys hC hx' F' N' o3 hne
      have hik : j < r.ks.length := by simp at hj; omega
      have hok := q.ok
      rw [hqk] at hok
      obtain ⟨t, hvt⟩ := hok.get j r.ks[j] (by simp [hik])
      have hv' : q.vs[j]? = some v := by simpa using hv
      rw [hvt] at hv'
      obtain rfl := Option.some.inj hv'
      have hb := hkb.2 _ (List.getElem_mem hik)
      have htk : wKeep now span (r.ks.take (j + 1)) = wKeep now span (r.ks.take j) ++ if now - r.ks[j] < span then [r.ks[j]] else [] := by
        unfold wKeep
        rw [List.take_add_one, List.getElem?_eq_getElem hik, List.filter_append]
        congr 1
        by_cases hc : now - r.ks[j] < span <;> simp [hc]
      generalize r.ks[j] = tv at *
      k_steps
      · refine PyProof.Rows.LCg.CompEnd.intro (by k_asm) (by k_asm) _ (fun p hp => hp) o3 (.inr ⟨_, .tail _ (.tail _ (.tail _ (.tail _ hql))), rfl, _, rfl⟩) ⟨rfl, ?_⟩
        rw [htk, if_pos (by assumption)]
        exact ints_snoc hys _ _
      · refine PyProof.Rows.LCg.CompEnd.intro (by k_asm) (by k_asm) _ (fun p hp => hp) o3 (.inr ⟨_, .tail _ (.tail _ (.tail _ (.tail _ hql))), rfl, _, rfl⟩) ⟨rfl, ?_⟩
        rw [htk, if_neg (by assumption), List.append_nil]
        exact hys
  · rintro m₁ nx h' tk' ⟨Si, rfl, disi, eT, hl2, hsub, hdone, hleft⟩ F' N'
    k_steps
    refine ret Si _ _ (by k_asm) (kst_newsOf (by k_asm) fun p hp => .tail _ (.tail _ (.tail _ (List.mem_append_right _ hp)))) eT hl2 hsub (fun mac => ?_) disi
    rcases S.val mac with hn | ⟨r, hr, rfl⟩
    · rw [wget_none hn]
      have : ∀ x ∈ Si.abs, x.1 ≠ mac := fun x hx e0 => by
        obtain ⟨y, hy, e1⟩ := hsub x hx
        obtain ⟨r, hr, rfl⟩ := List.mem_map.mp hy
        exact hn r hr (e1.trans e0)
      unfold wget
      rw [List.find?_eq_none.mpr (fun x hx => by simpa using this x hx)]
      rfl
    · rw [wget_some hr]
      have hlen : (tAs rs).length = rs.length := by unfold tAs; simp
      exact hdone r (by rw [hlen, List.take_length]; exact hperm.mem_iff.mpr hr)
theorem set_L17a : True := by
  w_top off
  k_with_none
  k_with "way M" => refine' code_defM ?k1 ?k2 ?k3 ?k4 ?k5 ?kA ?kF ?kK ?kD ?k6 ?k7 ?k8 ?k9 ?kB ?_ ?c2 ?c3 ?c4 ?c5; (case kA => assumption); (case kF => assumption); (case kK => assumption); (case kD => assumption); (case k1 => k_asm); (case k2 => k_asm); (case k3 => k_asm); (case k4 => k_asm); (case k5 => k_asm); (case k6 => k_is); (case k7 => k_is); (case k8 => ktr_room); (case k9 => first | exact BindsTo.of_eq rfl | exact binds_K (by k_in) rfl (by k_is) rfl rfl rfl); (case c5 => decide); (case kB => exact locs rfl); (case c2 => exact rfl); (case c3 => exact rfl); (case c4 => exact rfl); k_whole
  k_with "way C" => refine' code_defC ?k1 ?k2 ?k3 ?k4 ?k5 ?kA ?kF ?kK ?k6 ?k7 ?k8 ?k9 ?kB ?kD ?_ ?c2 ?c3 ?c4; (case kA => first | assumption | exact rfl); (case kF => first | assumption | exact rfl); (case kK => assumption); (case k1 => k_asm); (case k2 => k_asm); (case k3 => k_asm); (case k4 => k_asm); (case k5 => k_asm); (case k6 => k_is); (case k7 => k_is); (case k8 => ktr_room); (case k9 => first | exact BindsTo.of_eq rfl | exact binds_K (by k_in) rfl (by k_is) rfl rfl rfl); (case kB => exact rfl); (case kD => decide +kernel); (case c2 => exact rfl); (case c3 => exact rfl); (case c4 => exact rfl); k_whole
  k_with "way D" => refine' code_def ?k1 ?k2 ?k3 ?k4 ?k5 ?kA ?kF ?kK ?k6 ?k7 ?k8 ?k9 ?kB ?_ ?c2 ?c3 ?c4 ?c5; (case kA => first | assumption | exact rfl); (case kF => first | assumption | exact rfl); (case kK => assumption); (case k1 => k_asm); (case k2 => k_asm); (case k3 => k_asm); (case k4 => k_asm); (case k5 => k_asm); (case k6 => k_is); (case k7 => k_is); (case k8 => ktr_room); (case k9 => first | exact BindsTo.of_eq rfl | exact binds_K (by k_in) rfl (by k_is) rfl rfl rfl); (case c5 => decide); (case kB => exact locs rfl); (case c2 => exact rfl); (case c3 => exact rfl); (case c4 => exact rfl); k_whole
  k_with "way CM" => refine' code_defCM ?k1 ?k2 ?k3 ?k4 ?k5 ?kA ?kF ?kK ?kE ?k6 ?k7 ?k8 ?k9 ?kB ?kD ?_ ?c2 ?c3 ?c4; (case kA => assumption); (case kF => assumption); (case kK => assumption); (case kE => assumption); (case k1 => k_asm); (case k2 => k_asm); (case k3 => k_asm); (case k4 => k_asm); (case k5 => k_asm); (case k6 => k_is); (case k7 => k_is); (case k8 => ktr_room); (case k9 => first | exact BindsTo.of_eq rfl | exact binds_K (by k_in) rfl (by k_is) rfl rfl rfl); (case kB => exact rfl); (case kD => decide +kernel); (case c2 => exact rfl); (case c3 => exact rfl); (case c4 => exact rfl); k_whole
  k_with "exec For Name Call cons nil" => (k_here; (with_unfolding_all refine' For_invVF (by k_asm) (by exact rfl) (by exact rfl) ?_; k_whole))
  k_with "unpackItems ref" => (k_here; k_dflt (refine' unpackItemsN_ (by k_asm) (by k_asm) (by kun_tup) (by assumption) (by exact rfl) ?_; k_whole); intro _ _ _; (try k_sweep))
  k_with "subscriptTail Name Name ref int" => ((with_reducible first | show wpAny _ _ (subscriptTail _ _ (Value.ref (LimS.aR _)) _) _ _ _ | show wpAny _ _ (subscriptTail _ _ (Value.ref (BookS.aB _)) _) _ _ _); refine stop_here ?_)
  k_with "compareOp In int ref" => ((with_reducible first | show wpAny _ _ (compareOp _ _ (Value.ref (LimS.aR _))) _ _ _ | show wpAny _ _ (compareOp _ _ (Value.ref (BookS.aB _))) _ _ _ | show wpAny _ _ (compareOp _ _ (Value.ref (LRow.kA _))) _ _ _ | show wpAny _ _ (compareOp _ _ (Value.ref (BRow.kA _))) _ _ _); refine stop_here ?_)
  k_with "compareOp NotIn int ref" => ((with_reducible first | show wpAny _ _ (compareOp _ _ (Value.ref (LimS.aR _))) _ _ _ | show wpAny _ _ (compareOp _ _ (Value.ref (BookS.aB _))) _ _ _ | show wpAny _ _ (compareOp _ _ (Value.ref (LRow.kA _))) _ _ _ | show wpAny _ _ (compareOp _ _ (Value.ref (BRow.kA _))) _ _ _); refine stop_here ?_)
  k_with "getMethod ref" => ((with_reducible first | show wpAny _ _ (getMethod (Value.ref (LimS.aR _)) _ _) _ _ _ | show wpAny _ _ (getMethod (Value.ref (BookS.aB _)) _ _) _ _ _); refine stop_here ?_)
  k_with "call builtin:len" => ((with_reducible first | show wpAny _ _ (call _ [Value.ref (LRow.kA _)]) _ _ _ | show wpAny _ _ (call _ [Value.ref (BRow.kA _)]) _ _ _); refine stop_here ?_)
  k_with "call ref" => ((with_reducible first | show wpAny _ _ (call (Value.ref 124) [Value.ref (LimS.aL _), _]) _ _ _); refine stop_here ?_)
  k_with "subscriptTail Name Slice ref ref" => refine stop_here ?_
  k_with "subscriptTail Attribute Name Name ref int" => ((with_reducible show wpAny _ _ (subscriptTail _ _ (Value.ref (LimS.aR _)) _) _ _ _); k_dflt (refine kba_turn (value' := PySem.Expr.Name (PySem.Str.ofString "_") ⟨0, 0, 0, 0⟩) (fun _ => rfl) ?_))
  k_with "subscriptTail Attribute Name ref int" => ((with_reducible show wpAny _ _ (subscriptTail _ _ (Value.ref (LimS.aR _)) _) _ _ _); k_dflt (refine kba_turn (value' := PySem.Expr.Name (PySem.Str.ofString "_") ⟨0, 0, 0, 0⟩) (fun _ => rfl) ?_))
  k_with "subscriptTail Subscript Subscript" => ((with_reducible show wpAny _ _ (subscriptTail _ _ (Value.ref (BRow.kA _)) _) _ _ _); k_dflt (refine kba_turn (value' := PySem.Expr.Name (PySem.Str.ofString "_") ⟨0, 0, 0, 0⟩) (fun _ => rfl) ?_))
  k_with "exec Raise" => refine stop_here ?_
  k_with "subscriptTail Subscript Name Name Constant ref int" => ((with_reducible show wpAny _ _ (subscriptTail _ _ (Value.ref (BRow.bA _)) _) _ _ _); k_dflt (refine item_at (vs := BRow.items _) (News.isList (by k_asm) (by k_mem)) (by decide) (by decide) rfl ?_))
  k_with "subscriptTail Name Constant ref int" => ((with_reducible show wpAny _ _ (subscriptTail _ _ (Value.ref (BRow.bA _)) _) _ _ _); k_dflt (refine item_at (vs := BRow.items _) (News.isList (by k_asm) (by k_mem)) (by decide) (by decide) rfl ?_))
  trivial
theorem news_rot {h₀ h : Heap} {L : Addr} {a b c : Addr × Obj} {l : List (Addr × Obj)} (N : News h₀ L h (a :: b :: c :: l)) : News h₀ L h (b :: c :: ([a] ++ l)) := kst_newsOf N fun p hp => by
  simp only [List.mem_cons, List.mem_append, List.not_mem_nil, or_false] at hp ⊢
  rcases hp with h | h | h | h
  · exact .inr (.inl h)
  · exact .inr (.inr (.inl h))
  · exact .inl h
  · exact .inr (.inr (.inr h))
theorem WatS.new {w : World} {d : Addr} {o : Obj} (lo : (d == sysModules) = false) (hd : o.IsDictOf (intKind PR w) []) : ∃ W : WatS w, W.aT = d ∧ W.led = [(d, o)] ∧ W.rows = [] := by
  obtain ⟨es, ep, hc, hdat, _, hp, _⟩ := hd
  have he : es.toList = [] := List.length_eq_zero_iff.mp hp.length
  exact ⟨⟨d, o, [], es, ep, hc, hdat, he, lo, List.nodup_nil⟩, rfl, rfl, rfl⟩
theorem watch_c {w : World} {A A₀ : Around} {env : Env} {outer : List Env} {base h₀ : Heap} {L : Addr} {m : Str → Option Value} {s : Shared} {R : Result → Shared → Prop}
    {loose : List Str} {mean : ExcName → Option Value} {mg mb : Str → Option Value} {news : List (Addr × Obj)} {most span : Int} {tM tS : Nat}
    (B : Below A₀ base outer h₀) (F : Fr h₀ L s.heap m) (X : (Mine.hd.heap_1 w.params).In h₀) (N : News h₀ L s.heap news) (T : Top topProg loose mean mg mb h₀) (hA : A.frames = some (env :: outer)) (hf : env.frame = some L) (hke : env.scope.kind = .function) (hroom : A.depth < 595) (hh : A.handled = none) (hm : 1 ≤ most) (hs : 1 ≤ span)
    (ret : ∀ x d l (W : WatS w) k1 k2 k3 h' tk', Fr h₀ L h' m → News h₀ L h' ((x, instObj 200 d) :: (d, watDict w k1 k2 k3 most span tM tS W.aT) :: (W.led ++ news)) → W.rows = [] → W.aT = l → (∀ p ∈ news, p.1 < d) → d < x → x < l → R (.ok (.ret (.ref x))) { s with heap := h', toks := tk' }) :
    codeAny (model PR w) A (.call (.ref 200) ⟨[.int most tM, .int span tS], []⟩) R s := by
  refine make_K (K := Mine.hd.heap_1 w.params) F N (X.keeps F.keep) (by k_is) (by k_is) (by k_is) ?_
  intro x d h' F' N' l1 l2
  have off : OwnOff news [d] := fun p hp b hb => by rw [List.mem_singleton.mp hb]; exact Nat.ne_of_lt (l1 p hp)
  have l3 := l2
  k_lt2 l2
  first | k_dflt ktr_enter | fail "no way in"
  k_steps
  rename Obj.IsDictOf (intKind PR w) _ [] => hi9
  rename (_ == sysModules) = false => lo9
  obtain ⟨W, e1, e2, e3⟩ := WatS.new lo9 hi9
  rename _ ∧ _ ∧ AllLt _ news => l9
  rename News _ _ _ _ => NN
  have NR := news_rot NN
  exact ret x d _ W _ _ _ _ _ (by k_asm) (by rw [e1, e2]; exact NR) e3 e1 l1 l3 l9.1
theorem set_L17 : True := by
  w_top off
  k_with_none
  k_with "way M" => refine' code_defM ?k1 ?k2 ?k3 ?k4 ?k5 ?kA ?kF ?kK ?kD ?k6 ?k7 ?k8 ?k9 ?kB ?_ ?c2 ?c3 ?c4 ?c5; (case kA => assumption); (case kF => assumption); (case kK => assumption); (case kD => assumption); (case k1 => k_asm); (case k2 => k_asm); (case k3 => k_asm); (case k4 => k_asm); (case k5 => k_asm); (case k6 => k_is); (case k7 => k_is); (case k8 => ktr_room); (case k9 => first | exact BindsTo.of_eq rfl | exact binds_K (by k_in) rfl (by k_is) rfl rfl rfl); (case c5 => decide); (case kB => exact locs rfl); (case c2 => exact rfl); (case c3 => exact rfl); (case c4 => exact rfl); k_whole
  k_with "way C" => refine' code_defC ?k1 ?k2 ?k3 ?k4 ?k5 ?kA ?kF ?kK ?k6 ?k7 ?k8 ?k9 ?kB ?kD ?_ ?c2 ?c3 ?c4; (case kA => first | assumption | exact rfl); (case kF => first | assumption | exact rfl); (case kK => assumption); (case k1 => k_asm); (case k2 => k_asm); (case k3 => k_asm); (case k4 => k_asm); (case k5 => k_asm); (case k6 => k_is); (case k7 => k_is); (case k8 => ktr_room); (case k9 => first | exact BindsTo.of_eq rfl | exact binds_K (by k_in) rfl (by k_is) rfl rfl rfl); (case kB => exact rfl); (case kD => decide +kernel); (case c2 => exact rfl); (case c3 => exact rfl); (case c4 => exact rfl); k_whole
  k_with "way D" => refine' code_def ?k1 ?k2 ?k3 ?k4 ?k5 ?kA ?kF ?kK ?k6 ?k7 ?k8 ?k9 ?kB ?_ ?c2 ?c3 ?c4 ?c5; (case kA => first | assumption | exact rfl); (case kF => first | assumption | exact rfl); (case kK => assumption); (case k1 => k_asm); (case k2 => k_asm); (case k3 => k_asm); (case k4 => k_asm); (case k5 => k_asm); (case k6 => k_is); (case k7 => k_is); (case k8 => ktr_room); (case k9 => first | exact BindsTo.of_eq rfl | exact binds_K (by k_in) rfl (by k_is) rfl rfl rfl); (case c5 => decide); (case kB => exact locs rfl); (case c2 => exact rfl); (case c3 => exact rfl); (case c4 => exact rfl); k_whole
  k_with "way CM" => refine' code_defCM ?k1 ?k2 ?k3 ?k4 ?k5 ?kA ?kF ?kK ?kE ?k6 ?k7 ?k8 ?k9 ?kB ?kD ?_ ?c2 ?c3 ?c4; (case kA => assumption); (case kF => assumption); (case kK => assumption); (case kE => assumption); (case k1 => k_asm); (case k2 => k_asm); (case k3 => k_asm); (case k4 => k_asm); (case k5 => k_asm); (case k6 => k_is); (case k7 => k_is); (case k8 => ktr_room); (case k9 => first | exact BindsTo.of_eq rfl | exact binds_K (by k_in) rfl (by k_is) rfl rfl rfl); (case kB => exact rfl); (case kD => decide +kernel); (case c2 => exact rfl); (case c3 => exact rfl); (case c4 => exact rfl); k_whole
  k_with "exec For Name Call cons nil" => (k_here; (with_unfolding_all refine' For_invVF (by k_asm) (by exact rfl) (by exact rfl) ?_; k_whole))
  k_with "unpackItems ref" => (k_here; k_dflt (refine' unpackItemsN_ (by k_asm) (by k_asm) (by kun_tup) (by assumption) (by exact rfl) ?_; k_whole); intro _ _ _; (try k_sweep))
  k_with "subscriptTail Name Name ref int" => ((with_reducible first | show wpAny _ _ (subscriptTail _ _ (Value.ref (LimS.aR _)) _) _ _ _ | show wpAny _ _ (subscriptTail _ _ (Value.ref (BookS.aB _)) _) _ _ _); refine stop_here ?_)
  k_with "compareOp In int ref" => ((with_reducible first | show wpAny _ _ (compareOp _ _ (Value.ref (LimS.aR _))) _ _ _ | show wpAny _ _ (compareOp _ _ (Value.ref (BookS.aB _))) _ _ _ | show wpAny _ _ (compareOp _ _ (Value.ref (LRow.kA _))) _ _ _ | show wpAny _ _ (compareOp _ _ (Value.ref (BRow.kA _))) _ _ _); refine stop_here ?_)
  k_with "compareOp NotIn int ref" => ((with_reducible first | show wpAny _ _ (compareOp _ _ (Value.ref (LimS.aR _))) _ _ _ | show wpAny _ _ (compareOp _ _ (Value.ref (BookS.aB _))) _ _ _ | show wpAny _ _ (compareOp _ _ (Value.ref (LRow.kA _))) _ _ _ | show wpAny _ _ (compareOp _ _ (Value.ref (BRow.kA _))) _ _ _); refine stop_here ?_)
  k_with "getMethod ref" => ((with_reducible first | show wpAny _ _ (getMethod (Value.ref (LimS.aR _)) _ _) _ _ _ | show wpAny _ _ (getMethod (Value.ref (BookS.aB _)) _ _) _ _ _); refine stop_here ?_)
  k_with "call builtin:len" => ((with_reducible first | show wpAny _ _ (call _ [Value.ref (LRow.kA _)]) _ _ _ | show wpAny _ _ (call _ [Value.ref (BRow.kA _)]) _ _ _); refine stop_here ?_)
  k_with "call ref" => ((with_reducible first | show wpAny _ _ (call (Value.ref 124) [Value.ref (LimS.aL _), _]) _ _ _); refine stop_here ?_)
  k_with "subscriptTail Name Slice ref ref" => refine stop_here ?_
  k_with "subscriptTail Attribute Name Name ref int" => ((with_reducible show wpAny _ _ (subscriptTail _ _ (Value.ref (LimS.aR _)) _) _ _ _); k_dflt (refine kba_turn (value' := PySem.Expr.Name (PySem.Str.ofString "_") ⟨0, 0, 0, 0⟩) (fun _ => rfl) ?_))
  k_with "subscriptTail Attribute Name ref int" => ((with_reducible show wpAny _ _ (subscriptTail _ _ (Value.ref (LimS.aR _)) _) _ _ _); k_dflt (refine kba_turn (value' := PySem.Expr.Name (PySem.Str.ofString "_") ⟨0, 0, 0, 0⟩) (fun _ => rfl) ?_))
  k_with "subscriptTail Subscript Subscript" => ((with_reducible show wpAny _ _ (subscriptTail _ _ (Value.ref (BRow.kA _)) _) _ _ _); k_dflt (refine kba_turn (value' := PySem.Expr.Name (PySem.Str.ofString "_") ⟨0, 0, 0, 0⟩) (fun _ => rfl) ?_))
  k_with "exec Raise" => refine stop_here ?_
  k_with "subscriptTail Subscript Name Name Constant ref int" => ((with_reducible show wpAny _ _ (subscriptTail _ _ (Value.ref (BRow.bA _)) _) _ _ _); k_dflt (refine item_at (vs := BRow.items _) (News.isList (by k_asm) (by k_mem)) (by decide) (by decide) rfl ?_))
  k_with "subscriptTail Name Constant ref int" => ((with_reducible show wpAny _ _ (subscriptTail _ _ (Value.ref (BRow.bA _)) _) _ _ _); k_dflt (refine item_at (vs := BRow.items _) (News.isList (by k_asm) (by k_mem)) (by decide) (by decide) rfl ?_))
  k_with "call builtin:list.append" => refine stop_here ?_
  k_with "assign Tuple" => (k_here; (with_reducible show wpAny _ _ (assign (Expr.Tuple _ _ _) _ (Value.ref _)) _ _ _); k_dflt (refine' unpackN_ (by k_asm) (by k_asm) (by refine News.isTup (by k_asm) (by k_mem)) (by assumption) (by exact rfl) (by exact rfl) ?_); intro _ _ _; (try k_sweep))
  k_with "exec Assign cons ListComp" => refine stop_here ?_
  k_with "eval ListComp" => refine stop_here ?_
  k_with "call ref" => ((with_reducible first | show wpAny _ _ (call (Value.ref 218) _) _ _ _ | show wpAny _ _ (call (Value.ref 225) _) _ _ _ | show wpAny _ _ (call (Value.ref 200) _) _ _ _ | show wpAny _ _ (call (Value.ref 192) _) _ _ _ | show wpAny _ _ (call (Value.ref 197) _) _ _ _); refine stop_here ?_)
  trivial
theorem moves_c {w : World} {A A₀ : Around} {env : Env} {outer : List Env} {base h₀ : Heap} {L : Addr} {m : Str → Option Value} {s : Shared} {R : Result → Shared → Prop}
    {loose : List Str} {mean : ExcName → Option Value} {mg mb : Str → Option Value} {rest : List (Addr × Obj)} {aS : Addr} {x y : Int} {tx ty n : Nat}
    (B : Below A₀ base outer h₀) (F : Fr h₀ L s.heap m) (X : (Mine.hd.heap_1 w.params).In h₀) (N : News h₀ L s.heap ((aS, srcObj x y tx ty n) :: rest)) (T : Top topProg loose mean mg mb h₀) (hA : A.frames = some (env :: outer)) (hf : env.frame = some L) (hke : env.scope.kind = .function) (hroom : A.depth < 580) (hh : A.handled = none) (hun : A.units < 7900) (off : OwnOff rest [aS]) (hx : 0 ≤ x) (hy0 : 0 ≤ y) (hy : y < 2147483647)
    (ret : ∀ x' y' tx' ty' n' h' tk', Fr h₀ L h' m → News h₀ L h' ((aS, srcObj x' y' tx' ty' n') :: rest) → 0 ≤ x' → 0 ≤ y' → y' < 2147483647 → R (.ok (.ret (.bool true))) { s with heap := h', toks := tk' }) :
    codeAny (model PR w) A (.call (.ref 254) ⟨[.ref aS], []⟩) R s := by
  first | k_dflt ktr_enter | fail "no way in"
  rename _ ∧ AllLt _ rest => l0
  have aSL := l0.1
  have o9 := offCells l0.2
  have offS : ∀ p ∈ rest, p.1 ≠ aS := fun p hp => off p hp aS (.head _)
  k_steps
  refine take_g (pre := [_, _]) (by assumption) (by k_asm) (by k_asm) (by k_asm) (by k_asm) (by show Option.map _ A.frames = _; rw [hA]; rfl) rfl rfl (by show A.depth + 1 < 700; first | exact room1 hroom (by decide) | exact room1 hdp (by decide) | omega) (fun p hp => by
    simp only [List.mem_cons, List.not_mem_nil, or_false] at hp
    rcases hp with rfl | rfl
    all_goals exact Nat.ne_of_gt (by dsimp only; omega)) offS hx hy0 hy (by decide) (by decide) ?_
  clear hx hy0 hy
  intro r1 tr1 x y tx ty n h' tk' F' N' hx hy0 hy hr10 hr11
  rw [List.cons_append, List.cons_append, List.nil_append] at N'
  dsimp only
  k_steps
  refine take_g (pre := [_, _]) (by assumption) (by k_asm) (by k_asm) N' (by k_asm) (by show Option.map _ A.frames = _; rw [hA]; rfl) rfl rfl (by show A.depth + 1 < 700; first | exact room1 hroom (by decide) | exact room1 hdp (by decide) | omega) (fun p hp => by
    simp only [List.mem_cons, List.not_mem_nil, or_false] at hp
    rcases hp with rfl | rfl
    all_goals exact Nat.ne_of_gt (by dsimp only; omega)) offS hx hy0 hy (by decide) (by decide) ?_
  clear hx hy0 hy N'
  intro r2 tr2 x y tx ty n h' tk' F' N' hx hy0 hy hr20 hr21
  rw [List.cons_append, List.cons_append, List.nil_append] at N'
  dsimp only
  k_steps
  refine wpAny_call (watch_c (by assumption) (by k_asm) (by k_asm) (by k_asm) (by k_asm) (by show Option.map _ A.frames = _; rw [hA]; rfl) rfl rfl (by show A.depth + 1 < 595; first | exact room1 hroom (by decide) | exact room1 hdp (by decide) | omega) (by exact hh) (by omega) (by omega) ?_)
  intro aW dW aT W k1 k2 k3 h' tk' F' N' hW0 eaT lW1 lW2 lW3
  k_steps
  rename_i gB LB hB1 tkB FGB BB XB TB oc1 oc2 dc1 dc2 xq1 yq1 txq1 tyq1 nq1 hq1 tkq1 hq2 tkq2 tD hB2 oD0 loT hd0 lT l2 hB3 lt2 l4 hB4 lt4 hB5 oT hdT tpA hB6 ltp hB7 hB8 hB9 oS dS hB10 oN dN hB11 tkq3 hB12 FF NF hR tkR t1 u1 v1 hRng FR NR hK
  have ordA : @LT.lt Nat _ aS LB := aSL
  have ord1 : @LT.lt Nat _ (LB + 1 + 1) tD := lT.1
  have ord2 : @LT.lt Nat _ tD l2 := lt2.1
  have ord3 : @LT.lt Nat _ l2 l4 := lt4.1
  have ord4 : @LT.lt Nat _ l4 dW := lW1 _ (.tail _ (.head _))
  have ord5 : @LT.lt Nat _ dW aW := lW2
  have ord6 : @LT.lt Nat _ aW W.aT := by rw [eaT]; exact lW3
  have g0 : @LT.lt Nat _ aS (LB + 1) := Nat.lt_succ_of_lt ordA
  have g1 : @LT.lt Nat _ (LB + 1) (LB + 1 + 1) := Nat.lt_succ_self _
  have g2 : @LT.lt Nat _ (LB + 1 + 1) tD := ord1
  have g3 : @LT.lt Nat _ tD l2 := ord2
  have g4 : @LT.lt Nat _ l2 l4 := ord3
  have g5 : @LT.lt Nat _ l4 dW := ord4
  have g6 : @LT.lt Nat _ dW aW := ord5
  have rlt : ∀ p ∈ rest, @LT.lt Nat _ p.1 LB := fun p hp => allLt_in l0.2 p hp
  have hWl : W.led = [(W.aT, W.oT)] := by unfold WatS.led; rw [hW0]; rfl
  have hWa : W.abs = [] := by unfold WatS.abs; rw [hW0]; rfl
  have hm1 : 1 ≤ 1 + r1 := by omega
  have hm3 : 1 + r1 ≤ 3 := by omega
  have hs1 : 1 ≤ 1 + r2 := by omega
  have hs9 : 1 + r2 ≤ 9 := by omega
  clear hr10 hr11 hr20 hr21
  generalize 1 + r1 = most at *
  generalize 1 + r2 = span at *
  clear FF NF hd0 hK
  have fixW : ∀ p ∈ W.led, p.1 ∉ [(LB + 1 + 1 : Nat), (LB + 1 : Nat), aW, dW, tD, l2, l4, aS] := fun p hp => by
    rw [hWl] at hp
    rw [List.mem_singleton.mp hp]
    simp only [List.mem_cons, List.not_mem_nil, or_false]
    rintro (h | h | h | h | h | h | h | h)
    · exact Nat.ne_of_gt (Nat.lt_trans (Nat.lt_trans g2 (Nat.lt_trans g3 (Nat.lt_trans g4 (Nat.lt_trans g5 g6)))) ord6) h
    · exact Nat.ne_of_gt (Nat.lt_trans (Nat.lt_trans g1 (Nat.lt_trans g2 (Nat.lt_trans g3 (Nat.lt_trans g4 (Nat.lt_trans g5 g6))))) ord6) h
    · exact Nat.ne_of_gt ord6 h
    · exact Nat.ne_of_gt (Nat.lt_trans g6 ord6) h
    · exact Nat.ne_of_gt (Nat.lt_trans (Nat.lt_trans g3 (Nat.lt_trans g4 (Nat.lt_trans g5 g6))) ord6) h
    · exact Nat.ne_of_gt (Nat.lt_trans (Nat.lt_trans g4 (Nat.lt_trans g5 g6)) ord6) h
    · exact Nat.ne_of_gt (Nat.lt_trans (Nat.lt_trans g5 g6) ord6) h
    · exact Nat.ne_of_gt (Nat.lt_trans (Nat.lt_trans g0 (Nat.lt_trans g1 (Nat.lt_trans g2 (Nat.lt_trans g3 (Nat.lt_trans g4 (Nat.lt_trans g5 g6)))))) ord6) h
  have disW : ∀ p ∈ W.led, ∀ q ∈ rest, p.1 ≠ q.1 := fun p hp q hq => by
    rw [hWl] at hp
    rw [List.mem_singleton.mp hp]
    exact Nat.ne_of_gt (Nat.lt_trans (Nat.lt_trans (Nat.lt_succ_of_lt (rlt q hq)) (Nat.lt_trans g1 (Nat.lt_trans g2 (Nat.lt_trans g3 (Nat.lt_trans g4 (Nat.lt_trans g5 g6)))))) ord6)
  have N1 := kst_newsOf (l' := (LB + 1 + 1, oN) :: (LB + 1, oS) :: (aW, instObj 200 dW) :: (dW, watDict w k1 k2 k3 most span tkq1 tkq2 W.aT) :: (tD, oT) :: (l2, listOf (List.toArray ([] : List Value)) 0) :: (l4, listOf (List.toArray ([] : List Value)) 0) :: (aS, srcObj x y tx ty n) :: (W.led ++ rest)) NR (fun p hp => by
    simp only [List.mem_cons, List.mem_append] at hp ⊢
    rcases hp with h | h | h | h | h | h | h | h | h | h <;> simp [h])
  clear NR
  unfold Stop
  refine iter_range3 (a := "mac") (b := "due") (n := 8) (fun i nx => ∃ (Wi : WatS w) (now : Int) (tn : Nat) (oNi : Obj) (xi yi : Int) (txi tyi ni : Nat) (vs2 vs4 : List Value) (T2 T4 : List Int) (n2 n4 : Nat),
      nx = (LB + 1 + 1, oNi) :: (LB + 1, oS) :: (aW, instObj 200 dW) :: (dW, watDict w k1 k2 k3 most span tkq1 tkq2 Wi.aT) :: (tD, oT) :: (l2, listOf vs2.toArray n2) :: (l4, listOf vs4.toArray n4) :: (aS, srcObj xi yi txi tyi ni) :: (Wi.led ++ rest) ∧
      oNi.data = .cell (some (.int now tn)) ∧ IntsAre vs2 T2 ∧ IntsAre vs4 T4 ∧ MovS most.toNat span i now Wi.abs T2 T4 ∧ 0 ≤ xi ∧ 0 ≤ yi ∧ yi < 2147483647 ∧ (∀ p ∈ Wi.led, p.1 ∉ [(LB + 1 + 1 : Nat), (LB + 1 : Nat), aW, dW, tD, l2, l4, aS]) ∧ (∀ p ∈ Wi.led, ∀ q ∈ rest, p.1 ≠ q.1))
    (by rfl) (by exact hh) hRng (by decide) (by decide) FR N1 ⟨W, 0, _, oN, x, y, tx, ty, n, [], [], [], [], 0, 0, rfl, dN, .nil, .nil, by rw [hWa]; exact MovS.nil, hx, hy0, hy, fixW, disW⟩ ?_ ?_
  · rintro i k t nx h' tk' I' oI vt vm vd hi hk ho ⟨Wi, now, tn, oNi, x, y, tx, ty, n, vs2, vs4, T2, T4, n2, n4, rfl, hdN, hv2, hv4, hM, hx, hy0, hy, fixi, disi⟩ F' N'
    have fo : ∀ z, z ∈ [(LB + 1 + 1 : Nat), (LB + 1 : Nat), aW, dW, tD, l2, l4, aS] → @Ne Nat I' z := fun z hz => by
      simp only [List.mem_cons, List.not_mem_nil, or_false] at hz
      rcases hz with rfl | rfl | rfl | rfl | rfl | rfl | rfl | rfl
      · exact (ho _ (.head _)).symm
      · exact (ho _ (.tail _ (.head _))).symm
      · exact (ho _ (.tail _ (.tail _ (.head _)))).symm
      · exact (ho _ (.tail _ (.tail _ (.tail _ (.head _))))).symm
      · exact (ho _ (.tail _ (.tail _ (.tail _ (.tail _ (.head _)))))).symm
      · exact (ho _ (.tail _ (.tail _ (.tail _ (.tail _ (.tail _ (.head _))))))).symm
      · exact (ho _ (.tail _ (.tail _ (.tail _ (.tail _ (.tail _ (.tail _ (.head _)))))))).symm
      · exact (ho _ (.tail _ (.tail _ (.tail _ (.tail _ (.tail _ (.tail _ (.tail _ (.head _))))))))).symm
    have oWR : OwnOff (Wi.led ++ rest) [(LB + 1 + 1 : Nat), (LB + 1 : Nat), aW, dW, tD, l2, l4, aS] := fun p hp b hb => by
      rcases List.mem_append.mp hp with hp | hp
      · exact fun e => fixi p hp (e ▸ hb)
      · have h1 := rlt p hp
        have h2 := offS p hp
        simp only [List.mem_cons, List.not_mem_nil, or_false] at hb
        rcases hb with rfl | rfl | rfl | rfl | rfl | rfl | rfl | rfl
        · exact Nat.ne_of_lt (Nat.lt_trans (Nat.lt_succ_of_lt h1) g1)
        · exact Nat.ne_of_lt (Nat.lt_succ_of_lt h1)
        · exact Nat.ne_of_lt (Nat.lt_trans (Nat.lt_succ_of_lt h1) (Nat.lt_trans g1 (Nat.lt_trans g2 (Nat.lt_trans g3 (Nat.lt_trans g4 (Nat.lt_trans g5 g6))))))
        · exact Nat.ne_of_lt (Nat.lt_trans (Nat.lt_succ_of_lt h1) (Nat.lt_trans g1 (Nat.lt_trans g2 (Nat.lt_trans g3 (Nat.lt_trans g4 g5)))))
        · exact Nat.ne_of_lt (Nat.lt_trans (Nat.lt_succ_of_lt h1) (Nat.lt_trans g1 g2))
        · exact Nat.ne_of_lt (Nat.lt_trans (Nat.lt_succ_of_lt h1) (Nat.lt_trans g1 (Nat.lt_trans g2 g3)))
        · exact Nat.ne_of_lt (Nat.lt_trans (Nat.lt_succ_of_lt h1) (Nat.lt_trans g1 (Nat.lt_trans g2 (Nat.lt_trans g3 g4))))
        · exact h2
    have hnow0 := hM.now0
    have hnow1 := hM.nowi
    have f1 := fo (LB + 1 + 1) (by simp)
    have f2 := fo l2 (by simp)
    have f3 := fo l4 (by simp)
    have f4 := fo aS (by simp)
    have oA : ∀ z ∈ [I', (LB + 1 + 1 : Nat), (LB + 1 : Nat), aW, dW, tD, l2, l4], @Ne Nat z aS := (all_cons f4 (all_cons (Nat.ne_of_gt (Nat.lt_trans g0 g1)) (all_cons (Nat.ne_of_gt g0) (all_cons (Nat.ne_of_gt (Nat.lt_trans g0 (Nat.lt_trans g1 (Nat.lt_trans g2 (Nat.lt_trans g3 (Nat.lt_trans g4 (Nat.lt_trans g5 g6))))))) (all_cons (Nat.ne_of_gt (Nat.lt_trans g0 (Nat.lt_trans g1 (Nat.lt_trans g2 (Nat.lt_trans g3 (Nat.lt_trans g4 g5)))))) (all_cons (Nat.ne_of_gt (Nat.lt_trans g0 (Nat.lt_trans g1 g2))) (all_cons (Nat.ne_of_gt (Nat.lt_trans g0 (Nat.lt_trans g1 (Nat.lt_trans g2 g3)))) (all_cons (Nat.ne_of_gt (Nat.lt_trans g0 (Nat.lt_trans g1 (Nat.lt_trans g2 (Nat.lt_trans g3 g4))))) all_nil))))))))
    have oN : ∀ z ∈ [(LB + 1 : Nat), aW, dW, tD, l2, l4, aS], @Ne Nat z (LB + 1 + 1 : Nat) := (all_cons (Nat.ne_of_lt g1) (all_cons (Nat.ne_of_gt (Nat.lt_trans g2 (Nat.lt_trans g3 (Nat.lt_trans g4 (Nat.lt_trans g5 g6))))) (all_cons (Nat.ne_of_gt (Nat.lt_trans g2 (Nat.lt_trans g3 (Nat.lt_trans g4 g5)))) (all_cons (Nat.ne_of_gt g2) (all_cons (Nat.ne_of_gt (Nat.lt_trans g2 g3)) (all_cons (Nat.ne_of_gt (Nat.lt_trans g2 (Nat.lt_trans g3 g4))) (all_cons (Nat.ne_of_lt (Nat.lt_trans g0 g1)) all_nil)))))))
    have oP2 : ∀ z ∈ [I', (LB + 1 + 1 : Nat), (LB + 1 : Nat), aW, dW, tD], @Ne Nat z l2 := (all_cons f2 (all_cons (Nat.ne_of_lt (Nat.lt_trans g2 g3)) (all_cons (Nat.ne_of_lt (Nat.lt_trans g1 (Nat.lt_trans g2 g3))) (all_cons (Nat.ne_of_gt (Nat.lt_trans g4 (Nat.lt_trans g5 g6))) (all_cons (Nat.ne_of_gt (Nat.lt_trans g4 g5)) (all_cons (Nat.ne_of_lt g3) all_nil))))))
    have oQ2 : ∀ z ∈ [l4, aS], @Ne Nat z l2 := (all_cons (Nat.ne_of_gt g4) (all_cons (Nat.ne_of_lt (Nat.lt_trans g0 (Nat.lt_trans g1 (Nat.lt_trans g2 g3)))) all_nil))
    have oP4 : ∀ z ∈ [I', (LB + 1 + 1 : Nat), (LB + 1 : Nat), aW, dW, tD, l2], @Ne Nat z l4 := (all_cons f3 (all_cons (Nat.ne_of_lt (Nat.lt_trans g2 (Nat.lt_trans g3 g4))) (all_cons (Nat.ne_of_lt (Nat.lt_trans g1 (Nat.lt_trans g2 (Nat.lt_trans g3 g4)))) (all_cons (Nat.ne_of_gt (Nat.lt_trans g5 g6)) (all_cons (Nat.ne_of_gt g5) (all_cons (Nat.ne_of_lt (Nat.lt_trans g3 g4)) (all_cons (Nat.ne_of_lt g4) all_nil)))))))
    have oQ4 : ∀ z ∈ [aS], @Ne Nat z l4 := (all_cons (Nat.ne_of_lt (Nat.lt_trans g0 (Nat.lt_trans g1 (Nat.lt_trans g2 (Nat.lt_trans g3 g4))))) all_nil)
    have fix9 : ∀ p ∈ Wi.led, p.1 ∉ [I', (LB + 1 + 1 : Nat), (LB + 1 : Nat), aW, dW, tD, l2, l4, aS] := fun p hp h => (List.mem_cons.mp h).elim (fun e => ho p (.tail _ (.tail _ (.tail _ (.tail _ (.tail _ (.tail _ (.tail _ (.tail _ (List.mem_append_left _ hp))))))))) e) (fixi p hp)
    k_steps
    refine take_g (pre := [_, _, _, _, _, _, _, _]) (by assumption) (by k_asm) (by k_asm) N' (by k_asm) (by show Option.map _ A.frames = _; rw [hA]; rfl) rfl rfl (by show A.depth + 1 < 700; first | exact room1 hroom (by decide) | exact room1 hdp (by decide) | omega) (by exact off_of oA) (fun p hp => oWR p hp aS (by simp)) hx hy0 hy (by decide) (by decide) ?_
    clear hx hy0 hy N'
    intro r3 tr3 x y tx ty n h' tkn F' N' hx hy0 hy hr30 hr31
    have N' : News _ _ _ ((I', oI) :: _ :: _ :: _ :: _ :: _ :: _ :: _ :: (aS, srcObj x y tx ty n) :: (Wi.led ++ rest)) := N'
    dsimp only
    k_steps
    rename _ ∧ _ ∧ _ ∧ _ ∧ _ ∧ _ ∧ _ ∧ _ ∧ _ ∧ AllLt _ (Wi.led ++ rest) => lT9
    have hlT := lT9.2.2.2.2.2.2.2.2.1
    rename News _ _ _ _ => NN
    refine one_g (pre := [_, _, _, _, _, _, _, _, _]) (vs := [_, _, _]) (by assumption) (by k_asm) (by k_asm) NN (by k_asm) (by show Option.map _ A.frames = _; rw [hA]; rfl) rfl rfl (by show A.depth + 1 < 690; first | exact room1 hroom (by decide) | exact room1 hdp (by decide) | omega) (off_cons (Nat.ne_of_gt hlT) (by exact off_of oA)) (fun p hp => oWR p hp aS (by simp)) hx hy0 hy (.head _) (by simp) (by simp) ?_
    clear hx hy0 hy NN
    intro v x y tx ty n h' tk' F' N' hx hy0 hy hv
    have N' : News _ _ _ ((I', oI) :: _ :: _ :: _ :: _ :: _ :: _ :: _ :: (aS, srcObj x y tx ty n) :: (Wi.led ++ rest)) := kst_newsOf N' fun p hp => .tail _ hp
    have hv' : (∃ t, v = .int 2 t) ∨ (∃ t, v = .int 4 t) := by
      simp only [List.mem_cons, List.not_mem_nil, or_false] at hv
      rcases hv with rfl | rfl | rfl
      · exact .inl ⟨_, rfl⟩
      · exact .inl ⟨_, rfl⟩
      · exact .inr ⟨_, rfl⟩
    clear hv
    have o2 : OwnOff (Wi.led ++ rest) [(LB + 1 + 1 : Nat)] := fun p hp b hb => oWR p hp b (by rw [List.mem_singleton.mp hb]; simp)
    have o3 : OwnOff (Wi.led ++ rest) [l2] := fun p hp b hb => oWR p hp b (by rw [List.mem_singleton.mp hb]; simp)
    have o4 : OwnOff (Wi.led ++ rest) [l4] := fun p hp b hb => oWR p hp b (by rw [List.mem_singleton.mp hb]; simp)
    rcases hv' with ⟨tm9, rfl⟩ | ⟨tm9, rfl⟩
    case' inl =>
      dsimp only
      k_steps
      rename News _ _ _ _ => NN
      have NC := kst_newsOf (l' := (I', oI) :: (LB + 1 + 1, oNi) :: _) NN (fun p hp => .tail _ hp)
      clear NN
      obtain ⟨NX, oX⟩ := led_at NC (.tail _ (.head _))
      refine storeX_C (by k_asm) NX rfl (UpdF.head fun p hp => oX p hp _ (.head _)) hdN ?_
      clear NX oX
      intro h' oN2 F' N' hdN2
      have N' := swap_g (pre := [_]) (off_cons f1 off_nil) (off_app (a := [_, _, _, _, _, _, _]) (by exact off_of oN) fun p hp => oWR p hp _ (by simp)) N'
      rw [List.cons_append, List.nil_append] at N'
      clear NC
      dsimp only
      k_steps
      rename News _ _ _ _ => N'
      refine append_c (vs := vs2) (n := n2) (by k_asm) N' (.tail _ (.tail _ (.tail _ (.tail _ (.tail _ (.tail _ (.head _))))))) (by have := hv2.length; have := hM.l2; omega) ?_
      intro h' F' N'
      have N' := swap_g (pre := [_, _, _, _, _, _]) (by exact off_of oP2) (off_app (a := [_, _]) (by exact off_of oQ2) fun p hp => oWR p hp _ (by simp)) N'
      rw [List.cons_append, List.cons_append, List.cons_append, List.cons_append, List.cons_append, List.cons_append, List.nil_append] at N'
      have hvT := ints_snoc hv2 (now + r3) tkn
      have hTl := hv2.length
      have hTi := hM.l2
      dsimp only
      k_steps
      refine LCt.ListComp_T (F₀ := by k_asm) (by with_unfolding_all rfl) (by decide) (by rfl) (by decide) (by rfl) ?_
      k_steps
      refine LCt.CompSrcT.ledger (by exact hh) (by k_asm) (by k_asm) (.tail _ (.tail _ (.tail _ (.tail _ (.tail _ (.tail _ (.head _))))))) (by rw [sizeLine_eq]; simp; omega) fun g => ?_
      refine rest_fix (fun j ys => IntsAre ys (wDue (now + r3) span ((T2 ++ [now + r3]).take j))) (.inr ⟨_, (.tail _ (.tail _ (.tail _ (.tail _ (.tail _ (.tail _ (.head _))))))), rfl, _, rfl⟩) .nil ?_ ?_
      · intro ys hys DH h tk F' N' o1
        have hys' : IntsAre ys (wDue (now + r3) span (T2 ++ [now + r3])) := by
          rw [show (List.toArray (vs2 ++ [Value.int (now + r3) tkn])).size = (T2 ++ [now + r3]).length from by simp [hTl], List.take_length] at hys
          exact hys
        dsimp only
        have hyl := hys'.length
        have hdl : (wDue (now + r3) span (T2 ++ [now + r3])).length ≤ T2.length + 1 := by
          have := List.length_filter_le (fun t => decide (now + r3 - span < t)) (T2 ++ [now + r3])
          simpa [wDue] using this
        k_steps
        rename News _ _ _ _ => NN
        have NM := kst_newsOf (l' := Wi.led ++ ((I', oI) :: (LB + 1 + 1, oN2) :: (LB + 1, oS) :: (aW, instObj 200 dW) :: (dW, watDict w k1 k2 k3 most span tkq1 tkq2 Wi.aT) :: (tD, oT) :: (l2, listOf (List.toArray (vs2 ++ [.int (now + r3) tkn])) (n2 + 1)) :: (l4, listOf (List.toArray vs4) n4) :: (aS, srcObj x y tx ty n) :: rest)) NN (fun p hp => by exact .tail _ (led_front (pre := [_, _, _, _, _, _, _, _, _]) hp))
        have disM : ∀ p ∈ Wi.led, ∀ q ∈ (I', oI) :: (LB + 1 + 1, oN2) :: (LB + 1, oS) :: (aW, instObj 200 dW) :: (dW, watDict w k1 k2 k3 most span tkq1 tkq2 Wi.aT) :: (tD, oT) :: (l2, listOf (List.toArray (vs2 ++ [.int (now + r3) tkn])) (n2 + 1)) :: (l4, listOf (List.toArray vs4) n4) :: (aS, srcObj x y tx ty n) :: rest, p.1 ≠ q.1 := dis_of (pre := [_, _, _, _, _, _, _, _, _]) fix9 disi
        have hin := hM.in_ 2
        have hlen := hM.len 2
        clear NN
        refine wpAny_call (moved_c (S := Wi) (rest := (I', oI) :: (LB + 1 + 1, oN2) :: (LB + 1, oS) :: (aW, instObj 200 dW) :: (dW, watDict w k1 k2 k3 most span tkq1 tkq2 Wi.aT) :: (tD, oT) :: (l2, listOf (List.toArray (vs2 ++ [.int (now + r3) tkn])) (n2 + 1)) :: (l4, listOf (List.toArray vs4) n4) :: (aS, srcObj x y tx ty n) :: rest) (by assumption) (by k_asm) (by k_asm) NM (by k_asm) (by show Option.map _ A.frames = _; rw [hA]; rfl) rfl rfl (by show A.depth + 1 < 590; first | exact room1 hroom (by decide) | exact room1 hdp (by decide) | omega) (by exact hh) (by show A.units + 3 < 8000; first | exact room3 hun (by decide) | omega) (.tail _ (.tail _ (.tail _ (.head _)))) (.tail _ (.tail _ (.tail _ (.tail _ (.head _))))) disM ⟨hm1, hm3⟩ ⟨hs1, hs9⟩ ⟨by omega, by omega⟩ ⟨by omega, fun t ht => ⟨(hin t ht).1, by have := (hin t ht).2; omega⟩⟩ (WatS.rows2 hM.keys) ?_)
        clear NM
        intro W2 h' tk' F' N' e2T eabs dis2
        obtain ⟨M2, hval⟩ := hM.put2 hs1 (show now ≤ now + r3 by omega) (show now + r3 ≤ now + 3 by omega)
        rw [← eabs] at M2
        rw [← e2T] at N' dis2
        have N2 := kst_newsOf (l' := (I', oI) :: (LB + 1 + 1, oN2) :: (LB + 1, oS) :: (aW, instObj 200 dW) :: (dW, watDict w k1 k2 k3 most span tkq1 tkq2 W2.aT) :: (tD, oT) :: (l2, listOf (List.toArray (vs2 ++ [.int (now + r3) tkn])) (n2 + 1)) :: (l4, listOf (List.toArray vs4) n4) :: (aS, srcObj x y tx ty n) :: (W2.led ++ rest)) N' (fun p hp => by exact led_back (pre := [_, _, _, _, _, _, _, _, _]) hp)
        clear N'
        dsimp only
        have hval2 : (decide (most.toNat < (wPut most.toNat (now + r3) span (wget Wi.abs 2)).length) != decide (most < ((wDue (now + r3) span (T2 ++ [now + r3])).length : Int))) = false := by
          rw [hval]
          have z : decide (most.toNat < (wDue (now + r3) span (T2 ++ [now + r3])).length) = decide (most < ((wDue (now + r3) span (T2 ++ [now + r3])).length : Int)) := by
            rw [Bool.eq_iff_iff, decide_eq_true_eq, decide_eq_true_eq]
            omega
          rw [z]
          simp
        k_steps
        · refine take_g (pre := [_, _, _, _, _, _, _, _]) (by assumption) (by k_asm) (by k_asm) N2 (by k_asm) (by show Option.map _ A.frames = _; rw [hA]; rfl) rfl rfl (by show A.depth + 1 < 700; first | exact room1 hroom (by decide) | exact room1 hdp (by decide) | omega) (by exact off_of oA) (off_app (fun p hp => dis2 p hp _ (.tail _ (.tail _ (.tail _ (.tail _ (.tail _ (.tail _ (.tail _ (.tail _ (.head _)))))))))) offS) hx hy0 hy (by decide) (by decide) ?_
          have hn1 := M2.now0
          have hn2 := M2.nowi
          have hin2 := M2.in_
          have hlen2 := M2.len
          have fx2 := dis_fix (pre := [_, _, _, _, _, _, _, _, _]) dis2
          have dr2 := dis_rest (pre := [_, _, _, _, _, _, _, _, _]) dis2
          clear hx hy0 hy N2
          intro r9 tr9 x9 y9 tx9 ty9 n9 h' tk' F' N' hx hy0 hy hr90 hr91
          have dis3 : ∀ p ∈ W2.led, ∀ q ∈ (I', oI) :: (LB + 1 + 1, oN2) :: (LB + 1, oS) :: (aW, instObj 200 dW) :: (dW, watDict w k1 k2 k3 most span tkq1 tkq2 W2.aT) :: (tD, oT) :: (l2, listOf (List.toArray (vs2 ++ [.int (now + r3) tkn])) (n2 + 1)) :: (l4, listOf (List.toArray vs4) n4) :: (aS, srcObj x9 y9 tx9 ty9 n9) :: rest, p.1 ≠ q.1 := dis_of (pre := [_, _, _, _, _, _, _, _, _]) fx2 dr2
          clear dis2 fx2 dr2
          have N2 : News _ _ _ ((I', oI) :: (LB + 1 + 1, oN2) :: (LB + 1, oS) :: (aW, instObj 200 dW) :: (dW, watDict w k1 k2 k3 most span tkq1 tkq2 W2.aT) :: (tD, oT) :: (l2, listOf (List.toArray (vs2 ++ [.int (now + r3) tkn])) (n2 + 1)) :: (l4, listOf (List.toArray vs4) n4) :: (aS, srcObj x9 y9 tx9 ty9 n9) :: (W2.led ++ rest)) := N'
          clear N'
          dsimp only
          k_steps
          · have NM := kst_newsOf (l' := W2.led ++ ((I', oI) :: (LB + 1 + 1, oN2) :: (LB + 1, oS) :: (aW, instObj 200 dW) :: (dW, watDict w k1 k2 k3 most span tkq1 tkq2 W2.aT) :: (tD, oT) :: (l2, listOf (List.toArray (vs2 ++ [.int (now + r3) tkn])) (n2 + 1)) :: (l4, listOf (List.toArray vs4) n4) :: (aS, srcObj x9 y9 tx9 ty9 n9) :: rest)) N2 (fun p hp => by exact led_front (pre := [_, _, _, _, _, _, _, _, _]) hp)
            have hdM : (dW, watDict w k1 k2 k3 most span tkq1 tkq2 W2.aT) ∈ (I', oI) :: (LB + 1 + 1, oN2) :: (LB + 1, oS) :: (aW, instObj 200 dW) :: (dW, watDict w k1 k2 k3 most span tkq1 tkq2 W2.aT) :: (tD, oT) :: (l2, listOf (List.toArray (vs2 ++ [.int (now + r3) tkn])) (n2 + 1)) :: (l4, listOf (List.toArray vs4) n4) :: (aS, srcObj x9 y9 tx9 ty9 n9) :: rest := (.tail _ (.tail _ (.tail _ (.tail _ (.head _)))))
            refine wpAny_call (expire_c (S := W2) (rest := (I', oI) :: (LB + 1 + 1, oN2) :: (LB + 1, oS) :: (aW, instObj 200 dW) :: (dW, watDict w k1 k2 k3 most span tkq1 tkq2 W2.aT) :: (tD, oT) :: (l2, listOf (List.toArray (vs2 ++ [.int (now + r3) tkn])) (n2 + 1)) :: (l4, listOf (List.toArray vs4) n4) :: (aS, srcObj x9 y9 tx9 ty9 n9) :: rest) (by assumption) (by k_asm) (by k_asm) NM (by k_asm) (by show Option.map _ A.frames = _; rw [hA]; rfl) rfl rfl (by show A.depth + 1 < 590; first | exact room1 hroom (by decide) | exact room1 hdp (by decide) | omega) (by exact hh) (by show A.units + 3 < 8000; first | exact room3 hun (by decide) | omega) (.tail _ (.tail _ (.tail _ (.head _)))) hdM dis3 ⟨hs1, hs9⟩ ⟨by omega, by omega⟩ (fun mac => ⟨by have := hlen2 mac; omega, fun t ht => ⟨(hin2 mac t ht).1, by have := (hin2 mac t ht).2; omega⟩⟩) (WatS.rows2 M2.keys) ?_)
            clear NM N2
            intro W3 h' tk' F' N' e3T hrows3 hkeys3 hget3 dis4
            have M3 := M2.keep hkeys3 hget3
            rw [← e3T] at N' dis4
            have NZ := kst_newsOf (l' := (I', oI) :: (LB + 1 + 1, oN2) :: (LB + 1, oS) :: (aW, instObj 200 dW) :: (dW, watDict w k1 k2 k3 most span tkq1 tkq2 W3.aT) :: (tD, oT) :: (l2, listOf (List.toArray (vs2 ++ [.int (now + r3) tkn])) (n2 + 1)) :: (l4, listOf (List.toArray vs4) n4) :: (aS, srcObj x9 y9 tx9 ty9 n9) :: (W3.led ++ rest)) N' (fun p hp => by exact led_back (pre := [_, _, _, _, _, _, _, _, _]) hp)
            clear N'
            dsimp only
            k_steps
            have fixZ : ∀ p ∈ W3.led, p.1 ∉ [(LB + 1 + 1 : Nat), (LB + 1 : Nat), aW, dW, tD, l2, l4, aS] := fun p hp h => dis_fix (pre := [_, _, _, _, _, _, _, _, _]) dis4 p hp (.tail _ h)
            have disZ : ∀ p ∈ W3.led, ∀ q ∈ rest, p.1 ≠ q.1 := fun p hp q hq => dis4 p hp q (.tail _ (.tail _ (.tail _ (.tail _ (.tail _ (.tail _ (.tail _ (.tail _ (.tail _ hq)))))))))
            have offN : ∀ p ∈ (LB + 1 + 1, oN2) :: (LB + 1, oS) :: (aW, instObj 200 dW) :: (dW, watDict w k1 k2 k3 most span tkq1 tkq2 W3.aT) :: (tD, oT) :: (l2, listOf (List.toArray (vs2 ++ [.int (now + r3) tkn])) (n2 + 1)) :: (l4, listOf (List.toArray vs4) n4) :: (aS, srcObj x9 y9 tx9 ty9 n9) :: (W3.led ++ rest), p.1 ≠ I' := off_app (a := [_, _, _, _, _, _, _, _]) (by exact off_of fun z hz => (fo z hz).symm) (off_app (fun p hp => dis4 p hp _ (.head _)) fun p hp => ho p (.tail _ (.tail _ (.tail _ (.tail _ (.tail _ (.tail _ (.tail _ (.tail _ (List.mem_append_right _ hp))))))))))
            exact ⟨_, _, _, _, rfl, by k_asm, NZ, offN, (by exact upd3_of), W3, now + r3, tkn, oN2, x9, y9, tx9, ty9, n9, (vs2 ++ [.int (now + r3) tkn]), vs4, (T2 ++ [now + r3]), T4, (n2 + 1), n4, rfl, hdN2, hvT, hv4, M3, hx, hy0, hy, fixZ, disZ⟩
          · rename News _ _ _ _ => NZ
            have fixZ : ∀ p ∈ W2.led, p.1 ∉ [(LB + 1 + 1 : Nat), (LB + 1 : Nat), aW, dW, tD, l2, l4, aS] := fun p hp h => dis_fix (pre := [_, _, _, _, _, _, _, _, _]) dis3 p hp (.tail _ h)
            have disZ : ∀ p ∈ W2.led, ∀ q ∈ rest, p.1 ≠ q.1 := fun p hp q hq => dis3 p hp q (.tail _ (.tail _ (.tail _ (.tail _ (.tail _ (.tail _ (.tail _ (.tail _ (.tail _ hq)))))))))
            have offN : ∀ p ∈ (LB + 1 + 1, oN2) :: (LB + 1, oS) :: (aW, instObj 200 dW) :: (dW, watDict w k1 k2 k3 most span tkq1 tkq2 W2.aT) :: (tD, oT) :: (l2, listOf (List.toArray (vs2 ++ [.int (now + r3) tkn])) (n2 + 1)) :: (l4, listOf (List.toArray vs4) n4) :: (aS, srcObj x9 y9 tx9 ty9 n9) :: (W2.led ++ rest), p.1 ≠ I' := off_app (a := [_, _, _, _, _, _, _, _]) (by exact off_of fun z hz => (fo z hz).symm) (off_app (fun p hp => dis3 p hp _ (.head _)) fun p hp => ho p (.tail _ (.tail _ (.tail _ (.tail _ (.tail _ (.tail _ (.tail _ (.tail _ (List.mem_append_right _ hp))))))))))
            exact ⟨_, _, _, _, rfl, by k_asm, NZ, offN, (by exact upd3_of), W2, now + r3, tkn, oN2, x9, y9, tx9, ty9, n9, (vs2 ++ [.int (now + r3) tkn]), vs4, (T2 ++ [now + r3]), T4, (n2 + 1), n4, rfl, hdN2, hvT, hv4, M2, hx, hy0, hy, fixZ, disZ⟩
      · intro j ys v I2 oI2 C oC DD m₂ h tk E' hj hv hys hC hx' F' N' o3 hne
        have hik : j < (T2 ++ [now + r3]).length := by simp at hj ⊢; omega
        obtain ⟨t, hvt⟩ := hvT.get j (T2 ++ [now + r3])[j] (by simp [hik])
        have hv' : (vs2 ++ [Value.int (now + r3) tkn])[j]? = some v := by simpa using hv
        rw [hvt] at hv'
        obtain rfl := Option.some.inj hv'
        have htk : wDue (now + r3) span ((T2 ++ [now + r3]).take (j + 1)) = wDue (now + r3) span ((T2 ++ [now + r3]).take j) ++ if now + r3 - span < (T2 ++ [now + r3])[j] then [(T2 ++ [now + r3])[j]] else [] := by
          unfold wDue
          rw [List.take_add_one, List.getElem?_eq_getElem hik, List.filter_append]
          congr 1
          by_cases hc : now + r3 - span < (T2 ++ [now + r3])[j] <;> simp [hc]
        generalize (T2 ++ [now + r3])[j] = tv at *
        k_steps
        · refine PyProof.Rows.LCg.CompEnd.intro (by k_asm) (by k_asm) _ (fun p hp => hp) o3 (.inr ⟨_, (.tail _ (.tail _ (.tail _ (.tail _ (.tail _ (.tail _ (.head _))))))), rfl, _, rfl⟩) ⟨rfl, ?_⟩
          rw [htk, if_pos (by assumption)]
          exact ints_snoc hys _ _
        · refine PyProof.Rows.LCg.CompEnd.intro (by k_asm) (by k_asm) _ (fun p hp => hp) o3 (.inr ⟨_, (.tail _ (.tail _ (.tail _ (.tail _ (.tail _ (.tail _ (.head _))))))), rfl, _, rfl⟩) ⟨rfl, ?_⟩
          rw [htk, if_neg (by assumption), List.append_nil]
          exact hys
    case' inr =>
      dsimp only
      k_steps
      rename News _ _ _ _ => NN
      have NC := kst_newsOf (l' := (I', oI) :: (LB + 1 + 1, oNi) :: _) NN (fun p hp => .tail _ hp)
      clear NN
      obtain ⟨NX, oX⟩ := led_at NC (.tail _ (.head _))
      refine storeX_C (by k_asm) NX rfl (UpdF.head fun p hp => oX p hp _ (.head _)) hdN ?_
      clear NX oX
      intro h' oN2 F' N' hdN2
      have N' := swap_g (pre := [_]) (off_cons f1 off_nil) (off_app (a := [_, _, _, _, _, _, _]) (by exact off_of oN) fun p hp => oWR p hp _ (by simp)) N'
      rw [List.cons_append, List.nil_append] at N'
      clear NC
      dsimp only
      k_steps
      rename News _ _ _ _ => N'
      refine append_c (vs := vs4) (n := n4) (by k_asm) N' (.tail _ (.tail _ (.tail _ (.tail _ (.tail _ (.tail _ (.tail _ (.head _)))))))) (by have := hv4.length; have := hM.l4; omega) ?_
      intro h' F' N'
      have N' := swap_g (pre := [_, _, _, _, _, _, _]) (by exact off_of oP4) (off_app (a := [_]) (by exact off_of oQ4) fun p hp => oWR p hp _ (by simp)) N'
      rw [List.cons_append, List.cons_append, List.cons_append, List.cons_append, List.cons_append, List.cons_append, List.cons_append, List.nil_append] at N'
      have hvT := ints_snoc hv4 (now + r3) tkn
      have hTl := hv4.length
      have hTi := hM.l4
      dsimp only
      k_steps
      refine LCt.ListComp_T (F₀ := by k_asm) (by with_unfolding_all rfl) (by decide) (by rfl) (by decide) (by rfl) ?_
      k_steps
      refine LCt.CompSrcT.ledger (by exact hh) (by k_asm) (by k_asm) (.tail _ (.tail _ (.tail _ (.tail _ (.tail _ (.tail _ (.tail _ (.head _)))))))) (by rw [sizeLine_eq]; simp; omega) fun g => ?_
      refine rest_fix (fun j ys => IntsAre ys (wDue (now + r3) span ((T4 ++ [now + r3]).take j))) (.inr ⟨_, (.tail _ (.tail _ (.tail _ (.tail _ (.tail _ (.tail _ (.tail _ (.head _)))))))), rfl, _, rfl⟩) .nil ?_ ?_
      · intro ys hys DH h tk F' N' o1
        have hys' : IntsAre ys (wDue (now + r3) span (T4 ++ [now + r3])) := by
          rw [show (List.toArray (vs4 ++ [Value.int (now + r3) tkn])).size = (T4 ++ [now + r3]).length from by simp [hTl], List.take_length] at hys
          exact hys
        dsimp only
        have hyl := hys'.length
        have hdl : (wDue (now + r3) span (T4 ++ [now + r3])).length ≤ T4.length + 1 := by
          have := List.length_filter_le (fun t => decide (now + r3 - span < t)) (T4 ++ [now + r3])
          simpa [wDue] using this
        k_steps
        rename News _ _ _ _ => NN
        have NM := kst_newsOf (l' := Wi.led ++ ((I', oI) :: (LB + 1 + 1, oN2) :: (LB + 1, oS) :: (aW, instObj 200 dW) :: (dW, watDict w k1 k2 k3 most span tkq1 tkq2 Wi.aT) :: (tD, oT) :: (l2, listOf (List.toArray vs2) n2) :: (l4, listOf (List.toArray (vs4 ++ [.int (now + r3) tkn])) (n4 + 1)) :: (aS, srcObj x y tx ty n) :: rest)) NN (fun p hp => by exact .tail _ (led_front (pre := [_, _, _, _, _, _, _, _, _]) hp))
        have disM : ∀ p ∈ Wi.led, ∀ q ∈ (I', oI) :: (LB + 1 + 1, oN2) :: (LB + 1, oS) :: (aW, instObj 200 dW) :: (dW, watDict w k1 k2 k3 most span tkq1 tkq2 Wi.aT) :: (tD, oT) :: (l2, listOf (List.toArray vs2) n2) :: (l4, listOf (List.toArray (vs4 ++ [.int (now + r3) tkn])) (n4 + 1)) :: (aS, srcObj x y tx ty n) :: rest, p.1 ≠ q.1 := dis_of (pre := [_, _, _, _, _, _, _, _, _]) fix9 disi
        have hin := hM.in_ 4
        have hlen := hM.len 4
        clear NN
        refine wpAny_call (moved_c (S := Wi) (rest := (I', oI) :: (LB + 1 + 1, oN2) :: (LB + 1, oS) :: (aW, instObj 200 dW) :: (dW, watDict w k1 k2 k3 most span tkq1 tkq2 Wi.aT) :: (tD, oT) :: (l2, listOf (List.toArray vs2) n2) :: (l4, listOf (List.toArray (vs4 ++ [.int (now + r3) tkn])) (n4 + 1)) :: (aS, srcObj x y tx ty n) :: rest) (by assumption) (by k_asm) (by k_asm) NM (by k_asm) (by show Option.map _ A.frames = _; rw [hA]; rfl) rfl rfl (by show A.depth + 1 < 590; first | exact room1 hroom (by decide) | exact room1 hdp (by decide) | omega) (by exact hh) (by show A.units + 3 < 8000; first | exact room3 hun (by decide) | omega) (.tail _ (.tail _ (.tail _ (.head _)))) (.tail _ (.tail _ (.tail _ (.tail _ (.head _))))) disM ⟨hm1, hm3⟩ ⟨hs1, hs9⟩ ⟨by omega, by omega⟩ ⟨by omega, fun t ht => ⟨(hin t ht).1, by have := (hin t ht).2; omega⟩⟩ (WatS.rows2 hM.keys) ?_)
        clear NM
        intro W2 h' tk' F' N' e2T eabs dis2
        obtain ⟨M2, hval⟩ := hM.put4 hs1 (show now ≤ now + r3 by omega) (show now + r3 ≤ now + 3 by omega)
        rw [← eabs] at M2
        rw [← e2T] at N' dis2
        have N2 := kst_newsOf (l' := (I', oI) :: (LB + 1 + 1, oN2) :: (LB + 1, oS) :: (aW, instObj 200 dW) :: (dW, watDict w k1 k2 k3 most span tkq1 tkq2 W2.aT) :: (tD, oT) :: (l2, listOf (List.toArray vs2) n2) :: (l4, listOf (List.toArray (vs4 ++ [.int (now + r3) tkn])) (n4 + 1)) :: (aS, srcObj x y tx ty n) :: (W2.led ++ rest)) N' (fun p hp => by exact led_back (pre := [_, _, _, _, _, _, _, _, _]) hp)
        clear N'
        dsimp only
        have hval2 : (decide (most.toNat < (wPut most.toNat (now + r3) span (wget Wi.abs 4)).length) != decide (most < ((wDue (now + r3) span (T4 ++ [now + r3])).length : Int))) = false := by
          rw [hval]
          have z : decide (most.toNat < (wDue (now + r3) span (T4 ++ [now + r3])).length) = decide (most < ((wDue (now + r3) span (T4 ++ [now + r3])).length : Int)) := by
            rw [Bool.eq_iff_iff, decide_eq_true_eq, decide_eq_true_eq]
            omega
          rw [z]
          simp
        k_steps
        · refine take_g (pre := [_, _, _, _, _, _, _, _]) (by assumption) (by k_asm) (by k_asm) N2 (by k_asm) (by show Option.map _ A.frames = _; rw [hA]; rfl) rfl rfl (by show A.depth + 1 < 700; first | exact room1 hroom (by decide) | exact room1 hdp (by decide) | omega) (by exact off_of oA) (off_app (fun p hp => dis2 p hp _ (.tail _ (.tail _ (.tail _ (.tail _ (.tail _ (.tail _ (.tail _ (.tail _ (.head _)))))))))) offS) hx hy0 hy (by decide) (by decide) ?_
          have hn1 := M2.now0
          have hn2 := M2.nowi
          have hin2 := M2.in_
          have hlen2 := M2.len
          have fx2 := dis_fix (pre := [_, _, _, _, _, _, _, _, _]) dis2
          have dr2 := dis_rest (pre := [_, _, _, _, _, _, _, _, _]) dis2
          clear hx hy0 hy N2
          intro r9 tr9 x9 y9 tx9 ty9 n9 h' tk' F' N' hx hy0 hy hr90 hr91
          have dis3 : ∀ p ∈ W2.led, ∀ q ∈ (I', oI) :: (LB + 1 + 1, oN2) :: (LB + 1, oS) :: (aW, instObj 200 dW) :: (dW, watDict w k1 k2 k3 most span tkq1 tkq2 W2.aT) :: (tD, oT) :: (l2, listOf (List.toArray vs2) n2) :: (l4, listOf (List.toArray (vs4 ++ [.int (now + r3) tkn])) (n4 + 1)) :: (aS, srcObj x9 y9 tx9 ty9 n9) :: rest, p.1 ≠ q.1 := dis_of (pre := [_, _, _, _, _, _, _, _, _]) fx2 dr2
          clear dis2 fx2 dr2
          have N2 : News _ _ _ ((I', oI) :: (LB + 1 + 1, oN2) :: (LB + 1, oS) :: (aW, instObj 200 dW) :: (dW, watDict w k1 k2 k3 most span tkq1 tkq2 W2.aT) :: (tD, oT) :: (l2, listOf (List.toArray vs2) n2) :: (l4, listOf (List.toArray (vs4 ++ [.int (now + r3) tkn])) (n4 + 1)) :: (aS, srcObj x9 y9 tx9 ty9 n9) :: (W2.led ++ rest)) := N'
          clear N'
          dsimp only
          k_steps
          · have NM := kst_newsOf (l' := W2.led ++ ((I', oI) :: (LB + 1 + 1, oN2) :: (LB + 1, oS) :: (aW, instObj 200 dW) :: (dW, watDict w k1 k2 k3 most span tkq1 tkq2 W2.aT) :: (tD, oT) :: (l2, listOf (List.toArray vs2) n2) :: (l4, listOf (List.toArray (vs4 ++ [.int (now + r3) tkn])) (n4 + 1)) :: (aS, srcObj x9 y9 tx9 ty9 n9) :: rest)) N2 (fun p hp => by exact led_front (pre := [_, _, _, _, _, _, _, _, _]) hp)
            have hdM : (dW, watDict w k1 k2 k3 most span tkq1 tkq2 W2.aT) ∈ (I', oI) :: (LB + 1 + 1, oN2) :: (LB + 1, oS) :: (aW, instObj 200 dW) :: (dW, watDict w k1 k2 k3 most span tkq1 tkq2 W2.aT) :: (tD, oT) :: (l2, listOf (List.toArray vs2) n2) :: (l4, listOf (List.toArray (vs4 ++ [.int (now + r3) tkn])) (n4 + 1)) :: (aS, srcObj x9 y9 tx9 ty9 n9) :: rest := (.tail _ (.tail _ (.tail _ (.tail _ (.head _)))))
            refine wpAny_call (expire_c (S := W2) (rest := (I', oI) :: (LB + 1 + 1, oN2) :: (LB + 1, oS) :: (aW, instObj 200 dW) :: (dW, watDict w k1 k2 k3 most span tkq1 tkq2 W2.aT) :: (tD, oT) :: (l2, listOf (List.toArray vs2) n2) :: (l4, listOf (List.toArray (vs4 ++ [.int (now + r3) tkn])) (n4 + 1)) :: (aS, srcObj x9 y9 tx9 ty9 n9) :: rest) (by assumption) (by k_asm) (by k_asm) NM (by k_asm) (by show Option.map _ A.frames = _; rw [hA]; rfl) rfl rfl (by show A.depth + 1 < 590; first | exact room1 hroom (by decide) | exact room1 hdp (by decide) | omega) (by exact hh) (by show A.units + 3 < 8000; first | exact room3 hun (by decide) | omega) (.tail _ (.tail _ (.tail _ (.head _)))) hdM dis3 ⟨hs1, hs9⟩ ⟨by omega, by omega⟩ (fun mac => ⟨by have := hlen2 mac; omega, fun t ht => ⟨(hin2 mac t ht).1, by have := (hin2 mac t ht).2; omega⟩⟩) (WatS.rows2 M2.keys) ?_)
            clear NM N2
            intro W3 h' tk' F' N' e3T hrows3 hkeys3 hget3 dis4
            have M3 := M2.keep hkeys3 hget3
            rw [← e3T] at N' dis4
            have NZ := kst_newsOf (l' := (I', oI) :: (LB + 1 + 1, oN2) :: (LB + 1, oS) :: (aW, instObj 200 dW) :: (dW, watDict w k1 k2 k3 most span tkq1 tkq2 W3.aT) :: (tD, oT) :: (l2, listOf (List.toArray vs2) n2) :: (l4, listOf (List.toArray (vs4 ++ [.int (now + r3) tkn])) (n4 + 1)) :: (aS, srcObj x9 y9 tx9 ty9 n9) :: (W3.led ++ rest)) N' (fun p hp => by exact led_back (pre := [_, _, _, _, _, _, _, _, _]) hp)
            clear N'
            dsimp only
            k_steps
            have fixZ : ∀ p ∈ W3.led, p.1 ∉ [(LB + 1 + 1 : Nat), (LB + 1 : Nat), aW, dW, tD, l2, l4, aS] := fun p hp h => dis_fix (pre := [_, _, _, _, _, _, _, _, _]) dis4 p hp (.tail _ h)
            have disZ : ∀ p ∈ W3.led, ∀ q ∈ rest, p.1 ≠ q.1 := fun p hp q hq => dis4 p hp q (.tail _ (.tail _ (.tail _ (.tail _ (.tail _ (.tail _ (.tail _ (.tail _ (.tail _ hq)))))))))
            have offN : ∀ p ∈ (LB + 1 + 1, oN2) :: (LB + 1, oS) :: (aW, instObj 200 dW) :: (dW, watDict w k1 k2 k3 most span tkq1 tkq2 W3.aT) :: (tD, oT) :: (l2, listOf (List.toArray vs2) n2) :: (l4, listOf (List.toArray (vs4 ++ [.int (now + r3) tkn])) (n4 + 1)) :: (aS, srcObj x9 y9 tx9 ty9 n9) :: (W3.led ++ rest), p.1 ≠ I' := off_app (a := [_, _, _, _, _, _, _, _]) (by exact off_of fun z hz => (fo z hz).symm) (off_app (fun p hp => dis4 p hp _ (.head _)) fun p hp => ho p (.tail _ (.tail _ (.tail _ (.tail _ (.tail _ (.tail _ (.tail _ (.tail _ (List.mem_append_right _ hp))))))))))
            exact ⟨_, _, _, _, rfl, by k_asm, NZ, offN, (by exact upd3_of), W3, now + r3, tkn, oN2, x9, y9, tx9, ty9, n9, vs2, (vs4 ++ [.int (now + r3) tkn]), T2, (T4 ++ [now + r3]), n2, (n4 + 1), rfl, hdN2, hv2, hvT, M3, hx, hy0, hy, fixZ, disZ⟩
          · rename News _ _ _ _ => NZ
            have fixZ : ∀ p ∈ W2.led, p.1 ∉ [(LB + 1 + 1 : Nat), (LB + 1 : Nat), aW, dW, tD, l2, l4, aS] := fun p hp h => dis_fix (pre := [_, _, _, _, _, _, _, _, _]) dis3 p hp (.tail _ h)
            have disZ : ∀ p ∈ W2.led, ∀ q ∈ rest, p.1 ≠ q.1 := fun p hp q hq => dis3 p hp q (.tail _ (.tail _ (.tail _ (.tail _ (.tail _ (.tail _ (.tail _ (.tail _ (.tail _ hq)))))))))
            have offN : ∀ p ∈ (LB + 1 + 1, oN2) :: (LB + 1, oS) :: (aW, instObj 200 dW) :: (dW, watDict w k1 k2 k3 most span tkq1 tkq2 W2.aT) :: (tD, oT) :: (l2, listOf (List.toArray vs2) n2) :: (l4, listOf (List.toArray (vs4 ++ [.int (now + r3) tkn])) (n4 + 1)) :: (aS, srcObj x9 y9 tx9 ty9 n9) :: (W2.led ++ rest), p.1 ≠ I' := off_app (a := [_, _, _, _, _, _, _, _]) (by exact off_of fun z hz => (fo z hz).symm) (off_app (fun p hp => dis3 p hp _ (.head _)) fun p hp => ho p (.tail _ (.tail _ (.tail _ (.tail _ (.tail _ (.tail _ (.tail _ (.tail _ (List.mem_append_right _ hp))))))))))
            exact ⟨_, _, _, _, rfl, by k_asm, NZ, offN, (by exact upd3_of), W2, now + r3, tkn, oN2, x9, y9, tx9, ty9, n9, vs2, (vs4 ++ [.int (now + r3) tkn]), T2, (T4 ++ [now + r3]), n2, (n4 + 1), rfl, hdN2, hv2, hvT, M2, hx, hy0, hy, fixZ, disZ⟩
      · intro j ys v I2 oI2 C oC DD m₂ h tk E' hj hv hys hC hx' F' N' o3 hne
        have hik : j < (T4 ++ [now + r3]).length := by simp at hj ⊢; omega
        obtain ⟨t, hvt⟩ := hvT.get j (T4 ++ [now + r3])[j] (by simp [hik])
        have hv' : (vs4 ++ [Value.int (now + r3) tkn])[j]? = some v := by simpa using hv
        rw [hvt] at hv'
        obtain rfl := Option.some.inj hv'
        have htk : wDue (now + r3) span ((T4 ++ [now + r3]).take (j + 1)) = wDue (now + r3) span ((T4 ++ [now + r3]).take j) ++ if now + r3 - span < (T4 ++ [now + r3])[j] then [(T4 ++ [now + r3])[j]] else [] := by
          unfold wDue
          rw [List.take_add_one, List.getElem?_eq_getElem hik, List.filter_append]
          congr 1
          by_cases hc : now + r3 - span < (T4 ++ [now + r3])[j] <;> simp [hc]
        generalize (T4 ++ [now + r3])[j] = tv at *
        k_steps
        · refine PyProof.Rows.LCg.CompEnd.intro (by k_asm) (by k_asm) _ (fun p hp => hp) o3 (.inr ⟨_, (.tail _ (.tail _ (.tail _ (.tail _ (.tail _ (.tail _ (.tail _ (.head _)))))))), rfl, _, rfl⟩) ⟨rfl, ?_⟩
          rw [htk, if_pos (by assumption)]
          exact ints_snoc hys _ _
        · refine PyProof.Rows.LCg.CompEnd.intro (by k_asm) (by k_asm) _ (fun p hp => hp) o3 (.inr ⟨_, (.tail _ (.tail _ (.tail _ (.tail _ (.tail _ (.tail _ (.tail _ (.head _)))))))), rfl, _, rfl⟩) ⟨rfl, ?_⟩
          rw [htk, if_neg (by assumption), List.append_nil]
          exact hys
  · rintro vt vm vd nx h' tk' ⟨Wi, now, tn, oNi, x, y, tx, ty, n, vs2, vs4, T2, T4, n2, n4, rfl, hdN, hv2, hv4, hM, hx, hy0, hy, fixi, disi⟩ F' N'
    k_steps
    exact ret _ _ _ _ _ _ _ (by k_asm) (kst_newsOf (by k_asm) fun p hp => by
      rcases List.mem_cons.mp hp with rfl | hp
      · exact .tail _ (.tail _ (.tail _ (.tail _ (.tail _ (.tail _ (.tail _ (.head _)))))))
      · exact .tail _ (.tail _ (.tail _ (.tail _ (.tail _ (.tail _ (.tail _ (.tail _ (List.mem_append_right _ hp))))))))) hx hy0 hy
theorem set_L14 : True := by
  w_top off
  k_with_none
  k_with "way M" => refine' code_defM ?k1 ?k2 ?k3 ?k4 ?k5 ?kA ?kF ?kK ?kD ?k6 ?k7 ?k8 ?k9 ?kB ?_ ?c2 ?c3 ?c4 ?c5; (case kA => assumption); (case kF => assumption); (case kK => assumption); (case kD => assumption); (case k1 => k_asm); (case k2 => k_asm); (case k3 => k_asm); (case k4 => k_asm); (case k5 => k_asm); (case k6 => k_is); (case k7 => k_is); (case k8 => ktr_room); (case k9 => first | exact BindsTo.of_eq rfl | exact binds_K (by k_in) rfl (by k_is) rfl rfl rfl); (case c5 => decide); (case kB => exact locs rfl); (case c2 => exact rfl); (case c3 => exact rfl); (case c4 => exact rfl); k_whole
  k_with "way C" => refine' code_defC ?k1 ?k2 ?k3 ?k4 ?k5 ?kA ?kF ?kK ?k6 ?k7 ?k8 ?k9 ?kB ?kD ?_ ?c2 ?c3 ?c4; (case kA => first | assumption | exact rfl); (case kF => first | assumption | exact rfl); (case kK => assumption); (case k1 => k_asm); (case k2 => k_asm); (case k3 => k_asm); (case k4 => k_asm); (case k5 => k_asm); (case k6 => k_is); (case k7 => k_is); (case k8 => ktr_room); (case k9 => first | exact BindsTo.of_eq rfl | exact binds_K (by k_in) rfl (by k_is) rfl rfl rfl); (case kB => exact rfl); (case kD => decide +kernel); (case c2 => exact rfl); (case c3 => exact rfl); (case c4 => exact rfl); k_whole
  k_with "way D" => refine' code_def ?k1 ?k2 ?k3 ?k4 ?k5 ?kA ?kF ?kK ?k6 ?k7 ?k8 ?k9 ?kB ?_ ?c2 ?c3 ?c4 ?c5; (case kA => first | assumption | exact rfl); (case kF => first | assumption | exact rfl); (case kK => assumption); (case k1 => k_asm); (case k2 => k_asm); (case k3 => k_asm); (case k4 => k_asm); (case k5 => k_asm); (case k6 => k_is); (case k7 => k_is); (case k8 => ktr_room); (case k9 => first | exact BindsTo.of_eq rfl | exact binds_K (by k_in) rfl (by k_is) rfl rfl rfl); (case c5 => decide); (case kB => exact locs rfl); (case c2 => exact rfl); (case c3 => exact rfl); (case c4 => exact rfl); k_whole
  k_with "way CM" => refine' code_defCM ?k1 ?k2 ?k3 ?k4 ?k5 ?kA ?kF ?kK ?kE ?k6 ?k7 ?k8 ?k9 ?kB ?kD ?_ ?c2 ?c3 ?c4; (case kA => assumption); (case kF => assumption); (case kK => assumption); (case kE => assumption); (case k1 => k_asm); (case k2 => k_asm); (case k3 => k_asm); (case k4 => k_asm); (case k5 => k_asm); (case k6 => k_is); (case k7 => k_is); (case k8 => ktr_room); (case k9 => first | exact BindsTo.of_eq rfl | exact binds_K (by k_in) rfl (by k_is) rfl rfl rfl); (case kB => exact rfl); (case kD => decide +kernel); (case c2 => exact rfl); (case c3 => exact rfl); (case c4 => exact rfl); k_whole
  k_with "exec For Name Call cons nil" => (k_here; (with_unfolding_all refine' For_invVF (by k_asm) (by exact rfl) (by exact rfl) ?_; k_whole))
  k_with "unpackItems ref" => (k_here; k_dflt (refine' unpackItemsN_ (by k_asm) (by k_asm) (by kun_tup) (by assumption) (by exact rfl) ?_; k_whole); intro _ _ _; (try k_sweep))
  k_with "subscriptTail Name Name ref int" => ((with_reducible first | show wpAny _ _ (subscriptTail _ _ (Value.ref (LimS.aR _)) _) _ _ _ | show wpAny _ _ (subscriptTail _ _ (Value.ref (BookS.aB _)) _) _ _ _); refine stop_here ?_)
  k_with "compareOp In int ref" => ((with_reducible first | show wpAny _ _ (compareOp _ _ (Value.ref (LimS.aR _))) _ _ _ | show wpAny _ _ (compareOp _ _ (Value.ref (BookS.aB _))) _ _ _ | show wpAny _ _ (compareOp _ _ (Value.ref (LRow.kA _))) _ _ _ | show wpAny _ _ (compareOp _ _ (Value.ref (BRow.kA _))) _ _ _); refine stop_here ?_)
  k_with "compareOp NotIn int ref" => ((with_reducible first | show wpAny _ _ (compareOp _ _ (Value.ref (LimS.aR _))) _ _ _ | show wpAny _ _ (compareOp _ _ (Value.ref (BookS.aB _))) _ _ _ | show wpAny _ _ (compareOp _ _ (Value.ref (LRow.kA _))) _ _ _ | show wpAny _ _ (compareOp _ _ (Value.ref (BRow.kA _))) _ _ _); refine stop_here ?_)
  k_with "getMethod ref" => ((with_reducible first | show wpAny _ _ (getMethod (Value.ref (LimS.aR _)) _ _) _ _ _ | show wpAny _ _ (getMethod (Value.ref (BookS.aB _)) _ _) _ _ _); refine stop_here ?_)
  k_with "call builtin:len" => ((with_reducible first | show wpAny _ _ (call _ [Value.ref (LRow.kA _)]) _ _ _ | show wpAny _ _ (call _ [Value.ref (BRow.kA _)]) _ _ _); refine stop_here ?_)
  k_with "call ref" => ((with_reducible first | show wpAny _ _ (call (Value.ref 124) [Value.ref (LimS.aL _), _]) _ _ _); refine stop_here ?_)
  k_with "subscriptTail Name Slice ref ref" => refine stop_here ?_
  k_with "subscriptTail Attribute Name Name ref int" => ((with_reducible show wpAny _ _ (subscriptTail _ _ (Value.ref (LimS.aR _)) _) _ _ _); k_dflt (refine kba_turn (value' := PySem.Expr.Name (PySem.Str.ofString "_") ⟨0, 0, 0, 0⟩) (fun _ => rfl) ?_))
  k_with "subscriptTail Attribute Name ref int" => ((with_reducible show wpAny _ _ (subscriptTail _ _ (Value.ref (LimS.aR _)) _) _ _ _); k_dflt (refine kba_turn (value' := PySem.Expr.Name (PySem.Str.ofString "_") ⟨0, 0, 0, 0⟩) (fun _ => rfl) ?_))
  k_with "subscriptTail Subscript Subscript" => ((with_reducible show wpAny _ _ (subscriptTail _ _ (Value.ref (BRow.kA _)) _) _ _ _); k_dflt (refine kba_turn (value' := PySem.Expr.Name (PySem.Str.ofString "_") ⟨0, 0, 0, 0⟩) (fun _ => rfl) ?_))
  k_with "exec Raise" => refine stop_here ?_
  k_with "subscriptTail Subscript Name Name Constant ref int" => ((with_reducible show wpAny _ _ (subscriptTail _ _ (Value.ref (BRow.bA _)) _) _ _ _); k_dflt (refine item_at (vs := BRow.items _) (News.isList (by k_asm) (by k_mem)) (by decide) (by decide) rfl ?_))
  k_with "subscriptTail Name Constant ref int" => ((with_reducible show wpAny _ _ (subscriptTail _ _ (Value.ref (BRow.bA _)) _) _ _ _); k_dflt (refine item_at (vs := BRow.items _) (News.isList (by k_asm) (by k_mem)) (by decide) (by decide) rfl ?_))
  k_with "setItem ref int" => ((with_reducible show wpAny _ _ (setItem (Value.ref (BookS.aB _)) _ _) _ _ _); refine stop_here ?_)
  k_with "setItem ref int ref" => ((with_reducible show wpAny _ _ (setItem (Value.ref (BookS.aB _)) _ _) _ _ _); refine stop_here ?_)
  k_with "call ref" => ((with_reducible first | show wpAny _ _ (call (Value.ref 218) _) _ _ _ | show wpAny _ _ (call (Value.ref 225) _) _ _ _ | show wpAny _ _ (call (Value.ref 131) _) _ _ _ | show wpAny _ _ (call (Value.ref 237) _) _ _ _ | show wpAny _ _ (call (Value.ref 138) _) _ _ _ | show wpAny _ _ (call (Value.ref 159) _) _ _ _ | show wpAny _ _ (call (Value.ref 110) _) _ _ _ | show wpAny _ _ (call (Value.ref 117) _) _ _ _ | show wpAny _ _ (call (Value.ref 242) _) _ _ _); refine stop_here ?_)
  k_with "subscriptTail" => (k_here; k_dflt (refine kim_list (lo := BRow.obj _) (l := BRow.items _) (by k_asm) (by k_mem) rfl rfl (by decide) (by decide) rfl ?_))
  trivial
theorem deed_c {w : World} {A A₀ : Around} {env : Env} {outer : List Env} {base h₀ : Heap} {L : Addr} {m : Str → Option Value} {s : Shared} {R : Result → Shared → Prop}
    {loose : List Str} {mean : ExcName → Option Value} {mg mb : Str → Option Value} {rest lam : List (Addr × Obj)} {S : LimS w} {Bk : BookS w} {aS : Addr} {x y : Int} {tx ty n : Nat}
    (B : Below A₀ base outer h₀) (F : Fr h₀ L s.heap m) (X : (Mine.hd.heap_1 w.params).In h₀) (N : News h₀ L s.heap (deed S Bk aS x y tx ty n (lam ++ rest))) (T : Top topProg loose mean mg mb h₀) (hA : A.frames = some (env :: outer)) (hf : env.frame = some L) (hke : env.scope.kind = .function) (hroom : A.depth < 520) (hh : A.handled = none) (hun : A.units < 7900) (D : KtsDicts (frs outer) h₀) (XB : (Mine.hd.heap_1 w.params).In base) (CH : CodeHd h₀ 241 239)
    (e : S.abs = Bk.abs) (I : Inv Bk.abs) (Ap : Apart (deed S Bk aS x y tx ty n (lam ++ rest))) (hx : 0 ≤ x) (hy0 : 0 ≤ y) (hy : y < 2147483647) (Lm : Lam lam)
    (ret : ∀ (S' : LimS w) (Bk' : BookS w) x' y' tx' ty' n' lam' h₀' h' tk', Back A₀ base outer h₀ L m h' (deed S' Bk' aS x' y' tx' ty' n' (lam' ++ rest)) h₀' → Apart (deed S' Bk' aS x' y' tx' ty' n' (lam' ++ rest)) → S'.aL = S.aL → Bk'.aB = Bk.aB → S'.abs = Bk'.abs → Inv Bk'.abs → Lam lam' → 0 ≤ x' → 0 ≤ y' → y' < 2147483647 →
      R (.ok (.ret (.bool true))) { s with heap := h', toks := tk' }) :
    codeAny (model PR w) A (.call (.ref 249) ⟨[.ref aS, .ref S.aL, .ref Bk.aB], []⟩) R s := by
  first | k_dflt ktr_enter | fail "no way in"
  k_steps
  refine take_d (pre := []) (by assumption) (by k_asm) (by k_asm) (by k_asm) (by k_asm) (by show Option.map _ A.frames = _; rw [hA]; rfl) rfl rfl (by show A.depth + 1 < 700; first | exact room1 hroom (by decide) | exact room1 hdp (by decide) | omega) Ap (fun _ h => nomatch h) hx hy0 hy (by decide) (by decide) ?_
  clear Ap hx hy0 hy
  intro r tr x y tx ty n h' tk' F' N' Ap hx hy0 hy hr0 hr1
  rw [List.nil_append] at N'
  dsimp only
  k_steps
  refine take_d (pre := []) (by assumption) (by k_asm) (by k_asm) N' (by k_asm) (by show Option.map _ A.frames = _; rw [hA]; rfl) rfl rfl (by show A.depth + 1 < 700; first | exact room1 hroom (by decide) | exact room1 hdp (by decide) | omega) Ap (fun _ h => nomatch h) hx hy0 hy (by decide) (by decide) ?_
  clear Ap hx hy0 hy
  intro r2 tr2 x y tx ty n h' tk' F' N' Ap hx hy0 hy hr20 hr21
  rw [List.nil_append] at N'
  dsimp only
  k_steps
  refine take_d (pre := []) (by assumption) (by k_asm) (by k_asm) N' (by k_asm) (by show Option.map _ A.frames = _; rw [hA]; rfl) rfl rfl (by show A.depth + 1 < 700; first | exact room1 hroom (by decide) | exact room1 hdp (by decide) | omega) Ap (fun _ h => nomatch h) hx hy0 hy (by decide) (by decide) ?_
  clear Ap hx hy0 hy
  intro r3 tr3 x y tx ty n h' tk' F' N' Ap hx hy0 hy hr30 hr31
  rw [List.nil_append] at N'
  dsimp only
  have IS : Inv S.abs := by rw [e]; exact I
  have hport : ∃ port, 1 + r2 = port := ⟨_, rfl⟩
  obtain ⟨port, hport⟩ := hport
  obtain ⟨mac, hmac⟩ : ∃ mac, 2 * r3 = mac := ⟨_, rfl⟩
  have hd := Bk.hd
  have lo := Bk.lo
  have hlen := BookS.len I
  have mB := deed_B (S := S) (T := Bk) (aS := aS) (x := x) (y := y) (tx := tx) (ty := ty) (n := n) (rest := lam ++ rest)
  have hb1 : ∀ r ∈ Bk.rows, (r.bA, r.obj) ∈ deed S Bk aS x y tx ty n (lam ++ rest) := fun r h => deed_b1 h
  have hb2 : ∀ r ∈ Bk.rows, (r.kA, listOf r.vs.toArray r.kn) ∈ deed S Bk aS x y tx ty n (lam ++ rest) := fun r h => deed_b2 h
  k_steps
  all_goals
    rename Fr _ _ _ _ => FF
    rename News _ _ _ _ => NN
    rw [hport, hmac] at FF
    have ND : News _ _ _ (deed S Bk aS x y tx ty n (lam ++ rest)) := kst_newsOf NN (fun p hp => by first | exact hp | exact .tail _ hp)
    clear NN
  · rw [hport, hmac]
    have NS := kst_newsOf (l' := S.led ++ (Bk.led ++ ((aS, srcObj x y tx ty n) :: (lam ++ rest)))) ND fun p hp => sub_S hp
    refine wpAny_call (asked_c (rest := Bk.led ++ ((aS, srcObj x y tx ty n) :: (lam ++ rest))) (by assumption) (by k_asm) (by k_asm) NS (by k_asm) (by show Option.map _ A.frames = _; rw [hA]; rfl) rfl rfl (by show A.depth + 1 < 590; first | exact room1 hroom (by decide) | exact room1 hdp (by decide) | omega) (by exact hh) IS (apart_S Ap) ?_)
    intro t1 S' h' tk' F' N' aP e1 e2
    clear NS
    k_steps
    have NT := kst_newsOf (l' := Bk.led ++ (S'.led ++ ((aS, srcObj x y tx ty n) :: (lam ++ rest)))) N' fun p hp => from_S (sub_T hp)
    clear N'
    refine wpAny_call (lasked_c (rest := S'.led ++ ((aS, srcObj x y tx ty n) :: (lam ++ rest))) (by assumption) (by k_asm) (by k_asm) NT (by k_asm) (by show Option.map _ A.frames = _; rw [hA]; rfl) rfl rfl (by show A.depth + 1 < 590; first | exact room1 hroom (by decide) | exact room1 hdp (by decide) | omega) (by exact hh) (by show A.units + 3 < 9000; first | exact room3 hun (by decide) | omega) I (apart_T (apart_S' aP)) ?_)
    intro t2 Bk' h' tk' F' N' aT f1 f2
    have hval : ((askedS S.abs port mac).1 == (askedS Bk.abs port mac).1) = true := by rw [e]; simp
    k_steps
    exact ⟨_, _, _, _, KtsTurn.refl, by k_asm, kst_newsOf (by k_asm) fun p hp => from_T hp, fun h₀' Y => by rw [hval]; exact ret S' Bk' _ _ _ _ _ lam h₀' _ _ Y (apart_T' aT) e1 f1 (by rw [e2, f2, e]) (by rw [f2]; exact inv_asked I) Lm hx hy0 hy⟩
  · rw [hport]
    rcases BookS.val I port with ⟨ea, hv⟩ | ⟨r, hr, rfl, ea, hv⟩
    · refine kda_in (by k_asm) (by k_mem) hd lo (intKind_is _ _ _ _) false (by rw [hv]; rfl) ?_
      k_steps
      refine kda_in (by k_asm) (by k_mem) hd lo (intKind_is _ _ _ _) false (by rw [hv]; rfl) ?_
      k_steps
      rename News _ _ _ _ => NN
      have NS := kst_newsOf (l' := S.led ++ (Bk.led ++ ((aS, srcObj x y tx ty n) :: (lam ++ rest)))) NN fun p hp => sub_S hp
      have eo : openS S.abs port = (false, S.abs) := by rw [e]; simp only [openS, ea]
      refine wpAny_call (open_c (rest := Bk.led ++ ((aS, srcObj x y tx ty n) :: (lam ++ rest))) (by assumption) (by k_asm) (by k_asm) NS (by k_asm) (by show Option.map _ A.frames = _; rw [hA]; rfl) rfl rfl (by show A.depth + 1 < 590; first | exact room1 hroom (by decide) | exact room1 hdp (by decide) | omega) (by exact hh) IS (apart_S Ap) ?_)
      intro S' h' tk' F' N' aP e1 e2
      rw [eo] at e2
      have hval : ((openS S.abs port).1 == false) = true := by rw [eo]; rfl
      k_steps
      exact ⟨_, _, _, _, KtsTurn.refl, by k_asm, kst_newsOf (by k_asm) fun p hp => from_S hp, fun h₀' Y => by rw [hval]; exact ret S' Bk _ _ _ _ _ lam h₀' _ _ Y (apart_S' aP) e1 rfl (by rw [e2, e]) (I) Lm hx hy0 hy⟩
    · have p1 := hb1 r hr
      refine kda_in (by k_asm) (by k_mem) hd lo (intKind_is _ _ _ _) true (by rw [hv]; rfl) ?_
      k_steps
      refine kda_item (by k_asm) (by k_mem) hd (intKind_is _ _ _ _) hv ?_
      k_steps
      refine kda_in (by k_asm) (by k_mem) hd lo (intKind_is _ _ _ _) true (by rw [hv]; rfl) ?_
      k_steps
      refine kda_item (by k_asm) (by k_mem) hd (intKind_is _ _ _ _) hv ?_
      k_steps
      refine setat_c (vs := r.items) (n := r.bn) (by k_asm) (by k_asm) (by k_mem) (by decide) (by simp [BRow.items]) (by decide) ?_
      intro h' F' N'
      obtain ⟨B2, z1, z2, z3, z4⟩ := deed_row [] I hr Ap { r with a := { r.a with shut := false } } N' (fun _ h => nomatch h) rfl rfl rfl rfl rfl
      rw [List.nil_append] at z4
      clear N'
      k_steps
      rename News _ _ _ _ => NN
      have NS := kst_newsOf (l' := S.led ++ (B2.led ++ ((aS, srcObj x y tx ty n) :: (lam ++ rest)))) NN fun p hp => sub_S hp
      have eo : openS S.abs r.port = (r.a.shut, upd S.abs r.port { r.a with shut := false }) := by rw [e]; simp only [openS, ea]
      refine wpAny_call (open_c (rest := B2.led ++ ((aS, srcObj x y tx ty n) :: (lam ++ rest))) (by assumption) (by k_asm) (by k_asm) NS (by k_asm) (by show Option.map _ A.frames = _; rw [hA]; rfl) rfl rfl (by show A.depth + 1 < 590; first | exact room1 hroom (by decide) | exact room1 hdp (by decide) | omega) (by exact hh) IS (apart_S z3) ?_)
      intro S' h' tk' F' N' aP e1 e2
      rw [eo] at e2
      have hval : ((openS S.abs r.port).1 == r.a.shut) = true := by rw [eo]; simp
      k_steps
      exact ⟨_, _, _, _, KtsTurn.refl, by k_asm, kst_newsOf (by k_asm) fun p hp => from_S hp, fun h₀' Y => by rw [hval]; exact ret S' B2 _ _ _ _ _ lam h₀' _ _ Y (apart_S' aP) e1 z1 (by rw [e2, z2, e]) (by rw [z2]; exact inv_same I ea rfl rfl (Nat.le_refl _) fun k hk => hk) Lm hx hy0 hy⟩
  · rw [hport]
    rcases BookS.val I port with ⟨ea, hv⟩ | ⟨r, hr, rfl, ea, hv⟩
    · refine kda_in (by k_asm) (by k_mem) hd lo (intKind_is _ _ _ _) false (by rw [hv]; rfl) ?_
      k_steps
      rename News _ _ _ _ => NN
      have NS := kst_newsOf (l' := S.led ++ (Bk.led ++ ((aS, srcObj x y tx ty n) :: (lam ++ rest)))) NN fun p hp => sub_S hp
      have eo : downS S.abs port = S.abs := by rw [e]; simp only [downS, ea]
      refine wpAny_call (down_c (rest := Bk.led ++ ((aS, srcObj x y tx ty n) :: (lam ++ rest))) (by assumption) (by k_asm) (by k_asm) NS (by k_asm) (by show Option.map _ A.frames = _; rw [hA]; rfl) rfl rfl (by show A.depth + 1 < 590; first | exact room1 hroom (by decide) | exact room1 hdp (by decide) | omega) (by exact hh) IS (apart_S Ap) ?_)
      intro S' h' tk' F' N' aP e1 e2
      rw [eo] at e2
      k_steps
      exact ⟨_, _, _, _, KtsTurn.refl, by k_asm, kst_newsOf (by k_asm) fun p hp => from_S hp, fun h₀' Y => ret S' Bk _ _ _ _ _ lam h₀' _ _ Y (apart_S' aP) e1 rfl (by rw [e2, e]) (I) Lm hx hy0 hy⟩
    · have p1 := hb1 r hr
      refine kda_in (by k_asm) (by k_mem) hd lo (intKind_is _ _ _ _) true (by rw [hv]; rfl) ?_
      k_steps
      refine kda_item (by k_asm) (by k_mem) hd (intKind_is _ _ _ _) hv ?_
      k_steps
      · rename News _ _ _ _ => NN
        have NS := kst_newsOf (l' := S.led ++ (Bk.led ++ ((aS, srcObj x y tx ty n) :: (lam ++ rest)))) NN fun p hp => sub_S hp
        have hst : r.a.stay = true := by simp [*]
        have eo : downS S.abs r.port = S.abs := by rw [e]; simp only [downS, ea]; rw [if_pos hst]
        refine wpAny_call (down_c (rest := Bk.led ++ ((aS, srcObj x y tx ty n) :: (lam ++ rest))) (by assumption) (by k_asm) (by k_asm) NS (by k_asm) (by show Option.map _ A.frames = _; rw [hA]; rfl) rfl rfl (by show A.depth + 1 < 590; first | exact room1 hroom (by decide) | exact room1 hdp (by decide) | omega) (by exact hh) IS (apart_S Ap) ?_)
        intro S' h' tk' F' N' aP e1 e2
        rw [eo] at e2
        k_steps
        exact ⟨_, _, _, _, KtsTurn.refl, by k_asm, kst_newsOf (by k_asm) fun p hp => from_S hp, fun h₀' Y => ret S' Bk _ _ _ _ _ lam h₀' _ _ Y (apart_S' aP) e1 rfl (by rw [e2, e]) (I) Lm hx hy0 hy⟩
      · have hst : r.a.stay = false := by simp [*]
        have eo : downS S.abs r.port = upd S.abs r.port { r.a with known := [] } := by rw [e]; simp only [downS, ea]; rw [if_neg (by simp [hst])]
        rename (∀ p ∈ deed S Bk aS x y tx ty n (lam ++ rest), _) => lx
        refine kda_item (by k_asm) (by k_mem) hd (intKind_is _ _ _ _) hv ?_
        k_steps
        refine setat_c (vs := r.items) (n := r.bn) (by k_asm) (by k_asm) (by k_mem) (by decide) (by simp [BRow.items]) (by decide) ?_
        intro h' F' N'
        obtain ⟨B2, z1, z2, z3, z4⟩ := deed_fresh I hr Ap { r with a := { r.a with known := [] }, kA := _, vs := [], ok := .nil, kn := 0 } N' (.head _) (fun p hp => .tail _ hp) rfl rfl (fun p hp => Nat.ne_of_lt (lx p hp))
        clear N'
        k_steps
        rename News _ _ _ _ => NN
        have NS := kst_newsOf (l' := S.led ++ (B2.led ++ ((aS, srcObj x y tx ty n) :: (lam ++ rest)))) NN fun p hp => sub_S hp
        refine wpAny_call (down_c (rest := B2.led ++ ((aS, srcObj x y tx ty n) :: (lam ++ rest))) (by assumption) (by k_asm) (by k_asm) NS (by k_asm) (by show Option.map _ A.frames = _; rw [hA]; rfl) rfl rfl (by show A.depth + 1 < 590; first | exact room1 hroom (by decide) | exact room1 hdp (by decide) | omega) (by exact hh) IS (apart_S z3) ?_)
        intro S' h' tk' F' N' aP e1 e2
        rw [eo] at e2
        k_steps
        exact ⟨_, _, _, _, KtsTurn.refl, by k_asm, kst_newsOf (by k_asm) fun p hp => from_S hp, fun h₀' Y => ret S' B2 _ _ _ _ _ lam h₀' _ _ Y (apart_S' aP) e1 z1 (by rw [e2, z2, e]) (by rw [z2]; exact inv_same I ea rfl rfl (Nat.zero_le _) fun k hk => nomatch hk) Lm hx hy0 hy⟩
  · refine take_d (pre := []) (by assumption) (by k_asm) (by k_asm) ND (by k_asm) (by show Option.map _ A.frames = _; rw [hA]; rfl) rfl rfl (by show A.depth + 1 < 700; first | exact room1 hroom (by decide) | exact room1 hdp (by decide) | omega) Ap (fun _ h => nomatch h) hx hy0 hy (by decide) (by decide) ?_
    clear Ap hx hy0 hy mB hb1 hb2 ND
    intro r5 tr5 x y tx ty n h' tk' F' N' Ap hx hy0 hy hr50 hr51
    rw [List.nil_append] at N'
    dsimp only
    k_steps
    rename News _ _ _ _ => NN
    rename (∀ p ∈ deed S Bk aS x y tx ty n (lam ++ rest), _) => lx
    refine one_d (pre := [_]) (vs := [_, _]) (by assumption) (by k_asm) (by k_asm) NN (by k_asm) (by show Option.map _ A.frames = _; rw [hA]; rfl) rfl rfl (by show A.depth + 1 < 690; first | exact room1 hroom (by decide) | exact room1 hdp (by decide) | omega) Ap (fun p hp => by rw [List.mem_singleton.mp hp]; exact Nat.ne_of_gt (lx _ deed_src)) hx hy0 hy (.head _) (by simp) (by simp) ?_
    clear NN Ap hx hy0 hy
    intro v x y tx ty n h' tk' F' N' Ap hx hy0 hy hv
    obtain ⟨way, tw, rfl, hw⟩ : ∃ way t, v = .str way t ∧ (way = "drop" ∨ way = "shut") := by
      simp only [List.mem_cons, List.not_mem_nil, or_false] at hv
      rcases hv with rfl | rfl
      · exact ⟨_, _, rfl, .inl rfl⟩
      · exact ⟨_, _, rfl, .inr rfl⟩
    rw [List.cons_append, List.nil_append] at N'
    dsimp only
    k_steps
    refine take_d (pre := [_]) (by assumption) (by k_asm) (by k_asm) N' (by k_asm) (by show Option.map _ A.frames = _; rw [hA]; rfl) rfl rfl (by show A.depth + 1 < 700; first | exact room1 hroom (by decide) | exact room1 hdp (by decide) | omega) Ap (fun p hp => by rw [List.mem_singleton.mp hp]; exact Nat.ne_of_gt (lx _ deed_src)) hx hy0 hy (by decide) (by decide) ?_
    clear Ap hx hy0 hy
    intro r6 tr6 x y tx ty n h' tk' F' N' Ap hx hy0 hy hr60 hr61
    have ND : News _ _ _ (deed S Bk aS x y tx ty n (lam ++ rest)) := kst_newsOf N' (fun p hp => .tail _ hp)
    clear N'
    dsimp only
    have mB := deed_B (S := S) (T := Bk) (aS := aS) (x := x) (y := y) (tx := tx) (ty := ty) (n := n) (rest := lam ++ rest)
    have hb1 : ∀ r ∈ Bk.rows, (r.bA, r.obj) ∈ deed S Bk aS x y tx ty n (lam ++ rest) := fun r h => deed_b1 h
    have hb2 : ∀ r ∈ Bk.rows, (r.kA, listOf r.vs.toArray r.kn) ∈ deed S Bk aS x y tx ty n (lam ++ rest) := fun r h => deed_b2 h
    clear lx
    k_steps
    rename News _ _ _ _ => NN
    have ND : News _ _ _ (deed S Bk aS x y tx ty n (lam ++ rest)) := kst_newsOf NN (fun p hp => .tail _ hp)
    clear NN
    rcases BookS.val I port with ⟨ea, hv⟩ | ⟨r, hr, hrp, ea, hv⟩
    case' inl =>
      refine kda_in (by k_asm) (by k_mem) hd lo (intKind_is _ _ _ _) false (by rw [hv]; rfl) ?_
      k_steps
      rename News _ _ _ _ => NN
      rename (∀ p ∈ deed S Bk aS x y tx ty n (lam ++ rest), _) => lk1
      rename (_ ∧ AllLt _ (deed S Bk aS x y tx ty n (lam ++ rest))) => lb1
      have hk : (knownS Bk.abs port).take (1 + r5).toNat = [] := by simp [knownS, ea]
      obtain ⟨vs, hi, hvs⟩ : ∃ (vs : List Value), IntsAre vs ((knownS Bk.abs port).take (1 + r5).toNat) ∧ vs.toArray = #[] := ⟨[], by rw [hk]; exact .nil, rfl⟩
      rw [← hvs] at NN
    case' inr =>
      have p1 := hb1 r hr
      have p2 := hb2 r hr
      have hml : r.a.known.length ≤ 3 := I.klen (BookS.mabs hr)
      refine kda_in (by k_asm) (by k_mem) hd lo (intKind_is _ _ _ _) true (by rw [hv]; rfl) ?_
      k_steps
      refine kda_item (by k_asm) (by k_mem) hd (intKind_is _ _ _ _) hv ?_
      k_steps
      k_dflt (refine' kmk_slice_ints (vs := r.vs) (ns := r.a.known) (ms := r.a.known.take (1 + r5).toNat) ?aF ?aN ?al ?ap ?aq r.ok ?am rfl ?_ ?as ?a9 ?az)
      case aF => k_asm
      case aN => k_asm
      case al => exact News.isList (by k_asm) p2
      case ap => kmk_part
      case aq => kmk_part
      case am => exact kmk_upto r.ok (by omega)
      case as => with_unfolding_all rfl
      case a9 => kmk_pure
      case az => exact kmk_sz r.ok (by rw [sizeLine_eq]; omega)
      intro lk vs h' F' N' lk1 hi _ _
      k_steps
      rename News _ _ _ _ => NN
      rename (_ ∧ AllLt _ (deed S Bk aS x y tx ty n (lam ++ rest))) => lb1
      have hk : knownS Bk.abs port = r.a.known := by simp only [knownS, ea]
      rw [← hk] at hi
    all_goals
      have lb2 := allLt_mem lb1.2
      refine seti_c (by k_asm) NN (by k_mem) hd (intKind_is _ _ _ _) (by simp [kvsB]; omega) ?_
      intro h' o' F' N' hd'
      obtain ⟨B2, z1, z2, z3, z4⟩ := deed_set I Ap ⟨port, ⟨1 + r5, way, r6 == 0, (knownS Bk.abs port).take (1 + r5).toNat, false⟩, _, _, vs, hi, _, tw, 0, 0⟩ hd' N' (.head _) (.tail _ (.head _)) (fun p hp => .tail _ (.tail _ hp)) (fun p hp => Nat.ne_of_lt (lb2 p hp)) (fun p hp => Nat.ne_of_lt (lk1 p hp)) (Nat.ne_of_gt lb1.1)
      clear N' NN
      k_steps
      have NS := kst_newsOf (l' := S.led ++ (B2.led ++ ((aS, srcObj x y tx ty n) :: (lam ++ rest)))) z4 fun p hp => sub_S hp
      refine wpAny_call (set_c (rest := B2.led ++ ((aS, srcObj x y tx ty n) :: (lam ++ rest))) (by assumption) (by k_asm) (by k_asm) NS (by k_asm) (by show Option.map _ A.frames = _; rw [hA]; rfl) rfl rfl (by show A.depth + 1 < 590; first | exact room1 hroom (by decide) | exact room1 hdp (by decide) | omega) (by exact hh) IS (apart_S z3) (by omega) (by omega) hw ?_)
      intro S' h' tk' F' N' aP e1 e2
      k_steps
      exact ⟨_, _, _, _, KtsTurn.refl, by k_asm, kst_newsOf (by k_asm) fun p hp => from_S hp, fun h₀' Y => ret S' B2 _ _ _ _ _ lam h₀' _ _ Y (apart_S' aP) e1 z1 (by rw [e2, z2, e]) (by rw [z2]; show Inv (setS Bk.abs port ⟨1 + r5, way, r6 == 0, (knownS Bk.abs port).take (1 + r5).toNat, false⟩); exact inv_set I (by omega) (by omega) hw) Lm hx hy0 hy⟩
  · refine popm_c (by k_asm) mB hd ?_
    k_steps
    refine pop_c (by k_asm) (by k_asm) mB hd lo (intKind_is _ _ _ _) (by rfl) (by simp [kvsB]; omega) ?_
    intro v h' o' F' N' hd'
    obtain ⟨B2, z1, z2, z3, z4⟩ := deed_drop Ap hd' N' (fun p hp => hp)
    clear N'
    k_steps
    rename News _ _ _ _ => NN
    have NS := kst_newsOf (l' := S.led ++ (B2.led ++ ((aS, srcObj x y tx ty n) :: (lam ++ rest)))) NN fun p hp => sub_S hp
    refine wpAny_call (drop_c (rest := B2.led ++ ((aS, srcObj x y tx ty n) :: (lam ++ rest))) (by assumption) (by k_asm) (by k_asm) NS (by k_asm) (by show Option.map _ A.frames = _; rw [hA]; rfl) rfl rfl (by show A.depth + 1 < 590; first | exact room1 hroom (by decide) | exact room1 hdp (by decide) | omega) (by exact hh) IS (apart_S z3) ?_)
    intro S' h' tk' F' N' aP e1 e2
    k_steps
    exact ⟨_, _, _, _, KtsTurn.refl, by k_asm, kst_newsOf (by k_asm) fun p hp => from_S hp, fun h₀' Y => ret S' B2 _ _ _ _ _ lam h₀' _ _ Y (apart_S' aP) e1 z1 (by rw [e2, z2, e]) (by rw [z2]; exact inv_filter I) Lm hx hy0 hy⟩
  · rw [hport, hmac]
    refine wpAny_call (told_c (by assumption) (by k_asm) (by k_asm) ND (by k_asm) (by show Option.map _ A.frames = _; rw [hA]; rfl) rfl rfl (by show A.depth + 1 < 530; first | exact room1 hroom (by decide) | exact room1 hdp (by decide) | omega) (by exact hh) (by show A.units + 3 < 8000; first | exact room3 hun (by decide) | omega) (Front.dicts (by assumption)) XB (CH.keeps (Front.stays (by assumption))) e I Ap hx hy0 hy Lm ?_)
    intro S' Bk' x' y' tx' ty' n' lam' h₀2 h' tk' Y aP e1 e2 e3 I' Lm' hx' hy0' hy'
    exact ⟨_, _, _, _, Y.turn, Y.fr, Y.news, fun h₀' Y' => ret S' Bk' x' y' tx' ty' n' lam' h₀' _ _ Y' aP e1 e2 e3 I' Lm' hx' hy0' hy'⟩
theorem set_L18 : True := by
  w_top off
  k_with_none
  k_with "way M" => refine' code_defM ?k1 ?k2 ?k3 ?k4 ?k5 ?kA ?kF ?kK ?kD ?k6 ?k7 ?k8 ?k9 ?kB ?_ ?c2 ?c3 ?c4 ?c5; (case kA => assumption); (case kF => assumption); (case kK => assumption); (case kD => assumption); (case k1 => k_asm); (case k2 => k_asm); (case k3 => k_asm); (case k4 => k_asm); (case k5 => k_asm); (case k6 => k_is); (case k7 => k_is); (case k8 => ktr_room); (case k9 => first | exact BindsTo.of_eq rfl | exact binds_K (by k_in) rfl (by k_is) rfl rfl rfl); (case c5 => decide); (case kB => exact locs rfl); (case c2 => exact rfl); (case c3 => exact rfl); (case c4 => exact rfl); k_whole
  k_with "way C" => refine' code_defC ?k1 ?k2 ?k3 ?k4 ?k5 ?kA ?kF ?kK ?k6 ?k7 ?k8 ?k9 ?kB ?kD ?_ ?c2 ?c3 ?c4; (case kA => first | assumption | exact rfl); (case kF => first | assumption | exact rfl); (case kK => assumption); (case k1 => k_asm); (case k2 => k_asm); (case k3 => k_asm); (case k4 => k_asm); (case k5 => k_asm); (case k6 => k_is); (case k7 => k_is); (case k8 => ktr_room); (case k9 => first | exact BindsTo.of_eq rfl | exact binds_K (by k_in) rfl (by k_is) rfl rfl rfl); (case kB => exact rfl); (case kD => decide +kernel); (case c2 => exact rfl); (case c3 => exact rfl); (case c4 => exact rfl); k_whole
  k_with "way D" => refine' code_def ?k1 ?k2 ?k3 ?k4 ?k5 ?kA ?kF ?kK ?k6 ?k7 ?k8 ?k9 ?kB ?_ ?c2 ?c3 ?c4 ?c5; (case kA => first | assumption | exact rfl); (case kF => first | assumption | exact rfl); (case kK => assumption); (case k1 => k_asm); (case k2 => k_asm); (case k3 => k_asm); (case k4 => k_asm); (case k5 => k_asm); (case k6 => k_is); (case k7 => k_is); (case k8 => ktr_room); (case k9 => first | exact BindsTo.of_eq rfl | exact binds_K (by k_in) rfl (by k_is) rfl rfl rfl); (case c5 => decide); (case kB => exact locs rfl); (case c2 => exact rfl); (case c3 => exact rfl); (case c4 => exact rfl); k_whole
  k_with "way CM" => refine' code_defCM ?k1 ?k2 ?k3 ?k4 ?k5 ?kA ?kF ?kK ?kE ?k6 ?k7 ?k8 ?k9 ?kB ?kD ?_ ?c2 ?c3 ?c4; (case kA => assumption); (case kF => assumption); (case kK => assumption); (case kE => assumption); (case k1 => k_asm); (case k2 => k_asm); (case k3 => k_asm); (case k4 => k_asm); (case k5 => k_asm); (case k6 => k_is); (case k7 => k_is); (case k8 => ktr_room); (case k9 => first | exact BindsTo.of_eq rfl | exact binds_K (by k_in) rfl (by k_is) rfl rfl rfl); (case kB => exact rfl); (case kD => decide +kernel); (case c2 => exact rfl); (case c3 => exact rfl); (case c4 => exact rfl); k_whole
  k_with "exec For Name Call cons nil" => (k_here; (with_unfolding_all refine' For_invVF (by k_asm) (by exact rfl) (by exact rfl) ?_; k_whole))
  k_with "unpackItems ref" => (k_here; k_dflt (refine' unpackItemsN_ (by k_asm) (by k_asm) (by kun_tup) (by assumption) (by exact rfl) ?_; k_whole); intro _ _ _; (try k_sweep))
  k_with "subscriptTail Name Name ref int" => ((with_reducible first | show wpAny _ _ (subscriptTail _ _ (Value.ref (LimS.aR _)) _) _ _ _ | show wpAny _ _ (subscriptTail _ _ (Value.ref (BookS.aB _)) _) _ _ _); refine stop_here ?_)
  k_with "compareOp In int ref" => ((with_reducible first | show wpAny _ _ (compareOp _ _ (Value.ref (LimS.aR _))) _ _ _ | show wpAny _ _ (compareOp _ _ (Value.ref (BookS.aB _))) _ _ _ | show wpAny _ _ (compareOp _ _ (Value.ref (LRow.kA _))) _ _ _ | show wpAny _ _ (compareOp _ _ (Value.ref (BRow.kA _))) _ _ _); refine stop_here ?_)
  k_with "compareOp NotIn int ref" => ((with_reducible first | show wpAny _ _ (compareOp _ _ (Value.ref (LimS.aR _))) _ _ _ | show wpAny _ _ (compareOp _ _ (Value.ref (BookS.aB _))) _ _ _ | show wpAny _ _ (compareOp _ _ (Value.ref (LRow.kA _))) _ _ _ | show wpAny _ _ (compareOp _ _ (Value.ref (BRow.kA _))) _ _ _); refine stop_here ?_)
  k_with "getMethod ref" => ((with_reducible first | show wpAny _ _ (getMethod (Value.ref (LimS.aR _)) _ _) _ _ _ | show wpAny _ _ (getMethod (Value.ref (BookS.aB _)) _ _) _ _ _); refine stop_here ?_)
  k_with "call builtin:len" => ((with_reducible first | show wpAny _ _ (call _ [Value.ref (LRow.kA _)]) _ _ _ | show wpAny _ _ (call _ [Value.ref (BRow.kA _)]) _ _ _); refine stop_here ?_)
  k_with "call ref" => ((with_reducible first | show wpAny _ _ (call (Value.ref 124) [Value.ref (LimS.aL _), _]) _ _ _); refine stop_here ?_)
  k_with "subscriptTail Name Slice ref ref" => refine stop_here ?_
  k_with "subscriptTail Attribute Name Name ref int" => ((with_reducible show wpAny _ _ (subscriptTail _ _ (Value.ref (LimS.aR _)) _) _ _ _); k_dflt (refine kba_turn (value' := PySem.Expr.Name (PySem.Str.ofString "_") ⟨0, 0, 0, 0⟩) (fun _ => rfl) ?_))
  k_with "subscriptTail Attribute Name ref int" => ((with_reducible show wpAny _ _ (subscriptTail _ _ (Value.ref (LimS.aR _)) _) _ _ _); k_dflt (refine kba_turn (value' := PySem.Expr.Name (PySem.Str.ofString "_") ⟨0, 0, 0, 0⟩) (fun _ => rfl) ?_))
  k_with "subscriptTail Subscript Subscript" => ((with_reducible show wpAny _ _ (subscriptTail _ _ (Value.ref (BRow.kA _)) _) _ _ _); k_dflt (refine kba_turn (value' := PySem.Expr.Name (PySem.Str.ofString "_") ⟨0, 0, 0, 0⟩) (fun _ => rfl) ?_))
  k_with "exec Raise" => refine stop_here ?_
  k_with "subscriptTail Subscript Name Name Constant ref int" => ((with_reducible show wpAny _ _ (subscriptTail _ _ (Value.ref (BRow.bA _)) _) _ _ _); k_dflt (refine item_at (vs := BRow.items _) (News.isList (by k_asm) (by k_mem)) (by decide) (by decide) rfl ?_))
  k_with "subscriptTail Name Constant ref int" => ((with_reducible show wpAny _ _ (subscriptTail _ _ (Value.ref (BRow.bA _)) _) _ _ _); k_dflt (refine item_at (vs := BRow.items _) (News.isList (by k_asm) (by k_mem)) (by decide) (by decide) rfl ?_))
  trivial
theorem limits_c {w : World} {A A₀ : Around} {env : Env} {outer : List Env} {base h₀ : Heap} {L : Addr} {m : Str → Option Value} {s : Shared} {R : Result → Shared → Prop}
    {loose : List Str} {mean : ExcName → Option Value} {mg mb : Str → Option Value} {news : List (Addr × Obj)}
    (B : Below A₀ base outer h₀) (F : Fr h₀ L s.heap m) (X : (Mine.hd.heap_1 w.params).In h₀) (N : News h₀ L s.heap news) (T : Top topProg loose mean mg mb h₀) (hA : A.frames = some (env :: outer)) (hf : env.frame = some L) (hke : env.scope.kind = .function) (hroom : A.depth < 595) (hh : A.handled = none)
    (ret : ∀ (S : LimS w) h' tk', Fr h₀ L h' m → News h₀ L h' (S.led ++ news) → S.abs = [] → (∀ p ∈ S.led, ∀ q ∈ news, q.1 < p.1) → Apart S.led → R (.ok (.ret (.ref S.aL))) { s with heap := h', toks := tk' }) :
    codeAny (model PR w) A (.call (.ref 169) ⟨[], []⟩) R s := by
  refine make_K (K := Mine.hd.heap_1 w.params) F N (X.keeps F.keep) (by k_is) (by k_is) (by k_is) ?_
  intro x d h' F' N' l1 l2
  have off : OwnOff news [d] := fun p hp b hb => by rw [List.mem_singleton.mp hb]; exact Nat.ne_of_lt (l1 p hp)
  have l3 := l2
  k_lt2 l2
  first | k_dflt ktr_enter | fail "no way in"
  k_steps
  rename Obj.IsDictOf (intKind PR w) _ [] => hi9
  rename (_ == sysModules) = false => lo9
  rename _ ∧ _ ∧ AllLt _ news => l9
  rename News _ _ _ _ => NN
  have NR := news_rot NN
  have q1 : ∀ q ∈ news, @LT.lt Nat _ q.1 x := fun q hq => Nat.lt_trans (l1 q hq) l3
  have q2 : ∀ q ∈ news, @LT.lt Nat _ q.1 _ := fun q hq => Nat.lt_trans (l1 q hq) l9.2.1
  exact ret ⟨x, d, _, _, 1, _, [], hi9, lo9⟩ _ _ (by k_asm) (by exact NR) rfl (fun p hp q hq => by
    simp only [LimS.led, List.flatMap_nil, List.mem_cons, List.not_mem_nil, or_false] at hp
    rcases hp with rfl | rfl | rfl
    · exact q1 q hq
    · exact l1 q hq
    · exact q2 q hq) (by
    simp only [Apart, LimS.led, List.flatMap_nil, List.map_cons, List.map_nil, List.nodup_cons, List.mem_cons, List.not_mem_nil, or_false, not_or, List.nodup_nil, and_true, not_false_eq_true]
    exact ⟨⟨Nat.ne_of_gt l3, Nat.ne_of_lt l9.1⟩, Nat.ne_of_lt l9.2.1⟩)
theorem set3_c {w : World} {A A₀ : Around} {env : Env} {outer : List Env} {base h₀ : Heap} {L : Addr} {m : Str → Option Value} {s : Shared} {R : Result → Shared → Prop}
    {loose : List Str} {mean : ExcName → Option Value} {mg mb : Str → Option Value} {rest : List (Addr × Obj)} {S : LimS w} {port most : Int} {tp tm tw : Nat} {way : Str}
    (B : Below A₀ base outer h₀) (F : Fr h₀ L s.heap m) (X : (Mine.hd.heap_1 w.params).In h₀) (N : News h₀ L s.heap (S.led ++ rest)) (T : Top topProg loose mean mg mb h₀) (hA : A.frames = some (env :: outer)) (hf : env.frame = some L) (hke : env.scope.kind = .function) (hroom : A.depth < 590) (hh : A.handled = none) (I : Inv S.abs) (Ap : Apart (S.led ++ rest)) (hm1 : 1 ≤ most) (hm3 : most ≤ 3) (hw : way = "drop" ∨ way = "shut")
    (ret : ∀ (S' : LimS w) h' tk', Fr h₀ L h' m → News h₀ L h' (S'.led ++ rest) → Apart (S'.led ++ rest) → S'.aL = S.aL → S'.abs = setS S.abs port ⟨most, way, false, (knownS S.abs port).take most.toNat, false⟩ → R (.ok (.ret .none)) { s with heap := h', toks := tk' }) :
    codeAny (model PR w) A (.call (.ref 110) ⟨[.ref S.aL, .int port tp, .int most tm, .str way tw], []⟩) R s := by
  have hL := S.mL (rest := rest)
  have hD := S.mD (rest := rest)
  have hR := S.mR (rest := rest)
  have hr1 : ∀ r ∈ S.rows, (r.rA, instObj 84 r.rD) ∈ S.led ++ rest := fun r h => S.m1 h
  have hr2 : ∀ r ∈ S.rows, (r.rD, r.dict w.params) ∈ S.led ++ rest := fun r h => S.m2 h
  have hr3 : ∀ r ∈ S.rows, (r.kA, listOf r.vs.toArray r.kn) ∈ S.led ++ rest := fun r h => S.m3 h
  have hd := S.hd
  have lo := S.lo
  have hlen := LimS.len I
  first | k_dflt ktr_enter | fail "no way in"
  k_steps
  refine notin_tuple_strs (kun_topT (by k_asm) (by k_asm) (by k_is)) (.cons _ _ (.cons _ _ .nil)) ?_
  have hb : ([("drop" : Str), "shut"].any (· == way)) = true := by rcases hw with rfl | rfl <;> decide
  rw [hb]
  k_steps
  rcases LimS.val I port with ⟨ea, hv⟩ | ⟨r, hr, hrp, ea, hv⟩
  case' inl =>
    refine kda_in (by k_asm) (by k_mem) hd lo (intKind_is _ _ _ _) false (by rw [hv]; rfl) ?_
    k_steps
    rename_i lk _ l1 _ F' N'
    obtain ⟨vs, ks, hi, hk, hvs⟩ : ∃ (vs : List Value) (ks : List Int), IntsAre vs ks ∧ ks = (knownS S.abs port).take most.toNat ∧ vs.toArray = #[] := ⟨[], [], .nil, by simp [knownS, ea], rfl⟩
    rw [← hvs] at N'
  case' inr =>
    have q1 := hr1 r hr
    have q2 := hr2 r hr
    have q3 := hr3 r hr
    have hml : r.a.known.length ≤ 3 := I.klen (LimS.mabs hr)
    refine kda_in (by k_asm) (by k_mem) hd lo (intKind_is _ _ _ _) true (by rw [hv]; rfl) ?_
    k_steps
    refine kda_item (by k_asm) (by k_mem) hd (intKind_is _ _ _ _) hv ?_
    k_steps
    k_dflt (refine' kmk_slice_ints (vs := r.vs) (ns := r.a.known) (ms := r.a.known.take most.toNat) ?aF ?aN ?al ?ap ?aq r.ok ?am rfl ?_ ?as ?a9 ?az)
    case aF => k_asm
    case aN => k_asm
    case al => exact News.isList (by k_asm) q3
    case ap => kmk_part
    case aq => kmk_part
    case am => exact kmk_upto r.ok (by omega)
    case as => with_unfolding_all rfl
    case a9 => kmk_pure
    case az => exact kmk_sz r.ok (by rw [sizeLine_eq]; omega)
    intro lk vs h' F' N' l1 hi _ _
    have hk : r.a.known.take most.toNat = (knownS S.abs port).take most.toNat := by simp only [knownS, ea]
    k_steps
  all_goals
    rw [hk] at hi
    refine wpAny_call (row_c (by assumption) (by k_asm) (by k_asm) (by k_asm) (by k_asm) (by show Option.map _ A.frames = _; rw [hA]; rfl) rfl rfl (by show A.depth + 1 < 595; first | exact room1 hroom (by decide) | exact room1 hdp (by decide) | omega) (by exact hh) ?_)
    intro x d l k1 k2 k3 k4 k5 h' tk' F' N' lr1 lr2
    have fx : ∀ p ∈ S.led ++ rest, p.1 < d := fun p hp => lr1 p (.tail _ hp)
    have fk : lk < d := lr1 _ (.head _)
    k_steps
    refine seti_c (by k_asm) (by k_asm) (by k_mem) hd (intKind_is _ _ _ _) (by simp [kvsL]; omega) ?_
    intro h' o' F' N' hd'
    obtain ⟨e1, e2⟩ := LimS.ne3 Ap
    have aRd : S.aR < d := fx _ hR
    have aRx : S.aR < x := Nat.lt_trans aRd lr2
    have aRk : S.aR < lk := l1 _ hR
    have N2 := news_cons (.tail _ (mem_off (.tail _ (.head _)) (Nat.ne_of_gt aRd))) N' (news_cons (.tail _ (mem_off (.head _) (Nat.ne_of_gt aRx))) N' (news_cons (.tail _ (mem_off (.tail _ (.tail _ (.head _))) (Nat.ne_of_gt aRk))) N' (news_cons (.head _) N'
      (kst_newsOf (l' := (S.led ++ rest).filter fun p => p.1 != S.aR) N' fun p hp => .tail _ (mem_off (.tail _ (.tail _ (.tail _ (List.mem_filter.mp hp).1))) (by simpa using (List.mem_filter.mp hp).2))))))
    have o2 : OwnOff ((S.led ++ rest).filter fun p => p.1 != S.aR) [d] := fun p hp b hb => by
      rw [List.mem_singleton.mp hb]; exact Nat.ne_of_lt (fx p (List.mem_filter.mp hp).1)
    have g1 := mem_off hL e1
    have g2 := mem_off hD e2
    have aRd' := ltN aRd
    have fk' := ltN fk
    have lr2' := ltN lr2
    clear N'
    k_steps
    refine kda_item (by k_asm) (.tail _ (.tail _ (.tail _ (.head _)))) hd' (intKind_is _ _ _ _) stored_at ?_
    k_steps
    obtain ⟨S', z1, z2, z3, z4⟩ := LimS.set I Ap ⟨port, ⟨most, way, false, (knownS S.abs port).take most.toNat, false⟩, x, d, lk, vs, hi, k1, k2, k3, k4, k5, tm, tw, 0⟩ hd' (fun p hp => Nat.ne_of_lt (Nat.lt_trans (fx p hp) lr2)) (fun p hp => Nat.ne_of_lt (fx p hp)) (fun p hp => Nat.ne_of_lt (l1 p hp)) (Nat.ne_of_gt lr2) (Nat.ne_of_gt (Nat.lt_trans fk lr2)) (Nat.ne_of_gt fk)
    refine ret S' _ _ (by k_asm) (kst_newsOf (by k_asm) fun p hp => ?_) z3 z1 z2
    rcases z4 p hp with rfl | h | ⟨h, n1⟩
    · exact .tail _ (.tail _ (.tail _ (.head _)))
    · simp only [LRow.led, List.mem_cons, List.not_mem_nil, or_false] at h
      rcases h with rfl | rfl | rfl
      · exact .tail _ (.head _)
      · exact .head _
      · exact .tail _ (.tail _ (.head _))
    · exact .tail _ (.tail _ (.tail _ (.tail _ (mem_off h n1))))
theorem set_r44 {w : World} {A A₀ : Around} {env : Env} {outer : List Env} {base h₀ : Heap} {L : Addr} {m : Str → Option Value} {s : Shared} {R : Result → Shared → Prop}
    {loose : List Str} {mean : ExcName → Option Value} {mg mb : Str → Option Value} {news : List (Addr × Obj)} {port most : Int} {tp tm tw : Nat} {way : Str} {self : Value}
    (B : Below A₀ base outer h₀) (F : Fr h₀ L s.heap m) (X : (Mine.hd.heap_1 w.params).In h₀) (N : News h₀ L s.heap news) (T : Top topProg loose mean mg mb h₀) (hA : A.frames = some (env :: outer)) (hf : env.frame = some L) (hke : env.scope.kind = .function) (hroom : A.depth < 590) (hh : A.handled = none) (hm : most < 1)
    (ret : ∀ G e t vs h' tk, Fr h₀ L G m → RaisedS base G (env :: outer) e (.ref 44) t vs news h' → G.UpToSlots h' → R (.error (.ref e)) { s with heap := h', toks := tk }) :
    codeAny (model PR w) A (.call (.ref 110) ⟨[self, .int port tp, .int most tm, .str way tw], []⟩) R s := by
  first | k_dflt ktr_enter | fail "no way in"
  k_steps
  refine Raise_mine (K := Mine.hd.heap_1 w.params) (C := 44) (by exact hh) ?_
  k_steps
  refine wpAny_call (make44 (by assumption) (by k_asm) (by k_asm) (by k_asm) (by k_asm) (by show Option.map _ A.frames = _; rw [hA]; rfl) rfl rfl (by show A.depth + 1 < 600; first | exact room1 hroom (by decide) | exact room1 hdp (by decide) | omega) (by exact hh) ?_)
  intro e t d h' tk' F' N' l1 l2
  refine ⟨e, t, some d, rfl, (N' _ (.head _)).1, Frag.In.keeps (by k_asm) F'.keep, raises44 w, ?_⟩
  k_unfold
  refine leave_raiseT (news := news) (by assumption) (by k_asm) N' (fun p hp => hp) l1 l2 ?_
  intro h'' R' U'
  exact ret _ _ _ _ _ _ (by assumption) R' U'
theorem set_r64 {w : World} {A A₀ : Around} {env : Env} {outer : List Env} {base h₀ : Heap} {L : Addr} {m : Str → Option Value} {s : Shared} {R : Result → Shared → Prop}
    {loose : List Str} {mean : ExcName → Option Value} {mg mb : Str → Option Value} {news : List (Addr × Obj)} {port most : Int} {tp tm tw : Nat} {self : Value}
    (B : Below A₀ base outer h₀) (F : Fr h₀ L s.heap m) (X : (Mine.hd.heap_1 w.params).In h₀) (N : News h₀ L s.heap news) (T : Top topProg loose mean mg mb h₀) (hA : A.frames = some (env :: outer)) (hf : env.frame = some L) (hke : env.scope.kind = .function) (hroom : A.depth < 590) (hh : A.handled = none) (hm : 1 ≤ most)
    (ret : ∀ G e t vs h' tk, Fr h₀ L G m → RaisedS base G (env :: outer) e (.ref 64) t vs news h' → G.UpToSlots h' → R (.error (.ref e)) { s with heap := h', toks := tk }) :
    codeAny (model PR w) A (.call (.ref 110) ⟨[self, .int port tp, .int most tm, .str "let" tw], []⟩) R s := by
  first | k_dflt ktr_enter | fail "no way in"
  k_steps
  refine notin_tuple_strs (kun_topT (by k_asm) (by k_asm) (by k_is)) (.cons _ _ (.cons _ _ .nil)) ?_
  rw [show ([("drop" : Str), "shut"].any (· == ("let" : Str))) = false by decide]
  k_steps
  refine Raise_mine (K := Mine.hd.heap_1 w.params) (C := 64) (by exact hh) ?_
  k_steps
  refine wpAny_call (make64 (by assumption) (by k_asm) (by k_asm) (by k_asm) (by k_asm) (by show Option.map _ A.frames = _; rw [hA]; rfl) rfl rfl (by show A.depth + 1 < 600; first | exact room1 hroom (by decide) | exact room1 hdp (by decide) | omega) (by exact hh) ?_)
  intro e t d h' tk' F' N' l1 l2
  refine ⟨e, t, some d, rfl, (N' _ (.head _)).1, Frag.In.keeps (by k_asm) F'.keep, raises64 w, ?_⟩
  k_unfold
  refine leave_raiseT (news := news) (by assumption) (by k_asm) N' (fun p hp => hp) l1 l2 ?_
  intro h'' R' U'
  exact ret _ _ _ _ _ _ (by assumption) R' U'
theorem set_L18b : True := by
  w_top off
  k_with_none
  k_with "way M" => refine' code_defM ?k1 ?k2 ?k3 ?k4 ?k5 ?kA ?kF ?kK ?kD ?k6 ?k7 ?k8 ?k9 ?kB ?_ ?c2 ?c3 ?c4 ?c5; (case kA => assumption); (case kF => assumption); (case kK => assumption); (case kD => assumption); (case k1 => k_asm); (case k2 => k_asm); (case k3 => k_asm); (case k4 => k_asm); (case k5 => k_asm); (case k6 => k_is); (case k7 => k_is); (case k8 => ktr_room); (case k9 => first | exact BindsTo.of_eq rfl | exact binds_K (by k_in) rfl (by k_is) rfl rfl rfl); (case c5 => decide); (case kB => exact locs rfl); (case c2 => exact rfl); (case c3 => exact rfl); (case c4 => exact rfl); k_whole
  k_with "way C" => refine' code_defC ?k1 ?k2 ?k3 ?k4 ?k5 ?kA ?kF ?kK ?k6 ?k7 ?k8 ?k9 ?kB ?kD ?_ ?c2 ?c3 ?c4; (case kA => first | assumption | exact rfl); (case kF => first | assumption | exact rfl); (case kK => assumption); (case k1 => k_asm); (case k2 => k_asm); (case k3 => k_asm); (case k4 => k_asm); (case k5 => k_asm); (case k6 => k_is); (case k7 => k_is); (case k8 => ktr_room); (case k9 => first | exact BindsTo.of_eq rfl | exact binds_K (by k_in) rfl (by k_is) rfl rfl rfl); (case kB => exact rfl); (case kD => decide +kernel); (case c2 => exact rfl); (case c3 => exact rfl); (case c4 => exact rfl); k_whole
  k_with "way D" => refine' code_def ?k1 ?k2 ?k3 ?k4 ?k5 ?kA ?kF ?kK ?k6 ?k7 ?k8 ?k9 ?kB ?_ ?c2 ?c3 ?c4 ?c5; (case kA => first | assumption | exact rfl); (case kF => first | assumption | exact rfl); (case kK => assumption); (case k1 => k_asm); (case k2 => k_asm); (case k3 => k_asm); (case k4 => k_asm); (case k5 => k_asm); (case k6 => k_is); (case k7 => k_is); (case k8 => ktr_room); (case k9 => first | exact BindsTo.of_eq rfl | exact binds_K (by k_in) rfl (by k_is) rfl rfl rfl); (case c5 => decide); (case kB => exact locs rfl); (case c2 => exact rfl); (case c3 => exact rfl); (case c4 => exact rfl); k_whole
  k_with "way CM" => refine' code_defCM ?k1 ?k2 ?k3 ?k4 ?k5 ?kA ?kF ?kK ?kE ?k6 ?k7 ?k8 ?k9 ?kB ?kD ?_ ?c2 ?c3 ?c4; (case kA => assumption); (case kF => assumption); (case kK => assumption); (case kE => assumption); (case k1 => k_asm); (case k2 => k_asm); (case k3 => k_asm); (case k4 => k_asm); (case k5 => k_asm); (case k6 => k_is); (case k7 => k_is); (case k8 => ktr_room); (case k9 => first | exact BindsTo.of_eq rfl | exact binds_K (by k_in) rfl (by k_is) rfl rfl rfl); (case kB => exact rfl); (case kD => decide +kernel); (case c2 => exact rfl); (case c3 => exact rfl); (case c4 => exact rfl); k_whole
  k_with "exec For Name Call cons nil" => (k_here; (with_unfolding_all refine' For_invVF (by k_asm) (by exact rfl) (by exact rfl) ?_; k_whole))
  k_with "unpackItems ref" => (k_here; k_dflt (refine' unpackItemsN_ (by k_asm) (by k_asm) (by kun_tup) (by assumption) (by exact rfl) ?_; k_whole); intro _ _ _; (try k_sweep))
  k_with "subscriptTail Name Name ref int" => ((with_reducible first | show wpAny _ _ (subscriptTail _ _ (Value.ref (LimS.aR _)) _) _ _ _ | show wpAny _ _ (subscriptTail _ _ (Value.ref (BookS.aB _)) _) _ _ _); refine stop_here ?_)
  k_with "compareOp In int ref" => ((with_reducible first | show wpAny _ _ (compareOp _ _ (Value.ref (LimS.aR _))) _ _ _ | show wpAny _ _ (compareOp _ _ (Value.ref (BookS.aB _))) _ _ _ | show wpAny _ _ (compareOp _ _ (Value.ref (LRow.kA _))) _ _ _ | show wpAny _ _ (compareOp _ _ (Value.ref (BRow.kA _))) _ _ _); refine stop_here ?_)
  k_with "compareOp NotIn int ref" => ((with_reducible first | show wpAny _ _ (compareOp _ _ (Value.ref (LimS.aR _))) _ _ _ | show wpAny _ _ (compareOp _ _ (Value.ref (BookS.aB _))) _ _ _ | show wpAny _ _ (compareOp _ _ (Value.ref (LRow.kA _))) _ _ _ | show wpAny _ _ (compareOp _ _ (Value.ref (BRow.kA _))) _ _ _); refine stop_here ?_)
  k_with "getMethod ref" => ((with_reducible first | show wpAny _ _ (getMethod (Value.ref (LimS.aR _)) _ _) _ _ _ | show wpAny _ _ (getMethod (Value.ref (BookS.aB _)) _ _) _ _ _); refine stop_here ?_)
  k_with "call builtin:len" => ((with_reducible first | show wpAny _ _ (call _ [Value.ref (LRow.kA _)]) _ _ _ | show wpAny _ _ (call _ [Value.ref (BRow.kA _)]) _ _ _); refine stop_here ?_)
  k_with "call ref" => ((with_reducible first | show wpAny _ _ (call (Value.ref 124) [Value.ref (LimS.aL _), _]) _ _ _); refine stop_here ?_)
  k_with "subscriptTail Name Slice ref ref" => refine stop_here ?_
  k_with "subscriptTail Attribute Name Name ref int" => ((with_reducible show wpAny _ _ (subscriptTail _ _ (Value.ref (LimS.aR _)) _) _ _ _); k_dflt (refine kba_turn (value' := PySem.Expr.Name (PySem.Str.ofString "_") ⟨0, 0, 0, 0⟩) (fun _ => rfl) ?_))
  k_with "subscriptTail Attribute Name ref int" => ((with_reducible show wpAny _ _ (subscriptTail _ _ (Value.ref (LimS.aR _)) _) _ _ _); k_dflt (refine kba_turn (value' := PySem.Expr.Name (PySem.Str.ofString "_") ⟨0, 0, 0, 0⟩) (fun _ => rfl) ?_))
  k_with "subscriptTail Subscript Subscript" => ((with_reducible show wpAny _ _ (subscriptTail _ _ (Value.ref (BRow.kA _)) _) _ _ _); k_dflt (refine kba_turn (value' := PySem.Expr.Name (PySem.Str.ofString "_") ⟨0, 0, 0, 0⟩) (fun _ => rfl) ?_))
  k_with "exec Raise" => refine stop_here ?_
  k_with "subscriptTail Subscript Name Name Constant ref int" => ((with_reducible show wpAny _ _ (subscriptTail _ _ (Value.ref (BRow.bA _)) _) _ _ _); k_dflt (refine item_at (vs := BRow.items _) (News.isList (by k_asm) (by k_mem)) (by decide) (by decide) rfl ?_))
  k_with "subscriptTail Name Constant ref int" => ((with_reducible show wpAny _ _ (subscriptTail _ _ (Value.ref (BRow.bA _)) _) _ _ _); k_dflt (refine item_at (vs := BRow.items _) (News.isList (by k_asm) (by k_mem)) (by decide) (by decide) rfl ?_))
  trivial
theorem watch_r {w : World} {A A₀ : Around} {env : Env} {outer : List Env} {base h₀ : Heap} {L : Addr} {m : Str → Option Value} {s : Shared} {R : Result → Shared → Prop}
    {loose : List Str} {mean : ExcName → Option Value} {mg mb : Str → Option Value} {news : List (Addr × Obj)} {most span : Int} {tM tS : Nat}
    (B : Below A₀ base outer h₀) (F : Fr h₀ L s.heap m) (X : (Mine.hd.heap_1 w.params).In h₀) (N : News h₀ L s.heap news) (T : Top topProg loose mean mg mb h₀) (hA : A.frames = some (env :: outer)) (hf : env.frame = some L) (hke : env.scope.kind = .function) (hroom : A.depth < 590) (hh : A.handled = none) (hb : most < 1 ∨ (1 ≤ most ∧ span < 1))
    (ret : ∀ G e t vs h' tk, Fr h₀ L G m → RaisedS base G (env :: outer) e (.ref 44) t vs news h' → G.UpToSlots h' → R (.error (.ref e)) { s with heap := h', toks := tk }) :
    codeAny (model PR w) A (.call (.ref 200) ⟨[.int most tM, .int span tS], []⟩) R s := by
  refine make_K (K := Mine.hd.heap_1 w.params) F N (X.keeps F.keep) (by k_is) (by k_is) (by k_is) ?_
  intro x d h' F' N' l1 l2
  have off : OwnOff news [d] := fun p hp b hb => by rw [List.mem_singleton.mp hb]; exact Nat.ne_of_lt (l1 p hp)
  have l3 := l2
  k_lt2 l2
  first | k_dflt ktr_enter | fail "no way in"
  rcases hb with hb | ⟨hb, hb2⟩
  all_goals
    k_steps
    refine Raise_mine (K := Mine.hd.heap_1 w.params) (C := 44) (by exact hh) ?_
    k_steps
    refine wpAny_call (make44 (by assumption) (by k_asm) (by k_asm) (by k_asm) (by k_asm) (by show Option.map _ A.frames = _; rw [hA]; rfl) rfl rfl (by show A.depth + 1 + 1 < 600; omega) (by exact hh) ?_)
    intro e t d h' tk' F' N' l1 l2
    refine ⟨e, t, some d, rfl, (N' _ (.head _)).1, Frag.In.keeps (by k_asm) F'.keep, raises44 w, ?_⟩
    k_unfold
    refine leave_raiseT (news := news) (by assumption) (by k_asm) N' (fun p hp => .tail _ (.tail _ hp)) l1 l2 ?_
    intro h'' R' U'
    exact ret _ _ _ _ _ _ (by assumption) R' U'
theorem set_L19a : True := by
  w_top off
  k_with_none
  k_with "way M" => refine' code_defM ?k1 ?k2 ?k3 ?k4 ?k5 ?kA ?kF ?kK ?kD ?k6 ?k7 ?k8 ?k9 ?kB ?_ ?c2 ?c3 ?c4 ?c5; (case kA => assumption); (case kF => assumption); (case kK => assumption); (case kD => assumption); (case k1 => k_asm); (case k2 => k_asm); (case k3 => k_asm); (case k4 => k_asm); (case k5 => k_asm); (case k6 => k_is); (case k7 => k_is); (case k8 => ktr_room); (case k9 => first | exact BindsTo.of_eq rfl | exact binds_K (by k_in) rfl (by k_is) rfl rfl rfl); (case c5 => decide); (case kB => exact locs rfl); (case c2 => exact rfl); (case c3 => exact rfl); (case c4 => exact rfl); k_whole
  k_with "way C" => refine' code_defC ?k1 ?k2 ?k3 ?k4 ?k5 ?kA ?kF ?kK ?k6 ?k7 ?k8 ?k9 ?kB ?kD ?_ ?c2 ?c3 ?c4; (case kA => first | assumption | exact rfl); (case kF => first | assumption | exact rfl); (case kK => assumption); (case k1 => k_asm); (case k2 => k_asm); (case k3 => k_asm); (case k4 => k_asm); (case k5 => k_asm); (case k6 => k_is); (case k7 => k_is); (case k8 => ktr_room); (case k9 => first | exact BindsTo.of_eq rfl | exact binds_K (by k_in) rfl (by k_is) rfl rfl rfl); (case kB => exact rfl); (case kD => decide +kernel); (case c2 => exact rfl); (case c3 => exact rfl); (case c4 => exact rfl); k_whole
  k_with "way D" => refine' code_def ?k1 ?k2 ?k3 ?k4 ?k5 ?kA ?kF ?kK ?k6 ?k7 ?k8 ?k9 ?kB ?_ ?c2 ?c3 ?c4 ?c5; (case kA => first | assumption | exact rfl); (case kF => first | assumption | exact rfl); (case kK => assumption); (case k1 => k_asm); (case k2 => k_asm); (case k3 => k_asm); (case k4 => k_asm); (case k5 => k_asm); (case k6 => k_is); (case k7 => k_is); (case k8 => ktr_room); (case k9 => first | exact BindsTo.of_eq rfl | exact binds_K (by k_in) rfl (by k_is) rfl rfl rfl); (case c5 => decide); (case kB => exact locs rfl); (case c2 => exact rfl); (case c3 => exact rfl); (case c4 => exact rfl); k_whole
  k_with "way CM" => refine' code_defCM ?k1 ?k2 ?k3 ?k4 ?k5 ?kA ?kF ?kK ?kE ?k6 ?k7 ?k8 ?k9 ?kB ?kD ?_ ?c2 ?c3 ?c4; (case kA => assumption); (case kF => assumption); (case kK => assumption); (case kE => assumption); (case k1 => k_asm); (case k2 => k_asm); (case k3 => k_asm); (case k4 => k_asm); (case k5 => k_asm); (case k6 => k_is); (case k7 => k_is); (case k8 => ktr_room); (case k9 => first | exact BindsTo.of_eq rfl | exact binds_K (by k_in) rfl (by k_is) rfl rfl rfl); (case kB => exact rfl); (case kD => decide +kernel); (case c2 => exact rfl); (case c3 => exact rfl); (case c4 => exact rfl); k_whole
  k_with "exec For Name Call cons nil" => (k_here; (with_unfolding_all refine' For_invVF (by k_asm) (by exact rfl) (by exact rfl) ?_; k_whole))
  k_with "unpackItems ref" => (k_here; k_dflt (refine' unpackItemsN_ (by k_asm) (by k_asm) (by kun_tup) (by assumption) (by exact rfl) ?_; k_whole); intro _ _ _; (try k_sweep))
  k_with "subscriptTail Name Name ref int" => ((with_reducible first | show wpAny _ _ (subscriptTail _ _ (Value.ref (LimS.aR _)) _) _ _ _ | show wpAny _ _ (subscriptTail _ _ (Value.ref (BookS.aB _)) _) _ _ _); refine stop_here ?_)
  k_with "compareOp In int ref" => ((with_reducible first | show wpAny _ _ (compareOp _ _ (Value.ref (LimS.aR _))) _ _ _ | show wpAny _ _ (compareOp _ _ (Value.ref (BookS.aB _))) _ _ _ | show wpAny _ _ (compareOp _ _ (Value.ref (LRow.kA _))) _ _ _ | show wpAny _ _ (compareOp _ _ (Value.ref (BRow.kA _))) _ _ _); refine stop_here ?_)
  k_with "compareOp NotIn int ref" => ((with_reducible first | show wpAny _ _ (compareOp _ _ (Value.ref (LimS.aR _))) _ _ _ | show wpAny _ _ (compareOp _ _ (Value.ref (BookS.aB _))) _ _ _ | show wpAny _ _ (compareOp _ _ (Value.ref (LRow.kA _))) _ _ _ | show wpAny _ _ (compareOp _ _ (Value.ref (BRow.kA _))) _ _ _); refine stop_here ?_)
  k_with "getMethod ref" => ((with_reducible first | show wpAny _ _ (getMethod (Value.ref (LimS.aR _)) _ _) _ _ _ | show wpAny _ _ (getMethod (Value.ref (BookS.aB _)) _ _) _ _ _); refine stop_here ?_)
  k_with "call builtin:len" => ((with_reducible first | show wpAny _ _ (call _ [Value.ref (LRow.kA _)]) _ _ _ | show wpAny _ _ (call _ [Value.ref (BRow.kA _)]) _ _ _); refine stop_here ?_)
  k_with "call ref" => ((with_reducible first | show wpAny _ _ (call (Value.ref 124) [Value.ref (LimS.aL _), _]) _ _ _); refine stop_here ?_)
  k_with "subscriptTail Name Slice ref ref" => refine stop_here ?_
  k_with "subscriptTail Attribute Name Name ref int" => ((with_reducible show wpAny _ _ (subscriptTail _ _ (Value.ref (LimS.aR _)) _) _ _ _); k_dflt (refine kba_turn (value' := PySem.Expr.Name (PySem.Str.ofString "_") ⟨0, 0, 0, 0⟩) (fun _ => rfl) ?_))
  k_with "subscriptTail Attribute Name ref int" => ((with_reducible show wpAny _ _ (subscriptTail _ _ (Value.ref (LimS.aR _)) _) _ _ _); k_dflt (refine kba_turn (value' := PySem.Expr.Name (PySem.Str.ofString "_") ⟨0, 0, 0, 0⟩) (fun _ => rfl) ?_))
  k_with "subscriptTail Subscript Subscript" => ((with_reducible show wpAny _ _ (subscriptTail _ _ (Value.ref (BRow.kA _)) _) _ _ _); k_dflt (refine kba_turn (value' := PySem.Expr.Name (PySem.Str.ofString "_") ⟨0, 0, 0, 0⟩) (fun _ => rfl) ?_))
  k_with "exec Raise" => refine stop_here ?_
  k_with "subscriptTail Subscript Name Name Constant ref int" => ((with_reducible show wpAny _ _ (subscriptTail _ _ (Value.ref (BRow.bA _)) _) _ _ _); k_dflt (refine item_at (vs := BRow.items _) (News.isList (by k_asm) (by k_mem)) (by decide) (by decide) rfl ?_))
  k_with "subscriptTail Name Constant ref int" => ((with_reducible show wpAny _ _ (subscriptTail _ _ (Value.ref (BRow.bA _)) _) _ _ _); k_dflt (refine item_at (vs := BRow.items _) (News.isList (by k_asm) (by k_mem)) (by decide) (by decide) rfl ?_))
  k_with "call builtin:max" => ((with_reducible show wpAny _ _ (call (Value.builtin _) [Value.int _ _, Value.int _ _]) _ _ _); (with_reducible rename News _ _ _ _ => N'); (with_unfolding_all apply max_two_N); (case hh => assumption); (case N => exact N'); (case F => assumption); clear N'; intro _ _ _ _)
  trivial
theorem pool_c {w : World} {A A₀ : Around} {env : Env} {outer : List Env} {base h₀ : Heap} {L : Addr} {m : Str → Option Value} {s : Shared} {R : Result → Shared → Prop}
    {loose : List Str} {mean : ExcName → Option Value} {mg mb : Str → Option Value} {news : List (Addr × Obj)} {aX : Addr} {vs : List Value} {ns : List Int} {t0 : Nat}
    (B : Below A₀ base outer h₀) (F : Fr h₀ L s.heap m) (X : (Mine.hd.heap_1 w.params).In h₀) (N : News h₀ L s.heap news) (T : Top topProg loose mean mg mb h₀) (hA : A.frames = some (env :: outer)) (hf : env.frame = some L) (hke : env.scope.kind = .function) (hroom : A.depth < 590) (hh : A.handled = none) (hl : h₀.IsList aX vs.toArray) (hi : IntsAre vs ns) (hn : ns.length ≤ 63)
    (ret : ∀ l x y tx ty n h' tk', Fr h₀ L h' m → News h₀ L h' ((l, srcObj x y tx ty n) :: news) → (∀ p ∈ news, p.1 < l) → 0 ≤ x → 0 ≤ y → y < 2147483647 → R (.ok (.ret (.ref l))) { s with heap := h', toks := tk' }) :
    codeAny (model PR w) A (.call (.ref 211) ⟨[.ref aX, .int 0 t0], []⟩) R s := by
  first | k_dflt ktr_enter | fail "no way in"
  rename Fr h₀ L _ m => FGx
  have hl2 := hl.at fun o e => FGx.keep _ _ e
  have hvl := hi.length
  k_steps
  all_goals
    rename (∀ p ∈ news, _) => lf
    refine ret _ _ _ _ _ _ _ _ (by k_asm) (by k_asm) lf ?_ (fmod_lo _ _ (by omega)) (fmod_hi _ _ (by omega))
    exact Int.mul_nonneg (by split <;> omega) (by split <;> omega)
section
section
variable {w : World} {S : LimS w} {T : BookS w} {aS I : Addr} {x y : Int} {tx ty n : Nat} {lam rest : List (Addr × Obj)} {oI : Obj}
theorem deed_perm : (deed S T aS x y tx ty n (lam ++ ((I, oI) :: rest))).Perm ((I, oI) :: deed S T aS x y tx ty n (lam ++ rest)) := by
  unfold deed
  have := List.perm_middle (a := (I, oI)) (l₁ := (S.led ++ T.led) ++ ((aS, srcObj x y tx ty n) :: lam)) (l₂ := rest)
  simpa using this
theorem deed_in (Ap : Apart (deed S T aS x y tx ty n (lam ++ rest))) (ho : ∀ p ∈ deed S T aS x y tx ty n (lam ++ rest), p.1 ≠ I) : Apart (deed S T aS x y tx ty n (lam ++ ((I, oI) :: rest))) := by
  unfold Apart
  refine ((deed_perm.map _).nodup_iff).mpr ?_
  rw [List.map_cons, List.nodup_cons]
  refine ⟨fun h => ?_, Ap⟩
  obtain ⟨p, hp, e⟩ := List.mem_map.mp h
  exact ho p hp e
theorem deed_out (Ap : Apart (deed S T aS x y tx ty n (lam ++ ((I, oI) :: rest)))) : Apart (deed S T aS x y tx ty n (lam ++ rest)) ∧ ∀ p ∈ deed S T aS x y tx ty n (lam ++ rest), p.1 ≠ I := by
  unfold Apart at Ap
  have h := ((deed_perm.map (·.1)).nodup_iff).mp Ap
  rw [List.map_cons, List.nodup_cons] at h
  exact ⟨h.2, fun p hp e => h.1 (List.mem_map.mpr ⟨p, hp, e⟩)⟩
theorem deed_push {h₀ h : Heap} {L : Addr} (N : News h₀ L h ((I, oI) :: deed S T aS x y tx ty n (lam ++ rest))) : News h₀ L h (deed S T aS x y tx ty n (lam ++ ((I, oI) :: rest))) := kst_newsOf N fun _ hp => deed_perm.mem_iff.mp hp
theorem deed_pull {h₀ h : Heap} {L : Addr} (N : News h₀ L h (deed S T aS x y tx ty n (lam ++ ((I, oI) :: rest)))) : News h₀ L h ((I, oI) :: deed S T aS x y tx ty n (lam ++ rest)) := kst_newsOf N fun _ hp => deed_perm.mem_iff.mpr hp
end
end
section
section
variable {w : World} {M : Model} {A : Around} {E : Value → Shared → Prop} {s : Shared} {h₀ : Heap} {L a : Addr} {m mg mb : Str → Option Value} {cn : Str} {cs : Scope} {ccd : Value} {cl : List (Str × Addr)} {p : Program} {loose : List Str} {mean : ExcName → Option Value}
  {X : List (Addr × Obj)} {params : Arguments} {body : Expr} {scope : Scope} {clos : List (Str × Addr)} {pos : Pos}
theorem lam_b {Q : Value → Shared → Prop} {ps : Array Value} {l c : Nat} {qual : Str} (F : Fr h₀ L s.heap m) (N : News h₀ L s.heap ((256, tabObj ps) :: X)) (off : ∀ p ∈ X, p.1 ≠ 256) (TT : Top p loose mean mg mb h₀) (C : CodeHd h₀ 258 256) (hcd : ccd = .ref 258)
    (hl : pos.line = l) (hc : pos.col = c) (ht : TriplesOk ps.toList) (hnf : codeAmong pos ps.toList = none) (hq : (envX cn cs L a ccd cl).qual ++ "<lambda>" = qual) (hcl : closureFor scope (envX cn cs L a ccd cl) = pure clos) (hdef : defaultsOf params (envX cn cs L a ccd cl) = ([], []))
    (h : ∀ f c' oc vs t ctv h' tk', Fr h₀ L h' m → News h₀ L h' ((256, tabObj (ps ++ #[rawInt l, rawInt c, .ref c'])) :: (f, kla_obj "<lambda>" qual params body scope clos ((mg "__name__").getD .none) c' ctv) :: (c', oc) :: X) →
      (∀ p ∈ (f, kla_obj "<lambda>" qual params body scope clos ((mg "__name__").getD .none) c' ctv) :: (c', oc) :: X, p.1 ≠ 256) → oc.data = .fields vs → vs[1]? = some (.str qual t) → Q (.ref f) { s with heap := h', toks := tk' }) :
    wpAny M A (eval (.Lambda params body scope pos) (envX cn cs L a ccd cl)) Q E s := by
  refine kla_eval hdef ?_
  rw [hq]
  refine kla_nest F N TT C hcd (UpdF.head off) ht hnf hcl ?_
  intro f c' oc vs t ctv h' tk F' N' hd hv l1 l2
  have h1 : (256 : Addr) < c' := l1 _ (.head _)
  refine h f c' oc vs t ctv h' tk F' (kst_newsOf N' fun q hq => ?_) (fun q hq => ?_) hd hv
  · rw [hl, hc]
    rcases List.mem_cons.mp hq with rfl | hq
    · exact .tail _ (.tail _ (.head _))
    · rcases List.mem_cons.mp hq with rfl | hq
      · exact .head _
      · rcases List.mem_cons.mp hq with rfl | hq
        · exact .tail _ (.head _)
        · exact .tail _ (.tail _ (.tail _ hq))
  · rcases List.mem_cons.mp hq with rfl | hq
    · exact Nat.ne_of_gt (Nat.lt_trans h1 l2)
    · rcases List.mem_cons.mp hq with rfl | hq
      · exact Nat.ne_of_gt h1
      · exact off q hq
end
end
theorem refused_top {w : World} {A A₀ : Around} {env : Env} {base h₀ : Heap} {L : Addr} {m : Str → Option Value} {s : Shared} {R : Result → Shared → Prop}
    {loose : List Str} {mean : ExcName → Option Value} {mg mb : Str → Option Value} {news : List (Addr × Obj)} {f C : Addr}
    (B : Below A₀ base [] h₀) (F : Fr h₀ L s.heap m) (X : (Mine.hd.heap_1 w.params).In h₀) (N : News h₀ L s.heap news) (T : Top topProg loose mean mg mb h₀) (hA : A.frames = some [env]) (hf : env.frame = some L) (hke : env.scope.kind = .function) (hroom : A.depth < 550) (hh : A.handled = none) (XB : (Mine.hd.heap_1 w.params).In base) (q : ktsIn (Mine.hd.heap_1 w.params) C "BaseException" = true) (hfn : ∀ g L' h, News g L' h news → FnAt f h) (Rz : Raises w f C news news)
    (ret : ∀ h' tk', Fr h₀ L h' m → News h₀ L h' news → R (.ok (.ret (.bool true))) { s with heap := h', toks := tk' }) :
    codeAny (model PR w) A (.call (.ref 232) ⟨[.ref C, .ref f], []⟩) R s :=
  refused_c B F X N T hA hf hke hroom hh (fun b hb => nomatch hb) XB q Rz hfn fun h₀' h' tk' Y => ret h' tk' Y.top.1 Y.top.2
theorem deed_offS {w : World} {S : LimS w} {T : BookS w} {aS : Addr} {x y : Int} {tx ty n : Nat} {rest : List (Addr × Obj)} (Ap : Apart (deed S T aS x y tx ty n rest)) : ∀ p ∈ rest, p.1 ≠ aS := by
  unfold Apart deed at Ap
  rw [List.map_append, List.nodup_append, List.map_cons, List.nodup_cons] at Ap
  exact fun p hp e => Ap.2.1.1 (by rw [← e]; exact (show p.1 ∈ _ from List.mem_map_of_mem (f := Prod.fst) hp))
theorem apart_few {w : World} {W : LimS w} {a : Addr} {o1 o2 o3 : Obj} (h0 : Apart W.led) (h : ∀ p ∈ W.led, a < p.1 ∧ 256 < p.1) (h1 : 256 < a) : Apart (W.led ++ [(a, o1), ((239 : Addr), o3), ((256 : Addr), o2)]) := by
  unfold Apart
  rw [List.map_append, List.nodup_append]
  refine ⟨h0, ?_, fun b hb c hc => ?_⟩
  · simp only [List.map_cons, List.map_nil, List.nodup_cons, List.mem_cons, List.not_mem_nil, or_false, not_false_eq_true, List.nodup_nil, and_true, not_or]
    exact ⟨⟨Nat.ne_of_gt (Nat.lt_trans (by decide) h1), Nat.ne_of_gt h1⟩, by decide⟩
  · obtain ⟨p, hp, rfl⟩ := List.mem_map.mp hb
    obtain ⟨z1, z2⟩ := h p hp
    simp only [List.map_cons, List.map_nil, List.mem_cons, List.not_mem_nil, or_false] at hc
    rcases hc with rfl | rfl | rfl
    · exact Nat.ne_of_gt z1
    · exact Nat.ne_of_gt (Nat.lt_trans (by decide) z2)
    · exact Nat.ne_of_gt z2
theorem few_off {l : List (Addr × Obj)} {c : Addr × Obj} {o o3 : Obj} (h : Apart (l ++ [c, ((239 : Addr), o3), ((256 : Addr), o)])) : ∀ p ∈ c :: ((239 : Addr), o3) :: l, p.1 ≠ 256 := by
  unfold Apart at h
  rw [List.map_append, List.nodup_append] at h
  intro p hp e
  rcases List.mem_cons.mp hp with rfl | hp
  · have z := h.2.1
    simp only [List.map_cons, List.map_nil, List.nodup_cons, List.mem_cons, List.not_mem_nil, or_false, not_or] at z
    exact z.1.2 e
  · rcases List.mem_cons.mp hp with rfl | hp
    · exact absurd (show (239 : Nat) = 256 from e) (by decide)
    · exact h.2.2 _ (List.mem_map_of_mem (f := Prod.fst) hp) _ (.tail _ (.tail _ (.head _))) e
theorem Lam.tab {lam : List (Addr × Obj)} (x : Lam lam) : ∃ ps, ((239 : Addr), tabObj ps) ∈ lam := by
  cases x with
  | fresh => exact ⟨_, .head _⟩
  | made => exact ⟨_, .head _⟩
theorem news_drop3 {h₀ h : Heap} {L : Addr} {a b c : Addr × Obj} {l : List (Addr × Obj)} (N : News h₀ L h (a :: b :: c :: l)) : News h₀ L h l := fun p hp => N p (.tail _ (.tail _ (.tail _ hp)))
noncomputable def LawEnd (h₀ : Heap) (L : Addr) (s₁ : Shared) (f : Flow) (s' : Shared) : Prop :=
  f = .ret (.bool true) ∧ ∃ h tk m news p1 p2, s' = { s₁ with heap := h, toks := tk } ∧ Fr h₀ L h m ∧ News h₀ L h news ∧ ((239 : Addr), tabObj p1) ∈ news ∧ ((256 : Addr), tabObj p2) ∈ news
noncomputable abbrev lawQual : Str := "law.<locals>.<lambda>"
theorem apart_start {w : World} {S : LimS w} {Bk : BookS w} {aS aF : Addr} {x y : Int} {tx ty n : Nat} {o1 o2 o3 : Obj} (h0 : Apart S.led) (h1 : Bk.led = [(Bk.aB, Bk.oB)]) (h2 : ∀ p ∈ S.led, aS < p.1 ∧ aF < p.1 ∧ 239 < p.1 ∧ 256 < p.1 ∧ p.1 < Bk.aB) (h3 : aF < aS) (h4 : 256 < aF) (h5 : aS < Bk.aB) :
    Apart (deed S Bk aS x y tx ty n ([((239 : Addr), o1)] ++ [(aF, o2), ((256 : Addr), o3)])) := by
  unfold Apart deed
  rw [h1]
  have lt1 : @LT.lt Nat _ aF aS := h3
  have lt2 : @LT.lt Nat _ 256 aF := h4
  have lt3 : @LT.lt Nat _ aS Bk.aB := h5
  rw [List.map_append, List.map_append, List.nodup_append, List.nodup_append]
  refine ⟨⟨h0, by simp, fun a ha b hb => ?_⟩, ?_, fun a ha b hb => ?_⟩
  · obtain ⟨p, hp, rfl⟩ := List.mem_map.mp ha
    simp only [List.map_cons, List.map_nil, List.mem_singleton] at hb
    rw [hb]
    exact Nat.ne_of_lt (h2 p hp).2.2.2.2
  · simp only [List.cons_append, List.nil_append, List.map_cons, List.map_nil, List.nodup_cons, List.mem_cons, List.not_mem_nil, or_false, not_or, List.nodup_nil, and_true, not_false_eq_true]
    have e : ∀ a b : Nat, a < b → ¬ a = b := fun a b h => Nat.ne_of_lt h
    have e' : ∀ a b : Nat, b < a → ¬ a = b := fun a b h => Nat.ne_of_gt h
    exact ⟨⟨e' _ _ (by omega), e' _ _ lt1, e' _ _ (by omega)⟩, ⟨e _ _ (by omega), by decide⟩, e' _ _ lt2⟩
  · simp only [List.cons_append, List.nil_append, List.map_cons, List.map_nil, List.mem_cons, List.not_mem_nil, or_false] at hb
    rcases List.mem_append.mp ha with ha | ha
    · obtain ⟨p, hp, rfl⟩ := List.mem_map.mp ha
      obtain ⟨z1, z2, z3, z4, _⟩ := h2 p hp
      rcases hb with rfl | rfl | rfl | rfl
      · exact Nat.ne_of_gt z1
      · exact Nat.ne_of_gt z3
      · exact Nat.ne_of_gt z2
      · exact Nat.ne_of_gt z4
    · simp only [List.map_cons, List.map_nil, List.mem_singleton] at ha
      rw [ha]
      have e' : ∀ a b : Nat, b < a → a ≠ b := fun a b h => Nat.ne_of_gt h
      rcases hb with rfl | rfl | rfl | rfl
      · exact e' _ _ lt3
      · exact e' _ _ (by omega)
      · exact e' _ _ (by omega)
      · exact e' _ _ (by omega)
theorem set_L19 : True := by
  w_top off
  k_with_none
  k_with "exec For Name Call cons nil" => (k_here; (with_unfolding_all refine' For_invVF (by k_asm) (by exact rfl) (by exact rfl) ?_; k_whole))
  k_with "unpackItems ref" => (k_here; k_dflt (refine' unpackItemsN_ (by k_asm) (by k_asm) (by kun_tup) (by assumption) (by exact rfl) ?_; k_whole); intro _ _ _; (try k_sweep))
  k_with "subscriptTail Name Name ref int" => ((with_reducible first | show wpAny _ _ (subscriptTail _ _ (Value.ref (LimS.aR _)) _) _ _ _ | show wpAny _ _ (subscriptTail _ _ (Value.ref (BookS.aB _)) _) _ _ _); refine stop_here ?_)
  k_with "compareOp In int ref" => ((with_reducible first | show wpAny _ _ (compareOp _ _ (Value.ref (LimS.aR _))) _ _ _ | show wpAny _ _ (compareOp _ _ (Value.ref (BookS.aB _))) _ _ _ | show wpAny _ _ (compareOp _ _ (Value.ref (LRow.kA _))) _ _ _ | show wpAny _ _ (compareOp _ _ (Value.ref (BRow.kA _))) _ _ _); refine stop_here ?_)
  k_with "compareOp NotIn int ref" => ((with_reducible first | show wpAny _ _ (compareOp _ _ (Value.ref (LimS.aR _))) _ _ _ | show wpAny _ _ (compareOp _ _ (Value.ref (BookS.aB _))) _ _ _ | show wpAny _ _ (compareOp _ _ (Value.ref (LRow.kA _))) _ _ _ | show wpAny _ _ (compareOp _ _ (Value.ref (BRow.kA _))) _ _ _); refine stop_here ?_)
  k_with "getMethod ref" => ((with_reducible first | show wpAny _ _ (getMethod (Value.ref (LimS.aR _)) _ _) _ _ _ | show wpAny _ _ (getMethod (Value.ref (BookS.aB _)) _ _) _ _ _); refine stop_here ?_)
  k_with "call builtin:len" => ((with_reducible first | show wpAny _ _ (call _ [Value.ref (LRow.kA _)]) _ _ _ | show wpAny _ _ (call _ [Value.ref (BRow.kA _)]) _ _ _); refine stop_here ?_)
  k_with "call ref" => ((with_reducible first | show wpAny _ _ (call (Value.ref 124) [Value.ref (LimS.aL _), _]) _ _ _); refine stop_here ?_)
  k_with "subscriptTail Name Slice ref ref" => refine stop_here ?_
  k_with "subscriptTail Attribute Name Name ref int" => ((with_reducible show wpAny _ _ (subscriptTail _ _ (Value.ref (LimS.aR _)) _) _ _ _); k_dflt (refine kba_turn (value' := PySem.Expr.Name (PySem.Str.ofString "_") ⟨0, 0, 0, 0⟩) (fun _ => rfl) ?_))
  k_with "subscriptTail Attribute Name ref int" => ((with_reducible show wpAny _ _ (subscriptTail _ _ (Value.ref (LimS.aR _)) _) _ _ _); k_dflt (refine kba_turn (value' := PySem.Expr.Name (PySem.Str.ofString "_") ⟨0, 0, 0, 0⟩) (fun _ => rfl) ?_))
  k_with "subscriptTail Subscript Subscript" => ((with_reducible show wpAny _ _ (subscriptTail _ _ (Value.ref (BRow.kA _)) _) _ _ _); k_dflt (refine kba_turn (value' := PySem.Expr.Name (PySem.Str.ofString "_") ⟨0, 0, 0, 0⟩) (fun _ => rfl) ?_))
  k_with "exec Raise" => refine stop_here ?_
  k_with "subscriptTail Subscript Name Name Constant ref int" => ((with_reducible show wpAny _ _ (subscriptTail _ _ (Value.ref (BRow.bA _)) _) _ _ _); k_dflt (refine item_at (vs := BRow.items _) (News.isList (by k_asm) (by k_mem)) (by decide) (by decide) rfl ?_))
  k_with "subscriptTail Name Constant ref int" => ((with_reducible show wpAny _ _ (subscriptTail _ _ (Value.ref (BRow.bA _)) _) _ _ _); k_dflt (refine item_at (vs := BRow.items _) (News.isList (by k_asm) (by k_mem)) (by decide) (by decide) rfl ?_))
  k_with "eval Lambda" => refine stop_here ?_
  k_with "call ref" => ((with_reducible first | show wpAny _ _ (call (Value.ref 211) _) _ _ _ | show wpAny _ _ (call (Value.ref 218) _) _ _ _ | show wpAny _ _ (call (Value.ref 225) _) _ _ _ | show wpAny _ _ (call (Value.ref 169) _) _ _ _ | show wpAny _ _ (call (Value.ref 110) _) _ _ _ | show wpAny _ _ (call (Value.ref 249) _) _ _ _ | show wpAny _ _ (call (Value.ref 166) _) _ _ _ | show wpAny _ _ (call (Value.ref 254) _) _ _ _ | show wpAny _ _ (call (Value.ref 131) _) _ _ _ | show wpAny _ _ (call (Value.ref 138) _) _ _ _ | show wpAny _ _ (call (Value.ref 232) _) _ _ _); refine stop_here ?_)
  k_with "setItem ref int" => ((with_reducible show wpAny _ _ (setItem (Value.ref (BookS.aB _)) _ _) _ _ _); refine stop_here ?_)
  k_with "setItem ref int ref" => ((with_reducible show wpAny _ _ (setItem (Value.ref (BookS.aB _)) _ _) _ _ _); refine stop_here ?_)
  k_with "compareOp NotEq ref ref" => refine stop_here ?_
  k_with "call builtin:sorted" => refine stop_here ?_
  k_with "compareOp In int ref" => ((with_reducible show wpAny _ _ (compareOp _ _ (Value.ref (BookS.aB _))) _ _ _); refine stop_here ?_)
  k_with "subscriptTail Subscript Name Name Constant ref int" => refine stop_here ?_
  k_with "storeName" => ((with_reducible show wpAny _ _ (storeName _ (Str.ofString "few") _) _ _ _); refine stop_here ?_)
  k_with "eval ListComp" => refine stop_here ?_
  trivial
theorem tst : PySem.Challenge.rw_pb0541_01.Holds := hd (by
  k_go0
  rename Below _ _ _ _ => BB
  rename News _ _ _ _ => NN
  rename Heap.IsList (ghostOf _ _) _ _ => hlX
  rename Shared => s1
  rename World => w
  refine wpAny_mono (show wpAny _ _ _ (LawEnd (ghostOf s1.heap [(241, 239), (258, 256)]) s1.heap.objs.size s1) (fun _ _ => False) _ from ?_) ?_ (fun _ _ z => z.elim)
  rotate_left
  · rintro f s' ⟨rfl, h, tk, m, news, p1, p2, rfl, F, N, m1, m2⟩
    refine ⟨?_, GrownAt.of N m1, GrownAt.of N m2, trivial⟩
    dsimp only
    k_steps
  k_fold
  k_steps
  refine wpAny_call (pool_c (by assumption) (by k_asm) (by k_asm) (by k_asm) (by k_asm) rfl rfl rfl (show callerA.depth + 1 < 590 from by decide) rfl hlX (by assumption) (by omega) ?_)
  intro aS x y tx ty n h' tk' F' N' lS hx hy0 hy
  obtain ⟨m0, F0⟩ : ∃ m0, Fr (ghostOf s1.heap [(241, 239), (258, 256)]) s1.heap.objs.size h' m0 := ⟨_, F'⟩
  clear F'
  dsimp only
  k_steps
  refine wpAny_call (limits_c (by assumption) (by k_asm) (by k_asm) (by k_asm) (by k_asm) rfl rfl rfl (show callerA.depth + 1 < 595 from by decide) rfl ?_)
  intro S h' tk' F' N' eS dS aS1
  dsimp only
  k_steps
  rename_i h1 tk1 oF dF X0 XK TK CH l0 hq1 tkq1 dB hq2 oB lB loB hsB fsB hiB fiB tp hq3 ltp hq4 hq5 hq6 hq7 FF NN
  obtain ⟨Bk, hBa, hBl, hBe⟩ : ∃ Bk : BookS w, Bk.aB = dB ∧ Bk.led = [(dB, oB)] ∧ Bk.abs = [] := ⟨⟨dB, oB, [], hiB, loB⟩, rfl, rfl, rfl⟩
  subst hBa
  have hBo : oB = Bk.oB := by
    have z : (Bk.aB, Bk.oB) ∈ Bk.led := .head _
    rw [hBl] at z
    exact ((Prod.mk.inj (List.mem_singleton.mp z)).2).symm
  subst hBo
  have ND : News _ _ _ (deed S Bk aS x y tx ty n ([((239 : Addr), tabObj #[])] ++ [(s1.heap.objs.size + 1, oF), ((256 : Addr), tabObj #[])])) := kst_newsOf NN (fun p hp => by
    unfold deed at hp
    rw [hBl] at hp
    simp only [List.mem_append, List.mem_cons, List.not_mem_nil, or_false, List.cons_append, List.nil_append] at hp ⊢
    rcases hp with (h | h) | h | h | h | h <;> simp [h])
  have Ap : Apart (deed S Bk aS x y tx ty n ([((239 : Addr), tabObj #[])] ++ [(s1.heap.objs.size + 1, oF), ((256 : Addr), tabObj #[])])) := apart_start aS1 hBl (fun p hp => ⟨dS p hp _ (.head _), dS p hp _ (.tail _ (.head _)), dS p hp _ (.tail _ (.tail _ (.head _))), dS p hp _ (.tail _ (.tail _ (.tail _ (.head _)))), lB p (List.mem_append_left _ hp)⟩) (lS _ (.head _)) (Nat.lt_succ_of_lt l0.2) (lB _ (List.mem_append_right _ (.head _)))
  clear NN ltp lB
  have eSB : S.abs = Bk.abs := by rw [eS, hBe]
  have IB : Inv Bk.abs := by rw [hBe]; exact inv_nil
  refine take_d (pre := []) (by assumption) (by k_asm) (by k_asm) ND (by k_asm) rfl rfl rfl (show callerA.depth + 1 < 700 from by decide) Ap (fun _ h => nomatch h) hx hy0 hy (by decide) (by decide) ?_
  clear Ap hx hy0 hy ND
  intro r0 tr0 x y tx ty n h' tk' F' N' Ap hx hy0 hy hr00 hr01
  rw [List.nil_append] at N'
  dsimp only
  k_steps
  rename News _ _ _ _ => NN
  rename Fr _ _ _ _ => FF
  rename IsRange _ _ _ _ _ _ _ _ => hRng
  unfold Stop
  refine iter_range4 (a := "stays") (b := "kind") (c := "most") (n := r0.toNat) (fun i nx => ∃ (S1 : LimS w) (B1 : BookS w) (x y : Int) (tx ty n : Nat),
      nx = deed S1 B1 aS x y tx ty n ([((239 : Addr), tabObj #[])] ++ [(s1.heap.objs.size + 1, oF), ((256 : Addr), tabObj #[])]) ∧ S1.aL = S.aL ∧ B1.aB = Bk.aB ∧ S1.abs = B1.abs ∧ Inv B1.abs ∧ Apart (deed S1 B1 aS x y tx ty n ([((239 : Addr), tabObj #[])] ++ [(s1.heap.objs.size + 1, oF), ((256 : Addr), tabObj #[])])) ∧ (∀ p ∈ B1.abs, p.1 < 1 + (i : Int)) ∧ 0 ≤ x ∧ 0 ≤ y ∧ y < 2147483647)
    (by rfl) (by rfl) hRng (by rcases (by omega : r0 = 0 ∨ r0 = 1 ∨ r0 = 2 ∨ r0 = 3) with rfl | rfl | rfl | rfl <;> decide) (by rcases (by omega : r0 = 0 ∨ r0 = 1 ∨ r0 = 2 ∨ r0 = 3) with rfl | rfl | rfl | rfl <;> decide) FF NN ⟨S, Bk, x, y, tx, ty, n, rfl, rfl, rfl, eSB, IB, Ap, (by rw [hBe]; exact fun _ h => nomatch h), hx, hy0, hy⟩ ?_ ?_
  · clear Ap hx hy0 hy NN FF hRng eSB IB
    rintro i k t nx h' tk I' oI vx va vb vc hi hk ho ⟨S1, B1, x, y, tx, ty, n, rfl, e1, e2, e3, I, Ap, hlt, hx, hy0, hy⟩ F' N'
    have N' := deed_push (lam := [((239 : Addr), tabObj #[])]) (rest := [(s1.heap.objs.size + 1, oF), ((256 : Addr), tabObj #[])]) N'
    have Ap := deed_in (oI := oI) (lam := [((239 : Addr), tabObj #[])]) (rest := [(s1.heap.objs.size + 1, oF), ((256 : Addr), tabObj #[])]) Ap ho
    clear ho
    rw [← e1, ← e2] at F' ⊢
    k_steps
    refine take_d (pre := []) (by assumption) (by k_asm) (by k_asm) N' (by k_asm) rfl rfl rfl (show callerA.depth + 1 < 700 from by decide) Ap (fun _ h => nomatch h) hx hy0 hy (by decide) (by decide) ?_
    clear Ap hx hy0 hy N'
    intro r5 tr5 x y tx ty n h' tk' F' N' Ap hx hy0 hy hr50 hr51
    rw [List.nil_append] at N'
    dsimp only
    k_steps
    rename News _ _ _ _ => NN
    rename (∀ p ∈ deed S1 B1 aS x y tx ty n _, _) => lx
    refine one_d (pre := [_]) (vs := [_, _]) (by assumption) (by k_asm) (by k_asm) NN (by k_asm) rfl rfl rfl (show callerA.depth + 1 < 690 from by decide) Ap (fun p hp => by rw [List.mem_singleton.mp hp]; exact Nat.ne_of_gt (lx _ deed_src)) hx hy0 hy (.head _) (by simp) (by simp) ?_
    clear NN Ap hx hy0 hy
    intro v x y tx ty n h' tk' F' N' Ap hx hy0 hy hv
    obtain ⟨way, tw, rfl, hw⟩ : ∃ way t, v = .str way t ∧ (way = "drop" ∨ way = "shut") := by
      simp only [List.mem_cons, List.not_mem_nil, or_false] at hv
      rcases hv with rfl | rfl
      · exact ⟨_, _, rfl, .inl rfl⟩
      · exact ⟨_, _, rfl, .inr rfl⟩
    rw [List.cons_append, List.nil_append] at N'
    dsimp only
    k_steps
    refine take_d (pre := [_]) (by assumption) (by k_asm) (by k_asm) N' (by k_asm) rfl rfl rfl (show callerA.depth + 1 < 700 from by decide) Ap (fun p hp => by rw [List.mem_singleton.mp hp]; exact Nat.ne_of_gt (lx _ deed_src)) hx hy0 hy (by decide) (by decide) ?_
    clear Ap hx hy0 hy
    intro r6 tr6 x y tx ty n h' tk' F' N' Ap hx hy0 hy hr60 hr61
    have ND : News _ _ _ (deed S1 B1 aS x y tx ty n ([((239 : Addr), tabObj #[])] ++ ((I', oI) :: [(s1.heap.objs.size + 1, oF), ((256 : Addr), tabObj #[])]))) := kst_newsOf N' (fun p hp => .tail _ hp)
    clear N' lx
    dsimp only
    k_steps
    rename News _ _ _ _ => NN
    have NS := kst_newsOf (l' := S1.led ++ (B1.led ++ ((aS, srcObj x y tx ty n) :: ([((239 : Addr), tabObj #[])] ++ ((I', oI) :: [(s1.heap.objs.size + 1, oF), ((256 : Addr), tabObj #[])]))))) NN fun p hp => .tail _ (sub_S hp)
    refine wpAny_call (set_c (rest := B1.led ++ ((aS, srcObj x y tx ty n) :: ([((239 : Addr), tabObj #[])] ++ ((I', oI) :: [(s1.heap.objs.size + 1, oF), ((256 : Addr), tabObj #[])])))) (by assumption) (by k_asm) (by k_asm) NS (by k_asm) rfl rfl rfl (show callerA.depth + 1 < 590 from by decide) rfl (by rw [e3]; exact I) (apart_S Ap) (by omega) (by omega) hw ?_)
    clear NN NS Ap
    intro S2 h' tk' F' N' Ap e4 e5
    rw [← e4] at F' ⊢
    have Ap := apart_S' Ap
    have ND := kst_newsOf (l' := deed S2 B1 aS x y tx ty n ([((239 : Addr), tabObj #[])] ++ ((I', oI) :: [(s1.heap.objs.size + 1, oF), ((256 : Addr), tabObj #[])]))) N' fun p hp => from_S hp
    clear N'
    k_steps
    rename News _ _ _ _ => NN
    rename (∀ p ∈ deed S2 B1 aS x y tx ty n _, _) => lk1
    rename (_ ∧ AllLt _ (deed S2 B1 aS x y tx ty n _)) => lb1
    have lb2 := allLt_mem lb1.2
    refine seti_c (by k_asm) NN (.tail _ (.tail _ deed_B)) B1.hd (intKind_is _ _ _ _) (by have := BookS.len I; simp [kvsB]; omega) ?_
    intro h' o' F' N' hd'
    obtain ⟨B2, z1, z2, z3, z4⟩ := deed_set I Ap ⟨k, ⟨1 + r5, way, r6 == 0, [], false⟩, _, _, [], .nil, _, tw, 0, 0⟩ hd' N' (.head _) (.tail _ (.head _)) (fun p hp => .tail _ (.tail _ hp)) (fun p hp => Nat.ne_of_lt (lb2 p hp)) (fun p hp => Nat.ne_of_lt (lk1 p hp)) (Nat.ne_of_gt lb1.1)
    clear N' NN
    k_steps
    subst hk
    have hk0 : knownS S1.abs (1 + (i : Int)) = [] := known_gt (by rw [e3]; exact hlt)
    rw [hk0, List.take_nil, e3] at e5
    have e6 : S2.abs = B2.abs := e5.trans z2.symm
    refine ⟨_, _, _, _, rfl, by k_asm, deed_pull z4, (deed_out z3).2, (by exact upd4_of), S2, B2, x, y, tx, ty, n, rfl, rfl, z1, e6, ?_, (deed_out z3).1, ?_, hx, hy0, hy⟩
    · have z := inv_set (p := 1 + (i : Int)) (stay := r6 == 0) I (by omega) (show 1 ≤ 1 + r5 ∧ 1 + r5 ≤ 3 by omega) hw
      rw [← e3, hk0, List.take_nil] at z
      rw [z2, ← e3]
      exact z
    · rw [z2]
      exact set_ports hlt (by push_cast; omega)
  · clear Ap hx hy0 hy NN FF hRng eSB IB
    rintro vx va vb vc nx h' tk ⟨S1, B1, x, y, tx, ty, n, rfl, e1, e2, e3, I, Ap, hlt, hx, hy0, hy⟩ F' N'
    clear hlt
    rw [← e1, ← e2] at F'
    k_steps
    refine take_d (pre := []) (by assumption) (by k_asm) (by k_asm) N' (by k_asm) rfl rfl rfl (show callerA.depth + 1 < 700 from by decide) Ap (fun _ h => nomatch h) hx hy0 hy (by decide) (by decide) ?_
    clear Ap hx hy0 hy N'
    intro r7 tr7 x y tx ty n h' tk' F' N' Ap hx hy0 hy hr70 hr71
    rw [List.nil_append] at N'
    dsimp only
    k_steps
    rename News _ _ _ _ => NN
    rename Fr _ _ _ _ => FF
    rename IsRange _ _ _ _ _ _ _ _ => hRng
    unfold Stop
    refine iter_range2 (a := "port") (n := (14 + r7).toNat) (fun i nx => ∃ (S2 : LimS w) (B2 : BookS w) (x y : Int) (tx ty n : Nat) (lam : List (Addr × Obj)),
        nx = deed S2 B2 aS x y tx ty n (lam ++ [(s1.heap.objs.size + 1, oF), ((256 : Addr), tabObj #[])]) ∧ S2.aL = S1.aL ∧ B2.aB = B1.aB ∧ S2.abs = B2.abs ∧ Inv B2.abs ∧ Apart (deed S2 B2 aS x y tx ty n (lam ++ [(s1.heap.objs.size + 1, oF), ((256 : Addr), tabObj #[])])) ∧ Lam lam ∧ 0 ≤ x ∧ 0 ≤ y ∧ y < 2147483647)
      (by rfl) (by rfl) hRng (by rcases (by omega : r7 = 0 ∨ r7 = 1 ∨ r7 = 2 ∨ r7 = 3 ∨ r7 = 4 ∨ r7 = 5 ∨ r7 = 6 ∨ r7 = 7) with rfl | rfl | rfl | rfl | rfl | rfl | rfl | rfl <;> decide) (by rcases (by omega : r7 = 0 ∨ r7 = 1 ∨ r7 = 2 ∨ r7 = 3 ∨ r7 = 4 ∨ r7 = 5 ∨ r7 = 6 ∨ r7 = 7) with rfl | rfl | rfl | rfl | rfl | rfl | rfl | rfl <;> decide) FF NN ⟨S1, B1, x, y, tx, ty, n, [((239 : Addr), tabObj #[])], rfl, rfl, rfl, e3, I, Ap, .fresh, hx, hy0, hy⟩ ?_ ?_
    · clear Ap hx hy0 hy NN FF hRng I e1 e2 e3
      rintro i k t nx h' tk I' oI vx va hi hk ho ⟨S2, B2, x, y, tx, ty, n, lam, rfl, e1, e2, e3, I, Ap, Lm, hx, hy0, hy⟩ F' N'
      have N' := deed_push (lam := lam) (rest := [(s1.heap.objs.size + 1, oF), ((256 : Addr), tabObj #[])]) N'
      have Ap := deed_in (oI := oI) (lam := lam) (rest := [(s1.heap.objs.size + 1, oF), ((256 : Addr), tabObj #[])]) Ap ho
      clear ho
      rw [← e1, ← e2] at F' ⊢
      k_steps
      refine wpAny_call (deed_c (by assumption) (by k_asm) (by k_asm) N' (by k_asm) rfl rfl rfl (show callerA.depth + 1 < 520 from by decide) rfl (show callerA.units + 3 < 7900 from by decide) (fun b hb => nomatch hb) (by assumption) (by assumption) e3 I Ap hx hy0 hy Lm ?_)
      clear Ap hx hy0 hy N' I e3 Lm
      intro S3 B3 x y tx ty n lam' h₀' h' tk' Y Ap e4 e5 e3 I Lm hx hy0 hy
      obtain ⟨F', N'⟩ := Y.top
      clear Y
      rw [← e4, ← e5] at F' ⊢
      k_steps
      rename News _ _ _ _ => NN
      rename Fr _ _ _ _ => FF
      rename IsRange _ _ _ _ _ _ _ _ => hRng
      unfold Stop
      refine iter_rangeX (n := 4) (fun i nx => nx = deed S3 B3 aS x y tx ty n (lam' ++ ((I', oI) :: [(s1.heap.objs.size + 1, oF), ((256 : Addr), tabObj #[])]))) (by rfl) (by rfl) hRng (by decide) (by decide) FF NN rfl ?_ ?_
      · clear NN FF hRng
        rintro i2 k2 t2 nx h' tk I2 oI2 hi2 hk2 ho rfl F' N'
        k_steps
        have NS := kst_newsOf (l' := S3.led ++ ((I2, oI2) :: (B3.led ++ ((aS, srcObj x y tx ty n) :: (lam' ++ ((I', oI) :: [(s1.heap.objs.size + 1, oF), ((256 : Addr), tabObj #[])])))))) N' fun p hp => by
          rcases List.mem_append.mp hp with h | h
          · exact .tail _ (sub_S (List.mem_append_left _ h))
          · rcases List.mem_cons.mp h with rfl | h
            · exact .head _
            · exact .tail _ (sub_S (List.mem_append_right _ h))
        refine wpAny_call (known_c (rest := (I2, oI2) :: (B3.led ++ ((aS, srcObj x y tx ty n) :: (lam' ++ ((I', oI) :: [(s1.heap.objs.size + 1, oF), ((256 : Addr), tabObj #[])]))))) (by assumption) (by k_asm) (by k_asm) NS (by k_asm) rfl rfl rfl (show callerA.depth + 1 < 590 from by decide) rfl (by rw [e3]; exact I) ?_)
        clear N' NS
        intro l vs ns nn h' tk' F' N' hi hP hS
        have NL : News _ _ _ ((l, listOf vs.toArray nn) :: (I2, oI2) :: deed S3 B3 aS x y tx ty n (lam' ++ ((I', oI) :: [(s1.heap.objs.size + 1, oF), ((256 : Addr), tabObj #[])]))) := kst_newsOf N' fun p hp => by
          rcases List.mem_cons.mp hp with rfl | hp
          · exact .head _
          · rcases List.mem_cons.mp hp with rfl | hp
            · exact .tail _ (List.mem_append_right _ (.head _))
            · rcases List.mem_append.mp (from_S hp) with h | h
              · exact .tail _ (List.mem_append_left _ h)
              · exact .tail _ (List.mem_append_right _ (.tail _ h))
        clear N'
        rw [e3] at hP
        k_steps
        have hd := B3.hd
        have lo := B3.lo
        have hlen := BookS.len I
        have mB : (B3.aB, B3.oB) ∈ (l, listOf vs.toArray nn) :: (I2, oI2) :: deed S3 B3 aS x y tx ty n (lam' ++ ((I', oI) :: [(s1.heap.objs.size + 1, oF), ((256 : Addr), tabObj #[])])) := .tail _ (.tail _ deed_B)
        have hb1 : ∀ r ∈ B3.rows, (r.bA, r.obj) ∈ deed S3 B3 aS x y tx ty n (lam' ++ ((I', oI) :: [(s1.heap.objs.size + 1, oF), ((256 : Addr), tabObj #[])])) := fun r h => deed_b1 h
        have hb2 : ∀ r ∈ B3.rows, (r.kA, listOf r.vs.toArray r.kn) ∈ deed S3 B3 aS x y tx ty n (lam' ++ ((I', oI) :: [(s1.heap.objs.size + 1, oF), ((256 : Addr), tabObj #[])])) := fun r h => deed_b2 h
        rcases BookS.val I k2 with ⟨ea, hv⟩ | ⟨r, hr, hrp, ea, hv⟩
        case' inl =>
          refine kda_in (by k_asm) mB hd lo (intKind_is _ _ _ _) false (by rw [hv]; rfl) ?_
          k_steps
          rename News _ _ _ _ => NN
          have en : knownS B3.abs k2 = [] := by simp only [knownS, ea]
          rw [en] at hP
          obtain rfl := hP.eq_nil
          refine ke_ne_ints (ys := []) (ms := []) (News.isList NN (.tail _ (.head _))) (News.isList NN (.head _)) hi .nil (Nat.le_of_ble_eq_true rfl) ?_
        case' inr =>
          have p1 := hb1 r hr
          have p2 := hb2 r hr
          have hml : r.a.known.length ≤ 3 := I.klen (BookS.mabs hr)
          refine kda_in (by k_asm) mB hd lo (intKind_is _ _ _ _) true (by rw [hv]; rfl) ?_
          k_steps
          refine kda_item (by k_asm) mB hd (intKind_is _ _ _ _) hv ?_
          k_steps
          refine item_at (vs := r.items) (News.isList (by k_asm) (.tail _ (.tail _ p1))) (by decide) (by decide) rfl ?_
          k_steps
          refine kso_sorted (by k_asm) (by k_asm) (News.isList (by k_asm) (.tail _ (.tail _ p2))) r.ok (by omega) ?_
          intro D2 vs2 ns2 c2 h' F' NN lD hi2 _ hP2 hS2 _
          k_steps
          have en : knownS B3.abs k2 = r.a.known := by simp only [knownS, ea]
          rw [en] at hP
          obtain rfl := sorted_same hP hP2 hS hS2
          refine ke_ne_ints (News.isList NN (.tail _ (.head _))) (News.isList NN (.head _)) hi hi2 (Nat.le_of_ble_eq_true rfl) ?_
        all_goals
          rw [decide_eq_true rfl]
          k_steps
          exact ⟨_, _, _, _, rfl, by k_asm, kst_newsOf NN (fun p hp => .tail _ (.tail _ hp)), ho, ⟨_, rfl⟩, rfl⟩
      · clear NN FF hRng
        rintro v nx h' tk rfl F' N'
        k_steps
        exact ⟨_, _, _, _, rfl, by k_asm, deed_pull N', (deed_out Ap).2, (by exact upd2_of), S3, B3, x, y, tx, ty, n, lam', rfl, rfl, rfl, e3, I, (deed_out Ap).1, Lm, hx, hy0, hy⟩
    · clear Ap hx hy0 hy NN FF hRng I e1 e2 e3
      rintro vx va nx h' tk ⟨S2, B2, x, y, tx, ty, n, lam, rfl, e1, e2, e3, I, Ap, Lm, hx, hy0, hy⟩ F' N'
      k_steps
      obtain ⟨p9, h9⟩ := Lm.tab
      have h9' : ∀ p ∈ [((239 : Addr), tabObj p9), (s1.heap.objs.size + 1, oF), ((256 : Addr), tabObj #[])], p ∈ lam ++ [(s1.heap.objs.size + 1, oF), ((256 : Addr), tabObj #[])] := fun p hp => by
        rcases List.mem_cons.mp hp with rfl | hp
        · exact List.mem_append_left _ h9
        · exact List.mem_append_right _ hp
      have NM := kst_newsOf (l' := (aS, srcObj x y tx ty n) :: [((239 : Addr), tabObj p9), (s1.heap.objs.size + 1, oF), ((256 : Addr), tabObj #[])]) N' (fun p hp => by
        rcases List.mem_cons.mp hp with rfl | hp
        · exact deed_src
        · exact deed_rest (h9' p hp))
      have oM : OwnOff [((239 : Addr), tabObj p9), (s1.heap.objs.size + 1, oF), ((256 : Addr), tabObj #[])] [aS] := fun p hp b hb => by
        rw [List.mem_singleton.mp hb]
        exact deed_offS Ap p (h9' p hp)
      clear h9' h9
      clear N' Ap e1 e2 e3 I Lm
      refine wpAny_call (moves_c (by assumption) (by k_asm) (by k_asm) NM (by k_asm) rfl rfl rfl (show callerA.depth + 1 < 580 from by decide) rfl (show callerA.units + 3 < 7900 from by decide) oM hx hy0 hy ?_)
      clear NM oM hx hy0 hy
      intro x y tx ty n h' tk' F' N' hx hy0 hy
      k_steps
      refine wpAny_call (limits_c (by assumption) (by k_asm) (by k_asm) (by k_asm) (by k_asm) rfl rfl rfl (show callerA.depth + 1 < 595 from by decide) rfl ?_)
      intro W0 h' tk' F' N' eW dW aW
      dsimp only
      k_steps
      obtain ⟨N1, o1⟩ := led_at N' (List.mem_append_right _ (.tail _ (.tail _ (.head _))) : (s1.heap.objs.size + 1, oF) ∈ _)
      refine storeX_C (by k_asm) N1 rfl (UpdF.head fun p hp => o1 p hp _ (.head _)) dF ?_
      clear N1 o1
      intro h' oC F' N1 dC
      have dW' : ∀ p ∈ W0.led, s1.heap.objs.size + 1 < p.1 ∧ 256 < p.1 := fun p hp => ⟨dW p hp _ (.tail _ (.tail _ (.head _))), dW p hp _ (.tail _ (.tail _ (.tail _ (.head _))))⟩
      have Ap : Apart (W0.led ++ [(s1.heap.objs.size + 1, oC), ((239 : Addr), tabObj p9), ((256 : Addr), tabObj #[])]) := apart_few aW dW' (Nat.lt_succ_of_lt l0.2)
      have N' : News _ _ _ (W0.led ++ [(s1.heap.objs.size + 1, oC), ((239 : Addr), tabObj p9), ((256 : Addr), tabObj #[])]) := kst_newsOf N1 (fun p hp => by
        rcases List.mem_append.mp hp with h | h
        · exact .tail _ (mem_off (List.mem_append_left _ h) (Nat.ne_of_gt (dW' p h).1))
        · simp only [List.mem_cons, List.not_mem_nil, or_false] at h
          rcases h with rfl | rfl | rfl
          · exact .head _
          · exact .tail _ (mem_off (List.mem_append_right _ (.tail _ (.head _))) (Nat.ne_of_lt (Nat.lt_succ_of_lt l0.1)))
          · exact .tail _ (mem_off (List.mem_append_right _ (.tail _ (.tail _ (.tail _ (.head _))))) (Nat.ne_of_lt (Nat.lt_succ_of_lt l0.2))))
      clear N1 dW dW' aW
      k_steps
      have I0 : Inv W0.abs := by rw [eW]; exact inv_nil
      refine wpAny_call (set3_c (rest := [(s1.heap.objs.size + 1, oC), ((239 : Addr), tabObj p9), ((256 : Addr), tabObj #[])]) (by assumption) (by k_asm) (by k_asm) N' (by k_asm) rfl rfl rfl (show callerA.depth + 1 < 590 from by decide) rfl I0 Ap (by decide) (by decide) (.inl rfl) ?_)
      clear Ap N'
      intro W1 h' tk' F' N' Ap e1 e2
      rw [← e1] at dC
      have I1 : Inv W1.abs := by rw [e2, eW]; exact inv_set inv_nil (by decide) (by decide) (.inl rfl)
      rw [eW] at e2
      clear e1 I0 eW
      k_steps
      refine wpAny_call (set3_c (rest := [(s1.heap.objs.size + 1, oC), ((239 : Addr), tabObj p9), ((256 : Addr), tabObj #[])]) (by assumption) (by k_asm) (by k_asm) N' (by k_asm) rfl rfl rfl (show callerA.depth + 1 < 590 from by decide) rfl I1 Ap (by decide) (by decide) (.inr rfl) ?_)
      clear Ap N'
      intro W2 h' tk' F' N' Ap e1 e3
      rw [← e1] at dC
      have I2 : Inv W2.abs := by rw [e3]; exact inv_set I1 (by decide) (by decide) (.inr rfl)
      rw [e2] at e3
      clear e1 I1 e2
      have eW : W2.abs = [(1, ⟨2, "drop", false, [], false⟩), (2, ⟨2, "shut", false, [], false⟩)] := e3
      clear e3
      k_steps
      refine wpAny_call (asked_c (rest := [(s1.heap.objs.size + 1, oC), ((239 : Addr), tabObj p9), ((256 : Addr), tabObj #[])]) (by assumption) (by k_asm) (by k_asm) N' (by k_asm) rfl rfl rfl (show callerA.depth + 1 < 590 from by decide) rfl I2 Ap ?_)
      clear Ap N'
      intro t3 W3 h' tk' F' N' Ap e1 e2
      rw [← e1] at dC
      have I3 : Inv W3.abs := by rw [e2]; exact inv_asked I2
      have eS : (askedS W2.abs 1 8).1 = "let" := by rw [eW]; rfl
      rw [eS]
      rw [eW] at e2
      clear e1 I2 eW eS
      have eW : W3.abs = [(1, ⟨2, "drop", false, [8], false⟩), (2, ⟨2, "shut", false, [], false⟩)] := e2
      clear e2
      k_steps
      refine wpAny_call (asked_c (rest := [(s1.heap.objs.size + 1, oC), ((239 : Addr), tabObj p9), ((256 : Addr), tabObj #[])]) (by assumption) (by k_asm) (by k_asm) N' (by k_asm) rfl rfl rfl (show callerA.depth + 1 < 590 from by decide) rfl I3 Ap ?_)
      clear Ap N'
      intro t4 W4 h' tk' F' N' Ap e1 e2
      rw [← e1] at dC
      have I4 : Inv W4.abs := by rw [e2]; exact inv_asked I3
      have eS : (askedS W3.abs 2 8).1 = "shut" := by rw [eW]; rfl
      rw [eS]
      rw [eW] at e2
      clear e1 I3 eW eS
      have eW : W4.abs = [(1, ⟨2, "drop", false, [8], false⟩), (2, ⟨2, "shut", false, [], true⟩)] := e2
      clear e2
      k_steps
      refine wpAny_call (asked_c (rest := [(s1.heap.objs.size + 1, oC), ((239 : Addr), tabObj p9), ((256 : Addr), tabObj #[])]) (by assumption) (by k_asm) (by k_asm) N' (by k_asm) rfl rfl rfl (show callerA.depth + 1 < 590 from by decide) rfl I4 Ap ?_)
      clear Ap N'
      intro t5 W5 h' tk' F' N' Ap e1 e2
      rw [← e1] at dC
      have I5 : Inv W5.abs := by rw [e2]; exact inv_asked I4
      have eS : (askedS W4.abs 2 6).1 = "shut" := by rw [eW]; rfl
      rw [eS]
      rw [eW] at e2
      clear e1 I4 eW eS
      have eW : W5.abs = [(1, ⟨2, "drop", false, [8], false⟩), (2, ⟨2, "shut", false, [], true⟩)] := e2
      clear e2
      k_steps
      refine wpAny_call (open_c (rest := [(s1.heap.objs.size + 1, oC), ((239 : Addr), tabObj p9), ((256 : Addr), tabObj #[])]) (by assumption) (by k_asm) (by k_asm) N' (by k_asm) rfl rfl rfl (show callerA.depth + 1 < 590 from by decide) rfl I5 Ap ?_)
      clear Ap N'
      intro W6 h' tk' F' N' Ap e1 e2
      rw [← e1] at dC
      have eS : (openS W5.abs 2).1 = true := by rw [eW]; rfl
      rw [eS]
      clear e1 I5 eW eS e2
      k_steps
      k_dflt (refine ne_dataH (by ke_read) (by ke_read) (by ke_shaped) (by ke_shaped) (by ke_room) ?_)
      ke_norm
      k_steps
      rename News _ _ _ _ => NN
      have NX : News _ _ _ ((256, tabObj #[]) :: (s1.heap.objs.size + 1, oC) :: ((239 : Addr), tabObj p9) :: W6.led) := kst_newsOf NN fun p hp => .tail _ (.tail _ (by
        rcases List.mem_cons.mp hp with rfl | hp
        · exact List.mem_append_right _ (.tail _ (.tail _ (.head _)))
        · rcases List.mem_cons.mp hp with rfl | hp
          · exact List.mem_append_right _ (.head _)
          · rcases List.mem_cons.mp hp with rfl | hp
            · exact List.mem_append_right _ (.tail _ (.head _))
            · exact List.mem_append_left _ hp))
      have off := few_off Ap
      clear NN Ap
      refine lam_b (qual := lawQual) (l := 212) (c := 0) (by k_asm) NX off (by k_asm) (by assumption) rfl rfl rfl trivial rfl rfl rfl rfl ?_
      clear NX off
      intro f1 c1 oc1 vs1 t1 ctv1 h' tk' F' N' off hd1 hv1
      k_steps
      refine lam_b (qual := lawQual) (l := 213) (c := 0) (by k_asm) N' off (by k_asm) (by assumption) rfl rfl rfl trivial rfl rfl rfl rfl ?_
      clear N' off
      intro f2 c2 oc2 vs2 t2 ctv2 h' tk' F' N' off hd2 hv2
      k_steps
      refine lam_b (qual := lawQual) (l := 214) (c := 0) (by k_asm) N' off (by k_asm) (by assumption) rfl rfl rfl trivial rfl rfl rfl rfl ?_
      clear N' off
      intro f3 c3 oc3 vs3 t3 ctv3 h' tk' F' N' off hd3 hv3
      k_steps
      refine LCt.ListComp_T (F₀ := by k_asm) (by with_unfolding_all rfl) (by decide) (by rfl) (by decide) (by rfl) ?_
      k_steps
      rename News _ _ _ _ => N'
      rename Fr _ _ _ _ => F'
      refine wpAny_call (refused_top (by assumption) (by k_asm) (by k_asm) N' (by k_asm) rfl rfl rfl (show callerA.depth + 1 < 550 from by decide) rfl (by assumption) (kts44 w) (fun g2 L2 h2 N2 => FnAt.of N2 (by k_mem)) ?_ ?_)
      · clear N' F'
        intro A2 A02 env2 outer2 base2 h2 L2 m2 s2 R2 loose2 mean2 mg2 mb2 B2 F2 X2 N2 T2 hA2 hf2 hke2 hdd2 hh2 ret2
        refine kla_code B2 F2 X2 N2 T2 hA2 hf2 hke2 (by k_mem) (codeRec_news N2 (by k_mem : (c1, oc1) ∈ _) hd1 hv1) (by ktr_room) rfl (locs rfl) ?_ rfl rfl rfl (by decide)
        intro g3 L3 h3 FG3 F3 N3 B3 X3 T3
        dsimp only
        k_steps
        refine wpAny_call (set_r44 (by assumption) (by k_asm) (by k_asm) N3 (by k_asm) (by show Option.map _ A2.frames = _; rw [hA2]; rfl) rfl rfl (by show A2.depth + 1 < 590; first | exact room1 hd2 (by decide) | exact room1 hdd2 (by decide) | omega) (by exact hh2) (by decide) ?_)
        intro G e2 t2 vs2 h'' tk2 FG2 R3 U3
        dsimp only
        refine leave_onM hA2 rfl FG2 R3 U3 ?_
        intro h4 R4 U4
        exact ret2 g3 e2 t2 vs2 h4 tk2 FG3 R4 U4
      · clear N' F'
        intro h' tk' F' N'
        dsimp only
        k_steps
        refine LCg.CompEnd.intro (by k_asm) N' _ (fun p hp => hp) (by assumption) (.inr ⟨_, List.Mem.head _, rfl, _, rfl⟩) ?_
        clear N' F'
        k_steps
        rename News _ _ _ _ => N'
        rename Fr _ _ _ _ => F'
        refine wpAny_call (refused_top (by assumption) (by k_asm) (by k_asm) N' (by k_asm) rfl rfl rfl (show callerA.depth + 1 < 550 from by decide) rfl (by assumption) (kts44 w) (fun g2 L2 h2 N2 => FnAt.of N2 (by k_mem)) ?_ ?_)
        · clear N' F'
          intro A2 A02 env2 outer2 base2 h2 L2 m2 s2 R2 loose2 mean2 mg2 mb2 B2 F2 X2 N2 T2 hA2 hf2 hke2 hdd2 hh2 ret2
          refine kla_code B2 F2 X2 N2 T2 hA2 hf2 hke2 (by k_mem) (codeRec_news N2 (by k_mem : (c2, oc2) ∈ _) hd2 hv2) (by ktr_room) rfl (locs rfl) ?_ rfl rfl rfl (by decide)
          intro g3 L3 h3 FG3 F3 N3 B3 X3 T3
          dsimp only
          k_steps
          refine wpAny_call (watch_r (by assumption) (by k_asm) (by k_asm) N3 (by k_asm) (by show Option.map _ A2.frames = _; rw [hA2]; rfl) rfl rfl (by show A2.depth + 1 < 590; first | exact room1 hd2 (by decide) | exact room1 hdd2 (by decide) | omega) (by exact hh2) (.inl (by decide)) ?_)
          intro G e2 t2 vs2 h'' tk2 FG2 R3 U3
          dsimp only
          refine leave_onM hA2 rfl FG2 R3 U3 ?_
          intro h4 R4 U4
          exact ret2 g3 e2 t2 vs2 h4 tk2 FG3 R4 U4
        · clear N' F'
          intro h' tk' F' N'
          dsimp only
          k_steps
          refine LCg.CompEnd.intro (by k_asm) N' _ (fun p hp => hp) (by assumption) (.inr ⟨_, List.Mem.head _, rfl, _, rfl⟩) ?_
          clear N' F'
          k_steps
          rename News _ _ _ _ => N'
          rename Fr _ _ _ _ => F'
          refine wpAny_call (refused_top (by assumption) (by k_asm) (by k_asm) N' (by k_asm) rfl rfl rfl (show callerA.depth + 1 < 550 from by decide) rfl (by assumption) (kts44 w) (fun g2 L2 h2 N2 => FnAt.of N2 (by k_mem)) ?_ ?_)
          · clear N' F'
            intro A2 A02 env2 outer2 base2 h2 L2 m2 s2 R2 loose2 mean2 mg2 mb2 B2 F2 X2 N2 T2 hA2 hf2 hke2 hdd2 hh2 ret2
            refine kla_code B2 F2 X2 N2 T2 hA2 hf2 hke2 (by k_mem) (codeRec_news N2 (by k_mem : (c3, oc3) ∈ _) hd3 hv3) (by ktr_room) rfl (locs rfl) ?_ rfl rfl rfl (by decide)
            intro g3 L3 h3 FG3 F3 N3 B3 X3 T3
            dsimp only
            k_steps
            refine wpAny_call (watch_r (by assumption) (by k_asm) (by k_asm) N3 (by k_asm) (by show Option.map _ A2.frames = _; rw [hA2]; rfl) rfl rfl (by show A2.depth + 1 < 590; first | exact room1 hd2 (by decide) | exact room1 hdd2 (by decide) | omega) (by exact hh2) (.inr ⟨by decide, by decide⟩) ?_)
            intro G e2 t2 vs2 h'' tk2 FG2 R3 U3
            dsimp only
            refine leave_onM hA2 rfl FG2 R3 U3 ?_
            intro h4 R4 U4
            exact ret2 g3 e2 t2 vs2 h4 tk2 FG3 R4 U4
          · clear N' F'
            intro h' tk' F' N'
            dsimp only
            k_steps
            refine LCg.CompEnd.intro (by k_asm) N' _ (fun p hp => hp) (by assumption) (.inr ⟨_, List.Mem.head _, rfl, _, rfl⟩) ?_
            clear N' F'
            k_steps
            rename News _ _ _ _ => N'
            rename Fr _ _ _ _ => F'
            refine ke_ne_ints (xs := []) (ys := []) (ns := []) (ms := []) (News.isList N' (.tail _ (.head _))) (News.isList N' (.head _)) .nil .nil (Nat.le_of_ble_eq_true rfl) ?_
            rw [decide_eq_true rfl]
            k_steps
            have NX := news_drop3 N'
            clear N'
            refine lam_b (qual := lawQual) (l := 218) (c := 0) (by k_asm) NX off (by k_asm) (by assumption) rfl rfl rfl trivial rfl rfl rfl rfl ?_
            clear NX off
            intro f4 c4 oc4 vs4 t4 ctv4 h' tk' F' N' off hd4 hv4
            k_steps
            refine wpAny_call (refused_top (by assumption) (by k_asm) (by k_asm) N' (by k_asm) rfl rfl rfl (show callerA.depth + 1 < 550 from by decide) rfl (by assumption) (kts64 w) (fun g2 L2 h2 N2 => FnAt.of N2 (by k_mem)) ?_ ?_)
            · clear N' F'
              intro A2 A02 env2 outer2 base2 h2 L2 m2 s2 R2 loose2 mean2 mg2 mb2 B2 F2 X2 N2 T2 hA2 hf2 hke2 hdd2 hh2 ret2
              refine kla_code B2 F2 X2 N2 T2 hA2 hf2 hke2 (by k_mem) (codeRec_news N2 (by k_mem : (c4, oc4) ∈ _) hd4 hv4) (by ktr_room) rfl (locs rfl) ?_ rfl rfl rfl (by decide)
              intro g3 L3 h3 FG3 F3 N3 B3 X3 T3
              dsimp only
              k_steps
              refine wpAny_call (set_r64 (by assumption) (by k_asm) (by k_asm) N3 (by k_asm) (by show Option.map _ A2.frames = _; rw [hA2]; rfl) rfl rfl (by show A2.depth + 1 < 590; first | exact room1 hd2 (by decide) | exact room1 hdd2 (by decide) | omega) (by exact hh2) (by decide) ?_)
              intro G e2 t2 vs2 h'' tk2 FG2 R3 U3
              dsimp only
              refine leave_onM hA2 rfl FG2 R3 U3 ?_
              intro h4 R4 U4
              exact ret2 g3 e2 t2 vs2 h4 tk2 FG3 R4 U4
            · clear N' F'
              intro h' tk' F' N'
              dsimp only
              exact ⟨rfl, _, _, _, _, _, _, rfl, F', N', by k_mem, .head _⟩)
end Mine
theorem PySem.Challenge.cw_pb0541_01_holds : PySem.Challenge.rw_pb0541_01.Holds := by
  exact Mine.tst
