import PyProof.Rows.All
import Wide.All
import OpenK.AllK
import Wide.FinOn
import PySem.Challenge.RW_rr0086_01
open PySem PySem.W PyProof.Rows
set_option Elab.async false
namespace Mine
/-- names for the head's three holes -/
theorem keepHead {H T1 T2 T3 : Prop} (main : H) (_ : T1) (_ : T2) (_ : T3) : H := main
theorem holes {H T1 T2 T3 : Prop} (main : H) (hl : T1) (hw : T2) (hc : T3) : H := keepHead main hl hw hc
set_option maxRecDepth 100000 in
set_option maxHeartbeats 8000000 in
/-- the head with its holes filled: it says nothing of use, it makes the heap and the view by name -/
theorem hd (hf : ∀ P : Prop, P) (said : PySem.Challenge.rw_rr0086_01.row.wellSaid = true) : PySem.Challenge.rw_rr0086_01.row.Holds := by
  apply holes
  rotate_left 1
  exact hf ?T1
  exact hf ?T2
  exact hf ?T3
  rotate_left 3
  w_on
  k_head
end Mine

namespace Mine
theorem rstA1 : True := by
  w_top off
  exact trivial
end Mine
section
open PySem PySem.W PyProof.Rows PySem.Calls PySem.Spec
set_option maxRecDepth 100000
namespace Mine

/-- a dict whose entries are told as they lie, whatever its keys are -/
def RawD (h : Heap) (d : Addr) (es : Array DictEntry) (ep : Nat) : Prop := ∃ o, h.get? d = some o ∧ o.ExactDict ∧ o.data = .dict es ep
theorem RawD.at' {h h' : Heap} {d : Addr} {es : Array DictEntry} {ep : Nat} (x : RawD h d es ep) (e : ∀ o, h.get? d = some o → h'.get? d = some o) : RawD h' d es ep :=
  let ⟨o, a, b⟩ := x; ⟨o, e o a, b⟩
theorem RawD.lt {h : Heap} {d : Addr} {es : Array DictEntry} {ep : Nat} (x : RawD h d es ep) : d < h.objs.size := let ⟨_, a, _⟩ := x; Heap.lt_size a
theorem RawD.isDict {s : Shared} {d : Addr} {es : Array DictEntry} {ep : Nat} (x : RawD s.heap d es ep) : s.TypeIs (.ref d) "dict" := let ⟨o, a, b, _⟩ := x; ⟨o, a, b.1⟩

section
variable {prog : Program} {w : World} {A : Around} {E : Value → Shared → Prop} {s : Shared} {d it : Addr} {es : Array DictEntry} {ep i : Nat}

theorem raw_iter {Q : Value → Shared → Prop} (lo : (d == sysModules) = false) (x : RawD s.heap d es ep)
    (hq : Q (.ref s.heap.objs.size) { s with heap := s.heap.push { cls := .type "dict_keyiterator", data := .fields #[.ref d, .int 0 0, .int es.size 0, .int ep 0] } }) :
    wpAny (model prog w) A (pyIter (.ref d)) Q E s := by
  have hT := x.isDict
  obtain ⟨o, ho, hc, hd⟩ := x
  refine wpAny_pyIter_slot hT F.slot_dict_iter (wpAny_call_entry F.slot_dict_iter hT F.entry_dict_iter ?_ (F.args_dict_iter_1 _))
  unfold Builtin.«dict.__iter__» Builtin.Dict.dictSlotNone
  refine wpAny_bind (wpAny_bind (wpAny_notOrdered_dict hT (show wpAny _ _ (pure (Value.ref d)) _ _ s from wpAny_pure ?_)))
  show wpAny _ _ (Builtin.Dict.showsAll d >>= _) _ _ s
  unfold Builtin.Dict.showsAll
  rw [if_neg (by rw [lo]; exact Bool.false_ne_true)]
  refine wpAny_bind (wpAny_pure (wpAny_bind (wpAny_dictEntries ho hd (wpAny_bind (wpAny_dictEpoch ho hd ?_)))))
  refine wpAny_bind (wpAny_newObj_type (wpAny_pure ⟨_, rfl, "dict_keyiterator", _, ⟨_, Heap.get?_push_size _ rfl, rfl⟩, F.slot_dict_keyiterator_next.lookup, ?_⟩))
  simpa [rawInt] using hq

theorem raw_item {Q : Option Value → Shared → Prop} (hit : s.heap.IsKeyIter it d i es.size ep) (x : RawD s.heap d es ep) (hi : i < es.size)
    (hq : ∀ h', h'.IsKeyIter it d (i + 1) es.size ep → Heap.SameBut it s.heap h' → Q (some es[i].key) { s with heap := h' }) :
    wpAny (model prog w) A (pyNext (.ref it)) Q E s := by
  obtain ⟨o, ho, hc, hd⟩ := id hit
  obtain ⟨od, hod, hcd, hdd⟩ := x
  unfold pyNext
  refine wpAny_bind (wpAny_attempt (wpAny_callSpecial?_slot (name := Str.ofString "__next__") hit.typeIs F.slot_dict_keyiterator_next
    (wpAny_call_entry F.slot_dict_keyiterator_next hit.typeIs F.entry_dict_keyiterator_next ?_ (F.args_dict_keyiterator_next_1 _))))
  refine wpAny_bind (wpAny_pure (wpAny_bind (wpAny_bind ?_)))
  first | refine wpAny_bind (wpAny_typeNameOfWhole_keyiter hit.typeIs (wpAny_pure ?_)) | refine wpAny_bind (wpAny_typeNameOf_keyiter hit.typeIs (wpAny_pure ?_))
  refine wpAny_bind (wpAny_fieldsOf ho hd ?_)
  have hown : Builtin.Dict_items.ownsTuple "dict_keyiterator" = false := by decide
  simp only [hown, Bool.false_eq_true, if_false]
  show wpAny _ _ (if (Value.ref d == Value.none) = true then _ else _) _ _ s
  rw [if_neg (show ¬ ((Value.ref d == Value.none) = true) from Bool.false_ne_true)]
  refine wpAny_bind (wpAny_pure (wpAny_bind (wpAny_dictEntries hod hdd ?_)))
  rw [if_neg (by simp)]
  refine wpAny_bind (wpAny_pure (wpAny_bind (wpAny_dictEpoch hod hdd ?_)))
  rw [if_neg (by simp)]
  refine wpAny_pure ?_
  simp only [show ¬ ((i : Int) < 0) from by omega, if_false, Int.toNat_natCast, Array.getElem?_eq_getElem hi]
  refine wpAny_bind ?_
  first | refine wpAny_bind (wpAny_typeNameOfWhole_keyiter hit.typeIs (wpAny_pure ?_)) | refine wpAny_bind (wpAny_typeNameOf_keyiter hit.typeIs (wpAny_pure ?_))
  refine wpAny_bind (wpAny_isOneOf_keyiter hit.typeIs ?_)
  show wpAny _ _ (setField (.ref it) 1 (rawInt ((i : Int) + 1)) >>= _) _ _ s
  refine wpAny_bind (wpAny_setField ho hd (by simp) ?_)
  have hit' : (s.heap.update it (Obj.mapFields (·.setIfInBounds 1 (rawInt ((i : Int) + 1))))).IsKeyIter it d (i + 1) es.size ep :=
    ⟨_, Heap.get?_update_self _ ho (Obj.isFreed_of_fields (Obj.data_mapFields hd _)), (Obj.cls_mapFields ..).trans hc, by rw [Obj.data_mapFields hd]; simp [rawInt]⟩
  refine wpAny_bind (wpAny_holding ?_)
  refine wpAny_bind (wpAny_isOneOf_keyiter (s := { s with heap := s.heap.update it (Obj.mapFields (·.setIfInBounds 1 (rawInt ((i : Int) + 1)))) }) hit'.typeIs ?_)
  show wpAny _ _ (pure es[i].key) _ _ _
  exact wpAny_pure (wpAny_pure ⟨_, rfl, wpAny_pure (hq _ hit' (Heap.SameBut.update ..))⟩)

theorem raw_end {Q : Option Value → Shared → Prop} (hh : A.handled = none) (hit : s.heap.IsKeyIter it d es.size es.size ep) (x : RawD s.heap d es ep)
    (hq : ∀ h', Heap.ExtBut it s.heap h' → Q none { s with heap := h' }) : wpAny (model prog w) A (pyNext (.ref it)) Q E s := by
  obtain ⟨o, ho, hc, hd⟩ := id hit
  obtain ⟨od, hod, hcd, hdd⟩ := x
  unfold pyNext
  refine wpAny_bind (wpAny_attempt (wpAny_callSpecial?_slot (name := Str.ofString "__next__") hit.typeIs F.slot_dict_keyiterator_next
    (wpAny_call_entry F.slot_dict_keyiterator_next hit.typeIs F.entry_dict_keyiterator_next ?_ (F.args_dict_keyiterator_next_1 _))))
  refine wpAny_bind (wpAny_pure (wpAny_bind (wpAny_bind ?_)))
  first | refine wpAny_bind (wpAny_typeNameOfWhole_keyiter hit.typeIs (wpAny_pure ?_)) | refine wpAny_bind (wpAny_typeNameOf_keyiter hit.typeIs (wpAny_pure ?_))
  refine wpAny_bind (wpAny_fieldsOf ho hd ?_)
  have hown : Builtin.Dict_items.ownsTuple "dict_keyiterator" = false := by decide
  simp only [hown, Bool.false_eq_true, if_false]
  show wpAny _ _ (if (Value.ref d == Value.none) = true then _ else _) _ _ s
  rw [if_neg (show ¬ ((Value.ref d == Value.none) = true) from Bool.false_ne_true)]
  refine wpAny_bind (wpAny_pure (wpAny_bind (wpAny_dictEntries hod hdd ?_)))
  rw [if_neg (by simp)]
  refine wpAny_bind (wpAny_pure (wpAny_bind (wpAny_dictEpoch hod hdd ?_)))
  rw [if_neg (by simp)]
  refine wpAny_pure ?_
  simp only [show ¬ ((es.size : Int) < 0) from by omega, if_false, Int.toNat_natCast, Array.getElem?_eq_none (Nat.le_refl _)]
  refine wpAny_bind ?_
  first | refine wpAny_bind (wpAny_typeNameOfWhole_keyiter hit.typeIs (wpAny_pure ?_)) | refine wpAny_bind (wpAny_typeNameOf_keyiter hit.typeIs (wpAny_pure ?_))
  show wpAny _ _ (setField (.ref it) 0 .none >>= _) _ _ s
  refine wpAny_bind (wpAny_setField ho hd (by simp) ?_)
  show wpAny _ _ (newExc (.type "StopIteration") [] >>= _) _ _ _
  refine wpAny_bind ?_
  simp only [newExc, newTuple]
  refine wpAny_bind (wpAny_newObj_type ?_ (by size_fits))
  refine wpAny_bind (m := firstArgMember _ _) (wpAny_of_eq (a := Value.none) (by first | rfl | (simp only [firstArgMember]; rfl)) ?_)
  refine wpAny_newObj_type ?_ (by size_fits)
  simp only [raiseNew]
  refine wpAny_bind (wpAny_handled ?_)
  rw [show A.in1.handled = none from hh]
  refine wpAny_bind (wpAny_pure (wpAny_throw ?_))
  refine wpAny_bind (wpAny_isInstance (T := "StopIteration") (b := true) ⟨_, Heap.get?_push_size _ rfl, rfl⟩ isSubtype_stop ?_)
  exact wpAny_pure (hq _ (((Heap.SameBut.update ..).extBut.push _).push _))

theorem raw_walks (hh : A.handled = none) (I d : Addr) (hne : d ≠ I) (es : Array DictEntry) (ep : Nat) :
    Walks prog w A I [I, d] [I] es.size (fun i v => ∃ e, es[i]? = some e ∧ v = e.key) (fun i h => h.IsKeyIter I d i es.size ep ∧ RawD h d es ep) where
  sub := fun b hb => by simp at hb; simp [hb]
  frame := fun _ _ _ st hk => ⟨st.1.at fun o e => hk I (by simp) o e, st.2.at' fun o e => hk d (by simp) o e⟩
  item := fun i s Q E hi st hQ => raw_item st.1 st.2 hi fun h' hit' hs' =>
    hQ _ h' s.toks ⟨_, Array.getElem?_eq_getElem hi, rfl⟩ ⟨hit', st.2.at' fun o e => hs'.extBut d o hne e⟩ fun b o hb e => hs'.extBut b o (fun h => hb (by simp [h])) e
  done := fun s Q E st hQ => raw_end hh st.1 st.2 fun h' he' => hQ h' s.toks fun b o hb e => he' b o (fun h => hb (by simp [h])) e
  self := fun _ _ _ _ st hQ => wpAny_pyIter_keyiter st.1 hQ

theorem raw_src (lo : (d == sysModules) = false) : KdlSrc prog w "dict" d d es.size (fun i v => ∃ e, es[i]? = some e ∧ v = e.key) (fun h => RawD h d es ep) where
  type := fun _ x => x.isDict
  there := fun _ x => ⟨x.lt, x.lt⟩
  keep := fun _ _ x hk => x.at' fun o e => hk d (.inl rfl) o e
  notList := by decide
  notTuple := by decide
  hint := fun _ _ _ _ x hq => kdl_hint_dict x.isDict hq
  iter := fun _ _ hh x => ⟨_, _, (fun _ _ hq => raw_iter lo x hq), raw_walks hh _ d (Nat.ne_of_lt x.lt) es ep, ⟨⟨_, Heap.get?_push_size _ rfl, rfl, rfl⟩, x.at' fun o e => Heap.get?_push_of_some _ e⟩⟩
end
end Mine
end

namespace Mine
theorem rstA2 : True := by
  w_top off
  exact trivial
end Mine
section
open PySem PySem.W PyProof.Rows PySem.Calls PySem.Spec
set_option maxRecDepth 100000
namespace Mine

/-- the row of number k: of one place (k), or of two (k // 2, k % 2) -/
def rowL (ar k : Nat) : List Int := if ar = 1 then [(k : Int)] else [((k / 2 : Nat) : Int), ((k % 2 : Nat) : Int)]
def rowD (ar k : Nat) : Dat := .tuple ((rowL ar k).map Dat.int)

theorem intsOf {news : List (Addr × Obj)} : ∀ {vs : List Value} {ns : List Int}, DatAll news vs (ns.map Dat.int) → IntsAre vs ns
  | [], [], _ => by first | exact .nil | exact trivial | simp [IntsAre]
  | [], _ :: _, h => nomatch h
  | _ :: _, [], h => nomatch h
  | v :: vs, n :: ns, h => by
    cases h with
    | cons a r =>
      cases a with
      | int _ t => exact IntsAre.cons n t (intsOf r)

theorem row_open {news : List (Addr × Obj)} {v : Value} {ar k : Nat} (h : DatIn news v (rowD ar k)) :
    ∃ a vs n, v = .ref a ∧ (a, ({ cls := .type "tuple", data := .seq vs.toArray n } : Obj)) ∈ news ∧ DatAll news vs ((rowL ar k).map Dat.int) := by
  cases h with
  | tuple hm r => exact ⟨_, _, _, rfl, hm, r⟩

section
variable {prog : Program} {w : World} {A : Around} {E : Value → Shared → Prop} {s : Shared} {h₀ : Heap} {L : Addr} {news news' : List (Addr × Obj)} {ar : Nat}

theorem row_lt {x y : Value} {i j : Nat} {Q : Bool → Shared → Prop} (N : News h₀ L s.heap news) (hx : DatIn news x (rowD ar i)) (hy : DatIn news y (rowD ar j)) (h : Q (decide (i < j)) s) :
    wpAny (model prog w) A (keyLt' (tuples' true) x y) Q E s := by
  obtain ⟨a, vs, n, rfl, ma, da⟩ := row_open hx
  obtain ⟨b, us, k, rfl, mb, db⟩ := row_open hy
  refine kat_lt (N.get ma) rfl (N.get mb) rfl ?_
  by_cases har : ar = 1
  · simp only [rowL, har, if_true, List.map_cons, List.map_nil] at da db
    cases da with | cons da1 da2 =>
    cases da2; cases da1 with | int _ t =>
    cases db with | cons db1 db2 =>
    cases db2; cases db1 with | int _ u =>
    refine kat_cons (wpAny_eqBool_int ?_)
    by_cases e : i = j
    · subst e
      rw [show ((i : Int) == (i : Int)) = true from by simp]
      refine kat_yes (kat_nil ?_)
      simpa using h
    · rw [show ((i : Int) == (j : Int)) = false from by rw [beq_eq_false_iff_ne]; omega]
      refine kat_no (oneLt_int ?_)
      simpa using h
  · simp only [rowL, har, if_false, List.map_cons, List.map_nil] at da db
    cases da with | cons da1 da2 =>
    cases da1 with | int _ t1 =>
    cases da2 with | cons da3 da4 =>
    cases da4; cases da3 with | int _ t2 =>
    cases db with | cons db1 db2 =>
    cases db1 with | int _ u1 =>
    cases db2 with | cons db3 db4 =>
    cases db4; cases db3 with | int _ u2 =>
    refine kat_cons (wpAny_eqBool_int ?_)
    by_cases e : i / 2 = j / 2
    · rw [show (((i / 2 : Nat) : Int) == ((j / 2 : Nat) : Int)) = true from by simp only [e, beq_self_eq_true]]
      refine kat_yes (kat_cons (wpAny_eqBool_int ?_))
      by_cases e2 : i % 2 = j % 2
      · rw [show (((i % 2 : Nat) : Int) == ((j % 2 : Nat) : Int)) = true from by simp only [e2, beq_self_eq_true]]
        refine kat_yes (kat_nil ?_)
        have hij : i = j := by omega
        simpa [hij] using h
      · rw [show (((i % 2 : Nat) : Int) == ((j % 2 : Nat) : Int)) = false from by rw [beq_eq_false_iff_ne]; omega]
        refine kat_no (kat_one _ _ (lt_int ?_))
        have hd : decide (((i % 2 : Nat) : Int) < ((j % 2 : Nat) : Int)) = decide (i < j) := by
          apply decide_eq_decide.mpr; omega
        show Q _ s
        rw [hd]; exact h
    · rw [show (((i / 2 : Nat) : Int) == ((j / 2 : Nat) : Int)) = false from by rw [beq_eq_false_iff_ne]; omega]
      refine kat_no (oneLt_int ?_)
      have hd : decide (((i / 2 : Nat) : Int) < ((j / 2 : Nat) : Int)) = decide (i < j) := by
        apply decide_eq_decide.mpr; omega
      rw [hd]; exact h

/-- the sort's tree of questions, answered by a plain function -/
def runT {α : Type} (f : Nat → Nat → Bool) : KasT α → α
  | .ret a => a
  | .ask i j k => runT f (k (f i j))
/-- .. that asks only about what lies in bounds -/
def okT {α : Type} (n : Nat) (f : Nat → Nat → Bool) : KasT α → Bool
  | .ret _ => true
  | .ask i j k => decide (i < n) && decide (j < n) && okT n f (k (f i j))
theorem runT_wp {α : Type} {cmp : Nat → Nat → (Bool → Shared → Prop) → Shared → Prop} {f : Nat → Nat → Bool} {n : Nat} {s : Shared}
    (hc : ∀ i j C, i < n → j < n → C (f i j) s → cmp i j C s) {Q : α → Shared → Prop} : ∀ (t : KasT α), okT n f t = true → Q (runT f t) s → t.kasWp cmp Q s
  | .ret _, _, h => h
  | .ask i j k, ho, h => by
    simp only [okT, Bool.and_eq_true, decide_eq_true_eq] at ho
    exact hc i j _ ho.1.1 ho.1.2 (runT_wp hc (k (f i j)) ho.2 h)

def askF (ks : List Nat) (i j : Nat) : Bool := decide (ks.getD i 0 < ks.getD j 0)
def sortK (ks : List Nat) : List Nat := (List.range 4).filter fun k => ks.contains k
def sortOk (ks : List Nat) : Bool :=
  !(decide ks.Nodup) || (okT ks.length (askF ks) (kas_sort ks.length) && decide (((runT (askF ks) (kas_sort ks.length)).toList.map fun i => ks.getD i 0) = sortK ks) && (runT (askF ks) (kas_sort ks.length)).toList.all (fun i => decide (i < ks.length)))
theorem sort2 : ∀ a b : Fin 4, sortOk [a.val, b.val] = true := by decide +kernel
theorem sort3 : ∀ a b c : Fin 4, sortOk [a.val, b.val, c.val] = true := by decide +kernel
theorem sort4 : ∀ a b c d : Fin 4, sortOk [a.val, b.val, c.val, d.val] = true := by decide +kernel
theorem nodup_le4 {ks : List Nat} (hn : ks.Nodup) (hk : ∀ k ∈ ks, k < 4) : ks.length ≤ 4 := by
  have := List.Nodup.length_le_of_subset (l₁ := ks) (l₂ := List.range 4) hn (fun k h => List.mem_range.mpr (hk k h))
  simpa using this
theorem sort_ok {ks : List Nat} (hn : ks.Nodup) (hk : ∀ k ∈ ks, k < 4) (h2 : 2 ≤ ks.length) : sortOk ks = true := by
  have h4 := nodup_le4 hn hk
  match ks, h2, h4, hk with
  | [a, b], _, _, hk => exact sort2 ⟨a, hk a (by simp)⟩ ⟨b, hk b (by simp)⟩
  | [a, b, c], _, _, hk => exact sort3 ⟨a, hk a (by simp)⟩ ⟨b, hk b (by simp)⟩ ⟨c, hk c (by simp)⟩
  | [a, b, c, d], _, _, hk => exact sort4 ⟨a, hk a (by simp)⟩ ⟨b, hk b (by simp)⟩ ⟨c, hk c (by simp)⟩ ⟨d, hk d (by simp)⟩
  | [], h2, _, _ => simp at h2
  | [_], h2, _, _ => simp at h2
  | _ :: _ :: _ :: _ :: _ :: _, _, h4, _ => simp only [List.length_cons] at h4; omega

theorem firsts {ar : Nat} {news : List (Addr × Obj)} (N : News h₀ L s.heap news) : ∀ {vs : List Value} {ks : List Nat}, DatAll news vs (ks.map (rowD ar)) →
    ∃ fs, fs.length = ks.length ∧ KatTups s.heap vs fs ∧ ∀ v ∈ fs, ∃ n t, v = Value.int n t
  | [], [], _ => ⟨[], rfl, KatTups.nil, fun _ h => nomatch h⟩
  | [], _ :: _, h => nomatch h
  | _ :: _, [], h => nomatch h
  | v :: vs, k :: ks, h => by
    cases h with
    | cons hv hr =>
      obtain ⟨fs, hl, ht, hf⟩ := firsts N hr
      obtain ⟨a, us, n, rfl, ma, da⟩ := row_open hv
      have : ∃ f t us', us = Value.int f t :: us' := by
        by_cases har : ar = 1
        · simp only [rowL, har, if_true, List.map_cons, List.map_nil] at da
          cases da with | cons da1 da2 =>
          cases da1 with | int _ t => exact ⟨_, t, _, rfl⟩
        · simp only [rowL, har, if_false, List.map_cons, List.map_nil] at da
          cases da with | cons da1 da2 =>
          cases da1 with | int _ t => exact ⟨_, t, _, rfl⟩
      obtain ⟨f, t, us', rfl⟩ := this
      refine ⟨.int f t :: fs, by rw [List.length_cons, List.length_cons, hl], KatTups.cons (N.get ma) rfl rfl (by simp) ht, fun u hu => ?_⟩
      rcases List.mem_cons.mp hu with rfl | hu
      · exact ⟨_, _, rfl⟩
      · exact hf u hu

theorem rows_at {vs : List Value} {ks : List Nat} (D : DatAll news vs (ks.map (rowD ar))) {i : Nat} (hi : i < ks.length) : DatIn news (vs.getD i Value.none) (rowD ar (ks.getD i 0)) := by
  obtain ⟨v, hv, hd⟩ := D.get (k := i) (by rw [List.length_map]; exact hi)
  have e1 : vs.getD i Value.none = v := by rw [List.getD_eq_getElem?_getD, hv]; rfl
  have e2 : ks.getD i 0 = ks[i] := by rw [List.getD_eq_getElem?_getD, List.getElem?_eq_getElem hi]; rfl
  rw [e1, e2]
  simpa using hd

theorem rows_perm {vs : List Value} {ks : List Nat} (D : DatAll news vs (ks.map (rowD ar))) : ∀ (l : List Nat), (∀ i ∈ l, i < ks.length) → DatAll news (l.map fun i => vs.getD i Value.none) ((l.map fun i => ks.getD i 0).map (rowD ar))
  | [], _ => .nil
  | i :: l, h => .cons (rows_at D (h i (.head _))) (rows_perm D l fun j hj => h j (.tail _ hj))
variable {D : Addr} {m : Str → Option Value} {vs : List Value} {ks : List Nat} {c : Nat}
theorem sort_short {Q : Value → Shared → Prop} (F : Fr h₀ L s.heap m) (N : News h₀ L s.heap ((D, listOf vs.toArray c) :: news)) (off : ∀ q ∈ news, q.1 ≠ D) (h2 : vs.length < 2)
    (h : ∀ h' c', Fr h₀ L h' m → News h₀ L h' ((D, listOf vs.toArray c') :: news) → Q .none { s with heap := h' }) :
    wpAny (model prog w) A (call (.builtin "list.sort") [.ref D]) Q E s := by
  have nz := N (D, listOf vs.toArray c) (.head _)
  have N₀ : News h₀ L s.heap news := fun p hp => N p (.tail _ hp)
  have ho : s.heap.get? D = some (seqObj "list" vs.toArray c) := nz.1
  refine wpAny_call_entry slot_list_sort ⟨_, nz.1, rfl⟩ entry_list_sort ?body (args_list_sort _)
  case body =>
    rw [list_sort_plain]
    have s1 := Heap.SameBut.update s.heap D (Obj.mapSeq fun _ => (#[] : Array Value))
    obtain ⟨e1, ho1⟩ : ∃ e1, (s.heap.update D (Obj.mapSeq fun _ => (#[] : Array Value))).get? D = some (seqObj "list" #[] e1) := ⟨_, get?_update_seq ho fun _ => #[]⟩
    have F3 : Fr h₀ L (((s.heap.update D (Obj.mapSeq fun _ => (#[] : Array Value))).push (seqObj "tuple" vs.toArray 0)).push (seqObj "list" #[] 0)) m := ((kas_fr F s1 nz.2.1 nz.2.2).push _).push _
    have N2 : News h₀ L (((s.heap.update D (Obj.mapSeq fun _ => (#[] : Array Value))).push (seqObj "tuple" vs.toArray 0)).push (seqObj "list" #[] 0)) news :=
      (kas_news N₀ s1 off).grown fun b x e => Heap.get?_push_of_some _ (Heap.get?_push_of_some _ e)
    have ho6 : (((s.heap.update D (Obj.mapSeq fun _ => (#[] : Array Value))).push (seqObj "tuple" vs.toArray 0)).push (seqObj "list" #[] 0)).get? D = some (seqObj "list" #[] e1) := Heap.get?_push_of_some _ (Heap.get?_push_of_some _ ho1)
    refine wpAny_bind (listItems_at ho rfl ?_)
    refine wpAny_bind (listUpdate_at ho rfl ?_ (by rw [List.size_toArray, sizeLine_eq]; omega) (Nat.zero_le _))
    refine wpAny_bind (seqEpoch_at ho1 rfl ?_)
    refine wpAny_bind (wpAny_newTuple ?_ (by show vs.length ≤ _; rw [sizeLine_eq]; omega))
    refine wpAny_bind (wpAny_newList ?_ (Nat.zero_le _))
    refine wpAny_holding ?_
    show wpAny (model prog w) A.in1 _ _ _ { s with heap := ((s.heap.update D (Obj.mapSeq fun _ => (#[] : Array Value))).push (seqObj "tuple" vs.toArray 0)).push (seqObj "list" #[] 0) }
    dsimp only
    have hn2 : vs.toArray.size < 2 := by rw [List.size_toArray]; exact h2
    rw [if_pos hn2, if_pos hn2]
    refine wpAny_bind (wpAny_pure ?_)
    rw [StateT.run_pure]
    refine wpAny_bind (wpAny_pure ?_)
    dsimp only
    have hout : (arrOf (SortSt.mk' general' (vs.toArray.zip vs.toArray) #[] 7 none)).map (·.2) = vs.toArray := by
      show (vs.toArray.zip vs.toArray).map (·.2) = vs.toArray
      apply Array.toList_inj.mp
      simp [List.map_snd_zip]
    rw [hout]
    have s2 := Heap.SameBut.update (((s.heap.update D (Obj.mapSeq fun _ => (#[] : Array Value))).push (seqObj "tuple" vs.toArray 0)).push (seqObj "list" #[] 0)) D (Obj.mapSeq fun _ => vs.toArray)
    obtain ⟨c2, hc2⟩ : ∃ c2, ((((s.heap.update D (Obj.mapSeq fun _ => (#[] : Array Value))).push (seqObj "tuple" vs.toArray 0)).push (seqObj "list" #[] 0)).update D (Obj.mapSeq fun _ => vs.toArray)).get? D = some (seqObj "list" vs.toArray c2) := ⟨_, get?_update_seq ho6 fun _ => vs.toArray⟩
    refine wpAny_bind (seqEpoch_at ho6 rfl ?_)
    refine wpAny_bind (listUpdate_at ho6 rfl ?_ (Nat.zero_le _) (by rw [List.size_toArray, sizeLine_eq]; omega))
    simp only [bne_self_eq_false, Bool.false_eq_true, if_false]
    refine wpAny_pure ⟨_, rfl, h _ c2 (kas_fr F3 s2 nz.2.1 nz.2.2) fun p hp => ?_⟩
    rcases List.mem_cons.mp hp with rfl | hp
    · exact ⟨hc2, nz.2⟩
    · exact (kas_news N2 s2 off) p hp

theorem sort_rows {Q : Value → Shared → Prop} (F : Fr h₀ L s.heap m) (N : News h₀ L s.heap ((D, listOf vs.toArray c) :: news)) (off : ∀ q ∈ news, q.1 ≠ D) (hR : DatAll news vs (ks.map (rowD ar)))
    (hn : ks.Nodup) (hk : ∀ k ∈ ks, k < 4)
    (h : ∀ h' c' vs', Fr h₀ L h' m → News h₀ L h' ((D, listOf vs'.toArray c') :: news) → DatAll news vs' ((sortK ks).map (rowD ar)) → Q .none { s with heap := h' }) :
    wpAny (model prog w) A (call (.builtin "list.sort") [.ref D]) Q E s := by
  have hl : vs.length = ks.length := by rw [hR.length, List.length_map]
  have h4 := nodup_le4 hn hk
  by_cases h2 : 2 ≤ ks.length
  · have ok := sort_ok hn hk h2
    unfold sortOk at ok
    rw [decide_eq_true hn] at ok
    simp only [Bool.not_true, Bool.false_or, Bool.and_eq_true, decide_eq_true_eq, List.all_eq_true] at ok
    obtain ⟨⟨ok1, ok2⟩, ok3⟩ := ok
    refine kat_lsort (vs := vs) F N (UpdF.head off) rfl (by omega) (by omega) fun e1 h' F' N' => ?_
    have N₀ : News h₀ L h' news := fun p hp => N' p (.tail _ hp)
    obtain ⟨fs, fl, ft, fi⟩ := firsts (s := { s with heap := h' }) N₀ hR
    refine kat_kind (T := .type "int") ft (by omega) (fun v hv => ?_) rfl ?_
    · obtain ⟨n, t, rfl⟩ := fi v hv
      exact Looks.of_pure rfl
    · rw [hl]
      refine runT_wp (n := ks.length) (f := askF ks) (fun i j C hi hj hC => ?_) _ ok1 ?_
      · exact row_lt (s := { s with heap := h' }) N₀ (rows_at hR hi) (rows_at hR hj) hC
      · refine KasFin.intro F' N' (UpdF.head off) fun h'' c' F'' N'' => h h'' c' _ F'' N'' ?_
        rw [← ok2]
        exact rows_perm hR _ ok3
  · have e : sortK ks = ks := by
      match ks, h2, hk with
      | [], _, _ => decide
      | [a], _, hk =>
        have : a < 4 := hk a (by simp)
        match a, this with
        | 0, _ => decide
        | 1, _ => decide
        | 2, _ => decide
        | 3, _ => decide
      | _ :: _ :: _, h2, _ => simp at h2
    exact sort_short F N off (by omega) fun h' c' F' N' => h h' c' vs F' N' (by rw [e]; exact hR)
end
end Mine
end

namespace Mine
theorem rstA3 : True := by
  w_top off
  exact trivial
end Mine
section
open PySem PySem.W PyProof.Rows PySem.Calls PySem.Spec
set_option maxRecDepth 100000
namespace Mine
theorem list_keys_none : typeLookup (.type "list") "keys" = pure none := by rw [typeLookup_type, builtinLookup_eq_fast]; kernel_rfl
section
variable {prog : Program} {w : World} {A : Around} {E : Value → Shared → Prop} {s : Shared} {h₀ : Heap} {L : Addr} {news news' : List (Addr × Obj)} {ar : Nat}
theorem keys_miss {a : Addr} {xs : Array Value} {k : Nat} {Q : Option Value → Shared → Prop} (hx : s.heap.get? a = some (listOf xs k)) (hA : A.handled = none)
    (h : ∀ h' tk, (∀ b o, s.heap.get? b = some o → h'.get? b = some o) → Q none { s with heap := h', toks := tk }) : wpAny (model prog w) A (getAttr? (.ref a) "keys") Q E s := by
  obtain ⟨hp, g, d, tk, os⟩ := s
  have hT : ∀ tk', (⟨hp, g, d, tk', os⟩ : Shared).TypeIs (.ref a) "list" := fun _ => ⟨_, hx, rfl⟩
  have f1 := sub_AttributeError
  have f3 := F.slot_list_getattribute.lookup
  have f4 := F.slot_list_getattribute.bind (.ref a)
  have f5 := am_list_getattr_none
  unfold getAttr? getAttrBy? getAttrBy
  repeat (any_goals (first | assumption | exact hT _ | ((with_reducible show wpAny _ _ (call (Value.builtin "list.__getattribute__") _ _) _ _ _); refine call_meets F.slot_list_getattribute (hT _) am_entry_list_getattribute (F.args_list_getattribute_2 _ _) (meets_getattribute_miss_list a xs k #[] "keys" _ list_keys_none (by decide) (by size_fits)) ⟨hx, hA, fun h' tk' e hx' => ?_⟩) | wp_step))
  obtain ⟨t', u', he⟩ := hx'.there
  have hTe : ∀ tk, (⟨h', g, d, tk, os⟩ : Shared).TypeIs (.ref e) "AttributeError" := fun _ => ⟨_, he, rfl⟩
  show wpAny _ _ (getattributeRaised _ _ _ _ _ _ _) _ _ _
  unfold getattributeRaised
  repeat (any_goals (first | assumption | wp_step))
  all_goals exact h _ _ hx'.of.keeps
end
end Mine
end

namespace Mine
theorem rstA4 : True := by
  w_top off
  exact trivial
end Mine
section
open PySem PySem.W PyProof.Rows PySem.Calls PySem.Spec
set_option maxRecDepth 100000
namespace Mine
theorem entry_upd : entryFor table "dict.update.loop" = some Builtin.«dict.update.loop» := entryFor_of_tree (by kernel_rfl)
theorem plain_upd : plainId "dict.update.loop" = true := by decide +kernel

section
variable {prog : Program} {w : World}
abbrev rowK (prog : Program) (w : World) : HeapKind prog w (List Int) := tupleKind (intKind prog w)

/-- a pair of the list that a dict is made of: its address, the key's address, the key -/
structure PairAt (prog : Program) (w : World) (d it : Addr) (h : Heap) (p : Addr × Addr × List Int) : Prop where
  pair : ∃ n, h.get? p.1 = some { cls := .type "tuple", data := .seq #[.ref p.2.1, .bool true] n }
  key : IsTupleKey (intKind prog w) h p.2.2 p.2.1
  d1 : p.1 ≠ d
  d2 : p.2.1 ≠ d
  i1 : p.1 ≠ it
  i2 : p.2.1 ≠ it
theorem PairAt.keeps {d it : Addr} {h h' : Heap} {p : Addr × Addr × List Int} (x : PairAt prog w d it h p) (k : ∀ b o, b ≠ d → b ≠ it → h.get? b = some o → h'.get? b = some o) : PairAt prog w d it h' p where
  pair := let ⟨n, e⟩ := x.pair; ⟨n, k _ _ x.d1 x.i1 e⟩
  key := let ⟨o, its, n, e, r⟩ := x.key; ⟨o, its, n, k _ _ x.d2 x.i2 e, r⟩
  d1 := x.d1
  d2 := x.d2
  i1 := x.i1
  i2 := x.i2

def storeAll (xs : List (List Int × Addr × Value)) : List (Addr × Addr × List Int) → List (List Int × Addr × Value)
  | [] => xs
  | p :: r => storeAll (storedH xs p.2.2 p.2.1 (.bool true)) r

variable {A : Around} {E : Value → Shared → Prop}
theorem upd_loop {d it l : Addr} (hdi : d ≠ it) (hld : l ≠ d) (hli : l ≠ it) (hu : A.units + 2 < cLine) (hh : A.handled = none) (items : Array Value) {R : Result → Shared → Prop} :
    ∀ (ps : List (Addr × Addr × List Int)) (i : Nat) (t : Tok) (xs : List (List Int × Addr × Value)) (s : Shared), items.toList.drop i = ps.map (fun p => Value.ref p.1) → i + ps.length = items.size → xs.length + ps.length ≤ 1000 →
      s.heap.DictOfH (rowK prog w) d xs → s.heap.IsListIter it l i → s.heap.IsList l items → (∀ p ∈ ps, PairAt prog w d it s.heap p) →
      (∀ h' tk, h'.DictOfH (rowK prog w) d (storeAll xs ps) → (∀ b o, b ≠ d → b ≠ it → s.heap.get? b = some o → h'.get? b = some o) → R (.ok (.ret .none)) { s with heap := h', toks := tk }) →
      codeAny (model prog w) A (.builtin "dict.update.loop" ⟨[.ref d, .ref it, .int i t, .none], []⟩) R s := by
  intro ps
  have W := Walks.list (prog := prog) (w := w) (A := A.in1) hh it l hli items
  induction ps with
  | nil =>
    intro i t xs s hdrop hi hx hm hit hl hp hR
    have hin : i = items.size := by simpa using hi
    subst hin
    refine codeAny_builtin entry_upd ?_
    rw [Around.under_plainId plain_upd _]
    show wpAny _ A.in1 (pyNext (.ref it) >>= _) _ _ s
    refine wpAny_bind (W.done s _ _ ⟨hit, hl⟩ fun h' tk hk => ?_)
    show wpAny _ A.in1 (Builtin.Dict.addKeywords d [] >>= _) _ _ _
    refine wpAny_bind (wpAny_pure (wpAny_pure (hR h' tk ?_ fun b o _ hb e => hk b o (by simpa using hb) e)))
    obtain ⟨o, es, ep, ho, hc, hd, he, his, hn⟩ := hm
    refine ⟨o, es, ep, hk _ _ (by simpa using hdi) ho, hc, hd, he, fun x hx => ?_, hn⟩
    obtain ⟨o', its, n, e, hcc, hdd, r⟩ := his x hx
    refine ⟨o', its, n, hk _ _ (fun hm => ?_) e, hcc, hdd, r⟩
    rw [List.mem_singleton.mp hm] at e
    obtain ⟨oi, ei, ci, _⟩ := hit
    rw [e] at ei
    cases ei
    exact absurd (hcc.symm.trans ci) (by simp)
  | cons p r ih =>
    intro i t xs s hdrop hi hx hm hit hl hp hR
    rw [List.length_cons] at hi hx
    have hlt : i < items.size := by omega
    refine codeAny_builtin entry_upd ?_
    rw [Around.under_plainId plain_upd _]
    show wpAny _ A.in1 (pyNext (.ref it) >>= _) _ _ s
    refine wpAny_bind (W.item i s _ _ hlt ⟨hit, hl⟩ fun v h' tk hv hst hk => ?_)
    have hv' : v = .ref p.1 := by
      have e : items.toList[i]? = some (.ref p.1) := by
        have := congrArg (fun l => l[0]?) hdrop
        simpa using this
      rw [Array.getElem?_toList] at e
      rw [hv] at e
      exact Option.some.inj e
    subst hv'
    have keep1 : ∀ b o, b ≠ d → b ≠ it → s.heap.get? b = some o → h'.get? b = some o := fun b o _ hb e => hk b o (by simpa using hb) e
    have P := (hp p (.head _)).keeps keep1
    obtain ⟨n, hpo⟩ := P.pair
    have hm' : h'.DictOfH (rowK prog w) d xs := by
      obtain ⟨o, es, ep, ho, hc, hd, he, his, hn⟩ := hm
      refine ⟨o, es, ep, hk _ _ (by simpa using hdi) ho, hc, hd, he, fun x hx => ?_, hn⟩
      obtain ⟨o', its, n, e, hcc, hdd, r⟩ := his x hx
      refine ⟨o', its, n, hk _ _ (fun hm => ?_) e, hcc, hdd, r⟩
      rw [List.mem_singleton.mp hm] at e
      obtain ⟨oi, ei, ci, _⟩ := hit
      rw [e] at ei
      cases ei
      exact absurd (hcc.symm.trans ci) (by simp)
    show wpAny _ A.in1 (holding [Value.ref p.1] _ >>= fun _ => again _) _ _ _
    refine wpAny_bind (wpAny_holding (wpAny_bind (wpAny_tryCatch ?_)))
    show wpAny _ A.in1 (Builtin.Dict.pairItems (.ref p.1)) _ _ _
    unfold Builtin.Dict.pairItems
    refine wpAny_bind (wpAny_typeOf (T := "tuple") ⟨_, hpo, rfl⟩ ?_)
    rw [if_pos (by decide)]
    refine wpAny_bind (wpAny_seqItems hpo rfl (wpAny_pure ?_))
    show wpAny _ A.in1 (holding [Value.ref p.2.1, Value.bool true] (dictSet d (.ref p.2.1) (.bool true))) _ _ _
    refine (wpAny_holding (wpAny_dictSet_heap (hsz := by rw [sizeLine_eq]; omega) (by show A.in1.units < cLine; rw [Around.in1_units]; omega) P.key hm' fun h2 hm2 hs2 => ?_))
    refine wpAny_pure ⟨plainId_quiet plain_upd _, ?_⟩
    have keep2 : ∀ b o, b ≠ d → b ≠ it → s.heap.get? b = some o → h2.get? b = some o := fun b o hb hb' e => hs2.extBut b o hb (keep1 b o hb hb' e)
    refine ih (i + 1) 0 _ { s with heap := h2, toks := _ } ?_ (by omega) ?_ hm2 (hst.1.at fun o e => hs2.extBut it o (Ne.symm hdi) e) (hst.2.at fun o e => hs2.extBut l o hld e) (fun q hq => (hp q (.tail _ hq)).keeps keep2) fun h3 tk3 hm3 hk3 => ?_
    · have := congrArg List.tail hdrop
      simpa [List.tail_drop] using this
    · have : (storedH xs p.2.2 p.2.1 (.bool true)).length ≤ xs.length + 1 := by
        unfold storedH
        split
        · rw [List.length_map]; omega
        · rw [List.length_append]; simp
      omega
    · exact hR h3 tk3 hm3 fun b o hb hb' e => hk3 b o hb hb' (keep2 b o hb hb' e)
end
end Mine
end

namespace Mine
theorem rstA5 : True := by
  w_top off
  exact trivial
end Mine
section
open PySem PySem.W PyProof.Rows PySem.Calls PySem.Spec
set_option maxRecDepth 100000
namespace Mine
section
variable {prog : Program} {w : World} {A : Around} {E : Value → Shared → Prop} {s : Shared} {h₀ h : Heap} {L : Addr} {m : Str → Option Value} {news : List (Addr × Obj)} {ar : Nat}

/-- an object that is a dict with tuples of ints as keys -/
def DictObj (prog : Program) (w : World) (o : Obj) (xs : List (List Int × Addr × Value)) : Prop :=
  ∃ es ep, o.ExactDict ∧ o.data = .dict es ep ∧ es.toList = xs.map (entryOfKey (rowK prog w)) ∧ (xs.map (·.1)).Nodup
theorem key_of {a : Addr} {k : Nat} (N : News h₀ L h news) (hd : DatIn news (.ref a) (rowD ar k)) : IsTupleKey (intKind prog w) h (rowL ar k) a := by
  obtain ⟨b, vs, n, e, hm, r⟩ := row_open hd
  cases e
  refine ⟨_, _, n, N.get hm, rfl, rfl, ?_⟩
  have go : ∀ {ns : List Int} {vs : List Value}, DatAll news vs (ns.map Dat.int) → ItemsAre (intKind prog w) ns vs := by
    intro ns
    induction ns with
    | nil => intro vs h; cases h; exact .nil
    | cons n ns ih =>
      intro vs h
      cases h with
      | cons a b =>
        cases a with
        | int _ t => exact .cons (show Value.isInt n (.int n t) = true by simp [Value.isInt]) (ih b)
  simpa using go r
theorem DictObj.at {D : Addr} {o : Obj} {xs : List (List Int × Addr × Value)} (N : News h₀ L h news) (hm : (D, o) ∈ news) (x : DictObj prog w o xs) (hk : ∀ p ∈ xs, ∃ k, p.1 = rowL ar k ∧ DatIn news (.ref p.2.1) (rowD ar k)) : h.DictOfH (rowK prog w) D xs := by
  obtain ⟨es, ep, hc, hd, he, hn⟩ := x
  refine ⟨o, es, ep, N.get hm, hc, hd, he, fun p hp => ?_, hn⟩
  obtain ⟨k, e, hdk⟩ := hk p hp
  rw [e]
  exact key_of N hdk

theorem dict_pairs {l : Addr} {n : Nat} {ps : List (Addr × Addr × Nat)} {Q : Value → Shared → Prop} (F : Fr h₀ L s.heap m) (N : News h₀ L s.heap news) (hbig : h₀.NoLimit) (hh : A.handled = none) (hu : A.units + 10 < cLine)
    (hm : (l, listOf (ps.map fun p => Value.ref p.1).toArray n) ∈ news) (hlen : ps.length ≤ 500)
    (hp : ∀ p ∈ ps, (∃ c, (p.1, ({ cls := .type "tuple", data := .seq #[.ref p.2.1, .bool true] c } : Obj)) ∈ news) ∧ DatIn news (.ref p.2.1) (rowD ar p.2.2))
    (h : ∀ D o h' tk, Fr h₀ L h' m → News h₀ L h' ((D, o) :: news) → (∀ q ∈ news, q.1 < D) → (D == sysModules) = false → DictObj prog w o (storeAll [] (ps.map fun p => (p.1, p.2.1, rowL ar p.2.2))) → Q (.ref D) { s with heap := h', toks := tk }) :
    wpAny (model prog w) A (call (.type "dict") [.ref l]) Q E s := by
  refine callType_codes (Q₁ := fun obj s₁ => obj = .ref s.heap.objs.size ∧ s₁ = { s with heap := s.heap.push { cls := .type "dict", data := .dict #[] } }) PySem.F.kt_called_dict (PySem.F.kt_typeCall_dict_1 _) PySem.F.entry_dict_init (kt_code_dict_new _ ⟨rfl, rfl⟩) ?_
  rintro obj s₁ ⟨rfl, rfl⟩
  have lt : ∀ q ∈ news, q.1 < s.heap.objs.size := fun q hq => Heap.lt_size (N q hq).1
  have hnew : (s.heap.push { cls := .type "dict", data := .dict #[] }).DictOfH (rowK prog w) s.heap.objs.size [] := Heap.DictOfH.new s.heap
  have F1 : Fr h₀ L (s.heap.push { cls := .type "dict", data := .dict #[] }) m := F.push _
  have N1 := News.push F N { cls := .type "dict", data := .dict #[] }
  refine ⟨hnew.typeIs, PySem.F.args_dict_init_2 _ _, ?_⟩
  unfold Builtin.«dict.__init__»
  refine wpAny_bind ?_
  unfold Builtin.Dict.selfAndRest
  refine wpAny_bind (wpAny_notOrdered_dict hnew.typeIs ?_)
  show wpAny _ _ (pure (s.heap.objs.size, [Value.ref l])) _ _ _
  refine wpAny_pure ?_
  show wpAny _ _ (Builtin.Dict.updateFrom "dict.__init__" s.heap.objs.size (.ref l) [] .none) _ _ _
  unfold Builtin.Dict.updateFrom
  have hl1 := (N1 _ (List.mem_cons_of_mem _ hm)).1
  refine wpAny_bind (wpAny_typeOf (T := "list") ⟨_, hl1, rfl⟩ ?_)
  rw [if_pos (by decide)]
  refine wpAny_bind (keys_miss hl1 (by exact hh) fun h2 tk2 hk2 => ?_)
  simp only [Option.isNone_none, if_true]
  refine wpAny_bind (wpAny_rule ?_)
  have hl2 : h2.IsList l (ps.map fun p => Value.ref p.1).toArray := ⟨_, hk2 _ _ hl1, rfl, n, rfl⟩
  refine wpAny_bind (wpAny_pyIter_list (s := { s with heap := h2, toks := tk2 }) hl2 ?_)
  refine wpAny_pure ⟨plainId_quiet plain_upd _, ?_⟩
  have hdlt : s.heap.objs.size < h2.objs.size := Heap.lt_size (hk2 _ _ (N1 _ (.head _)).1)
  have up : ∀ b o, s.heap.get? b = some o → (h2.push { cls := .type "list_iterator", data := .fields #[.ref l, .int 0 0] }).get? b = some o := fun b o e => Heap.get?_push_of_some _ (hk2 _ _ (Heap.get?_push_of_some _ e))
  have N2 : News h₀ L (h2.push { cls := .type "list_iterator", data := .fields #[.ref l, .int 0 0] }) news := N.grown up
  have ltI : ∀ q ∈ news, q.1 < h2.objs.size := fun q hq => Nat.lt_trans (lt q hq) hdlt
  have hda : ∀ {p : Addr × Addr × Nat}, DatIn news (.ref p.2.1) (rowD ar p.2.2) → p.2.1 < s.heap.objs.size := fun {p} hd => by
    obtain ⟨b, vs, n, e, hm, r⟩ := row_open hd
    cases e
    exact lt _ hm
  refine upd_loop (d := s.heap.objs.size) (it := h2.objs.size) (l := l) (Nat.ne_of_lt hdlt) (Nat.ne_of_lt (lt _ hm)) (Nat.ne_of_lt (ltI _ hm)) (by simp only [Around.in1_units]; omega) (by exact hh) (ps.map fun p => Value.ref p.1).toArray
    (ps.map fun p => (p.1, p.2.1, rowL ar p.2.2)) 0 0 [] _ (by simp) (by simp) (by simp; omega) ?_ ⟨_, Heap.get?_push_size _ rfl, rfl, rfl⟩ ((hl2.at fun o e => Heap.get?_push_of_some _ e)) ?_ ?_
  · obtain ⟨o, es, ep, ho, hc, hd, he, his, hn⟩ := hnew
    exact ⟨o, es, ep, Heap.get?_push_of_some _ (hk2 _ _ ho), hc, hd, he, (fun _ hx => nomatch hx), hn⟩
  · intro q hq
    obtain ⟨p, hp', rfl⟩ := List.mem_map.mp hq
    obtain ⟨⟨c, hc⟩, hd⟩ := hp p hp'
    exact ⟨⟨c, N2.get hc⟩, key_of N2 hd, Nat.ne_of_lt (lt _ hc), Nat.ne_of_lt (hda hd), Nat.ne_of_lt (ltI _ hc), Nat.ne_of_lt (Nat.lt_trans (hda hd) hdlt)⟩
  · intro h3 tk3 hm3 hk3
    obtain ⟨o, es, ep, ho, hc, hd, he, his, hn⟩ := hm3
    refine ⟨rfl, h s.heap.objs.size o h3 tk3 ?_ ?_ lt (F.notModules (modules_low hbig)) ⟨es, ep, hc, hd, he, hn⟩⟩
    · exact F.keeps fun b o e => hk3 b o (Nat.ne_of_lt (Heap.lt_size e)) (Nat.ne_of_lt (Nat.lt_trans (Heap.lt_size e) hdlt)) (up b o e)
    · intro p hp
      rcases List.mem_cons.mp hp with rfl | hp
      · exact ⟨ho, (N1 _ (.head _)).2⟩
      · exact ⟨hk3 _ _ (Nat.ne_of_lt (lt _ hp)) (Nat.ne_of_lt (ltI _ hp)) (up _ _ (N p hp).1), (N p hp).2⟩
end
end Mine
end

namespace Mine
theorem rstA6 : True := by
  w_top off
  exact trivial
end Mine
section
open PySem PySem.W PyProof.Rows PySem.Calls PySem.Spec
set_option maxRecDepth 100000
namespace Mine
theorem rowL_inj {ar i j : Nat} (h : rowL ar i = rowL ar j) : i = j := by
  unfold rowL at h
  by_cases har : ar = 1
  · simp only [har, if_true, List.cons.injEq, and_true] at h
    omega
  · simp only [har, if_false, List.cons.injEq, and_true] at h
    omega

/-- what the entries of a dict of rows are: the rows' numbers, in order -/
structure XsOk (ar : Nat) (news : List (Addr × Obj)) (xs : List (List Int × Addr × Value)) (ks : List Nat) : Prop where
  keys : xs.map (·.1) = ks.map (rowL ar)
  refs : DatAll news (xs.map fun x => Value.ref x.2.1) (ks.map (rowD ar))
  vals : ∀ x ∈ xs, x.2.2 = .bool true
theorem XsOk.mono {ar : Nat} {news news' : List (Addr × Obj)} {xs : List (List Int × Addr × Value)} {ks : List Nat} (x : XsOk ar news xs ks) (h : ∀ p ∈ news, p ∈ news') : XsOk ar news' xs ks := ⟨x.keys, x.refs.mono h, x.vals⟩
theorem XsOk.has {ar : Nat} {news : List (Addr × Obj)} {xs : List (List Int × Addr × Value)} {ks : List Nat} (x : XsOk ar news xs ks) (k : Nat) : (atKey xs (rowL ar k)).isSome = decide (k ∈ ks) := by
  have e : (atKey xs (rowL ar k)).isSome = true ↔ k ∈ ks := by
    have h1 : (atKey xs (rowL ar k)).isSome = true ↔ rowL ar k ∈ xs.map (·.1) := by
      unfold atKey
      rw [Option.isSome_map, List.find?_isSome]
      constructor
      · rintro ⟨y, hy, hk⟩
        exact List.mem_map.mpr ⟨y, hy, of_decide_eq_true hk⟩
      · intro hm
        obtain ⟨y, hy, hk⟩ := List.mem_map.mp hm
        exact ⟨y, hy, decide_eq_true hk⟩
    rw [h1, x.keys, List.mem_map]
    constructor
    · rintro ⟨j, hj, e⟩
      exact rowL_inj e ▸ hj
    · intro h
      exact ⟨k, h, rfl⟩
  by_cases hk : k ∈ ks
  · rw [decide_eq_true hk]; exact e.mpr hk
  · rw [decide_eq_false hk]; exact Bool.eq_false_iff.mpr fun q => hk (e.mp q)
theorem XsOk.each {ar : Nat} {news : List (Addr × Obj)} {xs : List (List Int × Addr × Value)} {ks : List Nat} (x : XsOk ar news xs ks) : ∀ p ∈ xs, ∃ k, p.1 = rowL ar k ∧ DatIn news (.ref p.2.1) (rowD ar k) := by
  obtain ⟨hk, hr, hv⟩ := x
  clear hv
  induction xs generalizing ks with
  | nil => intro p hp; cases hp
  | cons y xs ih =>
    cases ks with
    | nil => simp at hk
    | cons k ks =>
      simp only [List.map_cons, List.cons.injEq] at hk hr
      cases hr with
      | cons a b =>
        intro p hp
        rcases List.mem_cons.mp hp with rfl | hp
        · exact ⟨k, hk.1, a⟩
        · exact ih hk.2 b p hp

theorem storeAll_ok {ar : Nat} {news : List (Addr × Obj)} : ∀ (ps : List (Addr × Addr × Nat)) (xs : List (List Int × Addr × Value)) (ks : List Nat), XsOk ar news xs ks → (∀ p ∈ ps, DatIn news (.ref p.2.1) (rowD ar p.2.2)) →
    ∃ ks', XsOk ar news (storeAll xs (ps.map fun p => (p.1, p.2.1, rowL ar p.2.2))) ks' ∧ ∀ k, k ∈ ks' ↔ k ∈ ks ∨ k ∈ ps.map (·.2.2)
  | [], xs, ks, x, _ => ⟨ks, x, fun k => by simp⟩
  | p :: r, xs, ks, x, hp => by
    have step : ∃ ks₁, XsOk ar news (storedH xs (rowL ar p.2.2) p.2.1 (.bool true)) ks₁ ∧ ∀ k, k ∈ ks₁ ↔ k ∈ ks ∨ k = p.2.2 := by
      have hh := x.has p.2.2
      by_cases hm : p.2.2 ∈ ks
      · refine ⟨ks, ?_, fun k => ⟨.inl, fun h => h.elim id fun e => e ▸ hm⟩⟩
        have e : storedH xs (rowL ar p.2.2) p.2.1 (.bool true) = xs := by
          unfold storedH
          rw [hh, decide_eq_true hm, if_pos rfl]
          refine map_eq_self fun y hy => ?_
          unfold putAt
          split
          · have := x.vals y hy
            obtain ⟨a, b, c⟩ := y
            simp only at this
            rw [this]
          · rfl
        rw [e]; exact x
      · refine ⟨ks ++ [p.2.2], ?_, fun k => by simp⟩
        have e : storedH xs (rowL ar p.2.2) p.2.1 (.bool true) = xs ++ [(rowL ar p.2.2, p.2.1, .bool true)] := by
          unfold storedH
          rw [hh, decide_eq_false hm, if_neg Bool.false_ne_true]
        rw [e]
        refine ⟨by rw [List.map_append, List.map_append, x.keys]; rfl, ?_, fun y hy => ?_⟩
        · rw [List.map_append, List.map_append]
          exact x.refs.append (.one (hp p (.head _)))
        · rcases List.mem_append.mp hy with hy | hy
          · exact x.vals y hy
          · rw [List.mem_singleton.mp hy]
    obtain ⟨ks₁, x₁, h₁⟩ := step
    obtain ⟨ks', x', h'⟩ := storeAll_ok r _ ks₁ x₁ fun q hq => hp q (.tail _ hq)
    refine ⟨ks', x', fun k => ?_⟩
    rw [h', h₁, List.map_cons, List.mem_cons, or_assoc]

section
variable {prog : Program} {w : World} {A : Around} {E : Value → Shared → Prop} {s : Shared} {h₀ h : Heap} {L : Addr} {m : Str → Option Value} {news : List (Addr × Obj)} {ar : Nat}
theorem XsOk.nodup {xs : List (List Int × Addr × Value)} {ks : List Nat} (x : XsOk ar news xs ks) (hn : (xs.map (·.1)).Nodup) : ks.Nodup := by
  rw [x.keys] at hn
  exact List.Pairwise.of_map (rowL ar) (fun a b h e => h (congrArg _ e)) hn
theorem sortK_mem {ks : List Nat} : sortK ks = (List.range 4).filter (fun k => decide (k ∈ ks)) := by
  unfold sortK
  exact List.filter_congr fun k _ => by simp
theorem sorted_rows {D : Addr} {o : Obj} {xs : List (List Int × Addr × Value)} {ks : List Nat} {Q : Value → Shared → Prop} (F : Fr h₀ L s.heap m) (N : News h₀ L s.heap news) (hh : A.handled = none)
    (hm : (D, o) ∈ news) (lo : (D == sysModules) = false) (hd : DictObj prog w o xs) (x : XsOk ar news xs ks) (hk : ∀ k ∈ ks, k < 4)
    (h : ∀ B c h' tk vs', Fr h₀ L h' m → News h₀ L h' ((B, listOf vs'.toArray c) :: news) → (∀ q ∈ news, q.1 < B) → DatAll news vs' ((sortK ks).map (rowD ar)) → Q (.ref B) { s with heap := h', toks := tk }) :
    wpAny (model prog w) A (call (.builtin "sorted") [.ref D]) Q E s := by
  obtain ⟨es, ep, hc, hdat, he, hn⟩ := hd
  have hnk := x.nodup hn
  have hlen : es.size = xs.length := size_of_entries he
  have hkl : xs.length = ks.length := by have := congrArg List.length x.keys; simpa using this
  have h4 := nodup_le4 hnk hk
  refine kdu_sorted (raw_src lo) hh F N (OK := fun h => RawD h D es ep) ⟨o, N.get hm, hc, hdat⟩ (by rw [sizeLine_eq]; omega) fun B h' tk vs F' N' l1 hl hP => ?_
  have hvs : vs = xs.map fun y => Value.ref y.2.1 := by
    apply List.ext_getElem?
    intro j
    rw [List.getElem?_map]
    by_cases hj : j < vs.length
    · obtain ⟨e, e1, e2⟩ := hP j vs[j] (List.getElem?_eq_getElem hj)
      rw [List.getElem?_eq_getElem hj, e2]
      rw [entry_at he j] at e1
      cases hx : xs[j]? with
      | none => rw [hx] at e1; cases e1
      | some y =>
        rw [hx] at e1
        cases e1
        rfl
    · rw [List.getElem?_eq_none (by omega), List.getElem?_eq_none (by omega)]; rfl
  exact sort_rows F' N' (fun q hq => Nat.ne_of_lt (l1 q hq)) (hvs ▸ x.refs) hnk hk fun h2 c2 vs' F2 N2 D2 => h B c2 h2 tk vs' F2 N2 l1 D2
end
end Mine
end

namespace Mine
theorem rstA7 : True := by
  w_top off
  exact trivial
end Mine
section
open PySem PySem.W PyProof.Rows PySem.Calls PySem.Spec PyProof.Rows.LCg PyProof.Rows.LCt
set_option maxRecDepth 100000
namespace Mine
theorem CompEnd.mono {h₀ : Heap} {L I C D : Addr} {m : Str → Option Value} {s₁ s₂ : Shared} {oI oC oD : Obj} {S S' : List (Addr × Obj) → Prop} {r r' : Value → List (Addr × Obj) → Prop} {y : Value}
    (h : LCg.CompEnd h₀ L m s₁ I oI C oC D oD S r y s₂) (hS : ∀ n, S n → S' n) (hr : ∀ n, r y n → r' y n) : LCg.CompEnd h₀ L m s₁ I oI C oC D oD S' r' y s₂ := by
  obtain ⟨h', tk, nw, e, F, N, o, a, b⟩ := h
  exact ⟨h', tk, nw, e, F, N, o, hS _ a, hr _ b⟩

section
variable {prog : Program} {w : World} {A : Around} {E : Value → Shared → Prop} {s : Shared} {h₀ : Heap} {L : Addr} {m : Str → Option Value} {env : Env} {elt ct : Expr} {x : Str} {scope : Scope} {cl : List (Str × Addr)}

/-- the turns of a block by what holds between them -/
theorem rest_J {S : List (Addr × Obj) → Prop} {P : Nat → Value → Prop} {Fin : List Value → List (Addr × Obj) → Prop} (J : Nat → List Value → List (Addr × Obj) → Prop) (n : Nat)
    (turn : ∀ i ys news v I oI C oC D m₂ h tk (E' : Value → Shared → Prop), i < n → J i ys news → P i v → NsObj oC m₂ → m₂ x = some v → Fr h₀ L h m → News h₀ L h ((I, oI) :: (C, oC) :: (D, lst ys) :: news) → Off3 I C D news → ((@Ne Nat I C) ∧ (@Ne Nat I D) ∧ (@Ne Nat C D)) →
      wpAny (model prog w) A (eval elt (compEnvC scope cl C env)) (LCg.CompEnd h₀ L m { s with heap := h, toks := tk } I oI C oC D (lst ys) S (fun y news' => J (i + 1) (ys ++ [y]) news')) E' { s with heap := h, toks := tk })
    (fin : ∀ ys news, J n ys news → Fin ys news) : ∀ k i ys news, i + k = n → J i ys news → CompRest prog w A h₀ L m env elt x scope cl s S P Fin k i ys news
  | 0, i, ys, news, e, hj => CompRest.zero (fin _ _ (by rw [← e]; exact hj))
  | k + 1, i, ys, news, e, hj => CompRest.succ fun v I oI C oC D m₂ h tk E' hP hC hx F N o ne =>
      wpAny_mono (turn i ys news v I oI C oC D m₂ h tk E' (by omega) hj hP hC hx F N o ne) (fun y s' hc => CompEnd.mono hc (fun _ a => a) fun nw hj' => rest_J J n turn fin k (i + 1) _ nw (by omega) hj') fun _ _ e => e

theorem restT_J {S : List (Addr × Obj) → Prop} {P : Nat → Value → Prop} {Fin : List Value → List (Addr × Obj) → Prop} (J : Nat → List Value → List (Addr × Obj) → Prop) (n : Nat)
    (turn : ∀ i ys news v I oI C oC D m₂ h tk (E' : Value → Shared → Prop), i < n → J i ys news → P i v → NsObj oC m₂ → m₂ x = some v → Fr h₀ L h m → News h₀ L h ((I, oI) :: (C, oC) :: (D, lst ys) :: news) → Off3 I C D news → ((@Ne Nat I C) ∧ (@Ne Nat I D) ∧ (@Ne Nat C D)) →
      wpAny (model prog w) A (isTrue ct (compEnvC scope cl C env) (eval ct (compEnvC scope cl C env))) (fun ok s' => if ok = true then
        wpAny (model prog w) A (eval elt (compEnvC scope cl C env)) (LCg.CompEnd h₀ L m { s with heap := h, toks := tk } I oI C oC D (lst ys) S (fun y news' => J (i + 1) (ys ++ [y]) news')) E' s'
        else LCg.CompEnd h₀ L m { s with heap := h, toks := tk } I oI C oC D (lst ys) S (fun _ news' => J (i + 1) ys news') Value.none s') E' { s with heap := h, toks := tk })
    (fin : ∀ ys news, J n ys news → Fin ys news) : ∀ k i ys news, i + k = n → J i ys news → CompRestT prog w A h₀ L m env ct elt x scope cl s S P Fin k i ys news
  | 0, i, ys, news, e, hj => CompRestT.zero (fin _ _ (by rw [← e]; exact hj))
  | k + 1, i, ys, news, e, hj => CompRestT.succ fun v I oI C oC D m₂ h tk E' hP hC hx F N o ne =>
      wpAny_mono (turn i ys news v I oI C oC D m₂ h tk E' (by omega) hj hP hC hx F N o ne) (fun ok s' hc => by
        cases ok with
        | true =>
          simp only [if_true] at hc ⊢
          exact wpAny_mono hc (fun y s'' hc => CompEnd.mono hc (fun _ a => a) fun nw hj' => restT_J J n turn fin k (i + 1) _ nw (by omega) hj') fun _ _ e => e
        | false =>
          simp only [Bool.false_eq_true, if_false] at hc ⊢
          exact CompEnd.mono hc (fun _ a => a) fun nw hj' => restT_J J n turn fin k (i + 1) _ nw (by omega) hj') fun _ _ e => e

abbrev tupOf (vs : List Value) (k : Nat) : Obj := { cls := .type "tuple", data := .seq vs.toArray k }

theorem tup_st {ax I : Addr} {vs : List Value} {c : Nat} : ∀ i (h h' : Heap) (o : Obj) (nw : List (Addr × Obj)), (h.IsTupleIter I ax i ∧ h.IsTuple ax vs.toArray) → h.get? I = some o → h'.get? I = some o → (∀ b o, h₀.get? b = some o → h'.get? b = some o) → News h₀ L h' nw → (ax, tupOf vs c) ∈ nw → (h'.IsTupleIter I ax i ∧ h'.IsTuple ax vs.toArray) :=
  fun i h h' o nw st e e' k N S => ⟨by obtain ⟨o', q, r⟩ := st.1; rw [e] at q; cases q; exact ⟨o, e', r⟩, ⟨_, N.get S, rfl, c, rfl⟩⟩

/-- a block over a tuple of the ledger -/
def SrcTup (prog : Program) (w : World) (A : Around) (h₀ : Heap) (L : Addr) (m : Str → Option Value) (env : Env) (elt : Expr) (x : Str) (scope : Scope) (cl : List (Str × Addr)) (Fin : Shared → List Value → List (Addr × Obj) → Prop) (xv : Value) (s₁ : Shared) : Prop :=
  ∃ ax vs c news, xv = .ref ax ∧ A.handled = none ∧ Fr h₀ L s₁.heap m ∧ News h₀ L s₁.heap news ∧ (ax, tupOf vs c) ∈ news ∧ vs.length ≤ sizeLine ∧
    ∀ g : Heap, CompRest prog w A h₀ L m env elt x scope cl { s₁ with heap := g } (fun nw => (ax, tupOf vs c) ∈ nw) (fun i v => vs[i]? = some v) (Fin { s₁ with heap := g }) vs.length 0 [] news
def SrcTupT (prog : Program) (w : World) (A : Around) (h₀ : Heap) (L : Addr) (m : Str → Option Value) (env : Env) (ct elt : Expr) (x : Str) (scope : Scope) (cl : List (Str × Addr)) (Fin : Shared → List Value → List (Addr × Obj) → Prop) (xv : Value) (s₁ : Shared) : Prop :=
  ∃ ax vs c news, xv = .ref ax ∧ A.handled = none ∧ Fr h₀ L s₁.heap m ∧ News h₀ L s₁.heap news ∧ (ax, tupOf vs c) ∈ news ∧ vs.length ≤ sizeLine ∧
    ∀ g : Heap, CompRestT prog w A h₀ L m env ct elt x scope cl { s₁ with heap := g } (fun nw => (ax, tupOf vs c) ∈ nw) (fun i v => vs[i]? = some v) (Fin { s₁ with heap := g }) vs.length 0 [] news

theorem tup_walks (hh : A.handled = none) (I ax : Addr) (hne : ax ≠ I) (vs : List Value) :
    Walks prog w A I [I, ax] [I] vs.length (fun i v => vs[i]? = some v) (fun i h => h.IsTupleIter I ax i ∧ h.IsTuple ax vs.toArray) := by
  have W := Walks.tuple (prog := prog) (w := w) hh I ax hne vs.toArray
  rw [List.size_toArray] at W
  simpa using W

theorem comp_tup {iter : Expr} {px : Pos} {pos : Pos} {Q : Value → Shared → Prop} (_F₀ : Fr h₀ L s.heap m)
    (hclos : closureFor scope env = pure cl) (hcell : ∀ y ∈ scope.names, y.2 ≠ .cell) (hkind : scope.kind = .function)
    (hnames : ∀ y ∈ scope.names, y.2 = .local → scope.names.lookup y.1 = some .local) (hx : scope.names.lookup x = some .local)
    (h : wpAny (model prog w) A (eval iter env) (SrcTup prog w A h₀ L m env elt x scope cl (fun s₂ => FinE h₀ L m s₂ Q)) E s)
    (hs : ∀ x, foldedSetIterable iter env x = pure x := by intro _; rfl) :
    wpAny (model prog w) A (eval (.ListComp elt [⟨.Name x px, iter, [], 0⟩] scope pos) env) Q E s := by
  rw [eval_ListComp]
  refine wpAny_comprehension_free (use := none) rfl hs hclos hkind hnames (wpAny_mono h (fun xv s₁ h₁ => ?_) fun _ _ e => e)
  obtain ⟨ax, vs, c, news, rfl, hh, F, N, hm, hsz, R⟩ := h₁
  have hl : s₁.heap.IsTuple ax vs.toArray := ⟨_, N.get hm, rfl, c, rfl⟩
  have hlt : ax < s₁.heap.objs.size := Heap.lt_size (N.get hm)
  have up : ∀ b o, s₁.heap.get? b = some o → (s₁.heap.push { cls := .type "tuple_iterator", data := .fields #[.ref ax, .int 0 0] }).get? b = some o := fun b o e => Heap.get?_push_of_some _ e
  refine wpAny_pyIter_tuple hl (block_U (S := fun nw => (ax, tupOf vs c) ∈ nw) (tup_walks hh s₁.heap.objs.size ax (Nat.ne_of_lt hlt) vs) hsz (fun i h st => by obtain ⟨o, e, _⟩ := st.1; exact ⟨o, e⟩) tup_st hcell hkind hx
    ⟨⟨_, Heap.get?_push_size _ rfl, rfl, rfl⟩, hl.at fun o e => up _ o e⟩ (fun b hb => ?_) (F.keeps up) (N.grown up) (Nat.ne_of_lt F.ns.lt) (next_is_new F) (fun p hp => Nat.ne_of_lt (Heap.lt_size (N p hp).1)) hm (R _) ?_)
  · show b < (s₁.heap.push _).objs.size
    rw [Heap.size_push]
    rcases List.mem_cons.mp hb with rfl | hb
    · exact Nat.lt_succ_self _
    · rw [List.mem_singleton.mp hb]; exact Nat.lt_succ_of_lt hlt
  · intro D C h tk m' ys news' F' N' o1 hn hC₀ hD₀ hCL hDL hCD offC fin
    refine ⟨m', hn, fun h'' hs'' => fin D h'' tk (F'.change hs'' hCL hC₀) (fun p hp => ⟨hs''.extBut _ _ ?_ (N' p hp).1, (N' p hp).2⟩) o1⟩
    rcases List.mem_cons.mp hp with rfl | hp
    · exact Ne.symm hCD
    · exact offC p hp

theorem comp_tupT {iter : Expr} {px : Pos} {pos : Pos} {Q : Value → Shared → Prop} (_F₀ : Fr h₀ L s.heap m)
    (hclos : closureFor scope env = pure cl) (hcell : ∀ y ∈ scope.names, y.2 ≠ .cell) (hkind : scope.kind = .function)
    (hnames : ∀ y ∈ scope.names, y.2 = .local → scope.names.lookup y.1 = some .local) (hx : scope.names.lookup x = some .local)
    (h : wpAny (model prog w) A (eval iter env) (SrcTupT prog w A h₀ L m env ct elt x scope cl (fun s₂ => FinE h₀ L m s₂ Q)) E s)
    (hs : ∀ x, foldedSetIterable iter env x = pure x := by intro _; rfl) :
    wpAny (model prog w) A (eval (.ListComp elt [⟨.Name x px, iter, [ct], 0⟩] scope pos) env) Q E s := by
  rw [eval_ListComp]
  refine wpAny_comprehension_free (use := none) rfl hs hclos hkind hnames (wpAny_mono h (fun xv s₁ h₁ => ?_) fun _ _ e => e)
  obtain ⟨ax, vs, c, news, rfl, hh, F, N, hm, hsz, R⟩ := h₁
  have hl : s₁.heap.IsTuple ax vs.toArray := ⟨_, N.get hm, rfl, c, rfl⟩
  have hlt : ax < s₁.heap.objs.size := Heap.lt_size (N.get hm)
  have up : ∀ b o, s₁.heap.get? b = some o → (s₁.heap.push { cls := .type "tuple_iterator", data := .fields #[.ref ax, .int 0 0] }).get? b = some o := fun b o e => Heap.get?_push_of_some _ e
  refine wpAny_pyIter_tuple hl (block_T (S := fun nw => (ax, tupOf vs c) ∈ nw) (tup_walks hh s₁.heap.objs.size ax (Nat.ne_of_lt hlt) vs) hsz (fun i h st => by obtain ⟨o, e, _⟩ := st.1; exact ⟨o, e⟩) tup_st hcell hkind hx
    ⟨⟨_, Heap.get?_push_size _ rfl, rfl, rfl⟩, hl.at fun o e => up _ o e⟩ (fun b hb => ?_) (F.keeps up) (N.grown up) (Nat.ne_of_lt F.ns.lt) (next_is_new F) (fun p hp => Nat.ne_of_lt (Heap.lt_size (N p hp).1)) hm (R _) ?_)
  · show b < (s₁.heap.push _).objs.size
    rw [Heap.size_push]
    rcases List.mem_cons.mp hb with rfl | hb
    · exact Nat.lt_succ_self _
    · rw [List.mem_singleton.mp hb]; exact Nat.lt_succ_of_lt hlt
  · intro D C h tk m' ys news' F' N' o1 hn hC₀ hD₀ hCL hDL hCD offC fin
    refine ⟨m', hn, fun h'' hs'' => fin D h'' tk (F'.change hs'' hCL hC₀) (fun p hp => ⟨hs''.extBut _ _ ?_ (N' p hp).1, (N' p hp).2⟩) o1⟩
    rcases List.mem_cons.mp hp with rfl | hp
    · exact Ne.symm hCD
    · exact offC p hp
end
end Mine
end

namespace Mine
theorem rstA8 : True := by
  w_top off
  exact trivial
end Mine
section
open PySem PySem.W PyProof.Rows PySem.Calls PySem.Spec PyProof.Rows.LCg PyProof.Rows.LCt
set_option maxRecDepth 100000
namespace Mine
section
variable {prog : Program} {w : World} {A : Around} {E : Value → Shared → Prop} {s : Shared} {h₀ : Heap} {L : Addr} {m : Str → Option Value} {env : Env}
/-- the items of a list that a test by the place takes -/
def kept (f : Nat → Bool) (i : Nat) : List Value → List Value
  | [] => []
  | v :: r => if f i then v :: kept f (i + 1) r else kept f (i + 1) r

/-- a block over enumerate(a list of the ledger) with a test that stores nothing -/
def SrcEnumT (prog : Program) (w : World) (A : Around) (h₀ : Heap) (L : Addr) (m : Str → Option Value) (env : Env) (c : Expr) (a b : Str) (scope : Scope) (cl : List (Str × Addr)) (Fin : Shared → List Value → List (Addr × Obj) → Prop) (xv : Value) (s₁ : Shared) : Prop :=
  ∃ (e it l : Addr) (vs : List Value) (k : Nat) (f : Nat → Bool) (news : List (Addr × Obj)), xv = .ref e ∧ A.handled = none ∧ Fr h₀ L s₁.heap m ∧ News h₀ L s₁.heap news ∧ IsEnum s₁.heap e it 0 .none ∧ s₁.heap.IsListIter it l 0 ∧ s₁.heap.IsList l vs.toArray ∧ (l, listOf vs.toArray k) ∈ news ∧
    vs.length ≤ sizeLine ∧ e ≠ it ∧ l ≠ e ∧ l ≠ it ∧ L ≠ e ∧ L ≠ it ∧ h₀.get? e = none ∧ h₀.get? it = none ∧ (∀ p ∈ news, p.1 ≠ e ∧ p.1 ≠ it) ∧
    (∀ (i : Nat) (y : Value) (t : Tok) (C D : Addr) (oC : Obj) (ys : List Value) (m₂ : Str → Option Value) (h : Heap) (tk : Nat) (E' : Value → Shared → Prop), vs[i]? = some y → NsObj oC m₂ → m₂ a = some (.int (i : Int) t) → m₂ b = some y → Fr h₀ L h m → News h₀ L h ((C, oC) :: (D, lst ys) :: news) →
      wpAny (model prog w) A (isTrue c (compEnvC scope cl C env) (eval c (compEnvC scope cl C env))) (fun ok s' => ok = f i ∧ ∃ tk', s' = { s₁ with heap := h, toks := tk' }) E' { s₁ with heap := h, toks := tk }) ∧
    Fin s₁ (kept f 0 vs) news

theorem comp_enum {iter c : Expr} {a b : Str} {pa pb pe tp : Pos} {kk : Nat} {scope : Scope} {cl : List (Str × Addr)} {pos : Pos} {Q : Value → Shared → Prop} (_F₀ : Fr h₀ L s.heap m)
    (hclos : closureFor scope env = pure cl) (hcell : ∀ y ∈ scope.names, y.2 ≠ .cell) (hkind : scope.kind = .function)
    (hnames : ∀ y ∈ scope.names, y.2 = .local → scope.names.lookup y.1 = some .local) (hxa : scope.names.lookup a = some .local) (hxb : scope.names.lookup b = some .local) (hab : ¬ a = b) (hdb : (b == ("__debug__" : Str)) = false)
    (h : wpAny (model prog w) A (eval iter env) (SrcEnumT prog w A h₀ L m env c a b scope cl (fun s₂ => FinE h₀ L m s₂ Q)) E s)
    (hs : ∀ x, foldedSetIterable iter env x = pure x := by intro _; rfl) :
    wpAny (model prog w) A (eval (.ListComp (.Name b pe) [⟨.Tuple [.Name a pa, .Name b pb] kk tp, iter, [c], 0⟩] scope pos) env) Q E s := by
  rw [eval_ListComp]
  refine wpAny_comprehension_free (use := none) rfl hs hclos hkind hnames (wpAny_mono h (fun xv s₂ h₁ => ?_) fun _ _ e => e)
  obtain ⟨e, it, l, vs, k, f, news, rfl, hh, F, N, he, hit, hl, hml, hsz, hei, hle, hli, hLe, hLi, he₀, hit₀, off, turn, fin⟩ := h₁
  refine wpAny_pyIter_enum he ?_
  refine wpAny_newObj_type (wpAny_newFunctionEnv hcell (by intro y hy; simp at hy) (fun h₁ hns₁ hsb₁ => ?_) hkind)
  dsimp only at hns₁ hsb₁ ⊢
  generalize hH2 : s₂.heap.push { cls := .type "list", dict := none, data := .seq ([] : List Value).toArray } = H2 at hns₁ hsb₁ ⊢
  have hC : H2.objs.size = s₂.heap.objs.size + 1 := by rw [← hH2, Heap.size_push]
  have hDC : s₂.heap.objs.size ≠ H2.objs.size := by rw [hC]; exact Nat.ne_of_lt (Nat.lt_succ_self _)
  have below : ∀ b, b < s₂.heap.objs.size → b ≠ H2.objs.size ∧ b ≠ s₂.heap.objs.size := fun b hb => ⟨by rw [hC]; exact Nat.ne_of_lt (Nat.lt_succ_of_lt hb), Nat.ne_of_lt hb⟩
  have old : ∀ b o, s₂.heap.get? b = some o → h₁.get? b = some o := fun b o e => hsb₁.extBut b o (below b (Heap.lt_size e)).1 (Heap.get?_push_of_some _ (hH2 ▸ Heap.get?_push_of_some _ e))
  have hacc : h₁.get? s₂.heap.objs.size = some (lst []) := hsb₁.extBut _ _ hDC (Heap.get?_push_of_some _ (hH2 ▸ Heap.get?_push_size _ rfl))
  have helt : e < s₂.heap.objs.size := Heap.lt_size he
  have hitlt : it < s₂.heap.objs.size := by obtain ⟨_, q, _⟩ := hit; exact Heap.lt_size q
  have hllt : l < s₂.heap.objs.size := by obtain ⟨_, q, _⟩ := hl; exact Heap.lt_size q
  have fresh : ∀ a, s₂.heap.objs.size ≤ a → s₂.heap.get? a = none := fun a ha => by
    cases e : s₂.heap.get? a with
    | none => rfl
    | some o' => exact absurd (Heap.lt_size e) (Nat.not_lt.mpr ha)
  have fresh₀ : ∀ a, s₂.heap.objs.size ≤ a → h₀.get? a = none := fun a ha => by
    cases e : h₀.get? a with
    | none => rfl
    | some o' => have := F.keep a o' e; rw [fresh a ha] at this; cases this
  have hD₀ : h₀.get? s₂.heap.objs.size = none := fresh₀ _ (Nat.le_refl _)
  have hC₀ : h₀.get? H2.objs.size = none := fresh₀ _ (by rw [hC]; exact Nat.le_succ _)
  have hLlt : L < s₂.heap.objs.size := F.ns.lt
  have hDL : s₂.heap.objs.size ≠ L := Ne.symm (below L hLlt).2
  have hCL : H2.objs.size ≠ L := Ne.symm (below L hLlt).1
  have bel : ∀ p ∈ news, p.1 ≠ H2.objs.size ∧ p.1 ≠ s₂.heap.objs.size := fun p hp => below _ (Heap.lt_size (N p hp).1)
  have W := KTurns.ofWalksU (prog := prog) (w := w) (A := A) (elts := [.Name a pa, .Name b pb]) (k := kk) (pos := tp) (WalksT.enumerate hh e it l hei hle hli vs.toArray).toU
  have loop : ∀ s₃ : Shared, s₃ = { s₂ with heap := h₁, toks := s₂.toks + ([] : List (Str × Value)).length } →
      codeAny (model prog w) A (.compLoop (.ListComp (.Name b pe) [⟨.Tuple [.Name a pa, .Name b pb] kk tp, iter, [c], 0⟩] scope pos) 0 (.ref e) (.ref s₂.heap.objs.size) (compEnvC scope cl H2.objs.size env))
        (compPost (model prog w) A E none Q (.ref s₂.heap.objs.size) H2.objs.size) s₃ := by
    rintro s₃ rfl
    refine kct_loop
      (fun k s' => ∃ h' tk i ys m', s' = { s₂ with heap := h', toks := tk } ∧ i ≤ vs.length ∧ k = vs.length + 1 - i ∧ ys.length ≤ i ∧ ((∃ old, IsEnum h' e it i old) ∧ h'.IsListIter it l i ∧ h'.IsList l vs.toArray) ∧ Fr h₀ L h' m ∧ h'.Ns H2.objs.size m' ∧
        News h₀ L h' ((s₂.heap.objs.size, lst ys) :: news) ∧ ys ++ kept f i (vs.drop i) = kept f 0 vs) ?_ (vs.length + 1)
      ⟨h₁, _, 0, [], _, rfl, Nat.zero_le _, rfl, Nat.le_refl _, ⟨⟨_, old _ _ he⟩, hit.at fun o q => old _ o q, hl.at fun o q => old _ o q⟩, F.keeps old, hns₁, fun p hp => ?_, by simp⟩
    · rintro k s' ⟨h', tk, i, ys, m', rfl, hi, rfl, hyl, hst, F', hn', N', heq⟩
      by_cases hlt : i < vs.length
      · refine W.item i _ _ _ (by simpa using hlt) hst fun v h₂ tk₂ hMd hk₂ => ?_
        refine W.go i v _ _ _ hMd fun h₃ hP hst₃ hk₃ => ?_
        obtain ⟨T, vals, rfl, ⟨t, x, hx, rfl⟩, hT⟩ := hP
        have hx' : vs[i]? = some x := by simpa using hx
        have up₃ : ∀ c o, c ≠ e → c ≠ it → h'.get? c = some o → h₃.get? c = some o := fun c o hc hc' q => hk₃ c o (by simp [hc, hc']) (hk₂ c o (by simp [hc, hc']) q)
        have hCe : H2.objs.size ≠ e := Ne.symm (below e helt).1
        have hCi : H2.objs.size ≠ it := Ne.symm (below it hitlt).1
        have hDe : s₂.heap.objs.size ≠ e := Ne.symm (below e helt).2
        have hDi : s₂.heap.objs.size ≠ it := Ne.symm (below it hitlt).2
        refine kcp_assign (env := compEnvC scope cl H2.objs.size env) hh hT (lookup_relabel_local hxa) (lookup_relabel_local hxb) (by simp [compEnvC, relabel, hkind]) (hn'.at' fun o q => up₃ _ o hCe hCi q) fun h₄ tk₄ hn₄ hs₄ => ?_
        have up : ∀ c o, c ≠ e → c ≠ it → c ≠ H2.objs.size → h'.get? c = some o → h₄.get? c = some o := fun c o h1 h2 h3 q => hs₄ c o h3 (up₃ c o h1 h2 q)
        have hst₄ : (∃ old, IsEnum h₄ e it (i + 1 : Nat) old) ∧ h₄.IsListIter it l (i + 1) ∧ h₄.IsList l vs.toArray := by
          obtain ⟨⟨od, hE⟩, hI, hL⟩ := hst₃
          exact ⟨⟨od, hs₄ _ _ (Ne.symm hCe) hE⟩, hI.at fun o q => hs₄ _ o (Ne.symm hCi) q, hL.at fun o q => hs₄ _ o (Ne.symm (Ne.symm (below l hllt).1)) q⟩
        obtain ⟨oC, heC, hoC⟩ := ns_obj hn₄
        have F₄ : Fr h₀ L h₄ m := ⟨F'.ns.at' fun o q => up _ o hLe hLi (Ne.symm hCL) q, fun c o q => up c o (fun z => by rw [z, he₀] at q; cases q) (fun z => by rw [z, hit₀] at q; cases q) (fun z => by rw [z, hC₀] at q; cases q) (F'.keep c o q), F'.above⟩
        have N₄ : News h₀ L h₄ ((H2.objs.size, oC) :: (s₂.heap.objs.size, lst ys) :: news) := fun q hq => by
          rcases List.mem_cons.mp hq with rfl | hq
          · exact ⟨heC, hCL, hC₀⟩
          · have z := N' q hq
            rcases List.mem_cons.mp hq with rfl | hq
            · exact ⟨up _ _ hDe hDi hDC z.1, z.2⟩
            · exact ⟨up _ _ (off q hq).1 (off q hq).2 (bel q hq).1 z.1, z.2⟩
        have hdrop : vs.drop i = x :: vs.drop (i + 1) := by
          rw [List.drop_eq_getElem_cons hlt]
          congr 1
          exact Option.some.inj ((List.getElem?_eq_getElem hlt).symm.trans hx')
        rw [hdrop, kept] at heq
        refine wpAny_mono (turn i x t H2.objs.size s₂.heap.objs.size oC ys _ h₄ _ _ hx' hoC (by simp [hab]) (by simp) F₄ N₄) (fun ok s₅ h₅ => ?_) fun _ _ e => e
        obtain ⟨rfl, tk₅, rfl⟩ := h₅
        cases hf : f i with
        | false =>
          rw [hf] at heq
          simp only [Bool.false_eq_true, if_false] at heq ⊢
          exact ⟨vs.length + 1 - (i + 1), by omega, h₄, tk₅, i + 1, ys, _, rfl, hlt, rfl, Nat.le_succ_of_le hyl, hst₄, F₄, hn₄, fun q hq => N₄ q (List.mem_cons_of_mem _ hq), heq⟩
        | true =>
          rw [hf] at heq
          simp only [if_true] at heq ⊢
          have hkd : (compEnvC scope cl H2.objs.size env).kindOf b = some .local := lookup_relabel_local hxb
          refine wpAny_Name (wpAny_loadName_local (by simp [compEnvC, relabel, hkind]) hkd hn₄ (v := x) (by simp) ?_) hdb
          have zD := (N₄ (s₂.heap.objs.size, lst ys) (List.mem_cons_of_mem _ List.mem_cons_self)).1
          refine append_at (hsz := by show ys.toArray.size ≤ sizeLine; rw [List.size_toArray]; exact Nat.le_trans hyl (Nat.le_trans hi hsz)) zD fun h₆ hs₆ hD₆ => ?_
          refine ⟨vs.length + 1 - (i + 1), by omega, h₆, tk₅, i + 1, ys ++ [x], _, rfl, hlt, rfl, by rw [List.length_append, List.length_singleton]; exact Nat.succ_le_succ hyl, ?_, F₄.change hs₆ hDL hD₀, hn₄.sameBut hs₆ (Ne.symm hDC), fun q hq => ?_, by rw [List.append_assoc]; exact heq⟩
          · obtain ⟨⟨od, hE⟩, hI, hL⟩ := hst₄
            exact ⟨⟨od, hs₆.extBut _ _ (Ne.symm hDe) hE⟩, hI.at fun o q => hs₆.extBut _ o (Ne.symm hDi) q, hL.at fun o q => hs₆.extBut _ o (below l hllt).2 q⟩
          · rcases List.mem_cons.mp hq with rfl | hq
            · exact ⟨hD₆.trans (congrArg some (lst_snoc ys x)), hDL, hD₀⟩
            · exact ⟨hs₆.extBut _ _ (bel q hq).2 (N₄ q (List.mem_cons_of_mem _ (List.mem_cons_of_mem _ hq))).1, (N₄ q (List.mem_cons_of_mem _ (List.mem_cons_of_mem _ hq))).2⟩
      · have hin : i = vs.length := Nat.le_antisymm hi (Nat.not_lt.mp hlt)
        subst hin
        rw [List.drop_length, kept, List.append_nil] at heq
        subst heq
        refine W.done _ _ _ (by simpa using hst) fun h₂ tk₂ hk₂ => ?_
        have up₂ : ∀ c o, c ≠ e → c ≠ it → h'.get? c = some o → h₂.get? c = some o := fun c o hc hc' q => hk₂ c o (by simp [hc, hc']) q
        have hCe : H2.objs.size ≠ e := Ne.symm (below e helt).1
        have hCi : H2.objs.size ≠ it := Ne.symm (below it hitlt).1
        have hDe : s₂.heap.objs.size ≠ e := Ne.symm (below e helt).2
        have hDi : s₂.heap.objs.size ≠ it := Ne.symm (below it hitlt).2
        have F₂ : Fr h₀ L h₂ m := ⟨F'.ns.at' fun o q => up₂ _ o hLe hLi q, fun c o q => up₂ c o (fun z => by rw [z, he₀] at q; cases q) (fun z => by rw [z, hit₀] at q; cases q) (F'.keep c o q), F'.above⟩
        have N₂ : News h₀ L h₂ ((s₂.heap.objs.size, lst (kept f 0 vs)) :: news) := fun q hq => by
          have z := N' q hq
          rcases List.mem_cons.mp hq with rfl | hq
          · exact ⟨up₂ _ _ hDe hDi z.1, z.2⟩
          · exact ⟨up₂ _ _ (off q hq).1 (off q hq).2 z.1, z.2⟩
        refine ⟨_, hn'.at' fun o q => up₂ _ o hCe hCi q, fun h'' hs'' => fin _ h'' tk₂ (F₂.change hs'' hCL hC₀) (fun p hp => ⟨hs''.extBut _ _ ?_ (N₂ p hp).1, (N₂ p hp).2⟩) ?_⟩
        · rcases List.mem_cons.mp hp with rfl | hp
          · exact hDC
          · exact (bel p hp).1
        · have : ∀ l : List (Addr × Obj), (∀ p ∈ l, p.1 ≠ s₂.heap.objs.size) → Off1 s₂.heap.objs.size l := fun l => by
            induction l with
            | nil => intro _; trivial
            | cons p r ih => intro hr; exact ⟨hr p (.head _), ih fun q hq => hr q (.tail _ hq)⟩
          exact this _ fun p hp => (bel p hp).2
    · rcases List.mem_cons.mp hp with rfl | hp
      · exact ⟨hacc, hDL, hD₀⟩
      · exact ⟨old _ _ (N p hp).1, (N p hp).2⟩
  refine codeAny_compStart_list (loop _ rfl) (wpAny_pyIter_enum (old _ _ he) (loop _ rfl))

theorem enum_src {l : Addr} {vs : List Value} {k : Nat} {c : Expr} {a b : Str} {scope : Scope} {cl : List (Str × Addr)} {news : List (Addr × Obj)} {Fin : Shared → List Value → List (Addr × Obj) → Prop} (f : Nat → Bool)
    (hh : A.handled = none) (F : Fr h₀ L s.heap m) (N : News h₀ L s.heap news) (hm : (l, listOf vs.toArray k) ∈ news) (hsz : vs.length ≤ sizeLine)
    (turn : ∀ g : Heap, ∀ (i : Nat) (y : Value) (t : Tok) (C D : Addr) (oC : Obj) (ys : List Value) (m₂ : Str → Option Value) (h : Heap) (tk : Nat) (E' : Value → Shared → Prop), vs[i]? = some y → NsObj oC m₂ → m₂ a = some (.int (i : Int) t) → m₂ b = some y → Fr h₀ L h m → News h₀ L h ((C, oC) :: (D, lst ys) :: news) →
      wpAny (model prog w) A (isTrue c (compEnvC scope cl C env) (eval c (compEnvC scope cl C env))) (fun ok s' => ok = f i ∧ ∃ tk', s' = { s with heap := h, toks := tk' }) E' { s with heap := h, toks := tk })
    (fin : ∀ g : Heap, Fin { s with heap := g } (kept f 0 vs) news) :
    wpAny (model prog w) A (call (.type "enumerate") [.ref l]) (SrcEnumT prog w A h₀ L m env c a b scope cl Fin) E s := by
  have hl : s.heap.IsList l vs.toArray := ⟨_, N.get hm, rfl, k, rfl⟩
  have hlt : l < s.heap.objs.size := Heap.lt_size (N.get hm)
  have hL : L < s.heap.objs.size := F.ns.lt
  refine call_enumerate_list hl fun h' hE hI hsz' hk => ?_
  have none₀ : ∀ b, s.heap.objs.size ≤ b → h₀.get? b = none := fun b hb => by
    cases q : h₀.get? b with
    | none => rfl
    | some o => exact absurd (Heap.lt_size (F.keep b o q)) (Nat.not_lt.mpr hb)
  refine ⟨_, _, l, vs, k, f, news, rfl, hh, F.keeps hk, N.grown hk, hE, hI, hl.at fun o q => hk _ o q, hm, hsz, Nat.succ_ne_self _, ?_, Nat.ne_of_lt hlt, ?_, Nat.ne_of_lt hL, none₀ _ (Nat.le_succ _), none₀ _ (Nat.le_refl _), fun p hp => ?_, turn h', fin h'⟩
  · exact Nat.ne_of_lt (Nat.lt_succ_of_lt hlt)
  · exact Nat.ne_of_lt (Nat.lt_succ_of_lt hL)
  · have := Heap.lt_size (N p hp).1
    exact ⟨Nat.ne_of_lt (Nat.lt_succ_of_lt this), Nat.ne_of_lt this⟩
end
end Mine
end

namespace Mine
theorem rstB1 : True := by
  w_top off
  exact trivial
end Mine
section
open PySem PySem.W PyProof.Rows PySem.Calls PySem.Spec
namespace Mine
theorem fill : PySem.Challenge.rw_rr0086_01 = PySem.Challenge.rw_rr0086_01 ∧ @Mine.hd.heap_1 = @Mine.hd.heap_1 := by k_fill; exact ⟨rfl, rfl⟩
abbrev PG : Program := PySem.Challenge.rw_rr0086_01.row.prog
/-- what a call of the def at f does with these arguments and this ledger -/
def Does (w : World) (f : Addr) (vs : List Value) (dep uns : Nat) (news : List (Addr × Obj)) (Post : Value → List (Addr × Obj) → Prop) : Prop :=
  ∀ (dp un : Nat) (gd : Option (List Code)) (cn : Str) (cs : Scope) (a : Addr) (ccd : Value) (cl : List (Str × Addr)) (outer : List Env) (A₀ : Around) (base h₀ : Heap) (L : Addr) (m : Str → Option Value) (s : Shared) (mean : ExcName → Option Value) (mg mb : Str → Option Value)
    (Q E : Value → Shared → Prop),
    Below A₀ base outer h₀ → Fr h₀ L s.heap m → (Mine.hd.heap_1 w.params).In h₀ → News h₀ L s.heap news → Top Mine.hd.view_1 (looseW Mine.hd.view_1 [Str.ofString "set_of_sets"]) mean mg mb h₀ → cs.kind = .function → dp + dep < recursionLimit → un + uns < cLine →
    (∀ r news' h' tk', Fr h₀ L h' m → News h₀ L h' news' → Post r news' → Q r { s with heap := h', toks := tk' }) →
    wpAny (model PySem.Challenge.rw_rr0086_01.row.prog w) (ktrTop dp un gd cn cs L a ccd cl outer) (call (.ref f) vs) Q E s
section
variable {prog : Program} {w : World} {A : Around} {E : Value → Shared → Prop} {s : Shared} {h₀ : Heap} {L l : Addr}
theorem len_c {news : List (Addr × Obj)} {us : List Value} {n : Nat} {Q : Value → Shared → Prop} (N : News h₀ L s.heap news) (hm : (l, listOf us.toArray n) ∈ news) (hfit : us.length < 2 ^ 62)
    (h : Q (.int (us.length : Int) (s.toks + 1)) { s with toks := s.toks + 1 + 1 }) : wpAny (model prog w) A (call (.builtin "len") [.ref l]) Q E s := by
  have hl : s.heap.IsList l us.toArray := ⟨_, (N _ hm).1, rfl, n, rfl⟩
  have e : us.toArray.size = us.length := by rw [List.size_toArray]
  exact len_list hl (by rw [e]; omega) (by rw [e]; exact h)
theorem item_c {value slice : PySem.Expr} {news : List (Addr × Obj)} {us : List Value} {ns : List Int} {n : Nat} {k : Int} {u : Tok} {Q : Value → Shared → Prop} (N : News h₀ L s.heap news) (hm : (l, listOf us.toArray n) ∈ news) (hd : IntsAre us ns)
    (h0 : 0 ≤ k) (h1 : k < (us.length : Int)) (hfit : us.length < 2 ^ 62) (h : ∀ x t, x ∈ ns → Q (.int x t) s)
    (hs : subscripted slice false (.ref l) (.int k u) = operate [.ref l, .int k u] (getItem (.ref l) (.int k u)) := by with_unfolding_all rfl) :
    wpAny (model prog w) A (subscriptTail value slice (.ref l) (.int k u)) Q E s := by
  have hl : s.heap.IsList l us.toArray := ⟨_, (N _ hm).1, rfl, n, rfl⟩
  have hk : k.toNat < ns.length := by rw [← hd.length]; omega
  obtain ⟨t, ht⟩ := hd.get k.toNat _ (List.getElem?_eq_getElem hk)
  exact tail_any hl.typeIs slot_list_getitem.lookup (wpAny_getItem_list hl h0 (by omega) (by simpa using ht) (h _ t (List.getElem_mem hk))) hs
end
section
local macro_rules | `(tactic| k_all) => `(tactic| with_reducible assumption)
local macro_rules | `(tactic| k_mem) => `(tactic| exact List.mem_cons_of_mem _ (by with_reducible assumption))
local macro_rules | `(tactic| walk_at "call builtin:len") => `(tactic| (k_here; (with_reducible show wpAny _ _ (call (Value.builtin "len") [Value.ref _]) _ _ _); (refine' len_c ?k1 ?k2 ?k3 ?_; (case k1 => k_asm); (case k2 => k_mem); (case k3 => omega); k_whole)))
local macro_rules | `(tactic| walk_at "subscriptTail") => `(tactic| (k_here; (with_reducible show wpAny _ _ (subscriptTail _ _ (Value.ref _) (Value.int _ _)) _ _ _); (with_unfolding_all refine' item_c ?k1 ?k2 ?kd ?k3 ?k4 ?k5 ?_ ?k6; (case k1 => k_asm); (case k2 => exact List.mem_cons_of_mem _ (by with_reducible assumption)); (case kd => with_reducible assumption); (case k3 => omega); (case k4 => omega); (case k5 => omega); (case k6 => with_unfolding_all rfl); k_whole); intro x' t' hx'))
variable {w : World}
set_option maxRecDepth 100000 in
set_option maxHeartbeats 8000000 in
theorem draw_does {J C : Addr} {p : Int} {t tm : Tok} {n k : Nat} {many : Int} {vs : List Value} {ns : List Int} {news : List (Addr × Obj)}
    (hC : (C, listOf vs.toArray k) ∈ news) (hD : IntsAre vs ns) (off : ∀ q ∈ news, q.1 ≠ J) (h0 : 0 ≤ p) (h1 : p < 100000) (hm : 0 < many) (hm2 : many < 100000) (hl : vs.length < 100000) (hb : ∀ x ∈ ns, 0 ≤ x ∧ x < 1000003) :
    Does w 223 [.ref J, .int many tm] 1 8 ((J, listOf #[.ref C, .int p t] n) :: news) (fun r news' => ∃ x tx t' n', r = .int x tx ∧ 0 ≤ x ∧ x < many ∧ news' = (J, listOf #[.ref C, .int (p + 1) t'] n') :: news) := by
  unfold Does
  intro dp un gd cn cs a ccd cl outer A₀ base h₀ L m s mean mg mb Q E B F X N T hk hd hu hret
  refine wpAny_call ?_
  k_dflt ktr_enter
  k_steps
  all_goals exact hret _ _ _ _ (by k_asm) (by k_asm) ⟨_, _, _, _, rfl, Int.fmod_nonneg_of_pos _ hm, Int.fmod_lt_of_pos _ hm, rfl⟩
end
end Mine
end

namespace Mine
theorem rstB2 : True := by
  w_top off
  exact trivial
end Mine
section
open PySem PySem.W PyProof.Rows PySem.Calls PySem.Spec
namespace Mine
section
variable {w : World}
theorem Does.use {f : Addr} {vs : List Value} {dep uns : Nat} {news : List (Addr × Obj)} {Post : Value → List (Addr × Obj) → Prop} (D : Does w f vs dep uns news Post)
    {dp un : Nat} {gd : Option (List Code)} {cn : Str} {cs : Scope} {a : Addr} {ccd : Value} {cl : List (Str × Addr)} {outer : List Env} {A₀ : Around} {base h₀ : Heap} {L : Addr} {m : Str → Option Value} {s : Shared} {mean : ExcName → Option Value} {mg mb : Str → Option Value}
    {Q E : Value → Shared → Prop} (B : Below A₀ base outer h₀) (F : Fr h₀ L s.heap m) (X : (Mine.hd.heap_1 w.params).In h₀) (N : News h₀ L s.heap news) (T : Top Mine.hd.view_1 (looseW Mine.hd.view_1 [Str.ofString "set_of_sets"]) mean mg mb h₀) (hk : cs.kind = .function) (hd : dp + dep < recursionLimit) (hu : un + uns < cLine)
    (ret : ∀ r news' h' tk', Fr h₀ L h' m → News h₀ L h' news' → Post r news' → Q r { s with heap := h', toks := tk' }) :
    wpAny (model PySem.Challenge.rw_rr0086_01.row.prog w) (ktrTop dp un gd cn cs L a ccd cl outer) (call (.ref f) vs) Q E s := D _ _ _ _ _ _ _ _ _ _ _ _ _ _ _ _ _ _ _ _ B F X N T hk hd hu ret

local macro_rules | `(tactic| k_all) => `(tactic| with_reducible assumption)
local macro_rules | `(tactic| walk_at "call ref") => `(tactic| (k_here; (with_reducible show wpAny _ _ (call (Value.ref 223) _) _ _ _); refine' Does.use (draw_does (by with_reducible assumption) (by with_reducible assumption) (by with_reducible assumption) ?d1 ?d2 ?d3 ?d4 (by with_reducible assumption) (by with_reducible assumption)) ?k1 ?k2 ?k3 ?k4 ?k5 ?kK ?kd ?ku ?_; (case k1 => k_asm); (case k2 => k_asm); (case k3 => k_asm); (case k4 => k_asm); (case k5 => k_asm); (case kK => first | exact rfl | assumption); (case d1 => omega); (case d2 => omega); (case d3 => omega); (case d4 => omega); (case kd => ktr_room); (case ku => ktr_units); (intro r9 nw9 h9 tk9 F9 N9 P9; obtain ⟨x9, tx9, t9, n9, e9, hx0, hx1, e8⟩ := P9; subst e9; subst e8; (try dsimp only); (try k_fold))))

theorem pow8 {x : Int} (h : x < 8) : 1 ≤ (2 : Int) ^ x.toNat ∧ (2 : Int) ^ x.toNat ≤ 128 := by
  have h' : x.toNat < 8 := by omega
  generalize x.toNat = k at h'
  match k, h' with
  | 0, _ | 1, _ | 2, _ | 3, _ | 4, _ | 5, _ | 6, _ | 7, _ => decide
set_option maxRecDepth 100000 in
set_option maxHeartbeats 8000000 in
theorem many_does {J C : Addr} {p : Int} {t : Tok} {n k : Nat} {vs : List Value} {ns : List Int} {news : List (Addr × Obj)}
    (hC : (C, listOf vs.toArray k) ∈ news) (hD : IntsAre vs ns) (off : ∀ q ∈ news, q.1 ≠ J) (h0 : 0 ≤ p) (h1 : p < 90000) (hl : vs.length < 100000) (hb : ∀ x ∈ ns, 0 ≤ x ∧ x < 1000003) :
    Does w 242 [.ref J] 2 16 ((J, listOf #[.ref C, .int p t] n) :: news) (fun r news' => ∃ x tx t' n' p', r = .int x tx ∧ 1 ≤ x ∧ x ≤ 200 ∧ p ≤ p' ∧ p' ≤ p + 4 ∧ news' = (J, listOf #[.ref C, .int p' t'] n') :: news) := by
  unfold Does
  intro dp un gd cn cs a ccd cl outer A₀ base h₀ L m s mean mg mb Q E B F X N T hk hd hu hret
  refine wpAny_call ?_
  k_dflt ktr_enter
  k_steps
  all_goals (refine hret _ _ _ _ (by k_asm) (by k_asm) ⟨_, _, _, _, _, rfl, ?_, ?_, ?_, ?_, rfl⟩)
  all_goals first | omega | (have hp := pow8 (by assumption); (repeat' split) <;> omega)
end
end Mine
end

namespace Mine
theorem rstB3 : True := by
  w_top off
  exact trivial
end Mine
section
open PySem PySem.W PyProof.Rows PySem.Calls PySem.Spec PyProof.Rows.LCg
namespace Mine
local macro_rules | `(tactic| walk_at "enterC") => `(tactic| (refine' code_defC ?k1 ?k2 ?k3 ?k4 ?k5 ?kA ?kF ?kK ?k6 ?k7 ?k8 ?k9 ?kB ?kD ?_ ?c2 ?c3 ?c4; (case kA => exact rfl); (case kF => exact rfl); (case kK => assumption); (case k1 => k_asm); (case k2 => k_asm); (case k3 => k_asm); (case k4 => k_asm); (case k5 => k_asm); (case k6 => k_is); (case k7 => k_is); (case k8 => ktr_room); (case k9 => exact BindsTo.of_eq rfl); (case kB => exact rfl); (case kD => decide +kernel); (case c2 => exact rfl); (case c3 => exact rfl); (case c4 => exact rfl); k_whole; intro g' L' h' tk' cells' FG' F' N' Y' B' X' T' l1; (try k_lt l1); k_cells Y'; (try simp only [List.cons_append, List.nil_append] at N'); (try dsimp only); (try k_lift B'); (try k_fold)))
section
variable {w : World}
def bitK (mask : Int) (k : Nat) : Bool := (mask.toNat >>> k) % 2 == 1

theorem News.sub9 {h₀ h : Heap} {L : Addr} {big small : List (Addr × Obj)} (N : News h₀ L h big) (hs : ∀ p ∈ small, p ∈ big) : News h₀ L h small := fun p hp => N p (hs p hp)
theorem bit_all : ∀ (m : Fin 16) (i : Fin 4), (PySem.Builtin.bitAnd (((m.val : Int)).fdiv (2 ^ ((i.val : Int)).toNat)) 1 == 1) = bitK (m.val : Int) i.val := by decide +kernel
theorem bit_eq {mask : Int} {i : Nat} (h0 : 0 ≤ mask) (h1 : mask < 16) (hi : i < 4) : (PySem.Builtin.bitAnd (mask.fdiv (2 ^ ((i : Int)).toNat)) 1 == 1) = bitK mask i := by
  obtain ⟨k, rfl⟩ : ∃ k : Nat, mask = (k : Int) := ⟨mask.toNat, by omega⟩
  exact bit_all ⟨k, by omega⟩ ⟨i, hi⟩
theorem kept_len (f : Nat → Bool) : ∀ (i : Nat) (vs : List Value), (kept f i vs).length ≤ vs.length
  | _, [] => Nat.le_refl _
  | i, v :: r => by
    have := kept_len f (i + 1) r
    rw [kept]; split
    · rw [List.length_cons, List.length_cons]; omega
    · rw [List.length_cons]; omega
local macro_rules | `(tactic| k_mem) => `(tactic| exact List.mem_cons_of_mem _ (by with_reducible assumption))
local macro_rules | `(tactic| k_all) => `(tactic| with_reducible assumption)
local macro_rules | `(tactic| walk_at "eval ListComp") => `(tactic| (k_here; k_dflt (refine comp_enum (_F₀ := by k_asm) (by with_unfolding_all rfl) (by decide) (by rfl) (by decide) (by rfl) (by rfl) (by decide) (by decide) ?_)))
set_option maxRecDepth 100000 in
set_option maxHeartbeats 1000000 in
theorem told_does {R : Addr} {n : Nat} {vs : List Value} {mask : Int} {tm : Tok} {news : List (Addr × Obj)} (hR : (R, listOf vs.toArray n) ∈ news) (h4 : vs.length = 4) (h0 : 0 ≤ mask) (h1 : mask < 16) :
    Does w 228 [.ref R, .int mask tm] 2 16 news (fun r news' => ∃ T c, r = .ref T ∧ news' = (T, tupOf (kept (bitK mask) 0 vs) c) :: news ∧ (∀ q ∈ news, q.1 < T)) := by
  unfold Does
  intro dp un gd cn cs a ccd cl outer A₀ base h₀ L m s mean mg mb Q E B F X N T hk hd hu hret
  refine wpAny_call ?_
  k_dflt walk_at "enterC"
  k_steps
  with_unfolding_all refine' enum_src (f := bitK mask) ?kh ?kF ?kN ?km ?ks ?kt ?_
  case kh => exact rfl
  case kF => k_asm
  case kN => k_asm
  case km => exact List.mem_cons_of_mem _ hR
  case ks => rw [sizeLine_eq]; omega
  case kt =>
    k_whole
    intro g' i' y' t' C' D' oC' ys' m' h' tk' E' hi' hC' ha' hb' F' N'
    have hi4 : i' < 4 := by rw [← h4]; exact (List.getElem?_eq_some_iff.mp hi').1
    k_steps
    all_goals exact bit_eq h0 h1 hi4
  k_whole
  intro g'
  k_steps
  with_unfolding_all refine' kde_tupleOf ?k1 ?k2 ?k3 ?k4 ?k5 ?_
  case k1 => k_asm
  case k2 => k_asm
  case k3 => exact News.isList (by k_asm) (.head _)
  case k4 => show (kept _ _ _).toArray.size ≤ _; rw [List.size_toArray]; have := kept_len (bitK mask) 0 vs; omega
  case k5 => rfl
  k_whole
  intro D' h' F' N' l1
  k_steps
  refine hret (.ref D') ((D', tupOf (kept (bitK mask) 0 vs) 0) :: news) _ _ (by k_asm) (News.sub9 (by k_asm) fun p hp => ?_) ⟨D', _, rfl, rfl, fun q hq => l1 q (.tail _ (.tail _ hq))⟩
  rcases List.mem_cons.mp hp with rfl | hp
  · exact .head _
  · exact .tail _ (.tail _ (.tail _ hp))
end
end Mine
end

namespace Mine
theorem rstB4 : True := by
  w_top off
  exact trivial
end Mine
section
open PySem PySem.W PyProof.Rows PySem.Calls PySem.Spec PyProof.Rows.LCg
namespace Mine

/-- the rows that a mask takes, as a set is told -/
def setK (mask : Int) : List Nat := (List.range 4).filter (bitK mask)
def setD (ar : Nat) (mask : Int) : Dat := .tuple ((setK mask).map (rowD ar))
inductive Leaf where
  | rel (r : Int)
  | none
  | var
  | meet (r own : Int)
  | minus (own r : Int)
  | univ
  | iden
  | told (own : Int)
abbrev ds (x : String) : Dat := Dat.str (Str.ofString x)
def toldD (ar : Nat) (own : Int) : Dat := .tuple [ds "tuples", .int ar, setD ar own]
def Leaf.dat (ar : Nat) : Leaf → Dat
  | .rel r => .tuple [ds "rel", .int r]
  | .none => .tuple [ds "none", .int ar]
  | .var => .tuple [ds "var", ds "x"]
  | .meet r own => .tuple [ds "meet", .tuple [ds "rel", .int r], toldD ar own]
  | .minus own r => .tuple [ds "minus", toldD ar own, .tuple [ds "rel", .int r]]
  | .univ => .tuple [ds "univ"]
  | .iden => .tuple [ds "iden"]
  | .told own => toldD ar own
def Leaf.mask (ms : List Int) : Leaf → Int
  | .rel r => ms.getD r.toNat 0
  | .none => 0
  | .var => ms.getD 3 0
  | .meet r own => PySem.Builtin.bitAnd (ms.getD r.toNat 0) own
  | .minus own r => PySem.Builtin.bitAnd own (15 - ms.getD r.toNat 0)
  | .univ => 15
  | .iden => 9
  | .told own => own
def Leaf.Ok (ar : Nat) : Leaf → Prop
  | .rel r => 0 ≤ r ∧ r < 3
  | .meet r own => 0 ≤ r ∧ r < 3 ∧ 0 ≤ own ∧ own < 16
  | .minus own r => 0 ≤ r ∧ r < 3 ∧ 0 ≤ own ∧ own < 16
  | .told own => 0 ≤ own ∧ own < 16
  | .univ => ar = 1
  | .iden => ar = 2
  | _ => True
theorem kept_rows {news : List (Addr × Obj)} (f : Nat → Bool) {ar : Nat} : ∀ (i n : Nat) (vs : List Value), DatAll news vs ((List.range' i n).map (rowD ar)) → DatAll news (kept f i vs) (((List.range' i n).filter f).map (rowD ar))
  | i, 0, vs, h => by
    cases h; exact .nil
  | i, n + 1, vs, h => by
    rw [List.range'_succ] at h ⊢
    cases h with
    | cons a b =>
      have ih := kept_rows f (i + 1) n _ b
      rw [kept, List.filter_cons]
      cases f i with
      | true => exact .cons a ih
      | false => exact ih
theorem kept_set {news : List (Addr × Obj)} {ar : Nat} {mask : Int} {vs : List Value} (h : DatAll news vs ((List.range 4).map (rowD ar))) : DatAll news (kept (bitK mask) 0 vs) ((setK mask).map (rowD ar)) := by
  rw [List.range_eq_range'] at h
  unfold setK
  rw [List.range_eq_range']
  exact kept_rows _ 0 4 vs h

section
variable {prog : Program} {w : World} {A : Around} {E : Value → Shared → Prop} {s : Shared} {h₀ : Heap} {L l : Addr}
theorem len_t {news : List (Addr × Obj)} {us : List Value} {n : Nat} {Q : Value → Shared → Prop} (N : News h₀ L s.heap news) (hm : (l, ({ cls := .type "tuple", data := .seq us.toArray n } : Obj)) ∈ news) (hfit : us.length < 2 ^ 62)
    (h : Q (.int (us.length : Int) (s.toks + 1)) { s with toks := s.toks + 1 + 1 }) : wpAny (model prog w) A (call (.builtin "len") [.ref l]) Q E s := by
  have hl : s.heap.IsTuple l us.toArray := ⟨_, (N _ hm).1, rfl, n, rfl⟩
  have e : us.toArray.size = us.length := by rw [List.size_toArray]
  exact len_tuple hl (by rw [e]; omega) (by rw [e]; exact h)
theorem item_g {value slice : PySem.Expr} {news : List (Addr × Obj)} {us : List Value} {ns : List Int} {n : Nat} {k : Int} {u : Tok} {Q : Value → Shared → Prop} (N : News h₀ L s.heap news) (hm : (l, listOf us.toArray n) ∈ news) (hd : IntsAre us ns)
    (h0 : 0 ≤ k) (h1 : k < (us.length : Int)) (hfit : us.length < 2 ^ 62) (h : ∀ t, Q (.int (ns.getD k.toNat 0) t) s)
    (hs : subscripted slice false (.ref l) (.int k u) = operate [.ref l, .int k u] (getItem (.ref l) (.int k u)) := by with_unfolding_all rfl) :
    wpAny (model prog w) A (subscriptTail value slice (.ref l) (.int k u)) Q E s := by
  have hl : s.heap.IsList l us.toArray := ⟨_, (N _ hm).1, rfl, n, rfl⟩
  have hk : k.toNat < ns.length := by rw [← hd.length]; omega
  obtain ⟨t, ht⟩ := hd.get k.toNat _ (List.getElem?_eq_getElem hk)
  have e : ns.getD k.toNat 0 = ns[k.toNat] := by rw [List.getD_eq_getElem?_getD, List.getElem?_eq_getElem hk]; rfl
  exact tail_any hl.typeIs slot_list_getitem.lookup (wpAny_getItem_list hl h0 (by omega) (by simpa using ht) (by have := h t; rw [e] at this; exact this)) hs
theorem item_v {value slice : PySem.Expr} {news : List (Addr × Obj)} {us : List Value} {v : Value} {n : Nat} {k : Int} {u : Tok} {Q : Value → Shared → Prop} (N : News h₀ L s.heap news) (hm : (l, listOf us.toArray n) ∈ news) (hd : us[k.toNat]? = some v)
    (h0 : 0 ≤ k) (hfit : k < 2 ^ 62) (h : Q v s)
    (hs : subscripted slice false (.ref l) (.int k u) = operate [.ref l, .int k u] (getItem (.ref l) (.int k u)) := by with_unfolding_all rfl) :
    wpAny (model prog w) A (subscriptTail value slice (.ref l) (.int k u)) Q E s := by
  have hl : s.heap.IsList l us.toArray := ⟨_, (N _ hm).1, rfl, n, rfl⟩
  exact tail_any hl.typeIs slot_list_getitem.lookup (wpAny_getItem_list hl h0 (by omega) (by simpa using hd) h) hs
end
theorem rot5 {h₀ h : Heap} {L J : Addr} {a b c d e : Addr × Obj} {xs : Array Value} {n : Nat} {news : List (Addr × Obj)} (N : News h₀ L h (a :: b :: c :: d :: e :: (J, listOf xs n) :: news)) : News h₀ L h ((J, listOf xs n) :: ([a, b, c, d, e] ++ news)) := by
  refine News.sub9 N fun p hp => ?_
  simp only [List.cons_append, List.nil_append, List.mem_cons] at hp ⊢
  rcases hp with h | h | h | h | h | h | h <;> simp [h]
theorem rot6 {h₀ h : Heap} {L J : Addr} {a b c d e f : Addr × Obj} {xs : Array Value} {n : Nat} {news : List (Addr × Obj)} (N : News h₀ L h (a :: b :: c :: d :: e :: f :: (J, listOf xs n) :: news)) : News h₀ L h ((J, listOf xs n) :: ([a, b, c, d, e, f] ++ news)) := by
  refine News.sub9 N fun p hp => ?_
  simp only [List.cons_append, List.nil_append, List.mem_cons] at hp ⊢
  rcases hp with h | h | h | h | h | h | h | h <;> simp [h]
theorem rot7 {h₀ h : Heap} {L J : Addr} {a b c d e f g : Addr × Obj} {xs : Array Value} {n : Nat} {news : List (Addr × Obj)} (N : News h₀ L h (a :: b :: c :: d :: e :: f :: g :: (J, listOf xs n) :: news)) : News h₀ L h ((J, listOf xs n) :: ([a, b, c, d, e, f, g] ++ news)) := by
  refine News.sub9 N fun p hp => ?_
  simp only [List.cons_append, List.nil_append, List.mem_cons] at hp ⊢
  rcases hp with h | h | h | h | h | h | h | h | h <;> simp [h]
theorem own_bnd {x : Int} (h1 : x < 12) (h0 : 0 ≤ x) : ∃ o : Int, 1 * 2 ^ (x.fdiv 3).toNat = o ∧ 0 ≤ o ∧ o < 16 := by
  have h3 : (x.fdiv 3).toNat < 4 := by
    have := Int.fdiv_eq_ediv_of_nonneg x (b := 3) (by decide)
    omega
  generalize (x.fdiv 3).toNat = k at h3
  match k, h3 with
  | 0, _ => exact ⟨1, by decide⟩
  | 1, _ => exact ⟨2, by decide⟩
  | 2, _ => exact ⟨4, by decide⟩
  | 3, _ => exact ⟨8, by decide⟩
section
variable {w : World}
local macro_rules | `(tactic| walk_at "ordK") => `(tactic| (intro p hp; simp only [List.mem_cons, List.not_mem_nil, or_false] at hp; (repeat' (first | (subst hp) | (rcases hp with hp | hp))); (all_goals (refine ⟨ltN (by (try dsimp only); omega), ktn_ltOf ?_⟩; first | exact (by with_reducible assumption : _ ∧ AllLt _ _).2 | exact (by with_reducible assumption : _ ∧ _ ∧ AllLt _ _).2.2 | exact (by with_reducible assumption : _ ∧ _ ∧ _ ∧ AllLt _ _).2.2.2 | exact (by with_reducible assumption : _ ∧ _ ∧ _ ∧ _ ∧ AllLt _ _).2.2.2.2 | exact (by with_reducible assumption : _ ∧ _ ∧ _ ∧ _ ∧ _ ∧ AllLt _ _).2.2.2.2.2 | exact (by with_reducible assumption : _ ∧ _ ∧ _ ∧ _ ∧ _ ∧ _ ∧ AllLt _ _).2.2.2.2.2.2 | exact (by with_reducible assumption : _ ∧ _ ∧ _ ∧ _ ∧ _ ∧ _ ∧ _ ∧ AllLt _ _).2.2.2.2.2.2.2 | exact (by with_reducible assumption : _ ∧ _ ∧ _ ∧ _ ∧ _ ∧ _ ∧ _ ∧ _ ∧ AllLt _ _).2.2.2.2.2.2.2.2))))
local macro_rules | `(tactic| k_all) => `(tactic| with_reducible assumption)
local macro_rules | `(tactic| k_mem) => `(tactic| first | with_reducible assumption | exact List.mem_cons_of_mem _ (by with_reducible assumption) | exact List.mem_cons_of_mem _ (by k_mem))
local macro_rules | `(tactic| walk_at "call ref") => `(tactic| (k_here; (with_reducible show wpAny _ _ (call (Value.ref 223) _) _ _ _); refine' Does.use (draw_does ?m1 ?m2 ?m3 ?d1 ?d2 ?d3 ?d4 ?m4 ?m5) ?k1 ?k2 ?k3 ?k4 ?k5 ?kK ?kd ?ku ?_; (case k1 => k_asm); (case k2 => k_asm); (case k3 => k_asm); (case k4 => k_asm); (case m1 => with_reducible assumption); (case m2 => with_reducible assumption); (case m3 => with_reducible assumption); (case m4 => with_reducible assumption); (case m5 => with_reducible assumption); (case k5 => k_asm); (case kK => first | exact rfl | assumption); (case d1 => omega); (case d2 => omega); (case d3 => omega); (case d4 => omega); (case kd => ktr_room); (case ku => ktr_units); (intro r9 nw9 h9 tk9 F9 N9 P9; obtain ⟨x9, tx9, t9, n9, e9, hx0, hx1, e8⟩ := P9; subst e9; subst e8; (try dsimp only); (try k_fold))))
local macro_rules | `(tactic| walk_at "call builtin:len") => `(tactic| (k_here; (with_reducible show wpAny _ _ (call (Value.builtin "len") [Value.ref _]) _ _ _); (refine' len_t ?k1 ?k2 ?k3 ?_; (case k1 => k_asm); (case k2 => k_mem); (case k3 => omega); k_whole)))
local macro_rules | `(tactic| walk_at "subscriptTail") => `(tactic| (k_here; (with_reducible show wpAny _ _ (subscriptTail _ _ (Value.ref _) (Value.int _ _)) _ _ _); (with_unfolding_all refine' item_g ?k1 ?k2 ?kd ?k3 ?k4 ?k5 ?_ ?k6; (case k1 => k_asm); (case k2 => k_mem); (case kd => with_reducible assumption); (case k3 => omega); (case k4 => omega); (case k5 => omega); (case k6 => with_unfolding_all rfl); k_whole); intro t'))
local macro_rules | `(tactic| walk_at "subscriptTail") => `(tactic| (k_here; (with_reducible show wpAny _ _ (subscriptTail _ _ (Value.ref _) (Value.int _ _)) _ _ _); (with_unfolding_all refine' item_v ?k1 ?k2 ?kd ?k3 ?k4 ?_ ?k6; (case k1 => k_asm); (case k2 => k_mem); (case kd => with_reducible assumption); (case k3 => omega); (case k4 => omega); (case k6 => with_unfolding_all rfl); k_whole)))

set_option maxRecDepth 100000 in
set_option maxHeartbeats 4000000 in
theorem expr_does {J C R M a0 : Addr} {p : Int} {t : Tok} {n k rn mn n0 : Nat} {vs rs mvs us0 : List Value} {ns ms : List Int} {ar : Nat} {news bs : List (Addr × Obj)}
    (hC : (C, listOf vs.toArray k) ∈ news) (hD : IntsAre vs ns) (off : ∀ q ∈ news, q.1 ≠ J) (h0 : 0 ≤ p) (h1 : p < 90000) (hl : vs.length < 100000) (hb : ∀ x ∈ ns, 0 ≤ x ∧ x < 1000003)
    (hR : (R, listOf rs.toArray rn) ∈ news) (hr0 : rs[0]? = some (.ref a0)) (ha0 : (a0, ({ cls := .type "tuple", data := .seq us0.toArray n0 } : Obj)) ∈ news) (hu0 : us0.length = ar)
    (hRD : DatAll bs rs ((List.range 4).map (rowD ar))) (hM : (M, listOf mvs.toArray mn) ∈ news) (hMI : IntsAre mvs ms) (hml : mvs.length = 4) (hmb : ∀ x ∈ ms, 0 ≤ x ∧ x < 16) (har : ar = 1 ∨ ar = 2) :
    Does w 235 [.ref J, .ref R, .ref M] 3 32 ((J, listOf #[.ref C, .int p t] n) :: news) (fun r news' => ∃ P e l tm c tl t' n', r = .ref P ∧ Leaf.Ok ar l ∧ news' = (J, listOf #[.ref C, .int (p + 1 + 1) t'] n') :: (tl ++ news) ∧
      (P, ({ cls := .type "tuple", data := .seq #[e, .int (l.mask ms) tm] c } : Obj)) ∈ tl ∧ DatIn (tl ++ bs) e (l.dat ar) ∧ (∀ p ∈ tl, J < p.1 ∧ ∀ q ∈ news, q.1 < p.1)) := by
  subst hu0
  have hr4 : rs.length = 4 := by simpa using hRD.length
  have hr0' : rs[(0 : Int).toNat]? = some (.ref a0) := hr0
  unfold Does
  intro dp un gd cn cs a ccd cl outer A₀ base h₀ L m s mean mg mb Q E B F X N T hk hd hu hret
  refine wpAny_call ?_
  k_dflt ktr_enter
  k_steps
  obtain ⟨own, hoe, ho0, ho1⟩ := own_bnd (by assumption) (by assumption)
  simp only [hoe] at *
  refine' Does.use (told_does ?m1 ?m2 ?m3 ?m4) ?k1 ?k2 ?k3 ?k4 ?k5 ?kK ?kd ?ku ?_
  case k1 => k_asm
  case k2 => k_asm
  case k3 => k_asm
  case k4 => k_asm
  case m1 => k_mem
  case m2 => exact hr4
  case m3 => exact ho0
  case m4 => exact ho1
  case k5 => k_asm
  case kK => first | exact rfl | assumption
  case kd => ktr_room
  case ku => ktr_units
  intro r9 nw9 h9 tk9 F9 N9 P9
  obtain ⟨TT, tc, e9, e8, l1⟩ := P9
  subst e9; subst e8
  k_lt l1
  (try dsimp only)
  (try k_fold)
  k_steps
  · refine hret _ _ _ _ (by k_asm) (rot6 (by k_asm)) ⟨_, _, (.rel _), _, _, _, _, _, rfl, ⟨Int.fmod_nonneg_of_pos _ (by decide), Int.fmod_lt_of_pos _ (by decide)⟩, rfl, .head _, (.tuple (.tail _ (.head _)) (.cons (.str _ _) (.cons (.int _ _) .nil))), ?_⟩
    walk_at "ordK"
  · refine hret _ _ _ _ (by k_asm) (rot6 (by k_asm)) ⟨_, _, .none, _, _, _, _, _, rfl, trivial, rfl, .head _, (.tuple (.tail _ (.head _)) (.cons (.str _ _) (.cons (.int _ _) .nil))), ?_⟩
    walk_at "ordK"
  · refine hret _ _ _ _ (by k_asm) (rot6 (by k_asm)) ⟨_, _, .var, _, _, _, _, _, rfl, trivial, rfl, .head _, (.tuple (.tail _ (.head _)) (.cons (.str _ _) (.cons (.str _ _) .nil))), ?_⟩
    walk_at "ordK"
  · refine hret _ _ _ _ (by k_asm) (rot7 (by k_asm)) ⟨_, _, (.meet _ own), _, _, _, _, _, rfl, ⟨Int.fmod_nonneg_of_pos _ (by decide), Int.fmod_lt_of_pos _ (by decide), ho0, ho1⟩, rfl, .head _, (.tuple (.tail _ (.head _)) (.cons (.str _ _) (.cons (.tuple (.tail _ (.tail _ (.head _))) (.cons (.str _ _) (.cons (.int _ _) .nil))) (.cons (.tuple (.tail _ (.tail _ (.tail _ (.head _)))) (.cons (.str _ _) (.cons (.int _ _) (.cons (.tuple (.tail _ (.tail _ (.tail _ (.tail _ (.head _))))) (kept_set (hRD.mono fun q hq => (.tail _ (.tail _ (.tail _ (.tail _ (.tail _ (.tail _ (.tail _ hq)))))))))) .nil)))) .nil)))), ?_⟩
    walk_at "ordK"
  · refine hret _ _ _ _ (by k_asm) (rot7 (by k_asm)) ⟨_, _, (.minus own _), _, _, _, _, _, rfl, ⟨Int.fmod_nonneg_of_pos _ (by decide), Int.fmod_lt_of_pos _ (by decide), ho0, ho1⟩, rfl, .head _, (.tuple (.tail _ (.head _)) (.cons (.str _ _) (.cons (.tuple (.tail _ (.tail _ (.tail _ (.head _)))) (.cons (.str _ _) (.cons (.int _ _) (.cons (.tuple (.tail _ (.tail _ (.tail _ (.tail _ (.head _))))) (kept_set (hRD.mono fun q hq => (.tail _ (.tail _ (.tail _ (.tail _ (.tail _ (.tail _ (.tail _ hq)))))))))) .nil)))) (.cons (.tuple (.tail _ (.tail _ (.head _))) (.cons (.str _ _) (.cons (.int _ _) .nil))) .nil)))), ?_⟩
    walk_at "ordK"
  · refine hret _ _ _ _ (by k_asm) (rot6 (by k_asm)) ⟨_, _, .univ, _, _, _, _, _, rfl, (by show us0.length = 1; omega), rfl, .head _, (.tuple (.tail _ (.head _)) (.cons (.str _ _) .nil)), ?_⟩
    walk_at "ordK"
  · refine hret _ _ _ _ (by k_asm) (rot6 (by k_asm)) ⟨_, _, .iden, _, _, _, _, _, rfl, (by show us0.length = 2; omega), rfl, .head _, (.tuple (.tail _ (.head _)) (.cons (.str _ _) .nil)), ?_⟩
    walk_at "ordK"
  · refine hret _ _ _ _ (by k_asm) (rot5 (by k_asm)) ⟨_, _, (.told own), _, _, _, _, _, rfl, ⟨ho0, ho1⟩, rfl, .head _, (.tuple (.tail _ (.head _)) (.cons (.str _ _) (.cons (.int _ _) (.cons (.tuple (.tail _ (.tail _ (.head _))) (kept_set (hRD.mono fun q hq => (.tail _ (.tail _ (.tail _ (.tail _ (.tail _ hq)))))))) .nil)))), ?_⟩
    walk_at "ordK"
  · refine hret _ _ _ _ (by k_asm) (rot5 (by k_asm)) ⟨_, _, (.told own), _, _, _, _, _, rfl, ⟨ho0, ho1⟩, rfl, .head _, (.tuple (.tail _ (.head _)) (.cons (.str _ _) (.cons (.int _ _) (.cons (.tuple (.tail _ (.tail _ (.head _))) (kept_set (hRD.mono fun q hq => (.tail _ (.tail _ (.tail _ (.tail _ (.tail _ hq)))))))) .nil)))), ?_⟩
    walk_at "ordK"
end
end Mine
end

namespace Mine
theorem rstB5 : True := by
  w_top off
  exact trivial
end Mine
section
open PySem PySem.W PyProof.Rows PySem.Calls PySem.Spec PyProof.Rows.LCg
namespace Mine
def Grown (news news' : List (Addr × Obj)) : Prop := ∃ tl, news' = tl ++ news ∧ ∀ p ∈ tl, ∀ q ∈ news, q.1 < p.1
def rowsD (ar : Nat) (ks : List Nat) : Dat := .tuple (ks.map (rowD ar))
theorem Grown.sub {news news' : List (Addr × Obj)} (g : Grown news news') : ∀ p ∈ news, p ∈ news' := by
  obtain ⟨tl, rfl, _⟩ := g
  exact fun p hp => List.mem_append.mpr (.inr hp)
theorem Grown.refl (news : List (Addr × Obj)) : Grown news news := ⟨[], rfl, fun _ h => nomatch h⟩
theorem Grown.trans {a b c : List (Addr × Obj)} (g : Grown a b) (k : Grown b c) : Grown a c := by
  obtain ⟨t1, rfl, h1⟩ := g
  obtain ⟨t2, rfl, h2⟩ := k
  refine ⟨t2 ++ t1, by rw [List.append_assoc], fun p hp q hq => ?_⟩
  rcases List.mem_append.mp hp with hp | hp
  · exact h2 p hp q (List.mem_append.mpr (.inr hq))
  · exact h1 p hp q hq
theorem Grown.one {news : List (Addr × Obj)} {p : Addr × Obj} (h : ∀ q ∈ news, q.1 < p.1) : Grown news (p :: news) := ⟨[p], rfl, fun r hr q hq => by rw [List.mem_singleton.mp hr]; exact h q hq⟩
/-- what holds between the turns of [(one, True) for one in rows] -/
def Jpair (ar : Nat) (ks : List Nat) (n0 news : List (Addr × Obj)) (i : Nat) (ys : List Value) (nw : List (Addr × Obj)) : Prop :=
  ∃ ps : List (Addr × Addr × Nat), Grown news nw ∧ ys = ps.map (fun p => Value.ref p.1) ∧ ps.map (·.2.2) = ks.take i ∧ ps.length = i ∧ ∀ p ∈ ps, (∃ c, (p.1, ({ cls := .type "tuple", data := .seq #[.ref p.2.1, .bool true] c } : Obj)) ∈ nw) ∧ DatIn n0 (.ref p.2.1) (rowD ar p.2.2)
theorem Jpair.zero (ar : Nat) (ks : List Nat) (n0 news : List (Addr × Obj)) : Jpair ar ks n0 news 0 [] news := ⟨[], Grown.refl _, rfl, by simp, rfl, fun _ h => nomatch h⟩
theorem jpair_end {h₀ h' : Heap} {L I C D P tA : Addr} {m : Str → Option Value} {s₁ : Shared} {oI oC oD : Obj} {ar i c tn tk : Nat} {ks : List Nat} {vs ys : List Value} {v : Value} {n0 news nw : List (Addr × Obj)}
    (F : Fr h₀ L h' m) (N : News h₀ L h' ((P, ({ cls := .type "tuple", data := .seq #[v, .bool true] c } : Obj)) :: (I, oI) :: (C, oC) :: (D, oD) :: nw)) (l1 : I < P ∧ C < P ∧ D < P ∧ AllLt P nw) (hJ : Jpair ar ks n0 news i ys nw) (hv : vs[i]? = some v)
    (hD : DatAll n0 vs (ks.map (rowD ar))) (off : Off3 I C D nw) (hm : (tA, tupOf vs tn) ∈ news) :
    CompEnd h₀ L m s₁ I oI C oC D oD (fun nw => (tA, tupOf vs tn) ∈ nw) (fun y news' => Jpair ar ks n0 news (i + 1) (ys ++ [y]) news') (.ref P) { s₁ with heap := h', toks := tk } := by
  obtain ⟨ps, g, rfl, hks, hlen, hp⟩ := hJ
  obtain ⟨l2, l3, l4, l5⟩ := l1
  have hi : i < vs.length := (List.getElem?_eq_some_iff.mp hv).1
  have hvl : vs.length = ks.length := by have := hD.length; rwa [List.length_map] at this
  have hik : i < ks.length := by omega
  have hiv : vs[i] = v := (List.getElem?_eq_some_iff.mp hv).2
  obtain ⟨v', hv', hd⟩ := hD.get (k := i) (by rw [List.length_map]; exact hik)
  rw [hv] at hv'
  cases hv'
  have hd' : DatIn n0 v (rowD ar ks[i]) := by simpa using hd
  obtain ⟨a, us, n, rfl, ma, da⟩ := row_open hd'
  have g' : Grown news ((P, ({ cls := .type "tuple", data := .seq #[.ref a, .bool true] c } : Obj)) :: nw) := g.trans (Grown.one fun q hq => ktn_ltOf l5 q hq)
  refine CompEnd.intro F N ((P, ({ cls := .type "tuple", data := .seq #[.ref a, .bool true] c } : Obj)) :: nw) (fun p hp => ?_) ⟨⟨Nat.ne_of_gt l2, Nat.ne_of_gt l3, Nat.ne_of_gt l4⟩, off⟩ (g'.sub _ hm) ⟨ps ++ [(P, a, ks[i])], g', ?_, ?_, ?_, fun p hq => ?_⟩
  · rcases List.mem_cons.mp hp with rfl | hp
    · exact .tail _ (.head _)
    · rcases List.mem_cons.mp hp with rfl | hp
      · exact .tail _ (.tail _ (.head _))
      · rcases List.mem_cons.mp hp with rfl | hp
        · exact .tail _ (.tail _ (.tail _ (.head _)))
        · rcases List.mem_cons.mp hp with rfl | hp
          · exact .head _
          · exact .tail _ (.tail _ (.tail _ (.tail _ hp)))
  · simp
  · rw [List.map_append, hks, List.take_add_one, List.getElem?_eq_getElem hik]; rfl
  · rw [List.length_append, hlen]; rfl
  · rcases List.mem_append.mp hq with hq | hq
    · obtain ⟨⟨c', h1⟩, h2⟩ := hp p hq
      exact ⟨⟨c', .tail _ h1⟩, h2⟩
    · rw [List.mem_singleton.mp hq]
      exact ⟨⟨c, .head _⟩, hd'⟩
theorem sortK_lt (ks : List Nat) : ∀ k ∈ sortK ks, k < 4 := fun k hk => by
  unfold sortK at hk
  exact List.mem_range.mp (List.mem_filter.mp hk).1
theorem sortK_len (ks : List Nat) : (sortK ks).length ≤ 4 := by
  unfold sortK
  have := List.length_filter_le (fun k => ks.contains k) (List.range 4)
  simpa using this
theorem sortK_congr {ks js : List Nat} (h : ∀ k, k ∈ ks ↔ k ∈ js) : sortK ks = sortK js := by
  rw [sortK_mem, sortK_mem]
  exact List.filter_congr fun k _ => decide_eq_decide.mpr (h k)
section
variable {w : World}
local macro_rules | `(tactic| k_all) => `(tactic| with_reducible assumption)
local macro_rules | `(tactic| k_mem) => `(tactic| first | with_reducible assumption | exact List.mem_cons_of_mem _ (by with_reducible assumption) | exact List.mem_cons_of_mem _ (by k_mem))
local macro_rules | `(tactic| walk_at "call type:tuple") => `(tactic| (k_here; (with_reducible show wpAny _ _ (call (Value.type _) [Value.ref _]) _ _ _); (with_unfolding_all refine' kde_tupleOf ?k1 ?k2 ?k3 ?k4 ?k5 ?_; (case k1 => k_asm); (case k2 => k_asm); (case k3 => exact News.isList (by k_asm) (.head _)); (case k4 => (rw [List.size_toArray]; omega)); (case k5 => rfl); k_whole); intro D' h' F' N' l1; (try k_lt l1)))
local macro_rules | `(tactic| walk_at "eval ListComp") => `(tactic| (k_here; k_dflt (refine comp_tup (_F₀ := by k_asm) (by with_unfolding_all rfl) (by decide) (by rfl) (by decide) (by rfl) ?_)))

set_option maxRecDepth 100000 in
set_option maxHeartbeats 4000000 in
theorem setof_does {ar : Nat} {v : Value} {ks : List Nat} {news : List (Addr × Obj)} (hv : DatIn news v (rowsD ar ks)) (hk : ∀ k ∈ ks, k < 4) (hl : ks.length ≤ 400) :
    Does w 67 [v] 2 32 news (fun r news' => Grown news news' ∧ DatIn news' r (rowsD ar (sortK ks))) := by
  unfold Does
  intro dp un gd cn cs a ccd cl outer A₀ base h₀ L m s mean mg mb Q E B F X N T hkk hd hu hret
  cases hv with
  | @tuple tA vs tn _ hm hD =>
  refine wpAny_call ?_
  k_dflt ktr_enter
  k_steps
  have hvl : vs.length = ks.length := by have := hD.length; rwa [List.length_map] at this
  k_dflt refine' ⟨tA, vs, tn, news, rfl, rfl, ?kF, ?kN, hm, ?kS, fun g => rest_J (Jpair ar ks news news) vs.length ?kT ?kE vs.length 0 [] news (Nat.zero_add _) (Jpair.zero _ _ _ _)⟩
  case kF => k_asm
  case kN => k_asm
  case kS => rw [sizeLine_eq]; omega
  case kT =>
    intro i ys nw v I oI C oC D m₂ h tk E' hi hJ hP hC hx F N off ne
    k_steps
    all_goals exact jpair_end (by k_asm) (by k_asm) (by assumption) hJ hP hD off hm
  intro ys nw hJ
  k_steps
  obtain ⟨ps, g9, rfl, hks, hpl, hps⟩ := hJ
  rw [← hvl.symm, List.take_of_length_le (by omega)] at hks
  k_dflt refine' dict_pairs (ar := ar) (ps := ps) ?kF ?kN ?kb rfl ?ku (List.Mem.head _) ?kl ?kp ?_
  case kF => k_asm
  case kN => k_asm
  case kb => exact Top.nolimit (by k_asm)
  case ku => ktr_units
  case kl => omega
  case kp => exact fun p hp => ⟨(hps p hp).1.imp fun c hc => .tail _ hc, ((hps p hp).2.mono g9.sub).mono fun q hq => .tail _ hq⟩
  k_whole
  intro D o h' tk F' N' l2 lo hdo
  obtain ⟨ks', hx, hkm⟩ := storeAll_ok (ar := ar) (news := news) ps [] [] ⟨rfl, .nil, fun _ h => nomatch h⟩ fun p hp => (hps p hp).2
  have lt2 : ∀ q ∈ news, q.1 < D := fun q hq => l2 q (.tail _ (g9.sub q hq))
  have hse : sortK ks' = sortK ks := sortK_congr fun k => by rw [hkm, hks]; simp
  have hk' : ∀ k ∈ ks', k < 4 := fun k hq => by
    have := (hkm k).mp hq
    rw [hks] at this
    exact hk k (by simpa using this)
  have N₂ := News.sub9 (small := (D, o) :: news) N' fun p hp => by
    rcases List.mem_cons.mp hp with rfl | hp
    · exact .head _
    · exact .tail _ (.tail _ (g9.sub _ hp))
  clear N'
  k_steps
  k_dflt refine' sorted_rows (ar := ar) ?kF ?kN rfl (List.Mem.head _) lo hdo ?kx hk' ?_
  case kF => k_asm
  case kN => k_asm
  case kx => exact hx.mono fun p hp => .tail _ hp
  k_whole
  intro Bb bc h3 tk3 vs3 F3 N3 l3 hD3
  rw [hse] at hD3
  have hl3 : vs3.length ≤ 4 := by have := hD3.length; rw [List.length_map] at this; have := sortK_len ks; omega
  k_steps
  refine hret _ _ _ _ (by k_asm) (by k_asm) ⟨((Grown.one lt2).trans (Grown.one l3)).trans (Grown.one (ktn_ltOf (by assumption))), DatIn.tuple (vs := vs3) (.head _) (hD3.mono fun p hp => .tail _ (.tail _ hp))⟩
end
end Mine
end

namespace Mine
theorem rstB6 : True := by
  w_top off
  exact trivial
end Mine
section
open PySem PySem.W PyProof.Rows PySem.Calls PySem.Spec PyProof.Rows.LCg
namespace Mine
section
variable {prog : Program} {w : World} {A : Around} {E : Value → Shared → Prop} {s : Shared} {h₀ : Heap} {L D a : Addr} {news n₂ : List (Addr × Obj)} {o : Obj} {xs : List (List Int × Addr × Value)} {ks : List Nat} {ar k : Nat} {Q : Value → Shared → Prop}
theorem in_rows (N : News h₀ L s.heap news) (hm : (D, o) ∈ news) (hd : DictObj prog w o xs) (hx : XsOk ar n₂ xs ks) (hs : ∀ p ∈ n₂, p ∈ news) (lo : (D == sysModules) = false) (hv : DatIn n₂ (.ref a) (rowD ar k)) (hu : A.units + 4 < cLine)
    (h : ∀ tk, Q (.bool (decide (k ∈ ks))) { s with toks := tk }) : wpAny (model prog w) A (compareOp .In (.ref a) (.ref D)) Q E s := by
  have hD : s.heap.DictOfH (rowK prog w) D xs := hd.at (ar := ar) N hm (hx.mono hs).each
  refine wpAny_in_heap (knd := rowK prog w) (k := rowL ar k) (by show A.in1.units < cLine; rw [Around.in1_units]; omega) (key_of N (hv.mono hs)) lo hD ?_
  rw [hx.has k]
  exact h _
theorem notin_rows (N : News h₀ L s.heap news) (hm : (D, o) ∈ news) (hd : DictObj prog w o xs) (hx : XsOk ar n₂ xs ks) (hs : ∀ p ∈ n₂, p ∈ news) (lo : (D == sysModules) = false) (hv : DatIn n₂ (.ref a) (rowD ar k)) (hu : A.units + 4 < cLine)
    (h : ∀ tk, Q (.bool (!decide (k ∈ ks))) { s with toks := tk }) : wpAny (model prog w) A (compareOp .NotIn (.ref a) (.ref D)) Q E s := by
  have hD : s.heap.DictOfH (rowK prog w) D xs := hd.at (ar := ar) N hm (hx.mono hs).each
  refine wpAny_notIn_heap (knd := rowK prog w) (k := rowL ar k) (by show A.in1.units < cLine; rw [Around.in1_units]; omega) (key_of N (hv.mono hs)) lo hD ?_
  rw [hx.has k]
  exact h _
end
def Jfilt (ar : Nat) (ks : List Nat) (f : Nat → Bool) (base n0 : List (Addr × Obj)) (i : Nat) (ys : List Value) (nw : List (Addr × Obj)) : Prop :=
  nw = base ∧ DatAll n0 ys (((ks.take i).filter f).map (rowD ar)) ∧ ys.length ≤ i
theorem Jfilt.zero (ar : Nat) (ks : List Nat) (f : Nat → Bool) (base n0 : List (Addr × Obj)) : Jfilt ar ks f base n0 0 [] base := ⟨rfl, by simpa using DatAll.nil, Nat.le_refl _⟩
theorem datAll_at {news : List (Addr × Obj)} {ar i : Nat} {vs : List Value} {v : Value} {ks : List Nat} (h : DatAll news vs (ks.map (rowD ar))) (hv : vs[i]? = some v) : DatIn news v (rowD ar (ks.getD i 0)) := by
  have hi : i < vs.length := (List.getElem?_eq_some_iff.mp hv).1
  have hl := h.length
  rw [List.length_map] at hl
  obtain ⟨v', hv', hd⟩ := h.get (k := i) (by rw [List.length_map]; omega)
  rw [hv] at hv'
  cases hv'
  have e : ks.getD i 0 = ks[i]'(by omega) := by rw [List.getD_eq_getElem?_getD, List.getElem?_eq_getElem (by omega)]; rfl
  rw [e]
  simpa using hd
theorem meet_fin {ks' js ks : List Nat} (h : ∀ k, decide (k ∈ ks') = decide (k ∈ js)) : (ks.filter fun k => decide (k ∈ ks')) = ks.filter fun k => decide (k ∈ js) := List.filter_congr fun k _ => h k
theorem jfilt_yes {h₀ h' : Heap} {L I C D tA : Addr} {m : Str → Option Value} {s₁ : Shared} {oI oC oD : Obj} {ar i tn tk : Nat} {ks : List Nat} {ws ys : List Value} {v : Value} {f : Nat → Bool} {n0 base : List (Addr × Obj)}
    (F : Fr h₀ L h' m) (N : News h₀ L h' ((I, oI) :: (C, oC) :: (D, oD) :: base)) (off : Off3 I C D base) (hda : DatAll n0 ys (((ks.take i).filter f).map (rowD ar))) (hi : i < ks.length) (hdv : DatIn n0 v (rowD ar (ks.getD i 0))) (hf : f (ks.getD i 0) = true) (hyl : ys.length ≤ i) (hm : (tA, tupOf ws tn) ∈ base) :
    CompEnd h₀ L m s₁ I oI C oC D oD (fun nw => (tA, tupOf ws tn) ∈ nw) (fun y news' => Jfilt ar ks f base n0 (i + 1) (ys ++ [y]) news') v { s₁ with heap := h', toks := tk } := by
  have e : ks.getD i 0 = ks[i] := by rw [List.getD_eq_getElem?_getD, List.getElem?_eq_getElem hi]; rfl
  refine CompEnd.intro F N base (fun p hp => hp) off hm ⟨rfl, ?_, by rw [List.length_append, List.length_singleton]; omega⟩
  rw [List.take_add_one, List.getElem?_eq_getElem hi, List.filter_append, List.map_append]
  rw [e] at hf hdv
  simp only [Option.toList_some, List.filter_cons, hf, if_true, List.filter_nil, List.map_cons, List.map_nil]
  exact hda.append (.one hdv)
theorem jfilt_no {h₀ h' : Heap} {L I C D tA : Addr} {m : Str → Option Value} {s₁ : Shared} {oI oC oD : Obj} {ar i tn tk : Nat} {ks : List Nat} {ws ys : List Value} {v : Value} {f : Nat → Bool} {n0 base : List (Addr × Obj)}
    (F : Fr h₀ L h' m) (N : News h₀ L h' ((I, oI) :: (C, oC) :: (D, oD) :: base)) (off : Off3 I C D base) (hda : DatAll n0 ys (((ks.take i).filter f).map (rowD ar))) (hi : i < ks.length) (hf : f (ks.getD i 0) = false) (hyl : ys.length ≤ i) (hm : (tA, tupOf ws tn) ∈ base) :
    CompEnd h₀ L m s₁ I oI C oC D oD (fun nw => (tA, tupOf ws tn) ∈ nw) (fun _ news' => Jfilt ar ks f base n0 (i + 1) ys news') v { s₁ with heap := h', toks := tk } := by
  have e : ks.getD i 0 = ks[i] := by rw [List.getD_eq_getElem?_getD, List.getElem?_eq_getElem hi]; rfl
  refine CompEnd.intro F N base (fun p hp => hp) off hm ⟨rfl, ?_, by omega⟩
  rw [List.take_add_one, List.getElem?_eq_getElem hi, List.filter_append, List.map_append]
  rw [e] at hf
  simp only [Option.toList_some, List.filter_cons, hf, Bool.false_eq_true, if_false, List.filter_nil, List.map_nil, List.append_nil]
  exact hda
theorem meet_sub {c D D' : Addr} {oc o o' : Obj} {news nw : List (Addr × Obj)} (g : Grown ((c, oc) :: news) nw) : ∀ p ∈ (c, oc) :: (D, o) :: news, p ∈ (D, o) :: (D', o') :: nw := fun p hp => by
  rcases List.mem_cons.mp hp with rfl | hp
  · exact .tail _ (.tail _ (g.sub _ (.head _)))
  · rcases List.mem_cons.mp hp with rfl | hp
    · exact .head _
    · exact .tail _ (.tail _ (g.sub _ (.tail _ hp)))
theorem meet_off {L D D' : Addr} {oc o o' : Obj} {news nw : List (Addr × Obj)} (g : Grown ((L + 1, oc) :: news) nw) (l2 : ∀ q ∈ (D', o') :: nw, q.1 < D) (l1 : ∀ p ∈ news, p.1 < L) : ∀ q ∈ (D, o) :: news, q.1 ≠ L + 1 := fun q hq => by
  rcases List.mem_cons.mp hq with rfl | hq
  · exact Nat.ne_of_gt (l2 _ (.tail _ (g.sub _ (.head _))))
  · exact Nat.ne_of_lt (Nat.lt_succ_of_lt (l1 q hq))
section
variable {w : World}
local macro_rules | `(tactic| k_all) => `(tactic| with_reducible assumption)
local macro_rules | `(tactic| walk_at "enterC") => `(tactic| (refine' code_defC ?k1 ?k2 ?k3 ?k4 ?k5 ?kA ?kF ?kK ?k6 ?k7 ?k8 ?k9 ?kB ?kD ?_ ?c2 ?c3 ?c4; (case kA => exact rfl); (case kF => exact rfl); (case kK => assumption); (case k1 => k_asm); (case k2 => k_asm); (case k3 => k_asm); (case k4 => k_asm); (case k5 => k_asm); (case k6 => k_is); (case k7 => k_is); (case k8 => ktr_room); (case k9 => exact BindsTo.of_eq rfl); (case kB => exact rfl); (case kD => decide +kernel); (case c2 => exact rfl); (case c3 => exact rfl); (case c4 => exact rfl); k_whole; intro g' L' h' tk' cells' FG' F' N' Y' B' X' T' l1; (try k_lt l1); k_cells Y'; (try simp only [List.cons_append, List.nil_append] at N'); (try dsimp only); (try k_lift B'); (try k_fold)))
local macro_rules | `(tactic| k_mem) => `(tactic| first | with_reducible assumption | exact List.mem_cons_of_mem _ (by with_reducible assumption) | exact List.mem_cons_of_mem _ (by k_mem))
local macro_rules | `(tactic| walk_at "call type:tuple") => `(tactic| (k_here; (with_reducible show wpAny _ _ (call (Value.type _) [Value.ref _]) _ _ _); (with_unfolding_all refine' kde_tupleOf ?k1 ?k2 ?k3 ?k4 ?k5 ?_; (case k1 => k_asm); (case k2 => k_asm); (case k3 => exact News.isList (by k_asm) (.head _)); (case k4 => (rw [List.size_toArray]; omega)); (case k5 => rfl); k_whole); intro D' h' F' N' l1; (try k_lt l1)))
local macro_rules | `(tactic| walk_at "eval ListComp") => `(tactic| (k_here; (with_reducible show wpAny _ _ (eval (PySem.Expr.ListComp _ [⟨PySem.Expr.Name _ _, _, [], _⟩] _ _) _) _ _ _); k_dflt (refine comp_tup (_F₀ := by k_asm) (by with_unfolding_all rfl) (by decide) (by rfl) (by decide) (by rfl) ?_)))
local macro_rules | `(tactic| walk_at "eval ListComp") => `(tactic| (k_here; (with_reducible show wpAny _ _ (eval (PySem.Expr.ListComp _ [⟨PySem.Expr.Name _ _, _, [_], _⟩] _ _) _) _ _ _); k_dflt (refine comp_tupT (_F₀ := by k_asm) (by with_unfolding_all rfl) (by decide) (by rfl) (by decide) (by rfl) ?_)))

set_option maxRecDepth 100000 in
set_option maxHeartbeats 1000000 in
theorem meet_does {ar : Nat} {v u : Value} {ks js : List Nat} {news : List (Addr × Obj)} (hv : DatIn news v (rowsD ar ks)) (hu' : DatIn news u (rowsD ar js)) (hl : ks.length ≤ 400) (hl2 : js.length ≤ 400) :
    Does w 89 [v, u] 2 32 news (fun r news' => Grown news news' ∧ DatIn news' r (rowsD ar (ks.filter fun k => decide (k ∈ js)))) := by
  unfold Does
  intro dp un gd cn cs a ccd cl outer A₀ base h₀ L m s mean mg mb Q E B F X N T hkk hd hu hret
  cases hv with
  | @tuple tA ws tn _ hm hD =>
  cases hu' with
  | @tuple tB vs tn' _ hm' hD' =>
  have hvl : vs.length = js.length := by have := hD'.length; rwa [List.length_map] at this
  have hwl : ws.length = ks.length := by have := hD.length; rwa [List.length_map] at this
  refine wpAny_call ?_
  k_dflt walk_at "enterC"
  k_steps
  rename News _ _ _ _ => N1
  rename Fr _ _ _ (bindL _ _ _) => F1
  k_dflt refine' ⟨tB, vs, tn', _, rfl, rfl, F1, N1, .tail _ hm', ?kS, fun g => rest_J (Jpair ar js news _) vs.length ?kT ?kE vs.length 0 [] _ (Nat.zero_add _) (Jpair.zero _ _ _ _)⟩
  case kS => rw [sizeLine_eq]; omega
  case kT =>
    intro i ys nw v I oI C oC D m₂ h tk E' hi hJ hP hC hx F N off ne
    k_steps
    all_goals exact jpair_end (by k_asm) (by k_asm) (by assumption) hJ hP hD' off (.tail _ hm')
  intro ys nw hJ
  k_steps
  obtain ⟨ps, g9, rfl, hks, hpl, hps⟩ := hJ
  rw [← hvl.symm, List.take_of_length_le (by omega)] at hks
  k_dflt refine' dict_pairs (ar := ar) (ps := ps) ?kF ?kN ?kb rfl ?ku (List.Mem.head _) ?kl ?kp ?_
  case kF => k_asm
  case kN => k_asm
  case kb => exact Top.nolimit (by k_asm)
  case ku => ktr_units
  case kl => omega
  case kp => exact fun p hp => ⟨(hps p hp).1.imp fun c hc => .tail _ hc, (hps p hp).2.mono fun q hq => .tail _ (g9.sub _ (.tail _ hq))⟩
  k_whole
  intro D o h' tk F' N' l2 lo hdo
  obtain ⟨ks', hx, hkm⟩ := storeAll_ok (ar := ar) (news := news) ps [] [] ⟨rfl, .nil, fun _ h => nomatch h⟩ fun p hp => (hps p hp).2
  have lt2 : ∀ q ∈ news, q.1 < D := fun q hq => l2 q (.tail _ (g9.sub q (.tail _ hq)))
  have hk' : ∀ k, decide (k ∈ ks') = decide (k ∈ js) := fun k => decide_eq_decide.mpr (by rw [hkm, hks]; simp)
  have N₂ := News.sub9 N' (meet_sub g9 (D := D) (o := o))
  have offC := meet_off (o := o) g9 l2 (by assumption)
  clear N' N1
  k_steps
  rename News _ _ _ _ => N1
  rename Fr _ _ _ (bindL _ _ _) => F1
  k_dflt refine' ⟨tA, ws, tn, _, rfl, rfl, F1, N1, .tail _ (.tail _ hm), ?jS, fun g => restT_J (Jfilt ar ks (fun k => decide (k ∈ ks')) _ news) ws.length ?jT ?jE ws.length 0 [] _ (Nat.zero_add _) (Jfilt.zero _ _ _ _ _)⟩
  case jS => rw [sizeLine_eq]; omega
  case jT =>
    intro i ys nw v I oI C oC Dl m₂ h tk E' hi hJ hP hC hx' F N off ne
    obtain ⟨rfl, hda, hyl⟩ := hJ
    have hdv := datAll_at hD hP
    obtain ⟨a1, us, n1, rfl, ma, da⟩ := row_open hdv
    k_steps
    k_dflt refine' in_rows (ar := ar) (n₂ := news) ?m1 ?m2 hdo hx ?m3 lo hdv ?m4 ?_
    case m1 => k_asm
    case m2 => exact .tail _ (.tail _ (.tail _ (.tail _ (.head _))))
    case m3 => exact fun p hp => .tail _ (.tail _ (.tail _ (.tail _ (.tail _ hp))))
    case m4 => ktr_units
    k_whole
    intro tk5
    k_steps
    · exact jfilt_yes (by k_asm) (by k_asm) off hda (by omega) hdv (decide_eq_true (by assumption)) hyl (.tail _ (.tail _ hm))
    · exact jfilt_no (by k_asm) (by k_asm) off hda (by omega) (decide_eq_false (by assumption)) hyl (.tail _ (.tail _ hm))
  intro ys nw hJ
  obtain ⟨rfl, hda, hyl⟩ := hJ
  rw [List.take_of_length_le (by omega)] at hda
  k_steps
  refine hret _ ((_, tupOf ys 0) :: news) _ _ (by k_asm) (News.sub9 (by k_asm) fun p hp => ?_) ⟨Grown.one (ktn_ltOf (by exact (by with_reducible assumption : _ ∧ _ ∧ _ ∧ AllLt _ _).2.2.2)), DatIn.tuple (vs := ys) (.head _) ((meet_fin hk' ▸ hda).mono fun p hp => .tail _ hp)⟩
  rcases List.mem_cons.mp hp with rfl | hp
  · exact .head _
  · exact .tail _ (.tail _ (.tail _ (.tail _ hp)))
end
end Mine
end

namespace Mine
theorem rstB7 : True := by
  w_top off
  exact trivial
end Mine
section
local macro_rules | `(tactic| walk_at "NONE") => `(tactic| fail)
open PySem PySem.W PyProof.Rows PySem.Calls PySem.Spec PyProof.Rows.LCg
namespace Mine
theorem minus_fin {ks' js ks : List Nat} (h : ∀ k, decide (k ∈ ks') = decide (k ∈ js)) : (ks.filter fun k => !decide (k ∈ ks')) = ks.filter fun k => !decide (k ∈ js) := List.filter_congr fun k _ => by rw [h k]
theorem nd_t {p : Prop} [Decidable p] (h : ¬p) : (!decide p) = true := by simp [h]
theorem nd_f {p : Prop} [Decidable p] (h : p) : (!decide p) = false := by simp [h]
section
variable {w : World}
local macro_rules | `(tactic| k_all) => `(tactic| with_reducible assumption)
local macro_rules | `(tactic| walk_at "enterC") => `(tactic| (refine' code_defC ?k1 ?k2 ?k3 ?k4 ?k5 ?kA ?kF ?kK ?k6 ?k7 ?k8 ?k9 ?kB ?kD ?_ ?c2 ?c3 ?c4; (case kA => exact rfl); (case kF => exact rfl); (case kK => assumption); (case k1 => k_asm); (case k2 => k_asm); (case k3 => k_asm); (case k4 => k_asm); (case k5 => k_asm); (case k6 => k_is); (case k7 => k_is); (case k8 => ktr_room); (case k9 => exact BindsTo.of_eq rfl); (case kB => exact rfl); (case kD => decide +kernel); (case c2 => exact rfl); (case c3 => exact rfl); (case c4 => exact rfl); k_whole; intro g' L' h' tk' cells' FG' F' N' Y' B' X' T' l1; (try k_lt l1); k_cells Y'; (try simp only [List.cons_append, List.nil_append] at N'); (try dsimp only); (try k_lift B'); (try k_fold)))
local macro_rules | `(tactic| k_mem) => `(tactic| first | with_reducible assumption | exact List.mem_cons_of_mem _ (by with_reducible assumption) | exact List.mem_cons_of_mem _ (by k_mem))
local macro_rules | `(tactic| walk_at "call type:tuple") => `(tactic| (k_here; (with_reducible show wpAny _ _ (call (Value.type _) [Value.ref _]) _ _ _); (with_unfolding_all refine' kde_tupleOf ?k1 ?k2 ?k3 ?k4 ?k5 ?_; (case k1 => k_asm); (case k2 => k_asm); (case k3 => exact News.isList (by k_asm) (.head _)); (case k4 => (rw [List.size_toArray]; omega)); (case k5 => rfl); k_whole); intro D' h' F' N' l1; (try k_lt l1)))
local macro_rules | `(tactic| walk_at "eval ListComp") => `(tactic| (k_here; (with_reducible show wpAny _ _ (eval (PySem.Expr.ListComp _ [⟨PySem.Expr.Name _ _, _, [], _⟩] _ _) _) _ _ _); k_dflt (refine comp_tup (_F₀ := by k_asm) (by with_unfolding_all rfl) (by decide) (by rfl) (by decide) (by rfl) ?_)))
local macro_rules | `(tactic| walk_at "eval ListComp") => `(tactic| (k_here; (with_reducible show wpAny _ _ (eval (PySem.Expr.ListComp _ [⟨PySem.Expr.Name _ _, _, [_], _⟩] _ _) _) _ _ _); k_dflt (refine comp_tupT (_F₀ := by k_asm) (by with_unfolding_all rfl) (by decide) (by rfl) (by decide) (by rfl) ?_)))

set_option maxRecDepth 100000 in
set_option maxHeartbeats 1000000 in
theorem minus_does {ar : Nat} {v u : Value} {ks js : List Nat} {news : List (Addr × Obj)} (hv : DatIn news v (rowsD ar ks)) (hu' : DatIn news u (rowsD ar js)) (hl : ks.length ≤ 400) (hl2 : js.length ≤ 400) :
    Does w 94 [v, u] 2 32 news (fun r news' => Grown news news' ∧ DatIn news' r (rowsD ar (ks.filter fun k => !decide (k ∈ js)))) := by
  unfold Does
  intro dp un gd cn cs a ccd cl outer A₀ base h₀ L m s mean mg mb Q E B F X N T hkk hd hu hret
  cases hv with
  | @tuple tA ws tn _ hm hD =>
  cases hu' with
  | @tuple tB vs tn' _ hm' hD' =>
  have hvl : vs.length = js.length := by have := hD'.length; rwa [List.length_map] at this
  have hwl : ws.length = ks.length := by have := hD.length; rwa [List.length_map] at this
  refine wpAny_call ?_
  k_dflt walk_at "enterC"
  k_steps
  rename News _ _ _ _ => N1
  rename Fr _ _ _ (bindL _ _ _) => F1
  k_dflt refine' ⟨tB, vs, tn', _, rfl, rfl, F1, N1, .tail _ hm', ?kS, fun g => rest_J (Jpair ar js news _) vs.length ?kT ?kE vs.length 0 [] _ (Nat.zero_add _) (Jpair.zero _ _ _ _)⟩
  case kS => rw [sizeLine_eq]; omega
  case kT =>
    intro i ys nw v I oI C oC D m₂ h tk E' hi hJ hP hC hx F N off ne
    k_steps
    all_goals exact jpair_end (by k_asm) (by k_asm) (by assumption) hJ hP hD' off (.tail _ hm')
  intro ys nw hJ
  k_steps
  obtain ⟨ps, g9, rfl, hks, hpl, hps⟩ := hJ
  rw [← hvl.symm, List.take_of_length_le (by omega)] at hks
  k_dflt refine' dict_pairs (ar := ar) (ps := ps) ?kF ?kN ?kb rfl ?ku (List.Mem.head _) ?kl ?kp ?_
  case kF => k_asm
  case kN => k_asm
  case kb => exact Top.nolimit (by k_asm)
  case ku => ktr_units
  case kl => omega
  case kp => exact fun p hp => ⟨(hps p hp).1.imp fun c hc => .tail _ hc, (hps p hp).2.mono fun q hq => .tail _ (g9.sub _ (.tail _ hq))⟩
  k_whole
  intro D o h' tk F' N' l2 lo hdo
  obtain ⟨ks', hx, hkm⟩ := storeAll_ok (ar := ar) (news := news) ps [] [] ⟨rfl, .nil, fun _ h => nomatch h⟩ fun p hp => (hps p hp).2
  have lt2 : ∀ q ∈ news, q.1 < D := fun q hq => l2 q (.tail _ (g9.sub q (.tail _ hq)))
  have hk' : ∀ k, decide (k ∈ ks') = decide (k ∈ js) := fun k => decide_eq_decide.mpr (by rw [hkm, hks]; simp)
  have N₂ := News.sub9 N' (meet_sub g9 (D := D) (o := o))
  have offC := meet_off (o := o) g9 l2 (by assumption)
  clear N' N1
  k_steps
  rename News _ _ _ _ => N1
  rename Fr _ _ _ (bindL _ _ _) => F1
  k_dflt refine' ⟨tA, ws, tn, _, rfl, rfl, F1, N1, .tail _ (.tail _ hm), ?jS, fun g => restT_J (Jfilt ar ks (fun k => !decide (k ∈ ks')) _ news) ws.length ?jT ?jE ws.length 0 [] _ (Nat.zero_add _) (Jfilt.zero _ _ _ _ _)⟩
  case jS => rw [sizeLine_eq]; omega
  case jT =>
    intro i ys nw v I oI C oC Dl m₂ h tk E' hi hJ hP hC hx' F N off ne
    obtain ⟨rfl, hda, hyl⟩ := hJ
    have hdv := datAll_at hD hP
    obtain ⟨a1, us, n1, rfl, ma, da⟩ := row_open hdv
    k_steps
    k_dflt refine' notin_rows (ar := ar) (n₂ := news) ?m1 ?m2 hdo hx ?m3 lo hdv ?m4 ?_
    case m1 => k_asm
    case m2 => exact .tail _ (.tail _ (.tail _ (.tail _ (.head _))))
    case m3 => exact fun p hp => .tail _ (.tail _ (.tail _ (.tail _ (.tail _ hp))))
    case m4 => ktr_units
    k_whole
    intro tk5
    k_steps
    · exact jfilt_no (by k_asm) (by k_asm) off hda (by omega) (nd_f (by assumption)) hyl (.tail _ (.tail _ hm))
    · exact jfilt_yes (by k_asm) (by k_asm) off hda (by omega) hdv (nd_t (by assumption)) hyl (.tail _ (.tail _ hm))
  intro ys nw hJ
  obtain ⟨rfl, hda, hyl⟩ := hJ
  rw [List.take_of_length_le (by omega)] at hda
  k_steps
  refine hret _ ((_, tupOf ys 0) :: news) _ _ (by k_asm) (News.sub9 (by k_asm) fun p hp => ?_) ⟨Grown.one (ktn_ltOf (by exact (by with_reducible assumption : _ ∧ _ ∧ _ ∧ AllLt _ _).2.2.2)), DatIn.tuple (vs := ys) (.head _) ((minus_fin hk' ▸ hda).mono fun p hp => .tail _ hp)⟩
  rcases List.mem_cons.mp hp with rfl | hp
  · exact .head _
  · exact .tail _ (.tail _ (.tail _ (.tail _ hp)))
end
end Mine
end

namespace Mine
theorem rstB8 : True := by
  w_top off
  exact trivial
end Mine
section
open PySem PySem.W PyProof.Rows PySem.Calls PySem.Spec PyProof.Rows.LCg
namespace Mine
section
variable {prog : Program} {w : World} {A : Around} {E : Value → Shared → Prop} {s : Shared} {h₀ : Heap} {L : Addr} {m : Str → Option Value} {news : List (Addr × Obj)} {v u : Value} {ar : Nat} {ks js : List Nat} {Q : Value → Shared → Prop}
theorem add_rows (F : Fr h₀ L s.heap m) (N : News h₀ L s.heap news) (hv : DatIn news v (rowsD ar ks)) (hu : DatIn news u (rowsD ar js)) (hl : ks.length ≤ 200) (hl2 : js.length ≤ 200)
    (h : ∀ r news' h', Fr h₀ L h' m → News h₀ L h' news' → Grown news news' → DatIn news' r (rowsD ar (ks ++ js)) → Q r { s with heap := h' }) : wpAny (model prog w) A (binaryOp .Add v u) Q E s := by
  unfold rowsD at hv hu
  cases hv with
  | @tuple tA ws tn _ hm hD =>
  cases hu with
  | @tuple tB vs tn' _ hm' hD' =>
  have hvl : vs.length = js.length := by have := hD'.length; rwa [List.length_map] at this
  have hwl : ws.length = ks.length := by have := hD.length; rwa [List.length_map] at this
  refine add_tuples F N ⟨_, N.get hm, rfl, tn, rfl⟩ ⟨_, N.get hm', rfl, tn', rfl⟩ (fun e => ?_) (fun _ e => ?_) (fun _ _ h' F' N' => ?_) (by rw [sizeLine_eq]; omega)
  · have e' : ks = [] := List.eq_nil_of_length_eq_zero (by rw [← hwl, e]; rfl)
    subst e'
    exact h (.ref tB) news s.heap F N (Grown.refl _) (DatIn.tuple hm' hD')
  · have e' : js = [] := List.eq_nil_of_length_eq_zero (by rw [← hvl, e]; rfl)
    subst e'
    exact h (.ref tA) news s.heap F N (Grown.refl _) (DatIn.tuple hm (by rw [List.append_nil]; exact hD))
  · exact h _ _ h' F' N' (Grown.one fun p hp => Heap.lt_size (N p hp).1) (DatIn.tuple (.head _) (by rw [List.map_append]; exact (hD.append hD').mono fun p hp => .tail _ hp))
end
section
variable {w : World}
local macro_rules | `(tactic| walk_at "STEPS") => `(tactic| repeat' (first | (k_unfold; (try dsimp only)) | walk1 | (dsimp only; walk1)))
local macro_rules | `(tactic| k_all) => `(tactic| with_reducible assumption)
local macro_rules | `(tactic| k_mem) => `(tactic| first | with_reducible assumption | exact List.mem_cons_of_mem _ (by with_reducible assumption) | exact List.mem_cons_of_mem _ (by k_mem))

local macro_rules | `(tactic| walk_at "call ref") => `(tactic| (k_here; (with_reducible show wpAny _ _ (call (Value.ref 67) _) _ _ _); k_dflt (refine' Does.use (setof_does ?d1 ?d2 ?d3) ?k1 ?k2 ?k3 ?k4 ?k5 ?kK ?kd ?ku ?_; (case k1 => k_asm); (case k2 => k_asm); (case k3 => k_asm); (case k4 => k_asm); (case d1 => with_reducible assumption); (case d2 => with_reducible assumption); (case d3 => with_reducible assumption); (case k5 => k_asm); (case kK => first | exact rfl | assumption); (case kd => ktr_room); (case ku => ktr_units); (intro r9 nw9 h9 tk9 F9 N9 P9; (try dsimp only at P9); (try dsimp only); (try k_fold)))))
set_option maxRecDepth 100000 in
set_option maxHeartbeats 1000000 in
theorem union_does {ar : Nat} {v u : Value} {ks js : List Nat} {news : List (Addr × Obj)} (hv : DatIn news v (rowsD ar ks)) (hu' : DatIn news u (rowsD ar js)) (hl : ks.length ≤ 200) (hl2 : js.length ≤ 200) (hk : ∀ k ∈ ks, k < 4) (hj : ∀ k ∈ js, k < 4) :
    Does w 84 [v, u] 3 64 news (fun r news' => Grown news news' ∧ DatIn news' r (rowsD ar (sortK (ks ++ js)))) := by
  unfold Does
  intro dp un gd cn cs a ccd cl outer A₀ base h₀ L m s mean mg mb Q E B F X N T hkk hd hu hret
  refine wpAny_call ?_
  k_dflt ktr_enter
  k_steps
  k_dflt refine' add_rows ?k1 ?k2 hv hu' hl hl2 ?_
  case k1 => k_asm
  case k2 => k_asm
  k_whole
  have hkj : ∀ k ∈ ks ++ js, k < 4 := fun k hk9 => (List.mem_append.mp hk9).elim (hk k) (hj k)
  have hlj : (ks ++ js).length ≤ 400 := by rw [List.length_append]; omega
  intro r1 nw1 h1 F1 N1 g1 d1
  walk_at "STEPS"
  rename Grown _ _ ∧ DatIn _ _ _ => P9
  exact hret _ _ _ _ (by k_asm) (by k_asm) ⟨g1.trans P9.1, P9.2⟩

end
end Mine
end

namespace Mine
theorem rstB9 : True := by
  w_top off
  exact trivial
end Mine
section
local macro_rules | `(tactic| walk_at "NONE") => `(tactic| fail)
open PySem PySem.W PyProof.Rows PySem.Calls PySem.Spec PyProof.Rows.LCg
namespace Mine
def Jtup (g : Nat → Nat) (ar : Nat) (news : List (Addr × Obj)) (i : Nat) (ys : List Value) (nw : List (Addr × Obj)) : Prop :=
  Grown news nw ∧ DatAll nw ys (((List.range i).map g).map (rowD ar)) ∧ ys.length ≤ i
theorem Jtup.zero (g : Nat → Nat) (ar : Nat) (news : List (Addr × Obj)) : Jtup g ar news 0 [] news := ⟨Grown.refl _, .nil, Nat.le_refl _⟩
theorem jtup_end {h₀ h' : Heap} {L I C D P : Addr} {m : Str → Option Value} {s₁ : Shared} {oI oC oD : Obj} {ar i c tk : Nat} {g : Nat → Nat} {us ys : List Value} {news nw : List (Addr × Obj)}
    (F : Fr h₀ L h' m) (N : News h₀ L h' ((P, ({ cls := .type "tuple", data := .seq us.toArray c } : Obj)) :: (I, oI) :: (C, oC) :: (D, oD) :: nw)) (l1 : I < P ∧ C < P ∧ D < P ∧ AllLt P nw) (hJ : Jtup g ar news i ys nw) (hd : ∀ q, DatAll q us ((rowL ar (g i)).map Dat.int)) (off : Off3 I C D nw) :
    CompEnd h₀ L m s₁ I oI C oC D oD (fun _ => True) (fun y news' => Jtup g ar news (i + 1) (ys ++ [y]) news') (.ref P) { s₁ with heap := h', toks := tk } := by
  obtain ⟨g1, hda, hyl⟩ := hJ
  obtain ⟨l2, l3, l4, l5⟩ := l1
  refine CompEnd.intro F N ((P, ({ cls := .type "tuple", data := .seq us.toArray c } : Obj)) :: nw) (fun p hp => ?_) ⟨⟨Nat.ne_of_gt l2, Nat.ne_of_gt l3, Nat.ne_of_gt l4⟩, off⟩ trivial ⟨g1.trans (Grown.one fun q hq => ktn_ltOf l5 q hq), ?_, by rw [List.length_append, List.length_singleton]; omega⟩
  · rcases List.mem_cons.mp hp with rfl | hp
    · exact .tail _ (.head _)
    · rcases List.mem_cons.mp hp with rfl | hp
      · exact .tail _ (.tail _ (.head _))
      · rcases List.mem_cons.mp hp with rfl | hp
        · exact .tail _ (.tail _ (.tail _ (.head _)))
        · rcases List.mem_cons.mp hp with rfl | hp
          · exact .head _
          · exact .tail _ (.tail _ (.tail _ (.tail _ hp)))
  · rw [List.range_succ, List.map_append, List.map_append]
    exact (hda.mono fun p hp => .tail _ hp).append (.one (DatIn.tuple (.head _) (hd _)))
theorem tail_lt {a : Addr × Obj} {nw : List (Addr × Obj)} {T : Addr} (h : ∀ p ∈ a :: nw, p.1 < T) : ∀ q ∈ nw, q.1 < T := fun q hq => h q (.tail _ hq)
theorem iden_row {i : Nat} (hi : i < 2) {q : List (Addr × Obj)} {t u : Tok} : DatAll q [Value.int (i : Int) t, Value.int (i : Int) u] ((rowL 2 (3 * i)).map Dat.int) := by
  match i, hi with
  | 0, _ => exact .cons (.int _ _) (.cons (.int _ _) .nil)
  | 1, _ => exact .cons (.int _ _) (.cons (.int _ _) .nil)
section
variable {w : World}
local macro_rules | `(tactic| k_all) => `(tactic| with_reducible assumption)
local macro_rules | `(tactic| walk_at "eval ListComp") => `(tactic| (k_here; k_dflt (refine LCg.ListComp_U (F₀ := by k_asm) (by with_unfolding_all rfl) (by decide) (by rfl) (by decide) (by rfl) ?_)))
local macro_rules | `(tactic| walk_at "call type:tuple") => `(tactic| (k_here; (with_reducible show wpAny _ _ (call (Value.type _) [Value.ref _]) _ _ _); (with_unfolding_all refine' kde_tupleOf ?k1 ?k2 ?k3 ?k4 ?k5 ?_; (case k1 => k_asm); (case k2 => k_asm); (case k3 => exact News.isList (by k_asm) (.head _)); (case k4 => (rw [List.size_toArray]; omega)); (case k5 => rfl); k_whole); intro D' h' F' N' l1))
set_option maxRecDepth 100000 in
set_option maxHeartbeats 1000000 in
theorem univ_does {t : Tok} {news : List (Addr × Obj)} :
    Does w 72 [.int 4 t] 2 32 news (fun r news' => Grown news news' ∧ DatIn news' r (rowsD 1 (setK 15))) := by
  unfold Does
  intro dp un gd cn cs a ccd cl outer A₀ base h₀ L m s mean mg mb Q E B F X N T hkk hd hu hret
  refine wpAny_call ?_
  k_dflt ktr_enter
  iterate 15 (first | (k_unfold; (try dsimp only)) | walk1 | (dsimp only; walk1))
  k_dflt refine' CompSrc.range (n := 4) rfl ?kF ?kN ?kr ?ka ?kb (by rw [sizeLine_eq]; omega) fun g => rest_J (Jtup id 1 news) 4 ?kT ?kE 4 0 [] news (Nat.zero_add _) (Jtup.zero _ _ _)
  case kF => k_asm
  case kN => k_asm
  case kr => k_asm
  case ka => decide
  case kb => decide
  case kT =>
    intro i ys nw v I oI C oC D m₂ h tk E' hi hJ hP hC hx F N off ne
    obtain ⟨t', rfl⟩ := hP
    k_steps
    exact jtup_end (by k_asm) (by k_asm) (by assumption) hJ (fun q => by rw [Int.zero_add]; exact .cons (.int _ _) .nil) off
  intro ys nw hJ
  obtain ⟨g1, hda, hyl⟩ := hJ
  have hda' : DatAll nw ys ((setK 15).map (rowD 1)) := hda
  k_steps
  refine hret _ ((_, tupOf ys 0) :: nw) _ _ (by k_asm) (News.sub9 (by k_asm) fun p hp => ?_) ⟨g1.trans (Grown.one fun q hq => tail_lt (by assumption) q hq), DatIn.tuple (vs := ys) (.head _) (hda'.mono fun p hp => .tail _ hp)⟩
  rcases List.mem_cons.mp hp with rfl | hp
  · exact .head _
  · exact .tail _ (.tail _ hp)
set_option maxRecDepth 100000 in
set_option maxHeartbeats 1000000 in
theorem iden_does {t : Tok} {news : List (Addr × Obj)} :
    Does w 77 [.int 2 t] 2 32 news (fun r news' => Grown news news' ∧ DatIn news' r (rowsD 2 (setK 9))) := by
  unfold Does
  intro dp un gd cn cs a ccd cl outer A₀ base h₀ L m s mean mg mb Q E B F X N T hkk hd hu hret
  refine wpAny_call ?_
  k_dflt ktr_enter
  iterate 15 (first | (k_unfold; (try dsimp only)) | walk1 | (dsimp only; walk1))
  k_dflt refine' CompSrc.range (n := 2) rfl ?kF ?kN ?kr ?ka ?kb (by rw [sizeLine_eq]; omega) fun g => rest_J (Jtup (3 * ·) 2 news) 2 ?kT ?kE 2 0 [] news (Nat.zero_add _) (Jtup.zero _ _ _)
  case kF => k_asm
  case kN => k_asm
  case kr => k_asm
  case ka => decide
  case kb => decide
  case kT =>
    intro i ys nw v I oI C oC D m₂ h tk E' hi hJ hP hC hx F N off ne
    obtain ⟨t', rfl⟩ := hP
    k_steps
    exact jtup_end (by k_asm) (by k_asm) (by assumption) hJ (fun q => by rw [Int.zero_add]; exact iden_row hi) off
  intro ys nw hJ
  obtain ⟨g1, hda, hyl⟩ := hJ
  have hda' : DatAll nw ys ((setK 9).map (rowD 2)) := hda
  k_steps
  refine hret _ ((_, tupOf ys 0) :: nw) _ _ (by k_asm) (News.sub9 (by k_asm) fun p hp => ?_) ⟨g1.trans (Grown.one fun q hq => tail_lt (by assumption) q hq), DatIn.tuple (vs := ys) (.head _) (hda'.mono fun p hp => .tail _ hp)⟩
  rcases List.mem_cons.mp hp with rfl | hp
  · exact .head _
  · exact .tail _ (.tail _ hp)
end
end Mine
end

namespace Mine
theorem rstB10 : True := by
  w_top off
  exact trivial
end Mine
section
open PySem PySem.W PyProof.Rows PySem.Calls PySem.Spec PyProof.Rows.LCg
namespace Mine
/-- where an evaluator and its names stand: all that set_of reads -/
def EvAt (w : World) (ar : Nat) (S V : Addr) (ms : List Int) (news : List (Addr × Obj)) : Prop :=
  ∃ (dS I3 : Addr) (h1 h2 h3 : Int) (q1 q2 q3 tm tw : Tok) (nS nI : Nat) (oV : Obj) (mi : Int) (u0 u1 u2 u3 : Value), (S, instObj 212 dS) ∈ news ∧
    (dS, dictOf [⟨h1, .str (Str.ofString "many") q1, .int mi tm⟩, ⟨h2, .str (Str.ofString "instance") q2, .ref I3⟩, ⟨h3, .str (Str.ofString "ways") q3, .int 0 tw⟩] nS) ∈ news ∧
    (I3, listOf #[u0, u1, u2] nI) ∈ news ∧ (V, oV) ∈ news ∧ oV.IsDictOf (strKind PySem.Challenge.rw_rr0086_01.row.prog w) [(Str.ofString "x", u3)] ∧
    DatIn news u0 (setD ar (ms.getD 0 0)) ∧ DatIn news u1 (setD ar (ms.getD 1 0)) ∧ DatIn news u2 (setD ar (ms.getD 2 0)) ∧ DatIn news u3 (setD ar (ms.getD 3 0)) ∧ (ar = 1 → mi = 4) ∧ (ar = 2 → mi = 2)
theorem EvAt.mono {w : World} {ar : Nat} {S V : Addr} {ms : List Int} {news news' : List (Addr × Obj)} (h : EvAt w ar S V ms news) (hs : ∀ p ∈ news, p ∈ news') : EvAt w ar S V ms news' := by
  obtain ⟨dS, I3, h1, h2, h3, q1, q2, q3, tm, tw, nS, nI, oV, mi, u0, u1, u2, u3, a, b, c, d, d', e, f, g, h, i⟩ := h
  exact ⟨dS, I3, h1, h2, h3, q1, q2, q3, tm, tw, nS, nI, oV, mi, u0, u1, u2, u3, hs _ a, hs _ b, hs _ c, hs _ d, d', e.mono hs, f.mono hs, g.mono hs, h.mono hs, i⟩
def EvDoes (w : World) (ar : Nat) (S V : Addr) (ms : List Int) (d : Dat) (mask : Int) (dep uns : Nat) : Prop :=
  ∀ (news : List (Addr × Obj)) (v : Value), EvAt w ar S V ms news → DatIn news v d → Does w 171 [.ref S, v, .ref V] dep uns news (fun r news' => Grown news news' ∧ DatIn news' r (setD ar mask))
theorem ev_more {h₀ h : Heap} {L : Addr} {t c1 c2 : Addr × Obj} {news nw : List (Addr × Obj)} (g : Grown (t :: c1 :: c2 :: news) nw) (N : News h₀ L h nw) : News h₀ L h (c1 :: c2 :: nw) := News.sub9 N fun p hp => by
  rcases List.mem_cons.mp hp with rfl | hp
  · exact g.sub _ (.tail _ (.head _))
  · rcases List.mem_cons.mp hp with rfl | hp
    · exact g.sub _ (.tail _ (.tail _ (.head _)))
    · exact hp
theorem ev_grown {L D : Addr} {t o1 o2 : Obj} {news nw : List (Addr × Obj)} (l1 : L + 1 + 1 < D ∧ L + 1 < D ∧ AllLt D news) (l0 : ∀ p ∈ news, p.1 < L) (g : Grown ((D, t) :: (L + 1 + 1, o1) :: (L + 1, o2) :: news) nw) : Grown news nw :=
  (((Grown.one (p := (L + 1, o2)) fun q hq => Nat.lt_succ_of_lt (l0 q hq)).trans (Grown.one (p := (L + 1 + 1, o1)) fun q hq => by
    rcases List.mem_cons.mp hq with rfl | hq
    · exact Nat.lt_succ_self _
    · exact Nat.lt_succ_of_lt (Nat.lt_succ_of_lt (l0 q hq)))).trans (Grown.one (p := (D, t)) fun q hq => by
    rcases List.mem_cons.mp hq with rfl | hq
    · exact l1.1
    · rcases List.mem_cons.mp hq with rfl | hq
      · exact l1.2.1
      · exact ktn_ltOf l1.2.2 q hq)).trans g
theorem ev_cells {t c1 c2 : Addr × Obj} {news nw : List (Addr × Obj)} (g : Grown (t :: c1 :: c2 :: news) nw) : c1 ∈ nw ∧ c2 ∈ nw := ⟨g.sub _ (.tail _ (.head _)), g.sub _ (.tail _ (.tail _ (.head _)))⟩
theorem ev_grown2 {h₀ h : Heap} {L : Addr} {c1 c2 : Addr × Obj} {nw1 nw2 : List (Addr × Obj)} {r : Value} {d : Dat} (g : Grown (c1 :: c2 :: nw1) nw2) (hc : c1 ∈ nw1 ∧ c2 ∈ nw1) (N : News h₀ L h nw2) (hd : DatIn nw2 r d) :
    ∃ nw3, Grown nw1 nw3 ∧ News h₀ L h nw3 ∧ DatIn nw3 r d := by
  obtain ⟨tl, rfl, h⟩ := g
  refine ⟨tl ++ nw1, ⟨tl, rfl, fun p hp q hq => h p hp q (.tail _ (.tail _ hq))⟩, News.sub9 N fun p hp => ?_, hd.mono fun p hp => ?_⟩
  · rcases List.mem_append.mp hp with hp | hp
    · exact List.mem_append.mpr (.inl hp)
    · exact List.mem_append.mpr (.inr (.tail _ (.tail _ hp)))
  · rcases List.mem_append.mp hp with hp | hp
    · exact List.mem_append.mpr (.inl hp)
    · rcases List.mem_cons.mp hp with rfl | hp
      · exact List.mem_append.mpr (.inr hc.1)
      · rcases List.mem_cons.mp hp with rfl | hp
        · exact List.mem_append.mpr (.inr hc.2)
        · exact List.mem_append.mpr (.inr hp)
theorem two_end {M : Int} {l : List Nat} {ar : Nat} {a b : List (Addr × Obj)} {r : Value} (hmm : setK M = l) (h : Grown a b ∧ DatIn b r (rowsD ar l)) : Grown a b ∧ DatIn b r (setD ar M) := by
  unfold setD; rw [hmm]; exact h
theorem setK_lt (mask : Int) : ∀ k ∈ setK mask, k < 4 := fun k hk => List.mem_range.mp (List.mem_filter.mp hk).1
theorem setK_len (mask : Int) : (setK mask).length ≤ 4 := by
  have := List.length_filter_le (bitK mask) (List.range 4)
  simpa [setK] using this
section
variable {w : World}
local macro_rules | `(tactic| walk_at "call ref") => `(tactic| (k_here; (with_reducible show wpAny _ _ (call (Value.ref 89) _) _ _ _); k_dflt (refine' Does.use (meet_does ?d1 ?d2 ?d3 ?d4) ?k1 ?k2 ?k3 ?k4 ?k5 ?kK ?kd ?ku ?_; (case k4 => k_asm); (case k1 => k_asm); (case k2 => k_asm); (case k3 => k_asm); (case d1 => assumption); (case d2 => assumption); (case d3 => omega); (case d4 => omega); (case k5 => k_asm); (case kK => first | exact rfl | assumption); (case kd => ktr_room); (case ku => ktr_units); (intro r9 nw9 h9 tk9 F9 N9 P9; (try dsimp only at P9); (try dsimp only)))))
local macro_rules | `(tactic| walk_at "call ref") => `(tactic| (k_here; (with_reducible show wpAny _ _ (call (Value.ref 94) _) _ _ _); k_dflt (refine' Does.use (minus_does ?d1 ?d2 ?d3 ?d4) ?k1 ?k2 ?k3 ?k4 ?k5 ?kK ?kd ?ku ?_; (case k4 => k_asm); (case k1 => k_asm); (case k2 => k_asm); (case k3 => k_asm); (case d1 => assumption); (case d2 => assumption); (case d3 => omega); (case d4 => omega); (case k5 => k_asm); (case kK => first | exact rfl | assumption); (case kd => ktr_room); (case ku => ktr_units); (intro r9 nw9 h9 tk9 F9 N9 P9; (try dsimp only at P9); (try dsimp only)))))
local macro_rules | `(tactic| walk_at "call ref") => `(tactic| (k_here; (with_reducible show wpAny _ _ (call (Value.ref 84) _) _ _ _); k_dflt (refine' Does.use (union_does ?d1 ?d2 ?d3 ?d4 ?d5 ?d6) ?k1 ?k2 ?k3 ?k4 ?k5 ?kK ?kd ?ku ?_; (case k4 => k_asm); (case k1 => k_asm); (case k2 => k_asm); (case k3 => k_asm); (case d1 => assumption); (case d2 => assumption); (case d3 => omega); (case d4 => omega); (case d5 => exact setK_lt _); (case d6 => exact setK_lt _); (case k5 => k_asm); (case kK => first | exact rfl | assumption); (case kd => ktr_room); (case ku => ktr_units); (intro r9 nw9 h9 tk9 F9 N9 P9; (try dsimp only at P9); (try dsimp only)))))
local macro_rules | `(tactic| walk_at "STEPS") => `(tactic| repeat' (first | (k_unfold; (try dsimp only)) | walk1 | (dsimp only; walk1)))
local macro_rules | `(tactic| walk_at "enterC") => `(tactic| (refine' code_defC ?k1 ?k2 ?k3 ?k4 ?k5 ?kA ?kF ?kK ?k6 ?k7 ?k8 ?k9 ?kB ?kD ?_ ?c2 ?c3 ?c4; (case kA => exact rfl); (case kF => exact rfl); (case kK => assumption); (case k1 => k_asm); (case k2 => k_asm); (case k3 => k_asm); (case k4 => k_asm); (case k5 => k_asm); (case k6 => k_is); (case k7 => k_is); (case k8 => ktr_room); (case k9 => exact BindsTo.of_eq rfl); (case kB => exact rfl); (case kD => decide +kernel); (case c2 => exact rfl); (case c3 => exact rfl); (case c4 => exact rfl); k_whole; intro g' L' h' tk' cells' FG' F' N' Y' B' X' T' l1; (try k_lt l1); k_cells Y'; (try simp only [List.cons_append, List.nil_append] at N'); (try dsimp only); (try k_lift B'); (try k_fold)))
local macro_rules | `(tactic| k_mem) => `(tactic| first | with_reducible assumption | exact List.mem_cons_of_mem _ (by with_reducible assumption) | exact List.mem_cons_of_mem _ (by k_mem))
set_option maxRecDepth 100000 in
set_option maxHeartbeats 400000 in
theorem two_meet {S : Addr} {ar : Nat} {m1 m2 M : Int} {t : Tok} {v u : Value} {news : List (Addr × Obj)} (hv : DatIn news v (rowsD ar (setK m1))) (hw : DatIn news u (rowsD ar (setK m2))) (hmm : setK M = (setK m1).filter fun k => decide (k ∈ setK m2)) :
    Does w 185 [.ref S, .str (Str.ofString "meet") t, v, u] 5 128 news (fun r news' => Grown news news' ∧ DatIn news' r (setD ar M)) := by
  unfold Does
  intro dp un gd cn cs a ccd cl outer A₀ base h₀ L m s mean mg mb Q E B F X N T hkk hd hu hret
  have l1 := setK_len m1
  have l2 := setK_len m2
  refine wpAny_call ?_
  k_dflt ktr_enter
  walk_at "STEPS"
  exact hret _ _ _ _ (by k_asm) (by k_asm) (two_end hmm (by with_reducible assumption))

set_option maxRecDepth 100000 in
set_option maxHeartbeats 400000 in
theorem two_minus {S : Addr} {ar : Nat} {m1 m2 M : Int} {t : Tok} {v u : Value} {news : List (Addr × Obj)} (hv : DatIn news v (rowsD ar (setK m1))) (hw : DatIn news u (rowsD ar (setK m2))) (hmm : setK M = (setK m1).filter fun k => !decide (k ∈ setK m2)) :
    Does w 185 [.ref S, .str (Str.ofString "minus") t, v, u] 5 128 news (fun r news' => Grown news news' ∧ DatIn news' r (setD ar M)) := by
  unfold Does
  intro dp un gd cn cs a ccd cl outer A₀ base h₀ L m s mean mg mb Q E B F X N T hkk hd hu hret
  have l1 := setK_len m1
  have l2 := setK_len m2
  refine wpAny_call ?_
  k_dflt ktr_enter
  walk_at "STEPS"
  exact hret _ _ _ _ (by k_asm) (by k_asm) (two_end hmm (by with_reducible assumption))

set_option maxRecDepth 100000 in
set_option maxHeartbeats 400000 in
theorem two_union {S : Addr} {ar : Nat} {m1 m2 M : Int} {t : Tok} {v u : Value} {news : List (Addr × Obj)} (hv : DatIn news v (rowsD ar (setK m1))) (hw : DatIn news u (rowsD ar (setK m2))) (hmm : setK M = sortK (setK m1 ++ setK m2)) :
    Does w 185 [.ref S, .str (Str.ofString "union") t, v, u] 5 128 news (fun r news' => Grown news news' ∧ DatIn news' r (setD ar M)) := by
  unfold Does
  intro dp un gd cn cs a ccd cl outer A₀ base h₀ L m s mean mg mb Q E B F X N T hkk hd hu hret
  have l1 := setK_len m1
  have l2 := setK_len m2
  refine wpAny_call ?_
  k_dflt ktr_enter
  walk_at "STEPS"
  exact hret _ _ _ _ (by k_asm) (by k_asm) (two_end hmm (by with_reducible assumption))

set_option maxRecDepth 100000 in
set_option maxHeartbeats 400000 in
theorem ev_meet {S V : Addr} {ms : List Int} {ar : Nat} {d1 d2 : Dat} {m1 m2 M : Int} {dep uns : Nat} (I1 : EvDoes w ar S V ms d1 m1 dep uns) (I2 : EvDoes w ar S V ms d2 m2 dep uns) (hdep : 8 ≤ dep) (huns : 256 ≤ uns)
    (hmm : setK M = (setK m1).filter fun k => decide (k ∈ setK m2)) : EvDoes w ar S V ms (.tuple [ds "meet", d1, d2]) M (dep + 2) (uns + 64) := by
  intro news v hE hv
  have hE0 := hE
  obtain ⟨dS, I3, h1, h2, h3, q1, q2, q3, tm, tw, nS, nI, oV, mi, u0, u1, u2, u3, hS, hdS, hI3, hV, hoV, -⟩ := hE0
  cases hv with
  | @tuple tA vs tn _ hm hD =>
  cases hD with | @cons v0 _ _ _ a1 hD =>
  cases hD with | @cons v1 _ _ _ a2 hD =>
  cases hD with | @cons v2 _ _ _ a3 hD =>
  cases hD; cases a1 with | str _ s1 =>
  unfold Does
  intro dp un gd cn cs a ccd cl outer A₀ base h₀ L m s mean mg mb Q E B F X N T hkk hd hu hret
  refine wpAny_call ?_
  k_dflt walk_at "enterC"
  walk_at "STEPS"
  refine' Does.use (I1 _ _ (hE.mono ?e1) (a2.mono ?e2)) ?k1 ?k2 ?k3 ?k4 ?k5 ?kK ?kd ?ku ?_
  case k4 => k_asm
  case e1 => exact fun p hp => .tail _ (.tail _ (.tail _ hp))
  case e2 => exact fun p hp => .tail _ (.tail _ (.tail _ hp))
  case k1 => k_asm
  case k2 => k_asm
  case k3 => k_asm
  case k5 => k_asm
  case kK => first | exact rfl | assumption
  case kd => ktr_room
  case ku => ktr_units
  intro r1 nw1 h1' tk1 F1 N1 P1
  obtain ⟨g1, e1⟩ := P1
  replace N1 := ev_more g1 N1
  have hc := ev_cells g1
  have sb : ∀ p ∈ news, p ∈ nw1 := fun p hp => g1.sub _ (.tail _ (.tail _ (.tail _ hp)))
  have G1 : Grown news nw1 := ev_grown (by assumption) (by assumption) g1
  have hS' := sb _ hS
  have hdS' := sb _ hdS
  have hm' := sb _ hm
  clear g1
  (try dsimp only)
  walk_at "STEPS"
  refine' Does.use (I2 _ _ (hE.mono ?e1) (a3.mono ?e2)) ?k1 ?k2 ?k3 ?k4 ?k5 ?kK ?kd ?ku ?_
  case k4 => k_asm
  case e1 => exact fun p hp => .tail _ (.tail _ (sb p hp))
  case e2 => exact fun p hp => .tail _ (.tail _ (sb p hp))
  case k1 => k_asm
  case k2 => k_asm
  case k3 => k_asm
  case k5 => k_asm
  case kK => first | exact rfl | assumption
  case kd => ktr_room
  case ku => ktr_units
  intro r2 nw2 h2' tk2 F2 N2 P2
  obtain ⟨g2, e2⟩ := P2
  obtain ⟨nw4, G2, N4, e4⟩ := ev_grown2 g2 hc N2 e2
  clear N2 e2 g2
  have e1' := e1.mono G2.sub
  (try dsimp only)
  walk_at "STEPS"
  refine' Does.use (two_meet e1' e4 hmm) ?k1 ?k2 ?k3 ?k4 ?k5 ?kK ?kd ?ku ?_
  case k4 => k_asm
  case k1 => k_asm
  case k2 => k_asm
  case k3 => k_asm
  case k5 => k_asm
  case kK => first | exact rfl | assumption
  case kd => ktr_room
  case ku => ktr_units
  intro r3 nw3 h3' tk3 F3 N3 P3
  (try dsimp only)
  walk_at "STEPS"
  exact hret _ _ _ _ (by k_asm) (by k_asm) ⟨(G1.trans G2).trans P3.1, P3.2⟩

set_option maxRecDepth 100000 in
set_option maxHeartbeats 400000 in
theorem ev_minus {S V : Addr} {ms : List Int} {ar : Nat} {d1 d2 : Dat} {m1 m2 M : Int} {dep uns : Nat} (I1 : EvDoes w ar S V ms d1 m1 dep uns) (I2 : EvDoes w ar S V ms d2 m2 dep uns) (hdep : 8 ≤ dep) (huns : 256 ≤ uns)
    (hmm : setK M = (setK m1).filter fun k => !decide (k ∈ setK m2)) : EvDoes w ar S V ms (.tuple [ds "minus", d1, d2]) M (dep + 2) (uns + 64) := by
  intro news v hE hv
  have hE0 := hE
  obtain ⟨dS, I3, h1, h2, h3, q1, q2, q3, tm, tw, nS, nI, oV, mi, u0, u1, u2, u3, hS, hdS, hI3, hV, hoV, -⟩ := hE0
  cases hv with
  | @tuple tA vs tn _ hm hD =>
  cases hD with | @cons v0 _ _ _ a1 hD =>
  cases hD with | @cons v1 _ _ _ a2 hD =>
  cases hD with | @cons v2 _ _ _ a3 hD =>
  cases hD; cases a1 with | str _ s1 =>
  unfold Does
  intro dp un gd cn cs a ccd cl outer A₀ base h₀ L m s mean mg mb Q E B F X N T hkk hd hu hret
  refine wpAny_call ?_
  k_dflt walk_at "enterC"
  walk_at "STEPS"
  refine' Does.use (I1 _ _ (hE.mono ?e1) (a2.mono ?e2)) ?k1 ?k2 ?k3 ?k4 ?k5 ?kK ?kd ?ku ?_
  case k4 => k_asm
  case e1 => exact fun p hp => .tail _ (.tail _ (.tail _ hp))
  case e2 => exact fun p hp => .tail _ (.tail _ (.tail _ hp))
  case k1 => k_asm
  case k2 => k_asm
  case k3 => k_asm
  case k5 => k_asm
  case kK => first | exact rfl | assumption
  case kd => ktr_room
  case ku => ktr_units
  intro r1 nw1 h1' tk1 F1 N1 P1
  obtain ⟨g1, e1⟩ := P1
  replace N1 := ev_more g1 N1
  have hc := ev_cells g1
  have sb : ∀ p ∈ news, p ∈ nw1 := fun p hp => g1.sub _ (.tail _ (.tail _ (.tail _ hp)))
  have G1 : Grown news nw1 := ev_grown (by assumption) (by assumption) g1
  have hS' := sb _ hS
  have hdS' := sb _ hdS
  have hm' := sb _ hm
  clear g1
  (try dsimp only)
  walk_at "STEPS"
  refine' Does.use (I2 _ _ (hE.mono ?e1) (a3.mono ?e2)) ?k1 ?k2 ?k3 ?k4 ?k5 ?kK ?kd ?ku ?_
  case k4 => k_asm
  case e1 => exact fun p hp => .tail _ (.tail _ (sb p hp))
  case e2 => exact fun p hp => .tail _ (.tail _ (sb p hp))
  case k1 => k_asm
  case k2 => k_asm
  case k3 => k_asm
  case k5 => k_asm
  case kK => first | exact rfl | assumption
  case kd => ktr_room
  case ku => ktr_units
  intro r2 nw2 h2' tk2 F2 N2 P2
  obtain ⟨g2, e2⟩ := P2
  obtain ⟨nw4, G2, N4, e4⟩ := ev_grown2 g2 hc N2 e2
  clear N2 e2 g2
  have e1' := e1.mono G2.sub
  (try dsimp only)
  walk_at "STEPS"
  refine' Does.use (two_minus e1' e4 hmm) ?k1 ?k2 ?k3 ?k4 ?k5 ?kK ?kd ?ku ?_
  case k4 => k_asm
  case k1 => k_asm
  case k2 => k_asm
  case k3 => k_asm
  case k5 => k_asm
  case kK => first | exact rfl | assumption
  case kd => ktr_room
  case ku => ktr_units
  intro r3 nw3 h3' tk3 F3 N3 P3
  (try dsimp only)
  walk_at "STEPS"
  exact hret _ _ _ _ (by k_asm) (by k_asm) ⟨(G1.trans G2).trans P3.1, P3.2⟩

set_option maxRecDepth 100000 in
set_option maxHeartbeats 400000 in
theorem ev_union {S V : Addr} {ms : List Int} {ar : Nat} {d1 d2 : Dat} {m1 m2 M : Int} {dep uns : Nat} (I1 : EvDoes w ar S V ms d1 m1 dep uns) (I2 : EvDoes w ar S V ms d2 m2 dep uns) (hdep : 8 ≤ dep) (huns : 256 ≤ uns)
    (hmm : setK M = sortK (setK m1 ++ setK m2)) : EvDoes w ar S V ms (.tuple [ds "union", d1, d2]) M (dep + 2) (uns + 64) := by
  intro news v hE hv
  have hE0 := hE
  obtain ⟨dS, I3, h1, h2, h3, q1, q2, q3, tm, tw, nS, nI, oV, mi, u0, u1, u2, u3, hS, hdS, hI3, hV, hoV, -⟩ := hE0
  cases hv with
  | @tuple tA vs tn _ hm hD =>
  cases hD with | @cons v0 _ _ _ a1 hD =>
  cases hD with | @cons v1 _ _ _ a2 hD =>
  cases hD with | @cons v2 _ _ _ a3 hD =>
  cases hD; cases a1 with | str _ s1 =>
  unfold Does
  intro dp un gd cn cs a ccd cl outer A₀ base h₀ L m s mean mg mb Q E B F X N T hkk hd hu hret
  refine wpAny_call ?_
  k_dflt walk_at "enterC"
  walk_at "STEPS"
  refine' Does.use (I1 _ _ (hE.mono ?e1) (a2.mono ?e2)) ?k1 ?k2 ?k3 ?k4 ?k5 ?kK ?kd ?ku ?_
  case k4 => k_asm
  case e1 => exact fun p hp => .tail _ (.tail _ (.tail _ hp))
  case e2 => exact fun p hp => .tail _ (.tail _ (.tail _ hp))
  case k1 => k_asm
  case k2 => k_asm
  case k3 => k_asm
  case k5 => k_asm
  case kK => first | exact rfl | assumption
  case kd => ktr_room
  case ku => ktr_units
  intro r1 nw1 h1' tk1 F1 N1 P1
  obtain ⟨g1, e1⟩ := P1
  replace N1 := ev_more g1 N1
  have hc := ev_cells g1
  have sb : ∀ p ∈ news, p ∈ nw1 := fun p hp => g1.sub _ (.tail _ (.tail _ (.tail _ hp)))
  have G1 : Grown news nw1 := ev_grown (by assumption) (by assumption) g1
  have hS' := sb _ hS
  have hdS' := sb _ hdS
  have hm' := sb _ hm
  clear g1
  (try dsimp only)
  walk_at "STEPS"
  refine' Does.use (I2 _ _ (hE.mono ?e1) (a3.mono ?e2)) ?k1 ?k2 ?k3 ?k4 ?k5 ?kK ?kd ?ku ?_
  case k4 => k_asm
  case e1 => exact fun p hp => .tail _ (.tail _ (sb p hp))
  case e2 => exact fun p hp => .tail _ (.tail _ (sb p hp))
  case k1 => k_asm
  case k2 => k_asm
  case k3 => k_asm
  case k5 => k_asm
  case kK => first | exact rfl | assumption
  case kd => ktr_room
  case ku => ktr_units
  intro r2 nw2 h2' tk2 F2 N2 P2
  obtain ⟨g2, e2⟩ := P2
  obtain ⟨nw4, G2, N4, e4⟩ := ev_grown2 g2 hc N2 e2
  clear N2 e2 g2
  have e1' := e1.mono G2.sub
  (try dsimp only)
  walk_at "STEPS"
  refine' Does.use (two_union e1' e4 hmm) ?k1 ?k2 ?k3 ?k4 ?k5 ?kK ?kd ?ku ?_
  case k4 => k_asm
  case k1 => k_asm
  case k2 => k_asm
  case k3 => k_asm
  case k5 => k_asm
  case kK => first | exact rfl | assumption
  case kd => ktr_room
  case ku => ktr_units
  intro r3 nw3 h3' tk3 F3 N3 P3
  (try dsimp only)
  walk_at "STEPS"
  exact hret _ _ _ _ (by k_asm) (by k_asm) ⟨(G1.trans G2).trans P3.1, P3.2⟩

end
end Mine
end

namespace Mine
theorem rstB11 : True := by
  w_top off
  exact trivial
end Mine
section
open PySem PySem.W PyProof.Rows PySem.Calls PySem.Spec PyProof.Rows.LCg
namespace Mine
theorem pick3 {news : List (Addr × Obj)} {ar : Nat} {ms : List Int} {u0 u1 u2 : Value} {r : Int} (e : DatIn news u0 (setD ar (ms.getD 0 0))) (f : DatIn news u1 (setD ar (ms.getD 1 0))) (g : DatIn news u2 (setD ar (ms.getD 2 0))) (h0 : 0 ≤ r) (h1 : r < 3) :
    ∃ ur, [u0, u1, u2][r.toNat]? = some ur ∧ DatIn news ur (setD ar (ms.getD r.toNat 0)) := by
  have h3 : r.toNat < 3 := by omega
  generalize r.toNat = k at h3
  match k, h3 with
  | 0, _ => exact ⟨u0, rfl, e⟩
  | 1, _ => exact ⟨u1, rfl, f⟩
  | 2, _ => exact ⟨u2, rfl, g⟩
theorem ev_grown3 {L : Addr} {o1 o2 : Obj} {news nw : List (Addr × Obj)} (l0 : ∀ p ∈ news, p.1 < L) (g : Grown ((L + 1 + 1, o1) :: (L + 1, o2) :: news) nw) : Grown news nw :=
  ((Grown.one (p := (L + 1, o2)) fun q hq => Nat.lt_succ_of_lt (l0 q hq)).trans (Grown.one (p := (L + 1 + 1, o1)) fun q hq => by
    rcases List.mem_cons.mp hq with rfl | hq
    · exact Nat.lt_succ_self _
    · exact Nat.lt_succ_of_lt (Nat.lt_succ_of_lt (l0 q hq)))).trans g
theorem ev_news {h₀ h : Heap} {L : Addr} {c1 c2 : Addr × Obj} {news : List (Addr × Obj)} (N : News h₀ L h (c1 :: c2 :: news)) : News h₀ L h news := News.sub9 N fun p hp => .tail _ (.tail _ hp)
section
variable {w : World}
local macro_rules | `(tactic| walk_at "call ref") => `(tactic| (k_here; (with_reducible show wpAny _ _ (call (Value.ref 72) _) _ _ _); k_dflt (refine' Does.use (univ_does) ?k1 ?k2 ?k3 ?k4 ?k5 ?kK ?kd ?ku ?_; (case k4 => k_asm); (case k1 => k_asm); (case k2 => k_asm); (case k3 => k_asm); (case k5 => k_asm); (case kK => first | exact rfl | assumption); (case kd => ktr_room); (case ku => ktr_units); (intro r9 nw9 h9 tk9 F9 N9 P9; (try dsimp only at P9); (try dsimp only)))))
local macro_rules | `(tactic| walk_at "call ref") => `(tactic| (k_here; (with_reducible show wpAny _ _ (call (Value.ref 77) _) _ _ _); k_dflt (refine' Does.use (iden_does) ?k1 ?k2 ?k3 ?k4 ?k5 ?kK ?kd ?ku ?_; (case k4 => k_asm); (case k1 => k_asm); (case k2 => k_asm); (case k3 => k_asm); (case k5 => k_asm); (case kK => first | exact rfl | assumption); (case kd => ktr_room); (case ku => ktr_units); (intro r9 nw9 h9 tk9 F9 N9 P9; (try dsimp only at P9); (try dsimp only)))))
local macro_rules | `(tactic| walk_at "call ref") => `(tactic| (k_here; (with_reducible show wpAny _ _ (call (Value.ref 89) _) _ _ _); k_dflt (refine' Does.use (meet_does ?d1 ?d2 ?d3 ?d4) ?k1 ?k2 ?k3 ?k4 ?k5 ?kK ?kd ?ku ?_; (case k4 => k_asm); (case k1 => k_asm); (case k2 => k_asm); (case k3 => k_asm); (case d1 => assumption); (case d2 => assumption); (case d3 => omega); (case d4 => omega); (case k5 => k_asm); (case kK => first | exact rfl | assumption); (case kd => ktr_room); (case ku => ktr_units); (intro r9 nw9 h9 tk9 F9 N9 P9; (try dsimp only at P9); (try dsimp only)))))
local macro_rules | `(tactic| walk_at "call ref") => `(tactic| (k_here; (with_reducible show wpAny _ _ (call (Value.ref 94) _) _ _ _); k_dflt (refine' Does.use (minus_does ?d1 ?d2 ?d3 ?d4) ?k1 ?k2 ?k3 ?k4 ?k5 ?kK ?kd ?ku ?_; (case k4 => k_asm); (case k1 => k_asm); (case k2 => k_asm); (case k3 => k_asm); (case d1 => assumption); (case d2 => assumption); (case d3 => omega); (case d4 => omega); (case k5 => k_asm); (case kK => first | exact rfl | assumption); (case kd => ktr_room); (case ku => ktr_units); (intro r9 nw9 h9 tk9 F9 N9 P9; (try dsimp only at P9); (try dsimp only)))))
local macro_rules | `(tactic| walk_at "call ref") => `(tactic| (k_here; (with_reducible show wpAny _ _ (call (Value.ref 84) _) _ _ _); k_dflt (refine' Does.use (union_does ?d1 ?d2 ?d3 ?d4 ?d5 ?d6) ?k1 ?k2 ?k3 ?k4 ?k5 ?kK ?kd ?ku ?_; (case k4 => k_asm); (case k1 => k_asm); (case k2 => k_asm); (case k3 => k_asm); (case d1 => assumption); (case d2 => assumption); (case d3 => omega); (case d4 => omega); (case d5 => exact setK_lt _); (case d6 => exact setK_lt _); (case k5 => k_asm); (case kK => first | exact rfl | assumption); (case kd => ktr_room); (case ku => ktr_units); (intro r9 nw9 h9 tk9 F9 N9 P9; (try dsimp only at P9); (try dsimp only)))))
local macro_rules | `(tactic| walk_at "STEPS") => `(tactic| repeat' (first | (k_unfold; (try dsimp only)) | walk1 | (dsimp only; walk1)))
local macro_rules | `(tactic| walk_at "enterC") => `(tactic| (refine' code_defC ?k1 ?k2 ?k3 ?k4 ?k5 ?kA ?kF ?kK ?k6 ?k7 ?k8 ?k9 ?kB ?kD ?_ ?c2 ?c3 ?c4; (case kA => exact rfl); (case kF => exact rfl); (case kK => assumption); (case k1 => k_asm); (case k2 => k_asm); (case k3 => k_asm); (case k4 => k_asm); (case k5 => k_asm); (case k6 => k_is); (case k7 => k_is); (case k8 => ktr_room); (case k9 => exact BindsTo.of_eq rfl); (case kB => exact rfl); (case kD => decide +kernel); (case c2 => exact rfl); (case c3 => exact rfl); (case c4 => exact rfl); k_whole; intro g' L' h' tk' cells' FG' F' N' Y' B' X' T' l1; (try k_lt l1); k_cells Y'; (try simp only [List.cons_append, List.nil_append] at N'); (try dsimp only); (try k_lift B'); (try k_fold)))
local macro_rules | `(tactic| k_mem) => `(tactic| first | with_reducible assumption | exact List.mem_cons_of_mem _ (by with_reducible assumption) | exact List.mem_cons_of_mem _ (by k_mem))
set_option maxRecDepth 100000 in
set_option maxHeartbeats 400000 in
theorem ev_rel {S V : Addr} {ms : List Int} {ar : Nat} {r : Int} (hr0 : 0 ≤ r) (hr1 : r < 3) : EvDoes w ar S V ms ((Leaf.rel r).dat ar) (ms.getD r.toNat 0) 8 256 := by
  intro news v hE hv
  obtain ⟨dS, I3, h1, h2, h3, q1, q2, q3, tm, tw, nS, nI, oV, mi, u0, u1, u2, u3, hS, hdS, hI3, hV, hoV, e0, e1, e2, e3, hm1, hm2⟩ := hE
  obtain ⟨ur, hur, hdr⟩ := pick3 e0 e1 e2 hr0 hr1
  cases hv with
  | @tuple tA vs tn _ hm hD =>
  cases hD with | @cons v0 _ _ _ a1 hD =>
  cases hD with | @cons v1 _ _ _ a2 hD =>
  cases hD; cases a1 with | str _ s1 =>
  cases a2 with | int _ s2 =>
  unfold Does
  intro dp un gd cn cs a ccd cl outer A₀ base h₀ L m s mean mg mb Q E B F X N T hkk hd hu hret
  refine wpAny_call ?_
  k_dflt walk_at "enterC"
  walk_at "STEPS"
  k_dflt refine' item_v (us := [u0, u1, u2]) ?k1 ?k2 hur ?k3 ?k4 ?_
  case k1 => k_asm
  case k2 => exact .tail _ (.tail _ hI3)
  case k3 => exact hr0
  case k4 => omega
  walk_at "STEPS"
  refine hret _ news _ _ ?_ ?_ ⟨Grown.refl _, hdr⟩
  · k_asm
  · exact ev_news (by k_asm)

set_option maxRecDepth 100000 in
set_option maxHeartbeats 400000 in
theorem ev_var {S V : Addr} {ms : List Int} {ar : Nat}  : EvDoes w ar S V ms (Leaf.var.dat ar) (ms.getD 3 0) 8 256 := by
  intro news v hE hv
  obtain ⟨dS, I3, h1, h2, h3, q1, q2, q3, tm, tw, nS, nI, oV, mi, u0, u1, u2, u3, hS, hdS, hI3, hV, hoV, e0, e1, e2, e3, hm1, hm2⟩ := hE
  cases hv with
  | @tuple tA vs tn _ hm hD =>
  cases hD with | @cons v0 _ _ _ a1 hD =>
  cases hD with | @cons v1 _ _ _ a2 hD =>
  cases hD; cases a1 with | str _ s1 =>
  cases a2 with | str _ s2 =>
  unfold Does
  intro dp un gd cn cs a ccd cl outer A₀ base h₀ L m s mean mg mb Q E B F X N T hkk hd hu hret
  refine wpAny_call ?_
  k_dflt walk_at "enterC"
  walk_at "STEPS"
  k_dflt refine' kda_item (knd := strKind PySem.Challenge.rw_rr0086_01.row.prog w) (k := Str.ofString "x") (v := u3) ?k1 ?k2 hoV ?k3 ?k4 ?_
  case k1 => k_asm
  case k2 => exact .tail _ (.tail _ hV)
  case k3 => exact strKind_is _ _ _ _
  case k4 => rfl
  walk_at "STEPS"
  refine hret _ news _ _ ?_ ?_ ⟨Grown.refl _, e3⟩
  · k_asm
  · exact ev_news (by k_asm)

set_option maxRecDepth 100000 in
set_option maxHeartbeats 400000 in
theorem ev_told {S V : Addr} {ms : List Int} {ar : Nat} {own : Int} : EvDoes w ar S V ms (toldD ar own) own 8 256 := by
  intro news v hE hv
  obtain ⟨dS, I3, h1, h2, h3, q1, q2, q3, tm, tw, nS, nI, oV, mi, u0, u1, u2, u3, hS, hdS, hI3, hV, hoV, e0, e1, e2, e3, hm1, hm2⟩ := hE
  cases hv with
  | @tuple tA vs tn _ hm hD =>
  cases hD with | @cons v0 _ _ _ a1 hD =>
  cases hD with | @cons v1 _ _ _ a2 hD =>
  cases hD with | @cons v2 _ _ _ a3 hD =>
  cases hD; cases a1 with | str _ s1 =>
  unfold Does
  intro dp un gd cn cs a ccd cl outer A₀ base h₀ L m s mean mg mb Q E B F X N T hkk hd hu hret
  refine wpAny_call ?_
  k_dflt walk_at "enterC"
  walk_at "STEPS"
  refine hret _ news _ _ ?_ ?_ ⟨Grown.refl _, a3⟩
  · k_asm
  · exact ev_news (by k_asm)

set_option maxRecDepth 100000 in
set_option maxHeartbeats 400000 in
theorem ev_none {S V : Addr} {ms : List Int} {ar : Nat}  : EvDoes w ar S V ms (Leaf.none.dat ar) 0 8 256 := by
  intro news v hE hv
  obtain ⟨dS, I3, h1, h2, h3, q1, q2, q3, tm, tw, nS, nI, oV, mi, u0, u1, u2, u3, hS, hdS, hI3, hV, hoV, e0, e1, e2, e3, hm1, hm2⟩ := hE
  cases hv with
  | @tuple tA vs tn _ hm hD =>
  cases hD with | @cons v0 _ _ _ a1 hD =>
  cases hD with | @cons v1 _ _ _ a2 hD =>
  cases hD; cases a1 with | str _ s1 =>
  unfold Does
  intro dp un gd cn cs a ccd cl outer A₀ base h₀ L m s mean mg mb Q E B F X N T hkk hd hu hret
  refine wpAny_call ?_
  k_dflt walk_at "enterC"
  walk_at "STEPS"
  refine hret _ ((_, tupOf [] 0) :: news) _ _ ?_ ?_ ⟨Grown.one (ktn_ltOf (by exact (by with_reducible assumption : _ ∧ _ ∧ AllLt _ _).2.2)), DatIn.tuple (vs := []) (.head _) .nil⟩
  · k_asm
  · refine News.sub9 (by k_asm) fun p hp => ?_
    rcases List.mem_cons.mp hp with rfl | hp
    · exact .head _
    · exact .tail _ (.tail _ (.tail _ hp))

set_option maxRecDepth 100000 in
set_option maxHeartbeats 400000 in
theorem ev_univ {S V : Addr} {ms : List Int} {ar : Nat} (har : ar = 1) : EvDoes w ar S V ms (Leaf.univ.dat ar) 15 8 256 := by
  intro news v hE hv
  obtain ⟨dS, I3, h1, h2, h3, q1, q2, q3, tm, tw, nS, nI, oV, mi, u0, u1, u2, u3, hS, hdS, hI3, hV, hoV, e0, e1, e2, e3, hm1, hm2⟩ := hE
  subst har
  have hmi := hm1 rfl
  subst hmi
  cases hv with
  | @tuple tA vs tn _ hm hD =>
  cases hD with | @cons v0 _ _ _ a1 hD =>
  cases hD; cases a1 with | str _ s1 =>
  unfold Does
  intro dp un gd cn cs a ccd cl outer A₀ base h₀ L m s mean mg mb Q E B F X N T hkk hd hu hret
  refine wpAny_call ?_
  k_dflt walk_at "enterC"
  walk_at "STEPS"
  have P9 := (by with_reducible assumption : Grown (_ :: _ :: news) _ ∧ DatIn _ _ _)
  obtain ⟨P1, P2⟩ := P9
  refine hret _ _ _ _ ?_ ?_ ⟨ev_grown3 (by assumption) P1, P2⟩
  · k_asm
  · k_asm

set_option maxRecDepth 100000 in
set_option maxHeartbeats 400000 in
theorem ev_iden {S V : Addr} {ms : List Int} {ar : Nat} (har : ar = 2) : EvDoes w ar S V ms (Leaf.iden.dat ar) 9 8 256 := by
  intro news v hE hv
  obtain ⟨dS, I3, h1, h2, h3, q1, q2, q3, tm, tw, nS, nI, oV, mi, u0, u1, u2, u3, hS, hdS, hI3, hV, hoV, e0, e1, e2, e3, hm1, hm2⟩ := hE
  subst har
  have hmi := hm2 rfl
  subst hmi
  cases hv with
  | @tuple tA vs tn _ hm hD =>
  cases hD with | @cons v0 _ _ _ a1 hD =>
  cases hD; cases a1 with | str _ s1 =>
  unfold Does
  intro dp un gd cn cs a ccd cl outer A₀ base h₀ L m s mean mg mb Q E B F X N T hkk hd hu hret
  refine wpAny_call ?_
  k_dflt walk_at "enterC"
  walk_at "STEPS"
  have P9 := (by with_reducible assumption : Grown (_ :: _ :: news) _ ∧ DatIn _ _ _)
  obtain ⟨P1, P2⟩ := P9
  refine hret _ _ _ _ ?_ ?_ ⟨ev_grown3 (by assumption) P1, P2⟩
  · k_asm
  · k_asm

end
end Mine
end

namespace Mine
theorem rstB12 : True := by
  w_top off
  exact trivial
end Mine
section
open PySem PySem.W PyProof.Rows PySem.Calls PySem.Spec PyProof.Rows.LCg
namespace Mine
inductive Tr where
  | leaf (l : Leaf)
  | node (a b : Tr)
def Tr.dat (ar : Nat) : Tr → Dat
  | .leaf l => l.dat ar
  | .node a b => .tuple [ds "union", a.dat ar, b.dat ar]
/-- the tree that united builds of the leaves -/
def build : Nat → List Leaf → Tr
  | 0, ls => .leaf (ls.headD .none)
  | f + 1, ls => if ls.length = 1 then .leaf (ls.headD .none) else .node (build f (ls.take ((ls.length + 1) / 2))) (build f (ls.drop ((ls.length + 1) / 2)))
theorem pick_hi {l : List Value} {y : Int} (h0 : 0 ≤ y) (h1 : y ≤ l.length) : kms_pick l none (some y) = l.take y.toNat := by
  have e : min y.toNat l.length = y.toNat := Nat.min_eq_left (by omega)
  simp only [kms_pick, kms_lo, kms_hi, if_neg (show ¬ y < 0 by omega), e, List.drop_zero, Nat.sub_zero]
theorem pick_lo {l : List Value} {y : Int} (h0 : 0 ≤ y) (h1 : y ≤ l.length) : kms_pick l (some y) none = l.drop y.toNat := by
  have e : min y.toNat l.length = y.toNat := Nat.min_eq_left (by omega)
  simp only [kms_pick, kms_lo, kms_hi, if_neg (show ¬ y < 0 by omega), e]
  exact List.take_of_length_le (by rw [List.length_drop]; omega)
theorem pick_hiA {l : List Value} {y : Int} (h0 : 0 ≤ y) (h1 : y ≤ l.length) : kms_pick l.toArray.toList none (some y) = l.take y.toNat := pick_hi h0 h1
theorem pick_loA {l : List Value} {y : Int} (h0 : 0 ≤ y) (h1 : y ≤ l.length) : kms_pick l.toArray.toList (some y) none = l.drop y.toNat := pick_lo h0 h1
theorem DatAll.take {news : List (Addr × Obj)} : ∀ {vs : List Value} {ds : List Dat} (n : Nat), DatAll news vs ds → DatAll news (vs.take n) (ds.take n)
  | _, _, 0, _ => by simpa using DatAll.nil
  | _, _, _ + 1, .nil => .nil
  | _, _, n + 1, .cons a b => .cons a (DatAll.take n b)
theorem DatAll.drop {news : List (Addr × Obj)} : ∀ {vs : List Value} {ds : List Dat} (n : Nat), DatAll news vs ds → DatAll news (vs.drop n) (ds.drop n)
  | _, _, 0, h => h
  | _, _, _ + 1, .nil => .nil
  | _, _, n + 1, .cons _ b => DatAll.drop n b
theorem one_dat {news : List (Addr × Obj)} {ar : Nat} {vs : List Value} {ls : List Leaf} {v : Value} (hD : DatAll news vs (ls.map (Leaf.dat ar))) (hv : vs[(0 : Int).toNat]? = some v) (h1 : 1 ≤ ls.length) : DatIn news v ((ls.headD .none).dat ar) := by
  cases ls with
  | nil => simp at h1
  | cons l r =>
    cases hD with
    | cons a b => simp at hv; subst hv; exact a
section
variable {w : World}
local macro_rules | `(tactic| walk_at "STEPS") => `(tactic| repeat' (first | (k_unfold; (try dsimp only)) | walk1 | (dsimp only; walk1)))
local macro_rules | `(tactic| k_mem) => `(tactic| first | with_reducible assumption | exact List.mem_cons_of_mem _ (by with_reducible assumption) | exact List.mem_cons_of_mem _ (by k_mem))
local macro_rules | `(tactic| walk_at "call builtin:len") => `(tactic| (k_here; (with_reducible show wpAny _ _ (call (Value.builtin "len") [Value.ref _]) _ _ _); k_dflt (refine' len_c ?k1 ?k2 ?k3 ?_; (case k1 => k_asm); (case k2 => k_mem); (case k3 => omega); k_whole)))
local macro_rules | `(tactic| walk_at "subscriptTail") => `(tactic| (k_here; (with_reducible show wpAny _ _ (subscriptTail _ _ (Value.ref _) (Value.int _ _)) _ _ _); (with_unfolding_all refine' item_v ?k1 ?k2 ?kd ?k3 ?k4 ?_ ?k6; (case k1 => k_asm); (case k2 => k_mem); (case kd => with_reducible assumption); (case k3 => omega); (case k4 => omega); (case k6 => with_unfolding_all rfl); k_whole)))
local macro_rules | `(tactic| walk_at "subscriptTail Name Slice ref ref") => `(tactic| (k_here; (with_reducible show wpAny _ _ (subscriptTail _ (PySem.Expr.Slice _ _ none _) (Value.ref _) (Value.ref _)) _ _ _); k_dflt (refine' kms_slice_lit ?F ?N ?l ?p ?q ?e ?_ ?s ?t ?z; (case F => k_asm); (case N => k_asm); (case l => exact News.isList (by k_asm) (by k_mem)); (case p => kmk_part); (case q => kmk_part); (case e => first | exact pick_hiA (by omega) (by omega) | exact pick_loA (by omega) (by omega)); (case s => with_unfolding_all rfl); (case t => kmk_pure); (case z => (rw [List.size_toArray, sizeLine_eq]; omega))); intro D' h' F' N' l1))

set_option maxRecDepth 100000 in
set_option maxHeartbeats 400000 in
theorem united_does : ∀ (f : Nat) {E : Addr} {k ar : Nat} {vs : List Value} {ls : List Leaf} {news : List (Addr × Obj)}, f ≤ 20 → (E, listOf vs.toArray k) ∈ news → DatAll news vs (ls.map (Leaf.dat ar)) → 1 ≤ ls.length → ls.length ≤ 2 ^ f →
    Does w 21 [.ref E] (f + 2) (16 * f + 32) news (fun r news' => Grown news news' ∧ DatIn news' r ((build f ls).dat ar)) := by
  intro f
  induction f with
  | zero =>
    intro EL k ar vs ls news hf hE hD h1 h2
    have hvl : vs.length = ls.length := by have := hD.length; rwa [List.length_map] at this
    have hone : vs.length = 1 := by have h3 : ls.length ≤ 1 := h2; omega
    obtain ⟨v0, hv0⟩ : ∃ v0, vs[(0 : Int).toNat]? = some v0 := ⟨_, List.getElem?_eq_getElem (by show 0 < _; omega)⟩
    unfold Does
    intro dp un gd cn cs a ccd cl outer A₀ base h₀ L m s mean mg mb Q E B F X N T hkk hd hu hret
    refine wpAny_call ?_
    k_dflt ktr_enter
    walk_at "STEPS"
    · refine hret _ news _ _ ?_ ?_ ⟨Grown.refl _, ?_⟩
      · k_asm
      · k_asm
      · rw [build]
        exact one_dat hD hv0 h1
    exfalso; omega
  | succ f ih =>
  intro EL k ar vs ls news hf hE hD h1 h2
  have hvl : vs.length = ls.length := by have := hD.length; rwa [List.length_map] at this
  have hbig : vs.length ≤ 2000000 := by rw [hvl]; exact Nat.le_trans h2 (Nat.le_trans (Nat.pow_le_pow_right (by decide) hf) (by decide))
  obtain ⟨v0, hv0⟩ : ∃ v0, vs[(0 : Int).toNat]? = some v0 := ⟨_, List.getElem?_eq_getElem (by show 0 < _; omega)⟩
  unfold Does
  intro dp un gd cn cs a ccd cl outer A₀ base h₀ L m s mean mg mb Q E B F X N T hkk hd hu hret
  refine wpAny_call ?_
  k_dflt ktr_enter
  have hfd : ((vs.length : Int) + 1).fdiv 2 = ((ls.length + 1) / 2 : Nat) := by rw [hvl, Int.fdiv_eq_ediv_of_nonneg _ (by decide)]; omega
  walk_at "STEPS"
  · refine hret _ news _ _ ?_ ?_ ⟨Grown.refl _, ?_⟩
    · k_asm
    · k_asm
    · have e1 : ls.length = 1 := by omega
      rw [build, if_pos e1]
      exact one_dat hD hv0 h1
  rename ∀ p ∈ news, p.1 < _ => l1
  have hn1 : (ls.length + 1) / 2 ≤ 2 ^ f := by
    have h4 : 2 ^ (f + 1) = 2 * 2 ^ f := by rw [Nat.pow_succ, Nat.mul_comm]
    omega
  have hge : 2 ≤ ls.length := by omega
  have htn : (((vs.length : Int) + 1).fdiv 2).toNat = (ls.length + 1) / 2 := by rw [hfd]; rfl
  have hT := DatAll.take ((ls.length + 1) / 2) hD
  have hDr := DatAll.drop ((ls.length + 1) / 2) hD
  rw [← List.map_take] at hT
  rw [← List.map_drop] at hDr
  simp only [htn] at *
  refine' Does.use (ih (by omega) (List.Mem.head _) (hT.mono ?e1) ?e2 ?e3) ?k1 ?k2 ?k3 ?k4 ?k5 ?kK ?kd ?ku ?_
  case k4 => k_asm
  case e1 => exact fun p hp => .tail _ hp
  case e2 => rw [List.length_take]; omega
  case e3 => rw [List.length_take]; omega
  case k1 => k_asm
  case k2 => k_asm
  case k3 => k_asm
  case k5 => k_asm
  case kK => first | exact rfl | assumption
  case kd => ktr_room
  case ku => ktr_units
  intro r1 nw1 h1' tk1 F1 N1 P1
  obtain ⟨g1, e1⟩ := P1
  have sb : ∀ p ∈ news, p ∈ nw1 := fun p hp => g1.sub _ (.tail _ hp)
  have G1 : Grown news nw1 := (Grown.one l1).trans g1
  have hE1 := sb _ hE
  clear g1
  (try dsimp only)
  walk_at "STEPS"
  rename ∀ p ∈ nw1, p.1 < _ => l2
  have htn : (((vs.length : Int) + 1).fdiv 2).toNat = (ls.length + 1) / 2 := by rw [hfd]; rfl
  simp only [htn] at *
  refine' Does.use (ih (by omega) (List.Mem.head _) (hDr.mono ?e4) ?e5 ?e6) ?k1 ?k2 ?k3 ?k4 ?k5 ?kK ?kd ?ku ?_
  case k4 => k_asm
  case e4 => exact fun p hp => .tail _ (sb p hp)
  case e5 => rw [List.length_drop]; omega
  case e6 => rw [List.length_drop]; omega
  case k1 => k_asm
  case k2 => k_asm
  case k3 => k_asm
  case k5 => k_asm
  case kK => first | exact rfl | assumption
  case kd => ktr_room
  case ku => ktr_units
  intro r2 nw2 h2' tk2 F2 N2 P2
  obtain ⟨g2, e2⟩ := P2
  have G2 : Grown nw1 nw2 := (Grown.one l2).trans g2
  have e1' := e1.mono G2.sub
  clear g2
  (try dsimp only)
  walk_at "STEPS"
  refine' hret _ _ _ _ ?z1 ?z2 ⟨(G1.trans G2).trans (Grown.one ?z3), ?z4⟩
  case z1 => k_asm
  case z2 => k_asm
  case z3 => assumption
  case z4 =>
    rw [build, if_neg (by omega), Tr.dat]
    exact DatIn.tuple (.head _) (.cons (.str _ _) (.cons (e1'.mono fun p hp => .tail _ hp) (.cons (e2.mono fun p hp => .tail _ hp) .nil)))
end
end Mine
end

namespace Mine
theorem rstB13 : True := by
  w_top off
  exact trivial
end Mine
section
open PySem PySem.W PyProof.Rows PySem.Calls PySem.Spec PyProof.Rows.LCg
namespace Mine
def Rng (x : Int) : Prop := 0 ≤ x ∧ x < 16
theorem rng_fin {P : Int → Prop} (h : ∀ a : Fin 16, P (a.val : Int)) {x : Int} (hx : Rng x) : P x := by
  obtain ⟨k, rfl⟩ : ∃ k : Nat, x = (k : Int) := ⟨x.toNat, by have := hx.1; omega⟩
  exact h ⟨k, by have := hx.2; omega⟩
theorem rng_fin2 {P : Int → Int → Prop} (h : ∀ a b : Fin 16, P (a.val : Int) (b.val : Int)) {x y : Int} (hx : Rng x) (hy : Rng y) : P x y :=
  rng_fin (P := fun x => P x y) (fun a => rng_fin (P := fun y => P a.val y) (fun b => h a b) hy) hx
theorem or_rng {x y : Int} (hx : Rng x) (hy : Rng y) : Rng (PySem.Builtin.bitOr x y) := rng_fin2 (P := fun x y => 0 ≤ PySem.Builtin.bitOr x y ∧ PySem.Builtin.bitOr x y < 16) (by decide +kernel) hx hy
theorem and_rng {x y : Int} (hx : Rng x) (hy : Rng y) : Rng (PySem.Builtin.bitAnd x y) := rng_fin2 (P := fun x y => 0 ≤ PySem.Builtin.bitAnd x y ∧ PySem.Builtin.bitAnd x y < 16) (by decide +kernel) hx hy
theorem setK_and {x y : Int} (hx : Rng x) (hy : Rng y) : setK (PySem.Builtin.bitAnd x y) = (setK x).filter fun k => decide (k ∈ setK y) := rng_fin2 (P := fun x y => setK (PySem.Builtin.bitAnd x y) = (setK x).filter fun k => decide (k ∈ setK y)) (by decide +kernel) hx hy
theorem setK_less {x y : Int} (hx : Rng x) (hy : Rng y) : setK (PySem.Builtin.bitAnd x (15 - y)) = (setK x).filter fun k => !decide (k ∈ setK y) := rng_fin2 (P := fun x y => setK (PySem.Builtin.bitAnd x (15 - y)) = (setK x).filter fun k => !decide (k ∈ setK y)) (by decide +kernel) hx hy
theorem setK_or {x y : Int} (hx : Rng x) (hy : Rng y) : setK (PySem.Builtin.bitOr x y) = sortK (setK x ++ setK y) := rng_fin2 (P := fun x y => setK (PySem.Builtin.bitOr x y) = sortK (setK x ++ setK y)) (by decide +kernel) hx hy
theorem bitK_or {x y : Int} (hx : Rng x) (hy : Rng y) : ∀ k : Fin 4, bitK (PySem.Builtin.bitOr x y) k.val = (bitK x k.val || bitK y k.val) := rng_fin2 (P := fun x y => ∀ k : Fin 4, bitK (PySem.Builtin.bitOr x y) k.val = (bitK x k.val || bitK y k.val)) (by decide +kernel) hx hy

def Tr.leaves : Tr → List Leaf
  | .leaf l => [l]
  | .node a b => a.leaves ++ b.leaves
def Tr.mask (ms : List Int) : Tr → Int
  | .leaf l => l.mask ms
  | .node a b => PySem.Builtin.bitOr (a.mask ms) (b.mask ms)
def Tr.height : Tr → Nat
  | .leaf _ => 0
  | .node a b => max a.height b.height + 1
def MsOk (ms : List Int) : Prop := ∀ k, Rng (ms.getD k 0)
theorem leaf_rng {ms : List Int} (hm : MsOk ms) {ar : Nat} {l : Leaf} (h : l.Ok ar) : Rng (l.mask ms) := by
  cases l with
  | rel r => exact hm _
  | none => exact ⟨(by decide : (0 : Int) ≤ 0), (by decide : (0 : Int) < 16)⟩
  | var => exact hm _
  | meet r own => exact and_rng (hm _) ⟨h.2.2.1, h.2.2.2⟩
  | minus own r => exact and_rng ⟨h.2.2.1, h.2.2.2⟩ ⟨by have := (hm r.toNat).2; omega, by have := (hm r.toNat).1; omega⟩
  | univ => exact ⟨(by decide : (0 : Int) ≤ 15), (by decide : (15 : Int) < 16)⟩
  | iden => exact ⟨(by decide : (0 : Int) ≤ 9), (by decide : (9 : Int) < 16)⟩
  | told own => exact h
theorem tr_rng {ms : List Int} (hm : MsOk ms) {ar : Nat} : ∀ {t : Tr}, (∀ l ∈ t.leaves, l.Ok ar) → Rng (t.mask ms)
  | .leaf l, h => leaf_rng hm (h l (.head _))
  | .node a b, h => or_rng (tr_rng hm fun l hl => h l (List.mem_append.mpr (.inl hl))) (tr_rng hm fun l hl => h l (List.mem_append.mpr (.inr hl)))
theorem EvDoes.weaken {w : World} {ar : Nat} {S V : Addr} {ms : List Int} {d : Dat} {mask : Int} {dep uns dep' uns' : Nat} (h : EvDoes w ar S V ms d mask dep uns) (h1 : dep ≤ dep') (h2 : uns ≤ uns') : EvDoes w ar S V ms d mask dep' uns' :=
  fun news v hE hv dp un gd cn cs a ccd cl outer A₀ base h₀ L m s mean mg mb Q E B F X N T hk hd hu ret => h news v hE hv dp un gd cn cs a ccd cl outer A₀ base h₀ L m s mean mg mb Q E B F X N T hk (by omega) (by omega) ret
theorem ev_leaf {w : World} {ar : Nat} {S V : Addr} {ms : List Int} (hm : MsOk ms) {l : Leaf} (h : l.Ok ar) : EvDoes w ar S V ms (l.dat ar) (l.mask ms) 10 320 := by
  cases l with
  | rel r => exact (ev_rel h.1 h.2).weaken (by omega) (by omega)
  | none => exact ev_none.weaken (by omega) (by omega)
  | var => exact ev_var.weaken (by omega) (by omega)
  | meet r own => exact ev_meet (ev_rel h.1 h.2.1) ev_told (by omega) (by omega) (setK_and (hm _) ⟨h.2.2.1, h.2.2.2⟩)
  | minus own r => exact ev_minus ev_told (ev_rel h.1 h.2.1) (by omega) (by omega) (setK_less ⟨h.2.2.1, h.2.2.2⟩ (hm _))
  | univ => exact (ev_univ h).weaken (by omega) (by omega)
  | iden => exact (ev_iden h).weaken (by omega) (by omega)
  | told own => exact ev_told.weaken (by omega) (by omega)
theorem ev_tree {w : World} {ar : Nat} {S V : Addr} {ms : List Int} (hm : MsOk ms) : ∀ {t : Tr}, (∀ l ∈ t.leaves, l.Ok ar) → EvDoes w ar S V ms (t.dat ar) (t.mask ms) (2 * t.height + 10) (64 * t.height + 320)
  | .leaf l, h => ev_leaf hm (h l (.head _))
  | .node a b, h => by
    have ha := fun l hl => h l (List.mem_append.mpr (.inl hl))
    have hb := fun l hl => h l (List.mem_append.mpr (.inr hl))
    have e := ev_union (w := w) (S := S) (V := V) ((ev_tree hm ha).weaken (dep' := 2 * max a.height b.height + 10) (uns' := 64 * max a.height b.height + 320) (by omega) (by omega)) ((ev_tree hm hb).weaken (by omega) (by omega)) (by omega) (by omega) (setK_or (tr_rng hm ha) (tr_rng hm hb))
    exact e.weaken (by rw [Tr.height]; omega) (by rw [Tr.height]; omega)

theorem build_leaves : ∀ (f : Nat) (ls : List Leaf), 1 ≤ ls.length → ls.length ≤ 2 ^ f → (build f ls).leaves = ls
  | 0, ls, h1, h2 => by
    match ls, h1, h2 with
    | [l], _, _ => rfl
    | _ :: _ :: _, _, h2 => simp at h2
  | f + 1, ls, h1, h2 => by
    rw [build]
    split
    · next h =>
      match ls, h with
      | [l], _ => rfl
    · next h =>
      have h4 : 2 ^ (f + 1) = 2 * 2 ^ f := by rw [Nat.pow_succ, Nat.mul_comm]
      rw [Tr.leaves, build_leaves f _ (by rw [List.length_take]; omega) (by rw [List.length_take]; omega), build_leaves f _ (by rw [List.length_drop]; omega) (by rw [List.length_drop]; omega), List.take_append_drop]
theorem build_height : ∀ (f : Nat) (ls : List Leaf) (k : Nat), 1 ≤ ls.length → ls.length ≤ 2 ^ k → (build f ls).height ≤ k
  | 0, ls, k, _, _ => Nat.zero_le _
  | f + 1, ls, k, h1, h2 => by
    rw [build]
    split
    · exact Nat.zero_le _
    · next h =>
      cases k with
      | zero => exfalso; have h3 : ls.length ≤ 1 := h2; omega
      | succ k =>
        have h4 : 2 ^ (k + 1) = 2 * 2 ^ k := by rw [Nat.pow_succ, Nat.mul_comm]
        have a := build_height f (ls.take ((ls.length + 1) / 2)) k (by rw [List.length_take]; omega) (by rw [List.length_take]; omega)
        have b := build_height f (ls.drop ((ls.length + 1) / 2)) k (by rw [List.length_drop]; omega) (by rw [List.length_drop]; omega)
        rw [Tr.height]; omega
def orL (ms : List Int) (ls : List Leaf) : Int := ls.foldl (fun w l => PySem.Builtin.bitOr w (l.mask ms)) 0
theorem bit_fold {ms : List Int} (hm : MsOk ms) {ar : Nat} (k : Fin 4) : ∀ (ls : List Leaf) (w : Int), Rng w → (∀ l ∈ ls, l.Ok ar) → Rng (ls.foldl (fun w l => PySem.Builtin.bitOr w (l.mask ms)) w) ∧ bitK (ls.foldl (fun w l => PySem.Builtin.bitOr w (l.mask ms)) w) k.val = (bitK w k.val || ls.any fun l => bitK (l.mask ms) k.val)
  | [], w, hw, _ => ⟨hw, by simp⟩
  | l :: r, w, hw, h => by
    have hl := leaf_rng hm (h l (.head _))
    obtain ⟨a, b⟩ := bit_fold hm k r (PySem.Builtin.bitOr w (l.mask ms)) (or_rng hw hl) fun x hx => h x (.tail _ hx)
    refine ⟨a, ?_⟩
    rw [List.foldl_cons, b, bitK_or hw hl k, List.any_cons, Bool.or_assoc]
theorem bit_tree {ms : List Int} (hm : MsOk ms) {ar : Nat} (k : Fin 4) : ∀ {t : Tr}, (∀ l ∈ t.leaves, l.Ok ar) → bitK (t.mask ms) k.val = t.leaves.any fun l => bitK (l.mask ms) k.val
  | .leaf l, _ => by simp [Tr.mask, Tr.leaves]
  | .node a b, h => by
    have ha := fun l hl => h l (List.mem_append.mpr (.inl hl))
    have hb := fun l hl => h l (List.mem_append.mpr (.inr hl))
    rw [Tr.mask, Tr.leaves, bitK_or (tr_rng hm ha) (tr_rng hm hb) k, bit_tree hm k ha, bit_tree hm k hb, List.any_append]
theorem whole_set {ms : List Int} (hm : MsOk ms) {ar : Nat} {t : Tr} (h : ∀ l ∈ t.leaves, l.Ok ar) : setK (t.mask ms) = setK (orL ms t.leaves) := by
  unfold setK
  refine List.filter_congr fun k hk => ?_
  have hk4 : k < 4 := List.mem_range.mp hk
  have e := (bit_fold hm (ar := ar) ⟨k, hk4⟩ t.leaves 0 ⟨by decide, by decide⟩ h).2
  have z : bitK 0 k = false := by unfold bitK; simp
  rw [bit_tree hm ⟨k, hk4⟩ h, orL, e]
  simp [z]
end Mine
end

namespace Mine
theorem rstB14 : True := by
  w_top off
  exact trivial
end Mine
section
open PySem PySem.W PyProof.Rows PySem.Calls PySem.Spec PyProof.Rows.LCg
namespace Mine
def Tr.size : Tr → Nat
  | .leaf _ => 1
  | .node a b => a.size + b.size + 1
structure LS where
  ws : List Value
  lvs : List Value
  cw : Nat
  cl : Nat
  low : Int
  tl : Tok
  st : List (Tr × Int)
  ls : List Leaf
  nw : List (Addr × Obj)
def pairD (ar : Nat) (p : Tr × Int) : Dat := .tuple [p.1.dat ar, .int p.2]
def lsLed (WA LA : Addr) (c : LS) : List (Addr × Obj) := (WA, listOf c.ws.toArray c.cw) :: (LA, listOf c.lvs.toArray c.cl) :: c.nw
def lsPs (c : LS) : List (Str × Value) := [(Str.ofString "lowest", .int c.low c.tl)]
def LSFacts (ar : Nat) (WA LA : Addr) (base : List (Addr × Obj)) (c : LS) : Prop :=
  Grown base c.nw ∧ DatAll c.nw c.ws (c.st.map (pairD ar)) ∧ DatAll c.nw c.lvs (c.ls.map (Leaf.dat ar)) ∧ (∀ q ∈ c.nw, q.1 ≠ WA) ∧ (∀ q ∈ c.nw, q.1 ≠ LA)
def lsMu (c : LS) : Nat := (c.st.map fun p => p.1.size).sum
def LSP (t : Tr) (c : LS) : Prop :=
  c.ls ++ c.st.reverse.flatMap (fun p => p.1.leaves) = t.leaves ∧ (∀ p ∈ c.st, 0 ≤ p.2 ∧ p.2 + p.1.height ≤ t.height) ∧ 0 ≤ c.low ∧ c.low ≤ t.height ∧ lsMu c ≤ t.size
theorem ls_start {WA LA PA D : Addr} {o o' : Obj} {xs : Array Value} {news : List (Addr × Obj)} : ∀ p ∈ (WA, listOf xs 0) :: (LA, listOf #[] 0) :: (PA, o) :: news, p ∈ (D, o') :: (LA, listOf #[] 0) :: (WA, listOf xs 0) :: (PA, o) :: news := fun p hp => by
  rcases List.mem_cons.mp hp with rfl | hp
  · exact .tail _ (.tail _ (.head _))
  · rcases List.mem_cons.mp hp with rfl | hp
    · exact .tail _ (.head _)
    · exact .tail _ (.tail _ (.tail _ hp))
theorem ls_off0 {PA WA : Addr} {o : Obj} {news : List (Addr × Obj)} (l0 : ∀ p ∈ news, p.1 < PA) (l1 : PA < WA ∧ AllLt WA news) : ∀ q ∈ (PA, o) :: news, q.1 ≠ WA := fun q hq => by
  rcases List.mem_cons.mp hq with rfl | hq
  · exact Nat.ne_of_lt l1.1
  · exact Nat.ne_of_lt (ktn_ltOf l1.2 q hq)
theorem ls_off1 {PA WA LA : Addr} {o : Obj} {news : List (Addr × Obj)} (_l0 : ∀ p ∈ news, p.1 < PA) (l2 : WA < LA ∧ PA < LA ∧ AllLt LA news) : ∀ q ∈ (PA, o) :: news, q.1 ≠ LA := fun q hq => by
  rcases List.mem_cons.mp hq with rfl | hq
  · exact Nat.ne_of_lt l2.2.1
  · exact Nat.ne_of_lt (ktn_ltOf l2.2.2 q hq)
theorem DatAll.snocD {news : List (Addr × Obj)} {d : Dat} : ∀ {vs : List Value} {es : List Dat}, DatAll news vs (es ++ [d]) → ∃ ws x, vs = ws ++ [x] ∧ DatAll news ws es ∧ DatIn news x d
  | [], [], h => by cases h
  | [], _ :: _, h => by cases h
  | v :: vs, [], h => by
    cases h with
    | cons a b => cases b; exact ⟨[], v, rfl, .nil, a⟩
  | v :: vs, e :: es, h => by
    cases h with
    | cons a b =>
      obtain ⟨ws, x, rfl, h1, h2⟩ := DatAll.snocD b
      exact ⟨v :: ws, x, rfl, .cons a h1, h2⟩
theorem nil_or_snoc {α : Type} (l : List α) : l = [] ∨ ∃ r x, l = r ++ [x] := by
  rcases List.eq_nil_or_concat l with h | ⟨r, x, h⟩
  · exact .inl h
  · exact .inr ⟨r, x, by rw [h, List.concat_eq_append]⟩
theorem leaf_head {nw : List (Addr × Obj)} {v : Value} {ar : Nat} {l : Leaf} (h : DatIn nw v (l.dat ar)) : ∃ a x tx rest n, v = .ref a ∧ (a, ({ cls := .type "tuple", data := .seq (Value.str x tx :: rest).toArray n } : Obj)) ∈ nw ∧ x ≠ Str.ofString "union" := by
  cases l <;> (unfold Leaf.dat at h; first | (unfold toldD at h; cases h with | tuple hm hD => cases hD with | cons a b => cases a with | str _ t => exact ⟨_, _, _, _, _, rfl, hm, by decide⟩) | (cases h with | tuple hm hD => cases hD with | cons a b => cases a with | str _ t => exact ⟨_, _, _, _, _, rfl, hm, by decide⟩))
theorem Tr.size_pos : ∀ t : Tr, 1 ≤ t.size
  | .leaf _ => Nat.le_refl _
  | .node a b => by rw [Tr.size]; omega
theorem Tr.leaves_size : ∀ t : Tr, t.leaves.length ≤ t.size
  | .leaf _ => Nat.le_refl _
  | .node a b => by
    have h1 := Tr.leaves_size a
    have h2 := Tr.leaves_size b
    rw [Tr.leaves, Tr.size, List.length_append]; omega
theorem ls_sum : ∀ st : List (Tr × Int), st.length ≤ (st.map fun p => p.1.size).sum
  | [] => Nat.le_refl _
  | p :: r => by
    have h1 := ls_sum r
    have h2 := Tr.size_pos p.1
    rw [List.map_cons, List.sum_cons, List.length_cons]; omega
theorem ls_len (st : List (Tr × Int)) (t1 : Tr) (l : Int) : st.length + t1.size ≤ ((st ++ [(t1, l)]).map fun p => p.1.size).sum := by
  have := ls_sum st
  rw [List.map_append, List.sum_append]
  simp only [List.map_cons, List.map_nil, List.sum_cons, List.sum_nil]
  omega
theorem ls_fin {WA PA LA DE : Addr} {o o2 : Obj} {news nw : List (Addr × Obj)} (hg : Grown news nw) (l2 : WA < LA ∧ PA < LA ∧ AllLt LA news) (l3 : WA < DE ∧ LA < DE ∧ AllLt DE nw) : Grown news ((DE, o) :: (LA, o2) :: nw) := by
  have hs := hg.sub
  obtain ⟨tl, rfl, h⟩ := hg
  refine ⟨(DE, o) :: (LA, o2) :: tl, rfl, fun p hp q hq => ?_⟩
  rcases List.mem_cons.mp hp with rfl | hp
  · exact ktn_ltOf l3.2.2 q (hs q hq)
  · rcases List.mem_cons.mp hp with rfl | hp
    · exact ktn_ltOf l2.2.2 q hq
    · exact h p hp q hq
theorem ext_no {ws : List Value} {x y : Value} (h : ws.length ≤ 1000000) : ¬(!ws.toArray.isEmpty && PySem.Builtin.List.listTooLong (ws.toArray.size + #[x, y].size)) = true := by
  have : PySem.Builtin.List.listTooLong (ws.toArray.size + #[x, y].size) = false := by
    unfold PySem.Builtin.List.listTooLong
    rw [List.size_toArray, sizeLine_eq]
    simp
    omega
  rw [this]; simp
theorem ls_mu_snoc {ws lvs : List Value} {cw cl : Nat} {low : Int} {tl : Tok} {st' : List (Tr × Int)} {t1 : Tr} {l : Int} {ls : List Leaf} {nw : List (Addr × Obj)} : lsMu ⟨ws, lvs, cw, cl, low, tl, st' ++ [(t1, l)], ls, nw⟩ = (st'.map fun p => p.1.size).sum + t1.size := by
  simp [lsMu]
theorem kst_one {m : Str → Option Value} {x : Str} {v : Value} (h : m x = some v) : ∀ p ∈ [(x, v)], m p.1 = some p.2 := fun p hp => by rw [List.mem_singleton.mp hp]; exact h
theorem ls_node {h₀ h' : Heap} {L EL D1 D2 WA LA : Addr} {s₁ : Shared} {oE : Obj} {ar tk cw cw' cl c1 c2 : Nat} {news nw : List (Addr × Obj)} {m₀ m' : Str → Option Value} {ws' lvs : List Value} {P1 w1 w2 : Value} {lv1 low : Int} {t1 t2 tl tl' : Tok} {t ta tb : Tr} {st' : List (Tr × Int)} {ls : List Leaf}
    (F : Fr h₀ L h' m') (N : News h₀ L h' ((EL, oE) :: (D2, ({ cls := .type "tuple", data := .seq #[w1, .int (lv1 + 1) t2] c2 } : Obj)) :: (D1, ({ cls := .type "tuple", data := .seq #[w2, .int (lv1 + 1) t1] c1 } : Obj)) :: (WA, listOf (ws' ++ [Value.ref D1, Value.ref D2]).toArray cw') :: (LA, listOf lvs.toArray cl) :: nw))
    (hk : m' (Str.ofString "lowest") = some (.int (if lv1 > low then lv1 else low) tl')) (hr : ∀ z, z ≠ Str.ofString "lowest" → z ≠ Str.ofString "node" → z ≠ Str.ofString "level" → m' z = m₀ z)
    (hf : Grown news nw ∧ DatAll nw ws' (st'.map (pairD ar)) ∧ DatAll nw lvs (ls.map (Leaf.dat ar)) ∧ (∀ q ∈ nw, q.1 ≠ WA) ∧ (∀ q ∈ nw, q.1 ≠ LA)) (b2 : DatIn nw w1 (ta.dat ar)) (b3 : DatIn nw w2 (tb.dat ar))
    (k1 : WA < D1 ∧ LA < D1 ∧ AllLt D1 nw) (k2 : D1 < D2 ∧ WA < D2 ∧ LA < D2 ∧ AllLt D2 nw) (_hWL : @Ne Nat WA LA)
    (hp : LSP t ⟨ws' ++ [P1], lvs, cw, cl, low, tl, st' ++ [(.node ta tb, lv1)], ls, nw⟩) :
    KswEnd h₀ L s₁ (lsLed WA LA) lsPs (LSFacts ar WA LA news) [Str.ofString "node", Str.ofString "level"] m₀ (LSP t) lsMu ⟨ws' ++ [P1], lvs, cw, cl, low, tl, st' ++ [(.node ta tb, lv1)], ls, nw⟩ { s₁ with heap := h', toks := tk } := by
  obtain ⟨hg, hW', hL, oW, oL⟩ := hf
  obtain ⟨hleaves, hst, hlo0, hlo1, hmu⟩ := hp
  have hp1 := hst (.node ta tb, lv1) (List.mem_append.mpr (.inr (.head _)))
  simp only [Tr.height] at hp1 hlo0 hlo1
  have hm2 : lsMu ⟨ws' ++ [Value.ref D1, Value.ref D2], lvs, cw', cl, (if lv1 > low then lv1 else low), tl', st' ++ [(tb, lv1 + 1), (ta, lv1 + 1)], ls, (D2, ({ cls := .type "tuple", data := .seq #[w1, .int (lv1 + 1) t2] c2 } : Obj)) :: (D1, ({ cls := .type "tuple", data := .seq #[w2, .int (lv1 + 1) t1] c1 } : Obj)) :: nw⟩ + 1 = lsMu ⟨ws' ++ [P1], lvs, cw, cl, low, tl, st' ++ [(.node ta tb, lv1)], ls, nw⟩ := by
    simp [lsMu, Tr.size]; omega
  refine ksw_end ⟨ws' ++ [Value.ref D1, Value.ref D2], lvs, cw', cl, (if lv1 > low then lv1 else low), tl', st' ++ [(tb, lv1 + 1), (ta, lv1 + 1)], ls, (D2, ({ cls := .type "tuple", data := .seq #[w1, .int (lv1 + 1) t2] c2 } : Obj)) :: (D1, ({ cls := .type "tuple", data := .seq #[w2, .int (lv1 + 1) t1] c1 } : Obj)) :: nw⟩ F N ?_ ?_ (kst_one hk) ?_ ?_ (by omega)
  · intro p hp
    simp only [lsLed, List.mem_cons] at hp ⊢
    rcases hp with h | h | h | h | h <;> simp [h]
  · have up : ∀ p ∈ nw, p ∈ (D2, ({ cls := .type "tuple", data := .seq #[w1, .int (lv1 + 1) t2] c2 } : Obj)) :: (D1, ({ cls := .type "tuple", data := .seq #[w2, .int (lv1 + 1) t1] c1 } : Obj)) :: nw := fun p hp => .tail _ (.tail _ hp)
    refine ⟨(hg.trans (Grown.one (ktn_ltOf k1.2.2))).trans (Grown.one fun q hq => ?_), ?_, hL.mono up, fun q hq => ?_, fun q hq => ?_⟩
    · rcases List.mem_cons.mp hq with rfl | hq
      · exact k2.1
      · exact ktn_ltOf k2.2.2.2 q hq
    · rw [List.map_append]
      exact (hW'.mono up).append (.cons (DatIn.tuple (.tail _ (.head _)) (.cons (b3.mono up) (.cons (.int _ _) .nil))) (.cons (DatIn.tuple (.head _) (.cons (b2.mono up) (.cons (.int _ _) .nil))) .nil))
    · rcases List.mem_cons.mp hq with rfl | hq
      · exact Nat.ne_of_gt k2.2.1
      · rcases List.mem_cons.mp hq with rfl | hq
        · exact Nat.ne_of_gt k1.1
        · exact oW q hq
    · rcases List.mem_cons.mp hq with rfl | hq
      · exact Nat.ne_of_gt k2.2.2.1
      · rcases List.mem_cons.mp hq with rfl | hq
        · exact Nat.ne_of_gt k1.2.1
        · exact oL q hq
  · intro z h2 h3
    have h4 : z ≠ Str.ofString "lowest" := h2 _ (.head _)
    simp only [List.contains_cons, List.contains_nil, Bool.or_false, Bool.or_eq_false_iff, beq_eq_false_iff_ne, ne_eq] at h3
    exact hr z h4 h3.1 h3.2
  · refine ⟨by simpa [Tr.leaves] using hleaves, fun p hp => ?_, ?_, ?_, by omega⟩
    · rcases List.mem_append.mp hp with hp | hp
      · exact hst p (List.mem_append.mpr (.inl hp))
      · simp only [List.mem_cons, List.not_mem_nil, or_false] at hp
        rcases hp with rfl | rfl
        · exact ⟨by show 0 ≤ lv1 + 1; omega, by show lv1 + 1 + (tb.height : Int) ≤ _; omega⟩
        · exact ⟨by show 0 ≤ lv1 + 1; omega, by show lv1 + 1 + (ta.height : Int) ≤ _; omega⟩
    · show (0 : Int) ≤ (if lv1 > low then lv1 else low)
      split <;> omega
    · show (if lv1 > low then lv1 else low) ≤ (t.height : Int)
      split <;> omega
section
variable {prog : Program} {w : World} {A : Around} {E : Value → Shared → Prop} {s : Shared} {h₀ : Heap}
theorem item_t0 {value slice : PySem.Expr} {L l : Addr} {news : List (Addr × Obj)} {v : Value} {rest : List Value} {n : Nat} {u : Tok} {Q : Value → Shared → Prop} (N : News h₀ L s.heap news) (hm : (l, ({ cls := .type "tuple", data := .seq (v :: rest).toArray n } : Obj)) ∈ news) (h : Q v s)
    (hs : subscripted slice false (.ref l) (.int 0 u) = operate [.ref l, .int 0 u] (getItem (.ref l) (.int 0 u)) := by with_unfolding_all rfl) :
    wpAny (model prog w) A (subscriptTail value slice (.ref l) (.int 0 u)) Q E s := by
  refine item_tupleT (l := v :: rest) (j := 0) (News.isTup N hm) (by decide) (by decide) ?_ rfl h hs
  simp [seqIndex?]
theorem len_t3 {L l : Addr} {news : List (Addr × Obj)} {v0 v1 v2 : Value} {n : Nat} {Q : Value → Shared → Prop} (N : News h₀ L s.heap news) (hm : (l, ({ cls := .type "tuple", data := .seq [v0, v1, v2].toArray n } : Obj)) ∈ news)
    (h : Q (.int 3 (s.toks + 1)) { s with toks := s.toks + 1 + 1 }) : wpAny (model prog w) A (call (.builtin "len") [.ref l]) Q E s := len_t N hm (by show 3 < 2 ^ 62; decide) h
theorem item_t1 {value slice : PySem.Expr} {L l : Addr} {news : List (Addr × Obj)} {v0 v1 v2 : Value} {n : Nat} {u : Tok} {Q : Value → Shared → Prop} (N : News h₀ L s.heap news) (hm : (l, ({ cls := .type "tuple", data := .seq [v0, v1, v2].toArray n } : Obj)) ∈ news) (h : Q v1 s)
    (hs : subscripted slice false (.ref l) (.int 1 u) = operate [.ref l, .int 1 u] (getItem (.ref l) (.int 1 u)) := by with_unfolding_all rfl) :
    wpAny (model prog w) A (subscriptTail value slice (.ref l) (.int 1 u)) Q E s := item_tupleT (l := [v0, v1, v2]) (j := 1) (News.isTup N hm) (by decide) (by decide) rfl rfl h hs
theorem item_t2 {value slice : PySem.Expr} {L l : Addr} {news : List (Addr × Obj)} {v0 v1 v2 : Value} {n : Nat} {u : Tok} {Q : Value → Shared → Prop} (N : News h₀ L s.heap news) (hm : (l, ({ cls := .type "tuple", data := .seq [v0, v1, v2].toArray n } : Obj)) ∈ news) (h : Q v2 s)
    (hs : subscripted slice false (.ref l) (.int 2 u) = operate [.ref l, .int 2 u] (getItem (.ref l) (.int 2 u)) := by with_unfolding_all rfl) :
    wpAny (model prog w) A (subscriptTail value slice (.ref l) (.int 2 u)) Q E s := item_tupleT (l := [v0, v1, v2]) (j := 2) (News.isTup N hm) (by decide) (by decide) rfl rfl h hs
theorem assign_pair {env : Env} {a b : Str} {pa pb tp : Pos} {kk c : Nat} {T : Addr} {x y : Value} {m : Str → Option Value} {news : List (Addr × Obj)} {Q : Unit → Shared → Prop} (hh : A.handled = none) (F : Fr h₀ env.locals s.heap m) (N : News h₀ env.locals s.heap news)
    (hm : (T, ({ cls := .type "tuple", data := .seq #[x, y] c } : Obj)) ∈ news) (ha : env.kindOf a = some .local) (hb : env.kindOf b = some .local) (hp : (env.scope.kind == .class || (env.scope.kind == .module && env.locals != env.globals)) = false)
    (h : ∀ (h' : Heap) (tk : Nat), Fr h₀ env.locals h' (fun z => if z = b then some y else if z = a then some x else m z) → News h₀ env.locals h' news → Q () { s with heap := h', toks := tk }) :
    wpAny (model prog w) A (assign (.Tuple [.Name a pa, .Name b pb] kk tp) env (.ref T)) Q E s := by
  refine kcp_assign hh ⟨_, N.get hm, rfl, c, rfl⟩ ha hb hp F.ns fun h' tk hn hk => h h' tk ⟨hn, fun b' o e => hk b' o (fun q => ?_) (F.keep b' o e), F.above⟩ fun p hp' => ⟨hk _ _ (N p hp').2.1 (N p hp').1, (N p hp').2⟩
  rw [q] at e
  exact absurd (Heap.lt_size e) (Nat.not_lt.mpr F.above)
end
section
variable {w : World}
local macro_rules | `(tactic| walk_at "STEPS") => `(tactic| repeat' (first | (k_unfold; (try dsimp only)) | walk1 | (dsimp only; walk1)))
local macro_rules | `(tactic| walk_at "STEPSW") => `(tactic| repeat' ((fail_if_success (with_reducible show wpAny _ _ (exec (PySem.Stmt.While _ _ _ _) _) _ _ _)); first | (k_unfold; (try dsimp only)) | walk1 | (dsimp only; walk1)))
local macro_rules | `(tactic| k_all) => `(tactic| with_reducible assumption)
local macro_rules | `(tactic| k_mem) => `(tactic| first | with_reducible assumption | with_reducible exact List.Mem.head _ | with_reducible exact (List.mem_cons_of_mem _ (by with_reducible assumption)) | with_reducible exact (List.mem_cons_of_mem _ (List.mem_cons_of_mem _ (by with_reducible assumption))) | with_reducible exact (List.mem_cons_of_mem _ (List.mem_cons_of_mem _ (List.mem_cons_of_mem _ (by with_reducible assumption)))) | with_reducible exact (List.mem_cons_of_mem _ (List.mem_cons_of_mem _ (List.mem_cons_of_mem _ (List.mem_cons_of_mem _ (by with_reducible assumption))))) | with_reducible exact (List.mem_cons_of_mem _ (List.mem_cons_of_mem _ (List.mem_cons_of_mem _ (List.mem_cons_of_mem _ (List.mem_cons_of_mem _ (by with_reducible assumption)))))) | with_reducible exact (List.mem_cons_of_mem _ (List.mem_cons_of_mem _ (List.mem_cons_of_mem _ (List.mem_cons_of_mem _ (List.mem_cons_of_mem _ (List.mem_cons_of_mem _ (by with_reducible assumption))))))) | with_reducible exact (List.mem_cons_of_mem _ (List.mem_cons_of_mem _ (List.mem_cons_of_mem _ (List.mem_cons_of_mem _ (List.mem_cons_of_mem _ (List.mem_cons_of_mem _ (List.mem_cons_of_mem _ (by with_reducible assumption)))))))))
local macro_rules | `(tactic| walk_at "call builtin:len") => `(tactic| (k_here; (with_reducible show wpAny _ _ (call (Value.builtin "len") [Value.ref _]) _ _ _); k_dflt (refine' len_t3 ?k1 ?k2 ?_; (case k1 => k_asm); (case k2 => k_mem); k_whole)))
local macro_rules | `(tactic| walk_at "subscriptTail") => `(tactic| (k_here; (with_reducible show wpAny _ _ (subscriptTail _ _ (Value.ref _) (Value.int 1 _)) _ _ _); (with_unfolding_all refine' item_t1 ?k1 ?k2 ?_ ?k6; (case k1 => k_asm); (case k2 => k_mem); (case k6 => with_unfolding_all rfl); k_whole)))
local macro_rules | `(tactic| walk_at "subscriptTail") => `(tactic| (k_here; (with_reducible show wpAny _ _ (subscriptTail _ _ (Value.ref _) (Value.int 2 _)) _ _ _); (with_unfolding_all refine' item_t2 ?k1 ?k2 ?_ ?k6; (case k1 => k_asm); (case k2 => k_mem); (case k6 => with_unfolding_all rfl); k_whole)))
local macro_rules | `(tactic| walk_at "call builtin:list.pop") => `(tactic| (k_here; k_dflt (refine' kl_pop ?q1 ?q2 ?q3 ?q4 ?q5 ?_; (case q1 => k_asm); (case q2 => k_asm); (case q3 => exact kpa_last _ _); (case q4 => k_upd); (case q5 => (show (_ ++ [_] : List Value).length ≤ sizeLine; rw [sizeLine_eq]; omega)); intro h' F' N')))
local macro_rules | `(tactic| walk_at "call builtin:list.append") => `(tactic| (k_here; (with_reducible show wpAny _ _ (call (Value.builtin _) [Value.ref _, _]) _ _ _); k_dflt (refine' append_K ?q1 ?q2 ?q3 ?_ ?q4; (case q1 => k_asm); (case q2 => k_asm); (case q3 => k_upd); (case q4 => (rw [List.size_toArray, sizeLine_eq]; omega)); intro h' F' N')))
local macro_rules | `(tactic| walk_at "subscriptTail") => `(tactic| (k_here; (with_reducible show wpAny _ _ (subscriptTail _ _ (Value.ref _) (Value.int 0 _)) _ _ _); (with_unfolding_all refine' item_t0 ?k1 ?k2 ?_ ?k6; (case k1 => k_asm); (case k2 => k_mem); (case k6 => with_unfolding_all rfl); k_whole)))
local macro_rules | `(tactic| walk_at "call builtin:len") => `(tactic| (k_here; (with_reducible show wpAny _ _ (call (Value.builtin "len") [Value.ref _]) _ _ _); k_dflt (refine' len_c ?k1 ?k2 ?k3 ?_; (case k1 => k_asm); (case k2 => first | exact List.Mem.head _ | k_mem); (case k3 => omega); k_whole)))

set_option maxRecDepth 100000 in
set_option maxHeartbeats 400000 in
theorem leaves_does {ar : Nat} {v : Value} {t : Tr} {news : List (Addr × Obj)} (hv : DatIn news v (t.dat ar)) (hsz : t.size ≤ 1000000) :
    Does w 249 [v] 3 64 news (fun r news' => Grown news news' ∧ ∃ P LA lvs c cl h tk, r = .ref P ∧ (P, ({ cls := .type "tuple", data := .seq #[.ref LA, .int h tk] c } : Obj)) ∈ news' ∧ (LA, listOf lvs.toArray cl) ∈ news' ∧ DatAll news' lvs (t.leaves.map (Leaf.dat ar)) ∧ 0 ≤ h ∧ h ≤ t.height) := by
  unfold Does
  intro dp un gd cn cs a ccd cl outer A₀ base h₀ L m s mean mg mb Q E B F X N T hkk hd hu hret
  refine wpAny_call ?_
  k_dflt ktr_enter
  walk_at "STEPSW"
  rename_i tk0 PA _ l0 WA _ l1 LA _ l2 DD _ l3 _ _ _ _ F0 N0
  have hWL : @Ne Nat WA LA := Nat.ne_of_lt l2.1
  have g0 : Grown news ((PA, ({ cls := .type "tuple", data := .seq #[v, .int 0 tk0] } : Obj)) :: news) := Grown.one l0
  refine' ksw_while (lsLed WA LA) lsPs (LSFacts ar WA LA news) [Str.ofString "node", Str.ofString "level"] (LSP t) lsMu ⟨[.ref PA], [], 0, 0, 0, _, [(t, 0)], [], _⟩ F0 (News.sub9 N0 ls_start) ?wf ?wk ?wp ?wt ?wE
  case wf => exact ⟨g0, .cons (DatIn.tuple (.head _) (.cons (hv.mono fun p hp => .tail _ hp) (.cons (.int _ _) .nil))) .nil, .nil, ls_off0 l0 l1, ls_off1 l0 l2⟩
  case wk => intro p hp; have e := List.mem_singleton.mp hp; subst e; rfl
  case wp => exact ⟨by simp, fun p hp => by rw [List.mem_singleton.mp hp]; exact ⟨Int.le_refl _, by simp⟩, Int.le_refl _, (by show (0 : Int) ≤ _; omega), by simp [lsMu]⟩
  case wE => passes_own
  case wt =>
    k_whole
    intro c u h tk hf hp F N
    obtain ⟨ws, lvs, cw, cl, low, tl, st, ls, nw⟩ := c
    obtain ⟨hg, hW, hL, oW, oL⟩ := hf
    obtain ⟨hleaves, hst, hlo0, hlo1, hmu⟩ := hp
    simp only [lsLed, lsPs] at N F hW hL hg oW oL hleaves hst hlo0 hlo1
    have hmu' := hmu
    simp only [lsMu] at hmu
    rcases nil_or_snoc st with rfl | ⟨st', p1, rfl⟩
    · cases hW
      walk_at "STEPS"
      have hll : ls = t.leaves := by simpa using hleaves
      subst hll
      rename_i DE _ _ _ lE _ _ _ _
      refine' hret (.ref DE) ((DE, _) :: (LA, listOf lvs.toArray cl) :: nw) _ _ ?x1 (News.sub9 ?x2 ?x3) ⟨ls_fin hg l2 lE, DE, LA, lvs, _, cl, low, tl, rfl, .head _, .tail _ (.head _), hL.mono fun p hp => .tail _ (.tail _ hp), hlo0, hlo1⟩
      case x1 => k_asm
      case x2 => k_asm
      case x3 =>
        intro p hp
        rcases List.mem_cons.mp hp with rfl | hp
        · exact .head _
        · exact .tail _ (.tail _ hp)
    · rw [List.map_append] at hW
      obtain ⟨ws', x, rfl, hW', hx⟩ := DatAll.snocD hW
      obtain ⟨t1, lv1⟩ := p1
      have hl1 : (ws' ++ [x]).length = ws'.length + 1 := by rw [List.length_append]; rfl
      have hl2 := hW'.length
      have hl3 := hL.length
      rw [List.length_map] at hl2 hl3
      have hb1 := ls_len st' t1 lv1
      have hb2 : ls.length ≤ t.leaves.length := by rw [← hleaves, List.length_append]; omega
      have hb3 := Tr.leaves_size t
      cases hx with
      | @tuple P1 xs pn _ hm1 hxs =>
      cases hxs with | @cons v1 _ _ _ hv1 hxs =>
      cases hxs with | @cons v2 _ _ _ hv2 hxs =>
      cases hxs; cases hv2 with | int _ tk1 =>
      have hp1 := hst (t1, lv1) (List.mem_append.mpr (.inr (.head _)))
      dsimp only at hv1 hp1 hmu
      have offW : ∀ q ∈ (LA, listOf lvs.toArray cl) :: nw, q.1 ≠ WA := fun q hq => by
        rcases List.mem_cons.mp hq with rfl | hq
        · exact Ne.symm hWL
        · exact oW q hq
      cases t1 with
      | leaf lf =>
        obtain ⟨a1, x1, tx1, rest, n1, rfl, hm2, hne⟩ := leaf_head hv1
        walk_at "STEPS"
        k_dflt refine' kl_pop (p := ws') (y := .ref P1) ?q1 ?q2 ?q3 ?q4 ?q5 ?_
        case q1 => k_asm
        case q2 => k_asm
        case q3 => exact kpa_last _ _
        case q4 => exact Upd.head offW
        case q5 => (show (_ ++ [_] : List Value).length ≤ sizeLine; rw [sizeLine_eq]; omega)
        intro h' F' N'
        walk_at "STEPS"
        · refine' ksw_end ⟨ws', lvs ++ [.ref a1], _, _, (if lv1 > low then lv1 else low), _, st', ls ++ [lf], nw⟩ ?eF ?eN ?en ?ef ?ek ?er ?ep ?em
          case eF => k_asm
          case eN => k_asm
          case en => exact fun p hp => by simpa [lsLed, List.push_toArray] using hp
          case ek => intro p hp; have e := List.mem_singleton.mp hp; subst e; rfl
          case ef => exact ⟨hg, hW', by rw [List.map_append]; exact hL.append (.one hv1), oW, oL⟩
          case er =>
            intro z h2 h3
            have h4 : z ≠ Str.ofString "lowest" := h2 _ (.head _)
            simp only [List.contains_cons, List.contains_nil, Bool.or_false, Bool.or_eq_false_iff, beq_eq_false_iff_ne, ne_eq] at h3
            simp [h3, h4, kstB]
          case ep => exact ⟨by simpa [Tr.leaves] using hleaves, fun p hp => hst p (List.mem_append.mpr (.inl hp)), (by show (0 : Int) ≤ (if lv1 > low then lv1 else low); split <;> omega), (by show (if lv1 > low then lv1 else low) ≤ (t.height : Int); have := hp1.2; split <;> omega), (by rw [ls_mu_snoc] at hmu'; simp only [lsMu] at hmu' ⊢; omega)⟩
          case em => have hsp := Tr.size_pos (.leaf lf); rw [ls_mu_snoc]; simp only [lsMu]; omega
        · exact absurd (bne_eq_false_iff_eq.mp (by assumption)) hne
      | node ta tb =>
        unfold Tr.dat at hv1
        cases hv1 with
        | @tuple a1 vs1 n1 _ hm2 hD1 =>
        cases hD1 with | @cons w0 _ _ _ b1 hD1 =>
        cases hD1 with | @cons w1 _ _ _ b2 hD1 =>
        cases hD1 with | @cons w2 _ _ _ b3 hD1 =>
        cases hD1; cases b1 with | str _ s1 =>
        walk_at "STEPS"
        k_dflt refine' kl_pop (p := ws') (y := .ref P1) ?q1 ?q2 ?q3 ?q4 ?q5 ?_
        case q1 => k_asm
        case q2 => k_asm
        case q3 => exact kpa_last _ _
        case q4 => exact Upd.head offW
        case q5 => (show (_ ++ [_] : List Value).length ≤ sizeLine; rw [sizeLine_eq]; omega)
        intro h' F' N'
        walk_at "STEPS"
        k_dflt refine' kl_extend (l := ws' ++ [.ref _, .ref _]) ?r1 ?r2 ?r3 ?r4 ?r5 ?r6 ?r7 ?r8 ?r9 ?_
        case r1 => k_asm
        case r2 => k_asm
        case r3 => exact .head _
        case r4 => rfl
        case r5 => simp
        case r6 => exact Upd.tail (by k_ne) (Upd.tail (by k_ne) (Upd.tail (by k_ne) (Upd.head offW)))
        case r7 => exact ext_no (by omega)
        case r8 => show ws'.length ≤ sizeLine; rw [sizeLine_eq]; omega
        case r9 => show ws'.toArray.size + 2 ≤ sizeLine + 1; rw [List.size_toArray, sizeLine_eq]; omega
        intro h8 F8 N8
        walk_at "STEPS"
        exact ls_node F8 N8 rfl (fun z h1 h2 h3 => by simp [h1, h2, h3, kstB]) ⟨hg, hW', hL, oW, oL⟩ (b2) (b3) (by with_reducible assumption) (by with_reducible assumption) hWL ⟨hleaves, hst, hlo0, hlo1, hmu'⟩
end
end Mine
end

namespace Mine
theorem rstB15 : True := by
  w_top off
  exact trivial
end Mine
section
open PySem PySem.W PyProof.Rows PySem.Calls PySem.Spec PyProof.Rows.LCg
namespace Mine
def lastOf : List Stmt → Option Stmt
  | [] => none
  | [x] => some x
  | _ :: y :: r => lastOf (y :: r)
def bodyOf : Option Stmt → List Stmt
  | some (.FunctionDef _ _ body _ _ _ _ _ _ _) => body
  | _ => []
def scopeOf : Option Stmt → Scope
  | some (.FunctionDef _ _ _ _ _ _ scope _ _ _) => scope
  | _ => default
def dropS : Nat → List Stmt → List Stmt
  | 0, l => l
  | _ + 1, [] => []
  | n + 1, _ :: r => dropS n r
def lawB (n : Nat) : List Stmt := dropS n (bodyOf (lastOf PySem.Challenge.pw_rr0086_01.main.body))
def lawS : Scope := scopeOf (lastOf PySem.Challenge.pw_rr0086_01.main.body)
abbrev lawE (L fa : Addr) (cd : Value) : Env := envOfC (Str.ofString "law") lawS L fa cd
theorem kst_self {h₀ h : Heap} {L : Addr} {m : Str → Option Value} (ps : List (Str × Value)) (hk : ∀ p ∈ ps, m p.1 = some p.2) (F : Fr h₀ L h m) : Fr h₀ L h (kstB m ps) := by
  have e : kstB m ps = m := funext fun z => kstB_eq hk fun _ => rfl
  rw [e]; exact F
section
variable {prog : Program} {w : World} {A : Around} {E : Value → Shared → Prop} {s : Shared} {h₀ : Heap} {L : Addr} {news : List (Addr × Obj)} {v u : Value} {d : Dat} {Q : Value → Shared → Prop}
theorem shaped_dat (ok : kqdOk 40 d = true) : SeqAt.shaped (kqdP d) = true := by
  have l := kqd_lay 40 d ok
  unfold SeqAt.shaped
  rw [l.1, Bool.true_and]
  exact decide_eq_true (Nat.le_trans l.2 (by decide))
theorem dat_eq_same (N : News h₀ L s.heap news) (hv : DatIn news v d) (hu : DatIn news u d) (ok : kqdOk 40 d = true) (hun : A.units + 64 < cLine) (h : Q (.bool true) s) : wpAny (model prog w) A (compareOp .Eq v u) Q E s := by
  obtain ⟨as, ra⟩ := kqd_in N 40 hv ok
  obtain ⟨bs, rb⟩ := kqd_in N 40 hu ok
  exact eq_dataH ra rb (shaped_dat ok) (shaped_dat ok) hun (by rw [(kqd_eqv 40 d d 40 ok ok).mpr rfl]; exact h)
theorem dat_ne_same (N : News h₀ L s.heap news) (hv : DatIn news v d) (hu : DatIn news u d) (ok : kqdOk 40 d = true) (hun : A.units + 64 < cLine) (h : Q (.bool false) s) : wpAny (model prog w) A (compareOp .NotEq v u) Q E s := by
  obtain ⟨as, ra⟩ := kqd_in N 40 hv ok
  obtain ⟨bs, rb⟩ := kqd_in N 40 hu ok
  exact ne_dataH ra rb (shaped_dat ok) (shaped_dat ok) hun (by rw [(kqd_eqv 40 d d 40 ok ok).mpr rfl]; exact h)
end
theorem kqd_row (n ar k : Nat) : kqdOk (n + 1) (rowD ar k) = true := by
  unfold rowD rowL
  split <;> simp [kqdOk]
theorem kqd_set (n ar : Nat) (m : Int) : kqdOk (n + 2) (setD ar m) = true := by
  unfold setD
  rw [kqdOk, List.all_eq_true]
  intro d hd
  obtain ⟨k, _, rfl⟩ := List.mem_map.mp hd
  exact kqd_row n ar k
theorem kqd_leaf (n ar : Nat) (l : Leaf) : kqdOk (n + 4) (l.dat ar) = true := by
  have hs := fun (o : Int) => kqd_set n ar o
  have hs1 := fun (o : Int) => kqd_set (n + 1) ar o
  have c1 : PyData.strOk (Str.ofString "rel") = true := by decide +kernel
  have c2 : PyData.strOk (Str.ofString "none") = true := by decide +kernel
  have c3 : PyData.strOk (Str.ofString "var") = true := by decide +kernel
  have c4 : PyData.strOk (Str.ofString "x") = true := by decide +kernel
  have c5 : PyData.strOk (Str.ofString "meet") = true := by decide +kernel
  have c6 : PyData.strOk (Str.ofString "minus") = true := by decide +kernel
  have c7 : PyData.strOk (Str.ofString "univ") = true := by decide +kernel
  have c8 : PyData.strOk (Str.ofString "iden") = true := by decide +kernel
  have c9 : PyData.strOk (Str.ofString "tuples") = true := by decide +kernel
  cases l <;> simp [Leaf.dat, toldD, kqdOk, hs, hs1, c1, c2, c3, c4, c5, c6, c7, c8, c9]
theorem kqd_tree (ar : Nat) : ∀ (t : Tr) (n : Nat), kqdOk (n + 4 + t.height) (t.dat ar) = true
  | .leaf l, n => kqd_leaf n ar l
  | .node a b, n => by
    have ha := kqd_tree ar a (n + (max a.height b.height - a.height))
    have hb := kqd_tree ar b (n + (max a.height b.height - b.height))
    rw [show n + (max a.height b.height - a.height) + 4 + a.height = n + 4 + max a.height b.height by omega] at ha
    rw [show n + (max a.height b.height - b.height) + 4 + b.height = n + 4 + max a.height b.height by omega] at hb
    have c1 : PyData.strOk (Str.ofString "union") = true := by decide +kernel
    rw [Tr.height, Tr.dat, show n + 4 + (max a.height b.height + 1) = (n + 4 + max a.height b.height) + 1 by omega]
    simp [kqdOk, ha, hb, c1]
theorem kqd_tree40 (ar : Nat) (t : Tr) (h : t.height ≤ 20) : kqdOk 40 (t.dat ar) = true := by
  have e := kqd_tree ar t (36 - t.height)
  rwa [show 36 - t.height + 4 + t.height = 40 by omega] at e
end Mine
end

section
open PySem PySem.W PyProof.Rows PySem.Calls PySem.Spec PyProof.Rows.LCg Mine
local macro_rules | `(tactic| walk_at "STEPS") => `(tactic| repeat' (first | (k_unfold; (try dsimp only)) | walk1 | (dsimp only; walk1)))
local macro_rules | `(tactic| walk_at "STEPSW") => `(tactic| repeat' ((fail_if_success (with_reducible show wpAny _ _ (exec (PySem.Stmt.While _ _ _ _) _) _ _ _)); (fail_if_success (with_reducible show wpAny _ _ (execs (lawB _) _) _ _ _)); first | (k_unfold; (try dsimp only)) | walk1 | (dsimp only; walk1)))
local macro_rules | `(tactic| k_mem) => `(tactic| first | with_reducible assumption | with_reducible exact List.Mem.head _ | with_reducible exact (List.mem_cons_of_mem _ (by with_reducible assumption)) | with_reducible exact (List.mem_cons_of_mem _ (List.mem_cons_of_mem _ (by with_reducible assumption))) | with_reducible exact (List.mem_cons_of_mem _ (List.mem_cons_of_mem _ (List.mem_cons_of_mem _ (by with_reducible assumption)))) | with_reducible exact (List.mem_cons_of_mem _ (List.mem_cons_of_mem _ (List.mem_cons_of_mem _ (List.mem_cons_of_mem _ (by with_reducible assumption))))) | with_reducible exact (List.mem_cons_of_mem _ (List.mem_cons_of_mem _ (List.mem_cons_of_mem _ (List.mem_cons_of_mem _ (List.mem_cons_of_mem _ (by with_reducible assumption)))))) | with_reducible exact (List.mem_cons_of_mem _ (List.mem_cons_of_mem _ (List.mem_cons_of_mem _ (List.mem_cons_of_mem _ (List.mem_cons_of_mem _ (List.mem_cons_of_mem _ (by with_reducible assumption))))))) | with_reducible exact (List.mem_cons_of_mem _ (List.mem_cons_of_mem _ (List.mem_cons_of_mem _ (List.mem_cons_of_mem _ (List.mem_cons_of_mem _ (List.mem_cons_of_mem _ (List.mem_cons_of_mem _ (by with_reducible assumption)))))))) | with_reducible exact (List.mem_cons_of_mem _ (List.mem_cons_of_mem _ (List.mem_cons_of_mem _ (List.mem_cons_of_mem _ (List.mem_cons_of_mem _ (List.mem_cons_of_mem _ (List.mem_cons_of_mem _ (List.mem_cons_of_mem _ (by with_reducible assumption))))))))) | with_reducible exact (List.mem_cons_of_mem _ (List.mem_cons_of_mem _ (List.mem_cons_of_mem _ (List.mem_cons_of_mem _ (List.mem_cons_of_mem _ (List.mem_cons_of_mem _ (List.mem_cons_of_mem _ (List.mem_cons_of_mem _ (List.mem_cons_of_mem _ (by with_reducible assumption)))))))))) | with_reducible exact (List.mem_cons_of_mem _ (List.mem_cons_of_mem _ (List.mem_cons_of_mem _ (List.mem_cons_of_mem _ (List.mem_cons_of_mem _ (List.mem_cons_of_mem _ (List.mem_cons_of_mem _ (List.mem_cons_of_mem _ (List.mem_cons_of_mem _ (List.mem_cons_of_mem _ (by with_reducible assumption))))))))))) | with_reducible exact (List.mem_cons_of_mem _ (List.mem_cons_of_mem _ (List.mem_cons_of_mem _ (List.mem_cons_of_mem _ (List.mem_cons_of_mem _ (List.mem_cons_of_mem _ (List.mem_cons_of_mem _ (List.mem_cons_of_mem _ (List.mem_cons_of_mem _ (List.mem_cons_of_mem _ (List.mem_cons_of_mem _ (by with_reducible assumption)))))))))))) | with_reducible exact (List.mem_cons_of_mem _ (List.mem_cons_of_mem _ (List.mem_cons_of_mem _ (List.mem_cons_of_mem _ (List.mem_cons_of_mem _ (List.mem_cons_of_mem _ (List.mem_cons_of_mem _ (List.mem_cons_of_mem _ (List.mem_cons_of_mem _ (List.mem_cons_of_mem _ (List.mem_cons_of_mem _ (List.mem_cons_of_mem _ (by with_reducible assumption))))))))))))) | with_reducible exact (List.mem_cons_of_mem _ (List.mem_cons_of_mem _ (List.mem_cons_of_mem _ (List.mem_cons_of_mem _ (List.mem_cons_of_mem _ (List.mem_cons_of_mem _ (List.mem_cons_of_mem _ (List.mem_cons_of_mem _ (List.mem_cons_of_mem _ (List.mem_cons_of_mem _ (List.mem_cons_of_mem _ (List.mem_cons_of_mem _ (List.mem_cons_of_mem _ (by with_reducible assumption)))))))))))))) | with_reducible exact (List.mem_cons_of_mem _ (List.mem_cons_of_mem _ (List.mem_cons_of_mem _ (List.mem_cons_of_mem _ (List.mem_cons_of_mem _ (List.mem_cons_of_mem _ (List.mem_cons_of_mem _ (List.mem_cons_of_mem _ (List.mem_cons_of_mem _ (List.mem_cons_of_mem _ (List.mem_cons_of_mem _ (List.mem_cons_of_mem _ (List.mem_cons_of_mem _ (List.mem_cons_of_mem _ (by with_reducible assumption))))))))))))))) | with_reducible exact (List.mem_cons_of_mem _ (List.mem_cons_of_mem _ (List.mem_cons_of_mem _ (List.mem_cons_of_mem _ (List.mem_cons_of_mem _ (List.mem_cons_of_mem _ (List.mem_cons_of_mem _ (List.mem_cons_of_mem _ (List.mem_cons_of_mem _ (List.mem_cons_of_mem _ (List.mem_cons_of_mem _ (List.mem_cons_of_mem _ (List.mem_cons_of_mem _ (List.mem_cons_of_mem _ (List.mem_cons_of_mem _ (by with_reducible assumption)))))))))))))))) | with_reducible exact (List.mem_cons_of_mem _ (List.mem_cons_of_mem _ (List.mem_cons_of_mem _ (List.mem_cons_of_mem _ (List.mem_cons_of_mem _ (List.mem_cons_of_mem _ (List.mem_cons_of_mem _ (List.mem_cons_of_mem _ (List.mem_cons_of_mem _ (List.mem_cons_of_mem _ (List.mem_cons_of_mem _ (List.mem_cons_of_mem _ (List.mem_cons_of_mem _ (List.mem_cons_of_mem _ (List.mem_cons_of_mem _ (List.mem_cons_of_mem _ (by with_reducible assumption))))))))))))))))) | with_reducible exact (List.mem_cons_of_mem _ (List.mem_cons_of_mem _ (List.mem_cons_of_mem _ (List.mem_cons_of_mem _ (List.mem_cons_of_mem _ (List.mem_cons_of_mem _ (List.mem_cons_of_mem _ (List.mem_cons_of_mem _ (List.mem_cons_of_mem _ (List.mem_cons_of_mem _ (List.mem_cons_of_mem _ (List.mem_cons_of_mem _ (List.mem_cons_of_mem _ (List.mem_cons_of_mem _ (List.mem_cons_of_mem _ (List.mem_cons_of_mem _ (List.mem_cons_of_mem _ (by with_reducible assumption)))))))))))))))))) | with_reducible exact (List.mem_cons_of_mem _ (List.mem_cons_of_mem _ (List.mem_cons_of_mem _ (List.mem_cons_of_mem _ (List.mem_cons_of_mem _ (List.mem_cons_of_mem _ (List.mem_cons_of_mem _ (List.mem_cons_of_mem _ (List.mem_cons_of_mem _ (List.mem_cons_of_mem _ (List.mem_cons_of_mem _ (List.mem_cons_of_mem _ (List.mem_cons_of_mem _ (List.mem_cons_of_mem _ (List.mem_cons_of_mem _ (List.mem_cons_of_mem _ (List.mem_cons_of_mem _ (List.mem_cons_of_mem _ (by with_reducible assumption))))))))))))))))))) | with_reducible exact (List.mem_cons_of_mem _ (List.mem_cons_of_mem _ (List.mem_cons_of_mem _ (List.mem_cons_of_mem _ (List.mem_cons_of_mem _ (List.mem_cons_of_mem _ (List.mem_cons_of_mem _ (List.mem_cons_of_mem _ (List.mem_cons_of_mem _ (List.mem_cons_of_mem _ (List.mem_cons_of_mem _ (List.mem_cons_of_mem _ (List.mem_cons_of_mem _ (List.mem_cons_of_mem _ (List.mem_cons_of_mem _ (List.mem_cons_of_mem _ (List.mem_cons_of_mem _ (List.mem_cons_of_mem _ (List.mem_cons_of_mem _ (by with_reducible assumption)))))))))))))))))))) | with_reducible exact (List.mem_cons_of_mem _ (List.mem_cons_of_mem _ (List.mem_cons_of_mem _ (List.mem_cons_of_mem _ (List.mem_cons_of_mem _ (List.mem_cons_of_mem _ (List.mem_cons_of_mem _ (List.mem_cons_of_mem _ (List.mem_cons_of_mem _ (List.mem_cons_of_mem _ (List.mem_cons_of_mem _ (List.mem_cons_of_mem _ (List.mem_cons_of_mem _ (List.mem_cons_of_mem _ (List.mem_cons_of_mem _ (List.mem_cons_of_mem _ (List.mem_cons_of_mem _ (List.mem_cons_of_mem _ (List.mem_cons_of_mem _ (List.mem_cons_of_mem _ (by with_reducible assumption))))))))))))))))))))) | with_reducible exact (List.mem_cons_of_mem _ (List.mem_cons_of_mem _ (List.mem_cons_of_mem _ (List.mem_cons_of_mem _ (List.mem_cons_of_mem _ (List.mem_cons_of_mem _ (List.mem_cons_of_mem _ (List.mem_cons_of_mem _ (List.mem_cons_of_mem _ (List.mem_cons_of_mem _ (List.mem_cons_of_mem _ (List.mem_cons_of_mem _ (List.mem_cons_of_mem _ (List.mem_cons_of_mem _ (List.mem_cons_of_mem _ (List.mem_cons_of_mem _ (List.mem_cons_of_mem _ (List.mem_cons_of_mem _ (List.mem_cons_of_mem _ (List.mem_cons_of_mem _ (List.mem_cons_of_mem _ (by with_reducible assumption)))))))))))))))))))))) | with_reducible exact (List.mem_cons_of_mem _ (List.mem_cons_of_mem _ (List.mem_cons_of_mem _ (List.mem_cons_of_mem _ (List.mem_cons_of_mem _ (List.mem_cons_of_mem _ (List.mem_cons_of_mem _ (List.mem_cons_of_mem _ (List.mem_cons_of_mem _ (List.mem_cons_of_mem _ (List.mem_cons_of_mem _ (List.mem_cons_of_mem _ (List.mem_cons_of_mem _ (List.mem_cons_of_mem _ (List.mem_cons_of_mem _ (List.mem_cons_of_mem _ (List.mem_cons_of_mem _ (List.mem_cons_of_mem _ (List.mem_cons_of_mem _ (List.mem_cons_of_mem _ (List.mem_cons_of_mem _ (List.mem_cons_of_mem _ (by with_reducible assumption))))))))))))))))))))))) | with_reducible exact (List.mem_cons_of_mem _ (List.mem_cons_of_mem _ (List.mem_cons_of_mem _ (List.mem_cons_of_mem _ (List.mem_cons_of_mem _ (List.mem_cons_of_mem _ (List.mem_cons_of_mem _ (List.mem_cons_of_mem _ (List.mem_cons_of_mem _ (List.mem_cons_of_mem _ (List.mem_cons_of_mem _ (List.mem_cons_of_mem _ (List.mem_cons_of_mem _ (List.mem_cons_of_mem _ (List.mem_cons_of_mem _ (List.mem_cons_of_mem _ (List.mem_cons_of_mem _ (List.mem_cons_of_mem _ (List.mem_cons_of_mem _ (List.mem_cons_of_mem _ (List.mem_cons_of_mem _ (List.mem_cons_of_mem _ (List.mem_cons_of_mem _ (by with_reducible assumption)))))))))))))))))))))))))
local macro_rules | `(tactic| walk_at "STEPS7") => `(tactic| repeat' ((fail_if_success (with_reducible show LCp.SrcLP _ _ _ _ _ _ _ _ _ _ _ _ _ _ _)); (fail_if_success (with_reducible show wpAny _ _ (call (Value.type _) _) _ _ _)); (fail_if_success (with_reducible show wpAny _ _ (call (Value.ref _) _) _ _ _)); (fail_if_success (with_reducible show wpAny _ _ (execs [PySem.Stmt.If _ _ _ _, PySem.Stmt.Assign _ _ _, PySem.Stmt.Return _ _] _) _ _ _)); (fail_if_success (with_reducible show wpAny _ _ (compareOp CmpOp.NotEq _ _) _ _ _)); first | (k_unfold; (try dsimp only)) | walk1 | (dsimp only; walk1)))
local macro_rules | `(tactic| walk_at "STEPS6") => `(tactic| repeat' ((fail_if_success (with_reducible show wpAny _ _ (execs [PySem.Stmt.Assign _ _ _, PySem.Stmt.Assign _ _ _, PySem.Stmt.Assign _ _ _, PySem.Stmt.Assign _ _ _, PySem.Stmt.If _ _ _ _, PySem.Stmt.If _ _ _ _, PySem.Stmt.Assign _ _ _, PySem.Stmt.Return _ _] _) _ _ _)); first | (k_unfold; (try dsimp only)) | walk1 | (dsimp only; walk1)))
local macro_rules | `(tactic| walk_at "STEPS5") => `(tactic| repeat' ((fail_if_success (with_reducible show wpAny _ _ (execs (PySem.Stmt.While _ _ _ _ :: _) _) _ _ _)); (fail_if_success (with_reducible show wpAny _ _ (pyIter (Value.ref _)) _ _ _)); (fail_if_success (with_reducible show wpAny _ _ (call (Value.ref _) _) _ _ _)); (fail_if_success (with_reducible show wpAny _ _ (call (Value.builtin "list.append") _) _ _ _)); first | (k_unfold; (try dsimp only)) | walk1 | (dsimp only; walk1)))
local macro_rules | `(tactic| walk_at "STEPS5B") => `(tactic| repeat' ((fail_if_success (with_reducible show InvEndG _ _ _ _ _ _)); (fail_if_success (with_reducible show wpAny _ _ (subscriptTail _ _ (Value.ref _) (Value.int _ _)) _ _ _)); first | (k_unfold; (try dsimp only)) | walk1 | (dsimp only; walk1)))

namespace Mine
theorem rstC13 : True := by
  w_top off
  exact trivial
end Mine
section
open PySem PySem.W PyProof.Rows PySem.Calls PySem.Spec PyProof.Rows.LCg
namespace Mine
def Jmask (ar : Nat) (ms : List Int) (base : List (Addr × Obj)) (i : Nat) (ys : List Value) (nw : List (Addr × Obj)) : Prop :=
  Grown base nw ∧ DatAll nw ys ((ms.take i).map (setD ar)) ∧ ys.length ≤ i
theorem Jmask.zero (ar : Nat) (ms : List Int) (base : List (Addr × Obj)) : Jmask ar ms base 0 [] base := ⟨Grown.refl _, by simpa using DatAll.nil, Nat.le_refl _⟩
theorem jmask_end {h₀ h' : Heap} {L I C D P : Addr} {m : Str → Option Value} {s₁ : Shared} {oI oC oD : Obj} {ar i c tk : Nat} {ms : List Int} {rs ys : List Value} {mask : Int} {news nw : List (Addr × Obj)} {S : List (Addr × Obj) → Prop}
    (F : Fr h₀ L h' m) (N : News h₀ L h' ((P, tupOf (kept (bitK mask) 0 rs) c) :: (I, oI) :: (C, oC) :: (D, oD) :: nw)) (l1 : I < P ∧ C < P ∧ D < P ∧ AllLt P nw) (hJ : Jmask ar ms news i ys nw) (hRD : DatAll news rs ((List.range 4).map (rowD ar))) (hi : ms[i]? = some mask) (off : Off3 I C D nw)
    (hS : ∀ q, Grown news q → S q) :
    CompEnd h₀ L m s₁ I oI C oC D oD S (fun y news' => Jmask ar ms news (i + 1) (ys ++ [y]) news') (.ref P) { s₁ with heap := h', toks := tk } := by
  obtain ⟨g1, hda, hyl⟩ := hJ
  obtain ⟨l2, l3, l4, l5⟩ := l1
  have g' : Grown news ((P, tupOf (kept (bitK mask) 0 rs) c) :: nw) := g1.trans (Grown.one fun q hq => ktn_ltOf l5 q hq)
  refine CompEnd.intro F N ((P, tupOf (kept (bitK mask) 0 rs) c) :: nw) (fun p hp => ?_) ⟨⟨Nat.ne_of_gt l2, Nat.ne_of_gt l3, Nat.ne_of_gt l4⟩, off⟩ (hS _ g') ⟨g', ?_, by rw [List.length_append, List.length_singleton]; omega⟩
  · simp only [List.mem_cons] at hp ⊢
    rcases hp with h | h | h | h | h <;> simp [h]
  · rw [List.take_add_one, hi, List.map_append]
    exact (hda.mono fun p hp => .tail _ hp).append (.one (DatIn.tuple (.head _) ((kept_set (hRD.mono g1.sub)).mono fun p hp => .tail _ hp)))
theorem ms4 {a0 a1 a2 a3 : Int} (h0 : Rng a0) (h1 : Rng a1) (h2 : Rng a2) (h3 : Rng a3) : MsOk [a0, a1, a2, a3] := fun k => by
  match k with
  | 0 => exact h0
  | 1 => exact h1
  | 2 => exact h2
  | 3 => exact h3
  | n + 4 => exact ⟨(by decide : (0 : Int) ≤ 0), (by decide : (0 : Int) < 16)⟩
theorem eq_set {news : List (Addr × Obj)} {v : Value} {ar : Nat} {a b : Int} (h : setK a = setK b) (hv : DatIn news v (setD ar a)) : DatIn news v (setD ar b) := by
  unfold setD at hv ⊢; rw [← h]; exact hv
theorem three {a0 a1 a2 : Int} {t0 t1 t2 : Tok} {i : Nat} {v : Value} (h : #[Value.int a0 t0, .int a1 t1, .int a2 t2][i]? = some v) (h00 : 0 ≤ a0) (h01 : a0 < 16) (h10 : 0 ≤ a1) (h11 : a1 < 16) (h20 : 0 ≤ a2) (h21 : a2 < 16) :
    ∃ a t, v = .int a t ∧ [a0, a1, a2][i]? = some a ∧ 0 ≤ a ∧ a < 16 := by
  match i, h with
  | 0, h => cases h; exact ⟨_, _, rfl, rfl, h00, h01⟩
  | 1, h => cases h; exact ⟨_, _, rfl, rfl, h10, h11⟩
  | 2, h => cases h; exact ⟨_, _, rfl, rfl, h20, h21⟩
  | n + 3, h => simp at h
section
variable {w : World}
local macro_rules | `(tactic| walk_at "eval ListComp") => `(tactic| (k_here; (with_reducible show wpAny _ _ (eval (PySem.Expr.ListComp _ [⟨PySem.Expr.Name _ _, _, [], _⟩] _ _) _) _ _ _); k_dflt (refine LCg.ListComp_U (F₀ := by k_asm) (by with_unfolding_all rfl) (by decide) (by rfl) (by decide) (by rfl) ?_)))
local macro_rules | `(tactic| walk_at "STEPSC") => `(tactic| repeat' ((fail_if_success (with_reducible show LCg.CompSrc _ _ _ _ _ _ _ _ _ _ _ _ _ _)); first | (k_unfold; (try dsimp only)) | walk1 | (dsimp only; walk1)))
local macro_rules | `(tactic| walk_at "subscriptTail") => `(tactic| (k_here; (try dsimp only); (with_reducible show wpAny _ _ (subscriptTail _ _ (Value.ref _) (Value.int 3 _)) _ _ _); (with_unfolding_all refine' item_v (us := [_, _, _, _]) ?k1 ?k2 ?k3 ?k4 ?k5 ?_ ?k6; (case k1 => k_asm); (case k2 => k_mem); (case k3 => exact rfl); (case k4 => decide); (case k5 => decide); (case k6 => with_unfolding_all rfl); k_whole)))
local macro_rules | `(tactic| walk_at "STEPS1") => `(tactic| repeat' ((fail_if_success (with_reducible show wpAny _ _ (call (Value.ref 171) _) _ _ _)); first | (k_unfold; (try dsimp only)) | walk1 | (dsimp only; walk1)))
local macro_rules | `(tactic| walk_at "STEPSQ") => `(tactic| repeat' ((fail_if_success (with_reducible show wpAny _ _ (compareOp CmpOp.Eq _ (Value.ref _)) _ _ _)); first | (k_unfold; (try dsimp only)) | walk1 | (dsimp only; walk1)))
local macro_rules | `(tactic| walk_at "call ref") => `(tactic| (k_here; (with_reducible show wpAny _ _ (call (Value.ref 228) _) _ _ _); k_dflt (refine' Does.use (told_does ?m1 ?m2 ?m3 ?m4) ?k1 ?k2 ?k3 ?k4 ?k5 ?kK ?kd ?ku ?_; (case k4 => k_asm); (case k1 => k_asm); (case k2 => k_asm); (case k3 => k_asm); (case m1 => k_mem); (case m2 => assumption); (case m3 => omega); (case m4 => omega); (case k5 => k_asm); (case kK => first | exact rfl | assumption); (case kd => first | k_room | ktr_room); (case ku => first | ktr_units | decide); (intro r9 nw9 h9 tk9 F9 N9 P9; obtain ⟨TT, tc, e9, e8, l1⟩ := P9; subst e9; subst e8; (try k_lt l1); (try dsimp only); (try k_fold)))))

set_option maxRecDepth 100000 in
set_option maxHeartbeats 1000000 in
theorem st13 {L fa : Addr} {cd : Value} {s : Shared} {h₀ : Heap} {Q : Flow → Shared → Prop} {E : Value → Shared → Prop} {mean : ExcName → Option Value} {mg mb m0 : Str → Option Value} {news : List (Addr × Obj)} {oR : Obj} {R M : Addr} {rn mn ar : Nat} {rs : List Value} {tv : Value} {W a0 a1 a2 a3 : Int} {ta tw t0 t1 t2 t3 : Tok} {t : Tr}
    (B : Below callerA h₀ [] h₀) (F : Fr h₀ L s.heap (kstB m0 [(Str.ofString "arity", .int (ar : Int) ta), (Str.ofString "masks", .ref M), (Str.ofString "tree", tv), (Str.ofString "whole", .int W tw)])) (X : (Mine.hd.heap_1 w.params).In h₀) (N : News h₀ L s.heap ((L + 1 + 1, oR) :: news)) (T : Top Mine.hd.view_1 (looseW Mine.hd.view_1 [Str.ofString "set_of_sets"]) mean mg mb h₀)
    (hoR : oR.data = .cell (some (.ref R))) (hR : (R, listOf rs.toArray rn) ∈ news) (hRD : DatAll news rs ((List.range 4).map (rowD ar))) (h4 : rs.length = 4) (hM : (M, listOf #[.int a0 t0, .int a1 t1, .int a2 t2, .int a3 t3] mn) ∈ news)
    (h00 : 0 ≤ a0) (h01 : a0 < 16) (h10 : 0 ≤ a1) (h11 : a1 < 16) (h20 : 0 ≤ a2) (h21 : a2 < 16) (h30 : 0 ≤ a3) (h31 : a3 < 16) (hW0 : 0 ≤ W) (hW1 : W < 16) (har : ar = 1 ∨ ar = 2)
    (htv : DatIn news tv (t.dat ar)) (hok : ∀ l ∈ t.leaves, l.Ok ar) (hth : t.height ≤ 20) (hWt : setK (t.mask [a0, a1, a2, a3]) = setK W)
    (fin : ∀ h' m' tk', Fr h₀ L h' m' → Q (.ret (.bool true)) { s with heap := h', toks := tk' }) :
    wpAny (model PySem.Challenge.rw_rr0086_01.row.prog w) (callerA.deeper (lawE L fa cd)) (execs (lawB 13) (lawE L fa cd)) Q E s := by
  have hms : MsOk [a0, a1, a2, a3] := ms4 ⟨h00, h01⟩ ⟨h10, h11⟩ ⟨h20, h21⟩ ⟨h30, h31⟩
  simp only [lawB, lawE, lawS, PySem.Challenge.pw_rr0086_01, lastOf, bodyOf, scopeOf, dropS]
  rcases har with rfl | rfl
  · walk_at "STEPSC"
    rename News _ _ _ (_ :: _) => N1
    rename Fr _ _ _ (kstB _ _) => F1
    k_dflt refine' LCg.CompSrc.ledger (its := #[.int a0 t0, .int a1 t1, .int a2 t2]) rfl ?cF ?cN ?cm ?cs fun g => rest_J (Jmask 1 [a0, a1, a2] _) 3 ?cT ?cE 3 0 [] _ (Nat.zero_add _) (Jmask.zero _ _ _)
    case cF => k_asm
    case cN => k_asm
    case cm => exact .head _
    case cs => (show 3 ≤ sizeLine; rw [sizeLine_eq]; omega)
    case cT =>
      intro i ys nw v I oI C oC D m₂ h tk E' hi hJ hP hC hx F N off ne
      obtain ⟨mk, tmk, rfl, hmk, hm0, hm1⟩ := three hP h00 h01 h10 h11 h20 h21
      have g1 := hJ.1
      have hcR := g1.sub _ (.tail _ (.head _))
      have hR1 := g1.sub _ (.tail _ (.tail _ hR))
      walk_at "STEPS"
      exact jmask_end (by k_asm) (by k_asm) (by assumption) hJ (hRD.mono fun p hp => .tail _ (.tail _ hp)) hmk off fun q hq => .inr ⟨_, hq.sub _ (.head _), rfl, _, rfl⟩
    intro ys nw hJ
    obtain ⟨g1, hda, hyl⟩ := hJ
    cases hda with | @cons u0 _ _ _ e0 hda =>
    cases hda with | @cons u1 _ _ _ e1 hda =>
    cases hda with | @cons u2 _ _ _ e2 hda =>
    cases hda
    have hcR := g1.sub _ (.tail _ (.head _))
    have hR1 := g1.sub _ (.tail _ (.tail _ hR))
    have hM1 := g1.sub _ (.tail _ (.tail _ hM))
    have htv1 := htv.mono fun p hp => g1.sub _ (.tail _ (.tail _ hp))
    have hRD1 := hRD.mono fun p hp => g1.sub _ (.tail _ (.tail _ hp))
    clear N1 F1 g1
    walk_at "STEPS1"
    refine' Does.use (ev_tree (ms := [a0, a1, a2, a3]) hms hok _ _ ?hE (htv1.mono ?hT)) ?k1 ?k2 ?k3 ?k4 ?k5 ?kK ?kd ?ku ?_
    case k4 => k_asm
    case k1 => k_asm
    case k2 => k_asm
    case k3 => k_asm
    case hE => exact ⟨_, _, _, _, _, _, _, _, _, _, _, _, _, _, u0, u1, u2, _, .tail _ (.tail _ (.head _)), .tail _ (.tail _ (.tail _ (.head _))), .tail _ (.tail _ (.tail _ (.tail _ (.head _)))), .tail _ (.head _), (by assumption), e0.mono fun p hp => .tail _ (.tail _ (.tail _ (.tail _ (.tail _ hp)))), e1.mono fun p hp => .tail _ (.tail _ (.tail _ (.tail _ (.tail _ hp)))), e2.mono fun p hp => .tail _ (.tail _ (.tail _ (.tail _ (.tail _ hp)))), DatIn.tuple (.head _) (kept_set (hRD1.mono fun p hp => .tail _ (.tail _ (.tail _ (.tail _ (.tail _ hp)))))), (fun h => by first | rfl | (cases h)), (fun h => by first | rfl | (cases h))⟩
    case hT => exact fun p hp => .tail _ (.tail _ (.tail _ (.tail _ (.tail _ hp))))
    case k5 => k_asm
    case kK => first | exact rfl | assumption
    case kd => first | k_room | ktr_room
    case ku => first | ktr_units | decide
    intro r9 nw9 h9 tk9 F9 N9 P9
    obtain ⟨g9, d9⟩ := P9
    have sb : ∀ p ∈ nw, p ∈ nw9 := fun p hp => g9.sub _ (.tail _ (.tail _ (.tail _ (.tail _ (.tail _ hp)))))
    have hcR2 := sb _ hcR
    have hR2 := sb _ hR1
    have hRD2 := hRD1.mono sb
    clear g9
    (try dsimp only)
    walk_at "STEPSQ"
    rename ∀ q ∈ nw9, q.1 < _ => l9
    k_dflt refine' dat_eq_same (d := setD 1 W) ?j1 ?j2 ?j3 (kqd_set 38 1 W) ?j4 ?_
    case j1 => k_asm
    case j2 => exact (eq_set hWt d9).mono fun p hp => .tail _ hp
    case j3 => exact DatIn.tuple (.head _) (kept_set (hRD2.mono fun p hp => .tail _ hp))
    case j4 => first | decide | ktr_units
    k_whole
    walk_at "STEPS"
    exact fin _ _ _ (by k_asm)
  · walk_at "STEPSC"
    rename News _ _ _ (_ :: _) => N1
    rename Fr _ _ _ (kstB _ _) => F1
    k_dflt refine' LCg.CompSrc.ledger (its := #[.int a0 t0, .int a1 t1, .int a2 t2]) rfl ?cFb ?cNb ?cmb ?csb fun g => rest_J (Jmask 2 [a0, a1, a2] _) 3 ?cTb ?cEb 3 0 [] _ (Nat.zero_add _) (Jmask.zero _ _ _)
    case cFb => k_asm
    case cNb => k_asm
    case cmb => exact .head _
    case csb => (show 3 ≤ sizeLine; rw [sizeLine_eq]; omega)
    case cTb =>
      intro i ys nw v I oI C oC D m₂ h tk E' hi hJ hP hC hx F N off ne
      obtain ⟨mk, tmk, rfl, hmk, hm0, hm1⟩ := three hP h00 h01 h10 h11 h20 h21
      have g1 := hJ.1
      have hcR := g1.sub _ (.tail _ (.head _))
      have hR1 := g1.sub _ (.tail _ (.tail _ hR))
      walk_at "STEPS"
      exact jmask_end (by k_asm) (by k_asm) (by assumption) hJ (hRD.mono fun p hp => .tail _ (.tail _ hp)) hmk off fun q hq => .inr ⟨_, hq.sub _ (.head _), rfl, _, rfl⟩
    intro ys nw hJ
    obtain ⟨g1, hda, hyl⟩ := hJ
    cases hda with | @cons u0 _ _ _ e0 hda =>
    cases hda with | @cons u1 _ _ _ e1 hda =>
    cases hda with | @cons u2 _ _ _ e2 hda =>
    cases hda
    have hcR := g1.sub _ (.tail _ (.head _))
    have hR1 := g1.sub _ (.tail _ (.tail _ hR))
    have hM1 := g1.sub _ (.tail _ (.tail _ hM))
    have htv1 := htv.mono fun p hp => g1.sub _ (.tail _ (.tail _ hp))
    have hRD1 := hRD.mono fun p hp => g1.sub _ (.tail _ (.tail _ hp))
    clear N1 F1 g1
    walk_at "STEPS1"
    refine' Does.use (ev_tree (ms := [a0, a1, a2, a3]) hms hok _ _ ?hEb (htv1.mono ?hTb)) ?k1b ?k2b ?k3b ?k4b ?k5b ?kKb ?kdb ?kub ?_
    case k4b => k_asm
    case k1b => k_asm
    case k2b => k_asm
    case k3b => k_asm
    case hEb => exact ⟨_, _, _, _, _, _, _, _, _, _, _, _, _, _, u0, u1, u2, _, .tail _ (.tail _ (.head _)), .tail _ (.tail _ (.tail _ (.head _))), .tail _ (.tail _ (.tail _ (.tail _ (.head _)))), .tail _ (.head _), (by assumption), e0.mono fun p hp => .tail _ (.tail _ (.tail _ (.tail _ (.tail _ hp)))), e1.mono fun p hp => .tail _ (.tail _ (.tail _ (.tail _ (.tail _ hp)))), e2.mono fun p hp => .tail _ (.tail _ (.tail _ (.tail _ (.tail _ hp)))), DatIn.tuple (.head _) (kept_set (hRD1.mono fun p hp => .tail _ (.tail _ (.tail _ (.tail _ (.tail _ hp)))))), (fun h => by first | rfl | (cases h)), (fun h => by first | rfl | (cases h))⟩
    case hTb => exact fun p hp => .tail _ (.tail _ (.tail _ (.tail _ (.tail _ hp))))
    case k5b => k_asm
    case kKb => first | exact rfl | assumption
    case kdb => first | k_room | ktr_room
    case kub => first | ktr_units | decide
    intro r9 nw9 h9 tk9 F9 N9 P9
    obtain ⟨g9, d9⟩ := P9
    have sb : ∀ p ∈ nw, p ∈ nw9 := fun p hp => g9.sub _ (.tail _ (.tail _ (.tail _ (.tail _ (.tail _ hp)))))
    have hcR2 := sb _ hcR
    have hR2 := sb _ hR1
    have hRD2 := hRD1.mono sb
    clear g9
    (try dsimp only)
    walk_at "STEPSQ"
    rename ∀ q ∈ nw9, q.1 < _ => l9
    k_dflt refine' dat_eq_same (d := setD 2 W) ?j1b ?j2b ?j3b (kqd_set 38 2 W) ?j4b ?_
    case j1b => k_asm
    case j2b => exact (eq_set hWt d9).mono fun p hp => .tail _ hp
    case j3b => exact DatIn.tuple (.head _) (kept_set (hRD2.mono fun p hp => .tail _ hp))
    case j4b => first | decide | ktr_units
    k_whole
    walk_at "STEPS"
    exact fin _ _ _ (by k_asm)
end
end Mine
end

namespace Mine
theorem rstC12 : True := by
  w_top off
  exact trivial
end Mine
section
open PySem PySem.W PyProof.Rows PySem.Calls PySem.Spec PyProof.Rows.LCg
namespace Mine
def combT (t : Tr) (ls : List Leaf) : Tr := ls.foldl (fun t l => .node t (.leaf l)) t
theorem comb_eq {l1 : Leaf} {lr : List Leaf} (h : (l1 :: lr).length < 4) : build 8 (l1 :: lr) = combT (.leaf l1) lr := by
  match lr, h with
  | [], _ => simp [build, combT]
  | [a], _ => simp [build, combT]
  | [a, b], _ => simp [build, combT]
  | _ :: _ :: _ :: _, h => simp only [List.length_cons] at h; omega
def Jcomb (ar : Nat) (l1 : Leaf) (lr : List Leaf) (mC : Str → Option Value) (base : List (Addr × Obj)) (i : Nat) (m' : Str → Option Value) (nx : List (Addr × Obj)) : Prop :=
  (∃ cv, m' (Str.ofString "comb") = some cv ∧ DatIn nx cv ((combT (.leaf l1) (lr.take i)).dat ar)) ∧ (∀ z, z ≠ Str.ofString "comb" → z ≠ Str.ofString "expr" → m' z = mC z) ∧ (∀ p ∈ base, p ∈ nx)
theorem comb_end {h₀ h' : Heap} {L P : Addr} {s₁ : Shared} {ar i c tk : Nat} {l1 : Leaf} {lr : List Leaf} {m₁ m' mC : Str → Option Value} {base nx own : List (Addr × Obj)} {t : Tok} {cv v : Value} {yr : List Value} {q : Addr × Obj}
    (F : Fr h₀ L h' m') (N : News h₀ L h' ((P, ({ cls := .type "tuple", data := .seq #[.str (Str.ofString "union") t, cv, v] c } : Obj)) :: (nx ++ own))) (lP : ∀ q ∈ nx ++ own, q.1 < P) (hoff : OwnOff own (nx.map (·.1))) (hcv' : m' (Str.ofString "comb") = some (.ref P))
    (hm' : ∀ z, z ≠ Str.ofString "comb" → z ≠ Str.ofString "expr" → m' z = m₁ z) (hJ : (∃ cv', m₁ (Str.ofString "comb") = some cv' ∧ DatIn nx cv ((combT (.leaf l1) (lr.take i)).dat ar)) ∧ (∀ z, z ≠ Str.ofString "comb" → z ≠ Str.ofString "expr" → m₁ z = mC z) ∧ (∀ p ∈ base, p ∈ nx))
    (hv : yr[i]? = some v) (hyr : DatAll nx yr (lr.map (Leaf.dat ar))) (hq : q ∈ base) :
    InvEndG h₀ L (fun m' nx => q ∈ nx ∧ Jcomb ar l1 lr mC base (i + 1) m' nx) own s₁ { s₁ with heap := h', toks := tk } := by
  obtain ⟨⟨cv', _, hcd⟩, hm, hb⟩ := hJ
  have hi : i < yr.length := (List.getElem?_eq_some_iff.mp hv).1
  have hyl : yr.length = lr.length := by have := hyr.length; rwa [List.length_map] at this
  have hil : i < lr.length := by omega
  obtain ⟨v', hv', hd⟩ := hyr.get (k := i) (by rw [List.length_map]; exact hil)
  rw [hv] at hv'
  cases hv'
  have hd' : DatIn nx v (lr[i].dat ar) := by simpa using hd
  refine InvEndG.intro (nx := (P, ({ cls := .type "tuple", data := .seq #[.str (Str.ofString "union") t, cv, v] c } : Obj)) :: nx) F N ⟨.tail _ (hb _ hq), ⟨.ref P, hcv', ?_⟩, fun z h1 h2 => (hm' z h1 h2).trans (hm z h1 h2), fun p hp => .tail _ (hb p hp)⟩ ?_ ?_ ?_
  · have e : combT (.leaf l1) (lr.take (i + 1)) = .node (combT (.leaf l1) (lr.take i)) (.leaf lr[i]) := by
      unfold combT
      rw [List.take_add_one, List.getElem?_eq_getElem hil, List.foldl_append]; rfl
    rw [e, Tr.dat]
    exact DatIn.tuple (.head _) (.cons (.str _ _) (.cons (hcd.mono fun p hp => .tail _ hp) (.cons (hd'.mono fun p hp => .tail _ hp) .nil)))
  · intro p hp b hb'
    rw [List.map_cons] at hb'
    rcases List.mem_cons.mp hb' with rfl | hb'
    · exact Nat.ne_of_lt (lP p (List.mem_append.mpr (.inr hp)))
    · exact hoff p hp b hb'
  · intro p hp
    rcases List.mem_cons.mp hp with rfl | hp
    · exact .head _
    · exact .tail _ (List.mem_append.mpr (.inl hp))
  · exact fun p hp => .tail _ (List.mem_append.mpr (.inr hp))
theorem kst_l2 {m : Str → Option Value} {x1 x2 : Str} {v1 v2 : Value} (h1 : m x1 = some v1) (h2 : m x2 = some v2) : ∀ p ∈ [(x1, v1), (x2, v2)], m p.1 = some p.2 := fun p hp => by
  simp only [List.mem_cons, List.not_mem_nil, or_false] at hp
  rcases hp with rfl | rfl
  · exact h1
  · exact h2
theorem kst_l5 {m : Str → Option Value} {x1 x2 x3 x4 x5 : Str} {v1 v2 v3 v4 v5 : Value} (h1 : m x1 = some v1) (h2 : m x2 = some v2) (h3 : m x3 = some v3) (h4 : m x4 = some v4) (h5 : m x5 = some v5) : ∀ p ∈ [(x1, v1), (x2, v2), (x3, v3), (x4, v4), (x5, v5)], m p.1 = some p.2 := fun p hp => by
  simp only [List.mem_cons, List.not_mem_nil, or_false] at hp
  rcases hp with rfl | rfl | rfl | rfl | rfl
  · exact h1
  · exact h2
  · exact h3
  · exact h4
  · exact h5
theorem pick_tail {y : Value} {yr : List Value} : kms_pick (y :: yr).toArray.toList (some 1) none = yr := by
  rw [pick_loA (by decide) (by rw [List.length_cons]; omega)]; rfl
theorem kst_l4 {m : Str → Option Value} {x1 x2 x3 x4 : Str} {v1 v2 v3 v4 : Value} (h1 : m x1 = some v1) (h2 : m x2 = some v2) (h3 : m x3 = some v3) (h4 : m x4 = some v4) : ∀ p ∈ [(x1, v1), (x2, v2), (x3, v3), (x4, v4)], m p.1 = some p.2 := fun p hp => by
  simp only [List.mem_cons, List.not_mem_nil, or_false] at hp
  rcases hp with rfl | rfl | rfl | rfl
  · exact h1
  · exact h2
  · exact h3
  · exact h4
section
variable {w : World}
local macro_rules | `(tactic| walk_at "STEPS12") => `(tactic| repeat' ((fail_if_success (with_reducible show wpAny _ _ (execs [PySem.Stmt.Assign _ _ _, PySem.Stmt.Return _ _] _) _ _ _)); (fail_if_success (with_reducible show wpAny _ _ (compareOp CmpOp.NotEq _ _) _ _ _)); (fail_if_success (with_reducible show wpAny _ _ (pyIter _) _ _ _)); first | (k_unfold; (try dsimp only)) | walk1 | (dsimp only; walk1)))
local macro_rules | `(tactic| walk_at "subscriptTail") => `(tactic| (k_here; (try dsimp only); (with_reducible show wpAny _ _ (subscriptTail _ _ (Value.ref _) (Value.int 0 _)) _ _ _); (with_unfolding_all refine' item_v ?k1 ?k2 ?k3 ?k4 ?k5 ?_ ?k6; (case k1 => k_asm); (case k2 => k_mem); (case k3 => exact rfl); (case k4 => decide); (case k5 => decide); (case k6 => with_unfolding_all rfl); k_whole)))
local macro_rules | `(tactic| walk_at "subscriptTail Name Slice ref ref") => `(tactic| (k_here; (try dsimp only); (with_reducible show wpAny _ _ (subscriptTail _ (PySem.Expr.Slice _ _ none _) (Value.ref _) (Value.ref _)) _ _ _); k_dflt (refine' kms_slice_lit ?sF ?sN ?sl ?sp ?sq ?se ?_ ?ss ?st ?sz; (case sF => k_asm); (case sN => k_asm); (case sl => exact News.isList (by k_asm) (by k_mem)); (case sp => kmk_part); (case sq => kmk_part); (case se => exact pick_tail); (case ss => with_unfolding_all rfl); (case st => kmk_pure); (case sz => (rw [List.size_toArray, sizeLine_eq, List.length_cons]; omega))); intro D' h' F' N' l1))
local macro_rules | `(tactic| walk_at "exec For Name Subscript cons nil") => `(tactic| (k_here; (rename Fr _ _ _ _ => lF'); (with_unfolding_all refine' For_invVF lF' ?k1 ?k2 ?_; (case k1 => exact rfl); (case k2 => exact rfl); k_whole)))
local macro_rules | `(tactic| walk_at "call builtin:len") => `(tactic| (k_here; (try dsimp only); (with_reducible show wpAny _ _ (call (Value.builtin "len") [Value.ref _]) _ _ _); k_dflt (refine' len_c ?k1 ?k2 ?k3 ?_; (case k1 => k_asm); (case k2 => k_mem); (case k3 => omega); k_whole)))

set_option maxRecDepth 100000 in
set_option maxHeartbeats 1000000 in
theorem st12 {L fa : Addr} {cd : Value} {s : Shared} {h₀ : Heap} {Q : Flow → Shared → Prop} {E : Value → Shared → Prop} {mean : ExcName → Option Value} {mg mb m0 : Str → Option Value} {news : List (Addr × Obj)} {oR : Obj} {R M : Addr} {rn mn ar : Nat} {rs : List Value} {W a0 a1 a2 a3 : Int} {ta tw t0 t1 t2 t3 : Tok} {EL : Addr} {en : Nat} {ys : List Value} {ls : List Leaf} {tv : Value}
    (F : Fr h₀ L s.heap (kstB m0 [(Str.ofString "arity", .int (ar : Int) ta), (Str.ofString "masks", .ref M), (Str.ofString "tree", tv), (Str.ofString "whole", .int W tw), (Str.ofString "exprs", .ref EL)])) (B : Below callerA h₀ [] h₀) (X : (Mine.hd.heap_1 w.params).In h₀) (N : News h₀ L s.heap ((L + 1 + 1, oR) :: news)) (T : Top Mine.hd.view_1 (looseW Mine.hd.view_1 [Str.ofString "set_of_sets"]) mean mg mb h₀)
    (hoR : oR.data = .cell (some (.ref R))) (hR : (R, listOf rs.toArray rn) ∈ news) (hRD : DatAll news rs ((List.range 4).map (rowD ar))) (h4 : rs.length = 4) (hM : (M, listOf #[.int a0 t0, .int a1 t1, .int a2 t2, .int a3 t3] mn) ∈ news)
    (h00 : 0 ≤ a0) (h01 : a0 < 16) (h10 : 0 ≤ a1) (h11 : a1 < 16) (h20 : 0 ≤ a2) (h21 : a2 < 16) (h30 : 0 ≤ a3) (h31 : a3 < 16) (hW0 : 0 ≤ W) (hW1 : W < 16) (har : ar = 1 ∨ ar = 2)
    (hEL : (EL, listOf ys.toArray en) ∈ news) (hys : DatAll news ys (ls.map (Leaf.dat ar))) (hl1 : 1 ≤ ls.length) (hl2 : ls.length ≤ 200) (htv : DatIn news tv ((build 8 ls).dat ar)) (hok : ∀ l ∈ ls, l.Ok ar) (hWt : W = orL [a0, a1, a2, a3] ls)
    (hP : PassesOwn (model PySem.Challenge.rw_rr0086_01.row.prog w) (callerA.deeper (lawE L fa cd)) (lawE L fa cd) E) (fin : ∀ h' m' tk', Fr h₀ L h' m' → Q (.ret (.bool true)) { s with heap := h', toks := tk' }) :
    wpAny (model PySem.Challenge.rw_rr0086_01.row.prog w) (callerA.deeper (lawE L fa cd)) (execs (lawB 12) (lawE L fa cd)) Q E s := by
  have hyl : ys.length = ls.length := by have := hys.length; rwa [List.length_map] at this
  have hb : ls.length ≤ 2 ^ 8 := by omega
  have hbl := build_leaves 8 ls hl1 hb
  have hbh : (build 8 ls).height ≤ 20 := Nat.le_trans (build_height 8 ls 8 hl1 hb) (by decide)
  have hms : MsOk [a0, a1, a2, a3] := ms4 ⟨h00, h01⟩ ⟨h10, h11⟩ ⟨h20, h21⟩ ⟨h30, h31⟩
  have hset : setK ((build 8 ls).mask [a0, a1, a2, a3]) = setK W := by rw [whole_set hms (ar := ar) (by rw [hbl]; exact hok), hbl, hWt]
  by_cases h4' : ls.length < 4
  · match ls, hl1, hys with
    | l1 :: lr, _, hys =>
    cases hys with | @cons y1 yr _ _ e1 hyr =>
    have hcomb : build 8 (l1 :: lr) = combT (.leaf l1) lr := comb_eq h4'
    have hyr' : yr.length = lr.length := by have := hyr.length; rwa [List.length_map] at this
    have hlt : ((y1 :: yr).length : Int) < 4 := by rw [List.length_cons] at h4' ⊢; omega
    have hlr : lr.length ≤ 200 := by rw [List.length_cons] at hl2; omega
    simp only [lawB, lawE, lawS, PySem.Challenge.pw_rr0086_01, lastOf, bodyOf, scopeOf, dropS] at hP ⊢
    walk_at "STEPS12"
    k_dflt refine' kms_slice_lit ?sF ?sN ?sl ?sp ?sq ?se ?_ ?ss ?st ?sz
    case sF => k_asm
    case sN => k_asm
    case sl => exact News.isList (by k_asm) (.tail _ hEL)
    case sp => kmk_part
    case sq => kmk_part
    case se => exact pick_tail
    case ss => with_unfolding_all rfl
    case st => kmk_pure
    case sz => (rw [List.size_toArray, sizeLine_eq, List.length_cons]; omega)
    intro DL hL FL NL lL
    walk_at "STEPS12"
    k_dflt refine' kdl_iter (l := DL) (vs := yr) (nn := 0) (Jcomb ar l1 lr (fun y => if y = Str.ofString "comb" then some y1 else kstB m0 [(Str.ofString "arity", .int (ar : Int) ta), (Str.ofString "masks", .ref M), (Str.ofString "tree", tv), (Str.ofString "whole", .int W tw), (Str.ofString "exprs", .ref EL)] y) ((DL, listOf yr.toArray 0) :: (L + 1 + 1, oR) :: news)) rfl (.head _) ?iF ?iN ?iJ ?iT ?iD
    case iF => exact FL
    case iN => exact NL
    case iJ => exact ⟨⟨y1, rfl, e1.mono fun p hp => .tail _ (.tail _ hp)⟩, fun _ _ _ => rfl, fun p hp => hp⟩
    case iT =>
      k_whole
      intro i v m₁ nx h tk own hv hoff hl' hJ F' N'
      obtain ⟨⟨cv, hcv, hcd⟩, hm, hb'⟩ := hJ
      have F2 := kst_self [(Str.ofString "comb", cv), (Str.ofString "expr", v)] (kst_l2 (by rw [if_neg (by decide)]; exact hcv) (if_pos rfl)) F'
      clear F'
      walk_at "STEPS12"
      exact comb_end (by k_asm) (by k_asm) (by with_reducible assumption) hoff rfl (fun z h1 h2 => by simp [h1, h2, kstB]) ⟨⟨cv, hcv, hcd⟩, hm, hb'⟩ hv (hyr.mono fun p hp => hb' _ (.tail _ (.tail _ hp))) (.head _)
    case iD =>
      k_whole
      intro m₁ nx h tk hJ F' N'
      obtain ⟨⟨cv, hcv, hcd⟩, hm, hb'⟩ := hJ
      rw [hyr', List.take_length, ← hcomb] at hcd
      have F2 := kst_self [(Str.ofString "arity", .int (ar : Int) ta), (Str.ofString "masks", .ref M), (Str.ofString "tree", tv), (Str.ofString "whole", .int W tw), (Str.ofString "comb", cv)] (kst_l5 ((hm _ (by decide) (by decide)).trans rfl) ((hm _ (by decide) (by decide)).trans rfl) ((hm _ (by decide) (by decide)).trans rfl) ((hm _ (by decide) (by decide)).trans rfl) hcv) F'
      clear F'
      walk_at "STEPS12"
      k_dflt refine' dat_ne_same (d := (build 8 (l1 :: lr)).dat ar) ?n1 ?n2 ?n3 (kqd_tree40 ar _ hbh) ?n4 ?_
      case n1 => k_asm
      case n2 => exact htv.mono fun p hp => hb' _ (.tail _ (.tail _ hp))
      case n3 => exact hcd
      case n4 => first | decide | ktr_units
      k_whole
      walk_at "STEPS12"
      dsimp only
      exact st13 B (kst_self [(Str.ofString "arity", .int (ar : Int) ta), (Str.ofString "masks", .ref M), (Str.ofString "tree", tv), (Str.ofString "whole", .int W tw)] (kst_l4 rfl rfl rfl rfl) F2) X (News.sub9 N' (fun p hp => hb' _ (.tail _ hp))) T hoR hR hRD h4 hM h00 h01 h10 h11 h20 h21 h30 h31 hW0 hW1 har htv (by rw [hbl]; exact hok) hbh hset fin
  · simp only [lawB, lawE, lawS, PySem.Challenge.pw_rr0086_01, lastOf, bodyOf, scopeOf, dropS]
    have hge : ¬ (ys.length : Int) < 4 := by omega
    walk_at "STEPS12"
    dsimp only
    exact st13 B (kst_self [(Str.ofString "arity", .int (ar : Int) ta), (Str.ofString "masks", .ref M), (Str.ofString "tree", tv), (Str.ofString "whole", .int W tw)] (kst_l4 rfl rfl rfl rfl) F) X N T hoR hR hRD h4 hM h00 h01 h10 h11 h20 h21 h30 h31 hW0 hW1 har htv (by rw [hbl]; exact hok) hbh hset fin
end
end Mine
end

namespace Mine
theorem rstC7 : True := by
  w_top off
  exact trivial
end Mine
section
open PySem PySem.W PyProof.Rows PySem.Calls PySem.Spec PyProof.Rows.LCg
namespace Mine
open PyProof.Rows.LCp in
theorem restP_J {prog : Program} {w : World} {A : Around} {s : Shared} {h₀ : Heap} {L : Addr} {m : Str → Option Value} {env : Env} {elt : PySem.Expr} {x x₂ : Str} {scope : Scope} {cl : List (Str × Addr)} {S : List (Addr × Obj) → Prop} {P : Nat → Value → Prop} {Fin : List Value → List (Addr × Obj) → Prop} (J : Nat → List Value → List (Addr × Obj) → Prop) (n : Nat)
    (turn : ∀ i ys news v, i < n → J i ys news → P i v → ∃ (t : Addr) (ot : Obj) (v₁ v₂ : Value) (nt : Nat), v = .ref t ∧ (t, ot) ∈ news ∧ ot.cls = .type "tuple" ∧ ot.data = .seq #[v₁, v₂] nt ∧
      ∀ I oI C oC D m₂ h tk (E' : Value → Shared → Prop), NsObj oC m₂ → m₂ x = some v₁ → m₂ x₂ = some v₂ → Fr h₀ L h m → News h₀ L h ((I, oI) :: (C, oC) :: (D, lst ys) :: news) → Off3 I C D news → ((@Ne Nat I C) ∧ (@Ne Nat I D) ∧ (@Ne Nat C D)) →
      wpAny (model prog w) A (eval elt (compEnvC scope cl C env)) (LCg.CompEnd h₀ L m { s with heap := h, toks := tk } I oI C oC D (lst ys) S (fun y news' => J (i + 1) (ys ++ [y]) news')) E' { s with heap := h, toks := tk })
    (fin : ∀ ys news, J n ys news → Fin ys news) : ∀ k i ys news, i + k = n → J i ys news → CompRestP prog w A h₀ L m env elt x x₂ scope cl s S P Fin k i ys news
  | 0, i, ys, news, e, hj => CompRestP.zero (fin _ _ (by rw [← e]; exact hj))
  | k + 1, i, ys, news, e, hj => CompRestP.succ fun v hP => by
      obtain ⟨t, ot, v₁, v₂, nt, e1, e2, e3, e4, T⟩ := turn i ys news v (by omega) hj hP
      exact ⟨t, ot, v₁, v₂, nt, e1, e2, e3, e4, fun I oI C oC D m₂ h tk E' a b c d e' f g => wpAny_mono (T I oI C oC D m₂ h tk E' a b c d e' f g) (fun y s' hc => CompEnd.mono hc (fun _ a => a) fun nw hj' => restP_J J n turn fin k (i + 1) _ nw (by omega) hj') fun _ _ e => e⟩
def Jexp (ar : Nat) (ls : List Leaf) (base n0 : List (Addr × Obj)) (i : Nat) (ys : List Value) (nw : List (Addr × Obj)) : Prop :=
  nw = base ∧ DatAll n0 ys ((ls.take i).map (Leaf.dat ar)) ∧ ys.length ≤ i
def mpair (ar : Nat) (ms : List Int) (l : Leaf) : Dat := .tuple [l.dat ar, .int (l.mask ms)]
theorem mpair_at {news : List (Addr × Obj)} {ar i : Nat} {ms : List Int} {pvs : List Value} {v : Value} {ls : List Leaf} (h : DatAll news pvs (ls.map (mpair ar ms))) (hv : pvs[i]? = some v) :
    ∃ t c e tk, v = .ref t ∧ (t, ({ cls := .type "tuple", data := .seq #[e, .int ((ls.getD i .none).mask ms) tk] c } : Obj)) ∈ news ∧ DatIn news e ((ls.getD i .none).dat ar) := by
  have hi : i < pvs.length := (List.getElem?_eq_some_iff.mp hv).1
  have hl := h.length
  rw [List.length_map] at hl
  obtain ⟨v', hv', hd⟩ := h.get (k := i) (by rw [List.length_map]; omega)
  rw [hv] at hv'
  cases hv'
  have e : ls.getD i .none = ls[i]'(by omega) := by rw [List.getD_eq_getElem?_getD, List.getElem?_eq_getElem (by omega)]; rfl
  rw [e]
  have hd' : DatIn news v (mpair ar ms (ls[i]'(by omega))) := by simpa using hd
  unfold mpair at hd'
  cases hd' with
  | tuple hm hD =>
    cases hD with | cons a hD =>
    cases hD with | cons b hD =>
    cases hD
    cases b with | int _ tk => exact ⟨_, _, _, tk, rfl, hm, a⟩
theorem Tr.size_leaves : ∀ t : Tr, t.size + 1 = 2 * t.leaves.length
  | .leaf _ => rfl
  | .node a b => by
    have h1 := Tr.size_leaves a
    have h2 := Tr.size_leaves b
    rw [Tr.leaves, Tr.size, List.length_append]; omega
theorem kqd_list {n : Nat} {ds : List Dat} (h : ∀ d ∈ ds, kqdOk n d = true) : kqdOk (n + 1) (.list ds) = true := by
  rw [kqdOk, List.all_eq_true]
  exact h
theorem jexp_end {h₀ h' : Heap} {L I C D : Addr} {m : Str → Option Value} {s₁ : Shared} {oI oC oD : Obj} {ar i tk : Nat} {ls : List Leaf} {ys : List Value} {v : Value} {n0 base : List (Addr × Obj)} {S : List (Addr × Obj) → Prop}
    (F : Fr h₀ L h' m) (N : News h₀ L h' ((I, oI) :: (C, oC) :: (D, oD) :: base)) (off : Off3 I C D base) (hda : DatAll n0 ys ((ls.take i).map (Leaf.dat ar))) (hyl : ys.length ≤ i) (hi : i < ls.length) (hdv : DatIn n0 v ((ls.getD i .none).dat ar)) (hS : S base) :
    CompEnd h₀ L m s₁ I oI C oC D oD S (fun y news' => Jexp ar ls base n0 (i + 1) (ys ++ [y]) news') v { s₁ with heap := h', toks := tk } := by
  have e : ls.getD i .none = ls[i] := by rw [List.getD_eq_getElem?_getD, List.getElem?_eq_getElem hi]; rfl
  rw [e] at hdv
  refine CompEnd.intro F N base (fun p hp => hp) off hS ⟨rfl, ?_, by rw [List.length_append, List.length_singleton]; omega⟩
  rw [List.take_add_one, List.getElem?_eq_getElem hi, List.map_append]
  exact hda.append (.one hdv)
section
variable {w : World}
local macro_rules | `(tactic| walk_at "exec Assign cons ListComp") => `(tactic| (k_here; k_dflt (refine LCp.Assign_ListComp_P (F₀ := by k_asm) (by rfl) (by with_unfolding_all rfl) (by with_unfolding_all rfl) (by decide) (by rfl) (by decide) (by rfl) (by rfl) (by decide) (by rfl) (by rfl) ?_)))

set_option maxRecDepth 100000 in
set_option maxHeartbeats 1000000 in
theorem st7 {L fa : Addr} {cd : Value} {s : Shared} {h₀ : Heap} {Q : Flow → Shared → Prop} {E : Value → Shared → Prop} {mean : ExcName → Option Value} {mg mb m0 : Str → Option Value} {news : List (Addr × Obj)} {oR : Obj} {R M : Addr} {rn mn ar : Nat} {rs : List Value} {W a0 a1 a2 a3 : Int} {ta tw t0 t1 t2 t3 : Tok} {PL : Addr} {pn : Nat} {pvs : List Value} {ls : List Leaf} {k : Int} {tk9 : Tok}
    (F : Fr h₀ L s.heap (kstB m0 [(Str.ofString "arity", .int (ar : Int) ta), (Str.ofString "masks", .ref M), (Str.ofString "pairs", .ref PL), (Str.ofString "whole", .int W tw), (Str.ofString "levels", .int k tk9)])) (B : Below callerA h₀ [] h₀) (X : (Mine.hd.heap_1 w.params).In h₀) (N : News h₀ L s.heap ((L + 1 + 1, oR) :: news)) (T : Top Mine.hd.view_1 (looseW Mine.hd.view_1 [Str.ofString "set_of_sets"]) mean mg mb h₀)
    (hoR : oR.data = .cell (some (.ref R))) (hR : (R, listOf rs.toArray rn) ∈ news) (hRD : DatAll news rs ((List.range 4).map (rowD ar))) (h4 : rs.length = 4) (hM : (M, listOf #[.int a0 t0, .int a1 t1, .int a2 t2, .int a3 t3] mn) ∈ news)
    (h00 : 0 ≤ a0) (h01 : a0 < 16) (h10 : 0 ≤ a1) (h11 : a1 < 16) (h20 : 0 ≤ a2) (h21 : a2 < 16) (h30 : 0 ≤ a3) (h31 : a3 < 16) (hW0 : 0 ≤ W) (hW1 : W < 16) (har : ar = 1 ∨ ar = 2)
    (hPL : (PL, listOf pvs.toArray pn) ∈ news) (hpv : DatAll news pvs (ls.map (mpair ar [a0, a1, a2, a3]))) (hl1 : 1 ≤ ls.length) (hl2 : ls.length ≤ 200) (hok : ∀ l ∈ ls, l.Ok ar) (hWt : W = orL [a0, a1, a2, a3] ls) (hk0 : 0 ≤ k) (hk1 : ls.length ≤ 2 ^ k.toNat)
    (hP : PassesOwn (model PySem.Challenge.rw_rr0086_01.row.prog w) (callerA.deeper (lawE L fa cd)) (lawE L fa cd) E) (fin : ∀ h' m' tk', Fr h₀ L h' m' → Q (.ret (.bool true)) { s with heap := h', toks := tk' }) :
    wpAny (model PySem.Challenge.rw_rr0086_01.row.prog w) (callerA.deeper (lawE L fa cd)) (execs (lawB 7) (lawE L fa cd)) Q E s := by
  have hpl : pvs.length = ls.length := by have := hpv.length; rwa [List.length_map] at this
  have hb : ls.length ≤ 2 ^ 8 := by omega
  have hbl := build_leaves 8 ls hl1 hb
  have hbh : (build 8 ls).height ≤ 20 := Nat.le_trans (build_height 8 ls 8 hl1 hb) (by decide)
  have hbk := build_height 8 ls k.toNat hl1 hk1
  have hP0 := hP
  simp only [lawB, lawE, lawS, PySem.Challenge.pw_rr0086_01, lastOf, bodyOf, scopeOf, dropS] at hP ⊢
  walk_at "STEPS7"
  k_dflt refine' LCp.SrcLP.ledger (its := pvs.toArray) rfl ?cF ?cN ?cm ?cs fun g => restP_J (Jexp ar ls ((L + 1 + 1, oR) :: news) news) pvs.toArray.size ?cT ?cE pvs.toArray.size 0 [] _ (Nat.zero_add _) ⟨rfl, .nil, Nat.le_refl _⟩
  case cF => k_asm
  case cN => k_asm
  case cm => exact .tail _ hPL
  case cs => rw [List.size_toArray, sizeLine_eq]; omega
  case cT =>
    intro i ys nw v hi hJ hP
    obtain ⟨rfl, hda, hyl⟩ := hJ
    have hv : pvs[i]? = some v := by simpa using hP
    have hi' : i < ls.length := by rw [List.size_toArray] at hi; omega
    obtain ⟨t9, c9, e9, tk8, rfl, hm9, hd9⟩ := mpair_at hpv hv
    refine ⟨t9, _, e9, _, c9, rfl, .tail _ hm9, rfl, rfl, ?_⟩
    intro I oI C oC D m₂ h tk E' hC hx1 hx2 F N off ne
    walk_at "STEPS7"
    exact jexp_end (by k_asm) (by k_asm) off hda hyl hi' hd9 (.inr ⟨_, .tail _ hPL, rfl, _, rfl⟩)
  intro ys nw hJ
  obtain ⟨rfl, hys, hyl⟩ := hJ
  rw [List.size_toArray, hpl, List.take_length] at hys
  walk_at "STEPS7"
  k_dflt refine' list_copyK (items := ys.toArray) ?y1 ?y2 ?y3 ?_ ?y4
  case y1 => k_asm
  case y2 => k_asm
  case y3 => exact News.isList (by k_asm) (.head _)
  case y4 => rw [List.size_toArray] at hyl ⊢; rw [sizeLine_eq]; omega
  intro H cH hh FH NH lH
  walk_at "STEPS7"
  k_dflt refine' Does.use (united_does 8 (by decide) ?um (hys.mono ?ud) hl1 hb) ?k1 ?k2 ?k3 ?k4 ?k5 ?kK ?kd ?ku ?_
  case k4 => k_asm
  case k1 => k_asm
  case k2 => k_asm
  case k3 => k_asm
  case um => exact .head _
  case ud => exact fun p hp => .tail _ (.tail _ (.tail _ hp))
  case k5 => k_asm
  case kK => first | exact rfl | assumption
  case kd => first | k_room | ktr_room
  case ku => first | ktr_units | decide
  intro tv nw9 h9 tk9 F9 N9 P9
  obtain ⟨g9, d9⟩ := P9
  have sb9 : ∀ p ∈ news, p ∈ nw9 := fun p hp => g9.sub _ (.tail _ (.tail _ (.tail _ hp)))
  (try dsimp only)
  walk_at "STEPS7"
  k_dflt refine' Does.use (leaves_does d9 ?hsz) ?q1 ?q2 ?q3 ?q4 ?q5 ?qK ?qd ?qu ?_
  case hsz => (have := Tr.size_leaves (build 8 ls); rw [hbl] at this; omega)
  case q4 => k_asm
  case q1 => k_asm
  case q2 => k_asm
  case q3 => k_asm
  case q5 => k_asm
  case qK => first | exact rfl | assumption
  case qd => first | k_room | ktr_room
  case qu => first | ktr_units | decide
  intro r8 nw8 h8 tk8 F8 N8 P8
  obtain ⟨g8, PP, LA, lvs, cP, cL, hgt, tkh, rfl, hPP, hLA, hDL, hg0, hg1⟩ := P8
  rw [hbl] at hDL
  have sb8 : ∀ p ∈ news, p ∈ nw8 := fun p hp => g8.sub _ (sb9 _ hp)
  (try dsimp only)
  have hHm : (H, listOf ys.toArray cH) ∈ nw8 := g8.sub _ (g9.sub _ (.head _))
  have hEm := g8.sub _ (g9.sub _ (.tail _ (.head _)))
  have hRm := g8.sub _ (g9.sub _ (.tail _ (.tail _ (.head _))))
  have hys8 := hys.mono sb8
  have hkl : kqdOk 40 (.list (ls.map (Leaf.dat ar))) = true := kqd_list fun d hd => by obtain ⟨l, _, rfl⟩ := List.mem_map.mp hd; exact kqd_leaf 35 ar l
  walk_at "STEPS7"
  k_dflt refine' dat_ne_same (d := .list (ls.map (Leaf.dat ar))) ?n1 ?n2 ?n3 hkl ?n4 ?_
  case n1 => k_asm
  case n2 => exact DatIn.list hHm hys8
  case n3 => exact DatIn.list hEm hys8
  case n4 => first | decide | ktr_units
  k_whole
  walk_at "STEPS7"
  k_dflt refine' dat_ne_same (d := .list (ls.map (Leaf.dat ar))) ?n5 ?n6 ?n7 hkl ?n8 ?_
  case n5 => k_asm
  case n6 => exact DatIn.list hLA hDL
  case n7 => exact DatIn.list hEm hys8
  case n8 => first | decide | ktr_units
  k_whole
  have hlow : ¬ hgt > k := by omega
  walk_at "STEPS7"
  dsimp only
  rename Fr _ _ _ _ => F2
  rename News _ _ _ _ => N2
  exact st12 (kst_self [(Str.ofString "arity", .int (ar : Int) ta), (Str.ofString "masks", .ref M), (Str.ofString "tree", tv), (Str.ofString "whole", .int W tw), (Str.ofString "exprs", _)] (kst_l5 rfl rfl rfl rfl rfl) F2) B X (News.sub9 N2 (fun p hp => by rcases List.mem_cons.mp hp with rfl | hp <;> assumption)) T hoR (sb8 _ hR) (hRD.mono sb8) h4 (sb8 _ hM) h00 h01 h10 h11 h20 h21 h30 h31 hW0 hW1 har hEm hys8 hl1 hl2 (d9.mono fun p hp => g8.sub _ hp) hok hWt hP0 fin
end
end Mine
end

namespace Mine
theorem rstC6 : True := by
  w_top off
  exact trivial
end Mine
section
open PySem PySem.W PyProof.Rows PySem.Calls PySem.Spec PyProof.Rows.LCg
namespace Mine
theorem pow_lt {k : Int} {n : Nat} (h0 : 0 ≤ k) (h : (2 : Int) ^ k.toNat < (n : Int)) (hn : n ≤ 200) : k < 8 := by
  refine Int.lt_of_not_ge fun hk => ?_
  have h1 : (2 : Nat) ^ 8 ≤ 2 ^ k.toNat := Nat.pow_le_pow_right (by decide) (by omega)
  have h2 : ((2 : Nat) ^ k.toNat : Nat) < n := by exact_mod_cast h
  omega
theorem pow_ge {k : Int} {n : Nat} (h : ¬ (2 : Int) ^ k.toNat < (n : Int)) : n ≤ 2 ^ k.toNat := by
  refine Nat.le_of_not_lt fun h2 => h ?_
  exact_mod_cast h2
section
variable {w : World}
local macro_rules | `(tactic| walk_at "exec Assign cons ListComp") => `(tactic| (k_here; k_dflt (refine LCp.Assign_ListComp_P (F₀ := by k_asm) (by rfl) (by with_unfolding_all rfl) (by with_unfolding_all rfl) (by decide) (by rfl) (by decide) (by rfl) (by rfl) (by decide) (by rfl) (by rfl) ?_)))

local macro_rules | `(tactic| walk_at "call builtin:len") => `(tactic| (k_here; (with_reducible show wpAny _ _ (call (Value.builtin "len") [Value.ref _]) _ _ _); k_dflt (refine' len_c ?k1 ?k2 ?k3 ?_; (case k1 => k_asm); (case k2 => k_mem); (case k3 => omega); k_whole)))
set_option maxRecDepth 100000 in
set_option maxHeartbeats 1000000 in
theorem st6 {L fa : Addr} {cd : Value} {s : Shared} {h₀ : Heap} {Q : Flow → Shared → Prop} {E : Value → Shared → Prop} {mean : ExcName → Option Value} {mg mb m0 : Str → Option Value} {news : List (Addr × Obj)} {oR : Obj} {R M : Addr} {rn mn ar : Nat} {rs : List Value} {W a0 a1 a2 a3 : Int} {ta tw t0 t1 t2 t3 : Tok} {PL : Addr} {pn : Nat} {pvs : List Value} {ls : List Leaf} {k : Int} {tk9 : Tok}
    (F : Fr h₀ L s.heap (kstB m0 [(Str.ofString "arity", .int (ar : Int) ta), (Str.ofString "masks", .ref M), (Str.ofString "pairs", .ref PL), (Str.ofString "whole", .int W tw), (Str.ofString "levels", .int k tk9)])) (B : Below callerA h₀ [] h₀) (X : (Mine.hd.heap_1 w.params).In h₀) (N : News h₀ L s.heap ((L + 1 + 1, oR) :: news)) (T : Top Mine.hd.view_1 (looseW Mine.hd.view_1 [Str.ofString "set_of_sets"]) mean mg mb h₀)
    (hoR : oR.data = .cell (some (.ref R))) (hR : (R, listOf rs.toArray rn) ∈ news) (hRD : DatAll news rs ((List.range 4).map (rowD ar))) (h4 : rs.length = 4) (hM : (M, listOf #[.int a0 t0, .int a1 t1, .int a2 t2, .int a3 t3] mn) ∈ news)
    (h00 : 0 ≤ a0) (h01 : a0 < 16) (h10 : 0 ≤ a1) (h11 : a1 < 16) (h20 : 0 ≤ a2) (h21 : a2 < 16) (h30 : 0 ≤ a3) (h31 : a3 < 16) (hW0 : 0 ≤ W) (hW1 : W < 16) (har : ar = 1 ∨ ar = 2)
    (hPL : (PL, listOf pvs.toArray pn) ∈ news) (hpv : DatAll news pvs (ls.map (mpair ar [a0, a1, a2, a3]))) (hl1 : 1 ≤ ls.length) (hl2 : ls.length ≤ 200) (hok : ∀ l ∈ ls, l.Ok ar) (hWt : W = orL [a0, a1, a2, a3] ls) (hk0 : k = 0)
    (hP : PassesOwn (model PySem.Challenge.rw_rr0086_01.row.prog w) (callerA.deeper (lawE L fa cd)) (lawE L fa cd) E) (fin : ∀ h' m' tk', Fr h₀ L h' m' → Q (.ret (.bool true)) { s with heap := h', toks := tk' }) :
    wpAny (model PySem.Challenge.rw_rr0086_01.row.prog w) (callerA.deeper (lawE L fa cd)) (execs (lawB 6) (lawE L fa cd)) Q E s := by
  have hpl : pvs.length = ls.length := by have := hpv.length; rwa [List.length_map] at this
  have hP0 := hP
  simp only [lawB, lawE, lawS, PySem.Challenge.pw_rr0086_01, lastOf, bodyOf, scopeOf, dropS] at hP ⊢
  walk_at "STEPSW"
  refine' ksw_while (σ := Int × Tok) (fun _ => (L + 1 + 1, oR) :: news) (fun c => [(Str.ofString "arity", .int (ar : Int) ta), (Str.ofString "masks", .ref M), (Str.ofString "pairs", .ref PL), (Str.ofString "whole", .int W tw), (Str.ofString "levels", .int c.1 c.2)]) (fun _ => True) [] (fun c => 0 ≤ c.1 ∧ c.1 ≤ 8) (fun c => (8 - c.1).toNat) (k, tk9) F N trivial ?wk ?wp ?wt ?wE
  case wk => exact kst_l5 rfl rfl rfl rfl rfl
  case wp => exact ⟨(by show 0 ≤ k; omega), (by show k ≤ 8; omega)⟩
  case wE => passes_own
  case wt =>
    k_whole
    intro c u h tk _ hp F N
    obtain ⟨kc, tc⟩ := c
    obtain ⟨hk0, hk8⟩ := hp
    dsimp only at hk0 hk8 F N
    walk_at "STEPS6"
    · rename (2 : Int) ^ _ < _ => hlt
      rw [hpl] at hlt
      have h8 := pow_lt hk0 hlt hl2
      rename Fr _ _ _ _ => F2
      rename News _ _ _ _ => N2
      refine' ksw_end (kc + 1, tk + 1) F2 N2 (fun p hp => hp) trivial ?pk ?pr ?pp ?pm
      case pk => exact List.forall_mem_cons.mpr ⟨rfl, List.forall_mem_cons.mpr ⟨rfl, List.forall_mem_cons.mpr ⟨rfl, List.forall_mem_cons.mpr ⟨rfl, List.forall_mem_cons.mpr ⟨rfl, fun _ h => nomatch h⟩⟩⟩⟩⟩
      case pr =>
        intro z h1 _
        simp only [List.mem_cons, List.not_mem_nil, or_false, forall_eq_or_imp, forall_eq] at h1
        obtain ⟨b1, b2, b3, b4, b5⟩ := h1
        simp [kstB, b1, b2, b3, b4, b5]
      case pp => exact ⟨(by show 0 ≤ kc + 1; omega), (by show kc + 1 ≤ 8; omega)⟩
      case pm => show (8 - (kc + 1)).toNat < (8 - kc).toNat; omega
    · rename ¬ (2 : Int) ^ _ < _ => hge
      rw [hpl] at hge
      dsimp only
      exact st7 (kst_self [(Str.ofString "arity", .int (ar : Int) ta), (Str.ofString "masks", .ref M), (Str.ofString "pairs", .ref PL), (Str.ofString "whole", .int W tw), (Str.ofString "levels", .int kc tc)] (kst_l5 rfl rfl rfl rfl rfl) F) B X N T hoR hR hRD h4 hM h00 h01 h10 h11 h20 h21 h30 h31 hW0 hW1 har hPL hpv hl1 hl2 hok hWt hk0 (pow_ge hge) hP0 fin
end
end Mine
end

namespace Mine
theorem rstC5 : True := by
  w_top off
  exact trivial
end Mine
section
local macro_rules | `(tactic| walk_at "NONE") => `(tactic| fail)
open PySem PySem.W PyProof.Rows PySem.Calls PySem.Spec PyProof.Rows.LCg
namespace Mine
structure S5 where
  pvs : List Value
  pn : Nat
  jn : Nat
  W : Int
  tw : Tok
  p : Int
  t : Tok
  ls : List Leaf
def led5 (J C PL : Addr) (c : S5) : List (Addr × Obj) := [(J, listOf #[.ref C, .int c.p c.t] c.jn), (PL, listOf c.pvs.toArray c.pn)]
def ps5 (ar : Nat) (ta : Tok) (M PL : Addr) (tl : Tok) (c : S5) : List (Str × Value) := [(Str.ofString "arity", .int (ar : Int) ta), (Str.ofString "masks", .ref M), (Str.ofString "pairs", .ref PL), (Str.ofString "whole", .int c.W c.tw), (Str.ofString "levels", .int 0 tl)]
def fc5 (ar : Nat) (ms : List Int) (nw : List (Addr × Obj)) (c : S5) : Prop := DatAll nw c.pvs (c.ls.map (mpair ar ms))
def pp5 (ar : Nat) (ms : List Int) (p0 : Int) (pre : List Int) (c : S5) : Prop := c.ls.length = pre.length ∧ c.W = orL ms c.ls ∧ 0 ≤ c.W ∧ c.W < 16 ∧ 0 ≤ c.p ∧ c.p ≤ p0 + 2 * (pre.length : Int) ∧ ∀ l ∈ c.ls, l.Ok ar
section
variable {w : World}
local macro_rules | `(tactic| walk_at "exec Assign cons ListComp") => `(tactic| (k_here; k_dflt (refine LCp.Assign_ListComp_P (F₀ := by k_asm) (by rfl) (by with_unfolding_all rfl) (by with_unfolding_all rfl) (by decide) (by rfl) (by decide) (by rfl) (by rfl) (by decide) (by rfl) (by rfl) ?_)))

local macro_rules | `(tactic| walk_at "call builtin:len") => `(tactic| (k_here; (with_reducible show wpAny _ _ (call (Value.builtin "len") [Value.ref _]) _ _ _); k_dflt (refine' len_c ?k1 ?k2 ?k3 ?_; (case k1 => k_asm); (case k2 => k_mem); (case k3 => omega); k_whole)))
set_option maxRecDepth 100000 in
set_option maxHeartbeats 1000000 in
theorem st5 {L fa : Addr} {cd : Value} {s : Shared} {h₀ : Heap} {Q : Flow → Shared → Prop} {E : Value → Shared → Prop} {mean : ExcName → Option Value} {mg mb m0 : Str → Option Value} {news : List (Addr × Obj)} {oR oJ : Obj} {J C R M a00 : Addr} {jn rn mn ck nn0 ar : Nat} {rs vs us0 : List Value} {ns : List Int} {a0 a1 a2 a3 p : Int} {ta tw t0 t1 t2 t3 t tl0 : Tok} {PL : Addr} {pn0 : Nat}
    (F : Fr h₀ L s.heap (kstB m0 [(Str.ofString "arity", .int (ar : Int) ta), (Str.ofString "masks", .ref M), (Str.ofString "pairs", .ref PL), (Str.ofString "whole", .int 0 tw), (Str.ofString "levels", .int 0 tl0)])) (B : Below callerA h₀ [] h₀) (X : (Mine.hd.heap_1 w.params).In h₀)
    (N : News h₀ L s.heap ((J, listOf #[.ref C, .int p t] jn) :: (PL, listOf ([] : List Value).toArray pn0) :: (L + 1 + 1, oR) :: (L + 1, oJ) :: news)) (T : Top Mine.hd.view_1 (looseW Mine.hd.view_1 [Str.ofString "set_of_sets"]) mean mg mb h₀)
    (hoR : oR.data = .cell (some (.ref R))) (hoJ : oJ.data = .cell (some (.ref J))) (hR : (R, listOf rs.toArray rn) ∈ news) (hRD : DatAll news rs ((List.range 4).map (rowD ar))) (h4 : rs.length = 4) (hM : (M, listOf #[.int a0 t0, .int a1 t1, .int a2 t2, .int a3 t3] mn) ∈ news)
    (h00 : 0 ≤ a0) (h01 : a0 < 16) (h10 : 0 ≤ a1) (h11 : a1 < 16) (h20 : 0 ≤ a2) (h21 : a2 < 16) (h30 : 0 ≤ a3) (h31 : a3 < 16) (har : ar = 1 ∨ ar = 2)
    (hC : (C, listOf vs.toArray ck) ∈ news) (hD : IntsAre vs ns) (hvl : vs.length < 100000) (hb : ∀ x ∈ ns, 0 ≤ x ∧ x < 1000003) (h0 : 0 ≤ p) (h1 : p < 1000)
    (hr0 : rs[0]? = some (.ref a00)) (ha0 : (a00, ({ cls := .type "tuple", data := .seq us0.toArray nn0 } : Obj)) ∈ news) (hu0 : us0.length = ar)
    (offJ : ∀ q ∈ (PL, listOf ([] : List Value).toArray pn0) :: (L + 1 + 1, oR) :: (L + 1, oJ) :: news, q.1 ≠ J) (offP : ∀ q ∈ (L + 1 + 1, oR) :: (L + 1, oJ) :: news, q.1 ≠ PL)
    (hP : PassesOwn (model PySem.Challenge.rw_rr0086_01.row.prog w) (callerA.deeper (lawE L fa cd)) (lawE L fa cd) E) (fin : ∀ h' m' tk', Fr h₀ L h' m' → Q (.ret (.bool true)) { s with heap := h', toks := tk' }) :
    wpAny (model PySem.Challenge.rw_rr0086_01.row.prog w) (callerA.deeper (lawE L fa cd)) (execs (lawB 5) (lawE L fa cd)) Q E s := by
  have hP0 := hP
  simp only [lawB, lawE, lawS, PySem.Challenge.pw_rr0086_01, lastOf, bodyOf, scopeOf, dropS] at hP ⊢
  walk_at "STEPS5"
  k_dflt refine' Does.use (many_does ?um hD ?uo h0 (by omega) hvl hb) ?k1 ?k2 ?k3 ?k4 ?k5 ?kK ?kd ?ku ?_
  case k4 => k_asm
  case k1 => k_asm
  case k2 => k_asm
  case k3 => k_asm
  case um => exact .tail _ (.tail _ (.tail _ hC))
  case uo => exact offJ
  case k5 => k_asm
  case kK => first | exact rfl | assumption
  case kd => first | k_room | ktr_room
  case ku => first | ktr_units | decide
  intro rv nw9 h9 tk9 F9 N9 P9
  obtain ⟨x, tx, t', n', p', rfl, hx1, hx2, hp1, hp2, rfl⟩ := P9
  (try dsimp only)
  walk_at "STEPS5"
  rename Fr _ _ _ _ => F1
  rename News _ _ _ _ => N1
  rename IsRange _ _ _ _ _ _ _ _ => rg
  have hnn : ((x.toNat : Nat) : Int) = x := by omega
  refine' kd_range (x := Str.ofString "lap") (n := x.toNat) (led5 J C PL) ((L + 1 + 1, oR) :: (L + 1, oJ) :: news) (ps5 ar ta M PL tl0) (fc5 ar [a0, a1, a2, a3]) [] (pp5 ar [a0, a1, a2, a3] p') (J :: PL :: ((L + 1 + 1, oR) :: (L + 1, oJ) :: news).map (·.1)) ⟨[], pn0, n', 0, tw, p', t', []⟩ (by rfl) rg (small_one (by omega) (by omega) (by omega) (by omega)) ?rsz F1 N1 ?ki ?ka ?kf ?kk ?kp ?_ ?_
  case rsz => first | exact rangeSize_nat _ _ | (rw [hnn, rangeSize_nat]; omega) | (rw [rangeSize_nat]; simp)
  case ki => intro q hq; rw [List.append_nil] at hq; exact hq
  case ka => intro c9; rfl
  case kf => exact .nil
  case kk => exact kst_l5 rfl rfl rfl rfl rfl
  case kp => exact ⟨rfl, rfl, Int.le_refl _, (by show (0 : Int) < 16; decide), by show 0 ≤ p'; omega, by simp, fun l hl => nomatch hl⟩
  · intro c tl pre k t2 u h tk own hk hpre sep ooff hf hp F N
    obtain ⟨pvs, pn, jn, W, tw, p, t, ls⟩ := c
    obtain ⟨hlen, hW, hW0, hW1, hp0, hp1', hok⟩ := hp
    dsimp only [ps5, led5] at F N hlen hW hW0 hW1 hp0 hp1' hok
    have hf' : DatAll ((L + 1 + 1, oR) :: (L + 1, oJ) :: (news ++ tl)) pvs (ls.map (mpair ar [a0, a1, a2, a3])) := hf
    have N2 : News h₀ L h ((J, listOf #[.ref C, .int p t] jn) :: (PL, listOf pvs.toArray pn) :: (L + 1 + 1, oR) :: (L + 1, oJ) :: (news ++ (tl ++ own))) := N
    have F2 := kst_self [(Str.ofString "arity", .int (ar : Int) ta), (Str.ofString "masks", .ref M), (Str.ofString "pairs", .ref PL), (Str.ofString "whole", .int W tw), (Str.ofString "levels", .int 0 tl0)] (List.forall_mem_cons.mpr ⟨rfl, List.forall_mem_cons.mpr ⟨rfl, List.forall_mem_cons.mpr ⟨rfl, List.forall_mem_cons.mpr ⟨rfl, List.forall_mem_cons.mpr ⟨rfl, fun _ h => nomatch h⟩⟩⟩⟩⟩) F
    clear N F
    walk_at "STEPS5"
    have hpl : pvs.length ≤ 200 := by
      have := hf'.length
      rw [List.length_map] at this
      omega
    have hpx : p < 90000 := by omega
    k_dflt refine' Does.use (expr_does (ms := [a0, a1, a2, a3]) ?um hD ?uo hp0 hpx hvl hb ?uR hr0 ?ua hu0 hRD ?uM ?uI ?ul ?ub har) ?q1 ?q2 ?q3 ?q4 ?q5 ?qK ?qd ?qu ?_
    case q4 => k_asm
    case q1 => k_asm
    case q2 => k_asm
    case q3 => k_asm
    case um => exact .tail _ (.tail _ (.tail _ (List.mem_append.mpr (.inl hC))))
    case uR => exact .tail _ (.tail _ (.tail _ (List.mem_append.mpr (.inl hR))))
    case ua => exact .tail _ (.tail _ (.tail _ (List.mem_append.mpr (.inl ha0))))
    case uM => exact .tail _ (.tail _ (.tail _ (List.mem_append.mpr (.inl hM))))
    case uI => exact .cons _ _ (.cons _ _ (.cons _ _ (.cons _ _ .nil)))
    case ul => rfl
    case ub => simp only [List.mem_cons, List.not_mem_nil, or_false, forall_eq_or_imp, forall_eq]; omega
    case uo =>
      intro q hq
      rcases List.mem_cons.mp hq with rfl | hq
      · exact offJ (PL, listOf ([] : List Value).toArray pn0) (.head _)
      rcases List.mem_cons.mp hq with rfl | hq
      · exact offJ _ (.tail _ (.head _))
      rcases List.mem_cons.mp hq with rfl | hq
      · exact offJ _ (.tail _ (.tail _ (.head _)))
      rcases List.mem_append.mp hq with hq | hq
      · exact offJ _ (.tail _ (.tail _ (.tail _ hq)))
      · exact ooff q hq _ (.head _)
    case q5 => k_asm
    case qK => first | exact rfl | assumption
    case qd => first | k_room | ktr_room
    case qu => first | ktr_units | decide
    intro r8 nw8 h8 tk8 F8 N8 P8
    obtain ⟨P, e, lf, tm, cc, tl9, t9, n9, rfl, hlok, rfl, hPm, hDe, htop⟩ := P8
    (try dsimp only)
    have N9 : News h₀ L h8 ((PL, listOf pvs.toArray pn) :: (J, listOf #[.ref C, .int (p + 1 + 1) t9] n9) :: (tl9 ++ ((L + 1 + 1, oR) :: (L + 1, oJ) :: (news ++ (tl ++ own))))) := News.sub9 N8 (fun q hq => by
      rcases List.mem_cons.mp hq with rfl | hq
      · exact .tail _ (List.mem_append.mpr (.inr (.head _)))
      rcases List.mem_cons.mp hq with rfl | hq
      · exact .head _
      rcases List.mem_append.mp hq with hq | hq
      · exact .tail _ (List.mem_append.mpr (.inl hq))
      · exact .tail _ (List.mem_append.mpr (.inr (.tail _ hq))))
    have hoff9 : ∀ q ∈ (J, listOf #[.ref C, .int (p + 1 + 1) t9] n9) :: (tl9 ++ ((L + 1 + 1, oR) :: (L + 1, oJ) :: (news ++ (tl ++ own)))), q.1 ≠ PL := by
      intro q hq
      rcases List.mem_cons.mp hq with rfl | hq
      · exact fun e => offJ (PL, listOf ([] : List Value).toArray pn0) (.head _) e.symm
      rcases List.mem_append.mp hq with hq | hq
      · exact fun e => Nat.lt_irrefl _ (e ▸ (htop q hq).2 _ (.head _))
      rcases List.mem_cons.mp hq with rfl | hq
      · exact offP _ (.head _)
      rcases List.mem_cons.mp hq with rfl | hq
      · exact offP _ (.tail _ (.head _))
      rcases List.mem_append.mp hq with hq | hq
      · exact offP _ (.tail _ (.tail _ hq))
      · exact ooff q hq _ (.tail _ (.head _))
    clear N8 N2
    walk_at "STEPS5"
    refine' append_K ?w1 N9 (Upd.head hoff9) ?_ ?w4
    case w1 => k_asm
    case w4 => rw [List.size_toArray, sizeLine_eq]; omega
    k_whole
    intro h7 F7 N7
    rw [show pvs.toArray.push (Value.ref P) = (pvs ++ [Value.ref P]).toArray from by simp] at N7
    clear N9
    walk_at "STEPS5B"
    (with_unfolding_all refine' kde_neg (vs := pvs ++ [.ref P]) (j := pvs.length) (v := .ref P) ?n1 ?n2 ?n3 ?n4 ?n5 ?_ ?n6)
    case n2 => decide
    case n3 => decide
    case n1 => exact News.isList N7 (.head _)
    case n4 => (simp [seqIndex?]; try omega)
    case n5 => simp
    case n6 => with_unfolding_all rfl
    k_whole
    walk_at "STEPS5B"
    (with_unfolding_all refine' item_tupleT (l := [e, .int (lf.mask [a0, a1, a2, a3]) tm]) (j := 1) (News.isTup N7 (.tail _ (.tail _ (List.mem_append.mpr (.inl hPm))))) (by decide) (by decide) rfl rfl ?_ ?n7)
    case n7 => with_unfolding_all rfl
    k_whole
    walk_at "STEPS5B"
    rename Fr _ _ _ _ => F3
    rename News _ _ _ _ => N3
    have hms : MsOk [a0, a1, a2, a3] := ms4 ⟨h00, h01⟩ ⟨h10, h11⟩ ⟨h20, h21⟩ ⟨h30, h31⟩
    have hor : Rng (PySem.Builtin.bitOr W (lf.mask [a0, a1, a2, a3])) := or_rng ⟨hW0, hW1⟩ (leaf_rng hms hlok)
    have hn9 : ∀ q ∈ (J, listOf #[Value.ref C, Value.int (p + 1 + 1) t9] n9) :: (PL, listOf (pvs ++ [Value.ref P]).toArray (pn + 1)) :: (L + 1 + 1, oR) :: (L + 1, oJ) :: (news ++ (tl9 ++ tl)), q ∈ (PL, listOf (pvs ++ [Value.ref P]).toArray (pn + 1)) :: (J, listOf #[Value.ref C, Value.int (p + 1 + 1) t9] n9) :: (tl9 ++ ((L + 1 + 1, oR) :: (L + 1, oJ) :: (news ++ (tl ++ own)))) := by
      intro q hq
      rcases List.mem_cons.mp hq with rfl | hq
      · exact .tail _ (.head _)
      rcases List.mem_cons.mp hq with rfl | hq
      · exact .head _
      refine .tail _ (.tail _ (List.mem_append.mpr ?_))
      rcases List.mem_cons.mp hq with rfl | hq
      · exact .inr (.head _)
      rcases List.mem_cons.mp hq with rfl | hq
      · exact .inr (.tail _ (.head _))
      rcases List.mem_append.mp hq with hq | hq
      · exact .inr (.tail _ (.tail _ (List.mem_append.mpr (.inl hq))))
      rcases List.mem_append.mp hq with hq | hq
      · exact .inl hq
      exact .inr (.tail _ (.tail _ (List.mem_append.mpr (.inr (List.mem_append.mpr (.inl hq))))))
    have ho9 : ∀ q ∈ own, q ∈ (PL, listOf (pvs ++ [Value.ref P]).toArray (pn + 1)) :: (J, listOf #[Value.ref C, Value.int (p + 1 + 1) t9] n9) :: (tl9 ++ ((L + 1 + 1, oR) :: (L + 1, oJ) :: (news ++ (tl ++ own)))) := by
      intro q hq
      exact .tail _ (.tail _ (List.mem_append.mpr (.inr (.tail _ (.tail _ (List.mem_append.mpr (.inr (List.mem_append.mpr (.inr hq)))))))))
    have hb9 : ∀ q ∈ tl9, ∀ b ∈ J :: PL :: ((L + 1 + 1, oR) :: (L + 1, oJ) :: news).map (·.1), b ≠ q.1 := by
      intro q hq b hb
      rcases List.mem_cons.mp hb with rfl | hb
      · exact Nat.ne_of_lt (htop q hq).1
      rcases List.mem_cons.mp hb with rfl | hb
      · exact Nat.ne_of_lt ((htop q hq).2 _ (.head _))
      obtain ⟨r, hr, rfl⟩ := List.mem_map.mp hb
      refine Nat.ne_of_lt ((htop q hq).2 r (.tail _ ?_))
      rcases List.mem_cons.mp hr with rfl | hr
      · exact .head _
      rcases List.mem_cons.mp hr with rfl | hr
      · exact .tail _ (.head _)
      exact .tail _ (.tail _ (List.mem_append.mpr (.inl hr)))
    have hw9 : ∀ q ∈ tl9, ∀ r ∈ own, r.1 ≠ q.1 := fun q hq r hr => Nat.ne_of_lt ((htop q hq).2 r (.tail _ (.tail _ (.tail _ (List.mem_append.mpr (.inr (List.mem_append.mpr (.inr hr))))))))
    have hf9 : DatAll ((L + 1 + 1, oR) :: (L + 1, oJ) :: (news ++ (tl9 ++ tl))) (pvs ++ [Value.ref P]) ((ls ++ [lf]).map (mpair ar [a0, a1, a2, a3])) := by
      rw [List.map_append]
      refine (hf'.mono fun q hq => ?_).append (.one (DatIn.tuple (.tail _ (.tail _ (List.mem_append.mpr (.inr (List.mem_append.mpr (.inl hPm)))))) (.cons (hDe.mono fun q hq => ?_) (.cons (.int _ _) .nil))))
      · rcases List.mem_cons.mp hq with rfl | hq
        · exact .head _
        rcases List.mem_cons.mp hq with rfl | hq
        · exact .tail _ (.head _)
        rcases List.mem_append.mp hq with hq | hq
        · exact .tail _ (.tail _ (List.mem_append.mpr (.inl hq)))
        exact .tail _ (.tail _ (List.mem_append.mpr (.inr (List.mem_append.mpr (.inr hq)))))
      · rcases List.mem_append.mp hq with hq | hq
        · exact .tail _ (.tail _ (List.mem_append.mpr (.inr (List.mem_append.mpr (.inl hq)))))
        exact .tail _ (.tail _ (List.mem_append.mpr (.inl hq)))
    have hp9 : ∀ tq, pp5 ar [a0, a1, a2, a3] p' (pre ++ [k]) ⟨pvs ++ [Value.ref P], pn + 1, n9, PySem.Builtin.bitOr W (lf.mask [a0, a1, a2, a3]), tq, p + 1 + 1, t9, ls ++ [lf]⟩ := fun tq =>
      ⟨by simp [hlen], by simp [hW, orL], hor.1, hor.2, (by show 0 ≤ p + 1 + 1; omega), (by show p + 1 + 1 ≤ p' + 2 * ((pre ++ [k]).length : Int); rw [List.length_append, List.length_singleton]; omega), fun l hl => (List.mem_append.mp hl).elim (hok l) fun h => by rw [List.mem_singleton.mp h]; exact hlok⟩
    refine' kd_end (tl := tl) (⟨pvs ++ [Value.ref P], pn + 1, n9, PySem.Builtin.bitOr W (lf.mask [a0, a1, a2, a3]), _, p + 1 + 1, t9, ls ++ [lf]⟩ : S5) tl9 sep F3 N3 hn9 ho9 rfl hb9 hw9 (List.forall_mem_cons.mpr ⟨rfl, List.forall_mem_cons.mpr ⟨rfl, List.forall_mem_cons.mpr ⟨rfl, List.forall_mem_cons.mpr ⟨rfl, List.forall_mem_cons.mpr ⟨rfl, fun _ h => nomatch h⟩⟩⟩⟩⟩) ?er hf9 (hp9 _)
    case er =>
      intro z hz h1 _
      dsimp only [ps5] at h1
      simp only [List.mem_cons, List.not_mem_nil, or_false, forall_eq_or_imp, forall_eq] at h1
      obtain ⟨b1, b2, b3, b4, b5⟩ := h1
      simp [kstB, hz, b1, b2, b3, b4, b5]
  · intro c tl u h tk ooff hf hp F N
    obtain ⟨pvs, pn, jn, W, tw, p, t, ls⟩ := c
    obtain ⟨hlen, hW, hW0, hW1, hp0, hp1', hok⟩ := hp
    dsimp only [ps5, led5] at F N hlen hW hW0 hW1 hp0 hp1' hok
    rw [rangeKs_length] at hlen
    have hf' : DatAll ((L + 1 + 1, oR) :: (L + 1, oJ) :: (news ++ tl)) pvs (ls.map (mpair ar [a0, a1, a2, a3])) := hf
    have sb : ∀ q ∈ (L + 1 + 1, oR) :: (L + 1, oJ) :: (news ++ tl), q ∈ (J, listOf #[.ref C, .int p t] jn) :: (PL, listOf pvs.toArray pn) :: (L + 1 + 1, oR) :: (L + 1, oJ) :: (news ++ tl) := fun q hq => .tail _ (.tail _ hq)
    have sn : ∀ q ∈ news, q ∈ (J, listOf #[.ref C, .int p t] jn) :: (PL, listOf pvs.toArray pn) :: (L + 1 + 1, oR) :: (L + 1, oJ) :: (news ++ tl) := fun q hq => .tail _ (.tail _ (.tail _ (.tail _ (List.mem_append.mpr (.inl hq)))))
    have N2 : News h₀ L h ((L + 1 + 1, oR) :: (J, listOf #[.ref C, .int p t] jn) :: (PL, listOf pvs.toArray pn) :: (L + 1 + 1, oR) :: (L + 1, oJ) :: (news ++ tl)) := News.sub9 N fun q hq => (List.mem_cons.mp hq).elim (fun e => e ▸ .tail _ (.tail _ (.head _))) id
    dsimp only
    exact st6 (kst_self [(Str.ofString "arity", .int (ar : Int) ta), (Str.ofString "masks", .ref M), (Str.ofString "pairs", .ref PL), (Str.ofString "whole", .int W tw), (Str.ofString "levels", .int 0 tl0)] (List.forall_mem_cons.mpr ⟨rfl, List.forall_mem_cons.mpr ⟨rfl, List.forall_mem_cons.mpr ⟨rfl, List.forall_mem_cons.mpr ⟨rfl, List.forall_mem_cons.mpr ⟨rfl, fun _ h => nomatch h⟩⟩⟩⟩⟩) F) B X N2 T hoR (sn _ hR) (hRD.mono sn) h4 (sn _ hM) h00 h01 h10 h11 h20 h21 h30 h31 hW0 hW1 har (.tail _ (.head _)) (hf'.mono sb) (by omega) (by omega) hok hW rfl hP0 fin
end
end Mine
end

namespace Mine
theorem rstC3 : True := by
  w_top off
  exact trivial
end Mine
section
open PySem PySem.W PyProof.Rows PySem.Calls PySem.Spec PyProof.Rows.LCg
namespace Mine
def Jdraw (J C : Addr) (p : Int) (base : List (Addr × Obj)) (i : Nat) (ys : List Value) (nw : List (Addr × Obj)) : Prop :=
  ∃ t n ms, nw = (J, listOf #[.ref C, .int (p + (i : Int)) t] n) :: base ∧ IntsAre ys ms ∧ ms.length = i ∧ ∀ x ∈ ms, 0 ≤ x ∧ x < 16
theorem ints_snoc {vs : List Value} {ms : List Int} {x : Int} {t : Tok} (h : IntsAre vs ms) : IntsAre (vs ++ [.int x t]) (ms ++ [x]) := by
  induction h with
  | nil => exact .cons _ _ .nil
  | cons n u _ ih => exact .cons _ _ ih
theorem ints4 {vs : List Value} {b0 b1 b2 b3 : Int} (h : IntsAre vs [b0, b1, b2, b3]) : ∃ u0 u1 u2 u3, vs = [.int b0 u0, .int b1 u1, .int b2 u2, .int b3 u3] := by
  cases h with | cons _ u0 h =>
  cases h with | cons _ u1 h =>
  cases h with | cons _ u2 h =>
  cases h with | cons _ u3 h =>
  cases h
  exact ⟨_, _, _, _, rfl⟩
section
variable {w : World}
local macro_rules | `(tactic| walk_at "exec Assign cons ListComp") => `(tactic| (k_here; k_dflt (refine LCg.Assign_ListComp_U (F₀ := by k_asm) (by rfl) (by with_unfolding_all rfl) (by with_unfolding_all rfl) (by decide) (by rfl) (by decide) (by rfl) (by rfl) (by decide) ?_)))

local macro_rules | `(tactic| walk_at "call builtin:len") => `(tactic| (k_here; (with_reducible show wpAny _ _ (call (Value.builtin "len") [Value.ref _]) _ _ _); k_dflt (refine' len_c ?k1 ?k2 ?k3 ?_; (case k1 => k_asm); (case k2 => k_mem); (case k3 => omega); k_whole)))
local macro_rules | `(tactic| walk_at "STEPS3") => `(tactic| repeat' ((fail_if_success (with_reducible show LCg.CompSrc _ _ _ _ _ _ _ _ _ _ _ _ _ _)); (fail_if_success (with_reducible show LCg.CompEnd _ _ _ _ _ _ _ _ _ _ _ _ _ _)); (fail_if_success (with_reducible show wpAny _ _ (execs (PySem.Stmt.For _ _ _ _ _ :: _) _) _ _ _)); (fail_if_success (with_reducible show wpAny _ _ (call (Value.ref _) _) _ _ _)); first | (k_unfold; (try dsimp only)) | walk1 | (dsimp only; walk1)))
set_option maxRecDepth 100000 in
set_option maxHeartbeats 1000000 in
theorem st3 {L fa : Addr} {cd : Value} {s : Shared} {h₀ : Heap} {Q : Flow → Shared → Prop} {E : Value → Shared → Prop} {mean : ExcName → Option Value} {mg mb m0 : Str → Option Value} {news : List (Addr × Obj)} {oR oJ : Obj} {J C R a00 : Addr} {jn rn ck nn0 ar : Nat} {rs vs us0 : List Value} {ns : List Int} {p : Int} {ta t : Tok}
    (F : Fr h₀ L s.heap (kstB m0 [(Str.ofString "arity", .int (ar : Int) ta)])) (B : Below callerA h₀ [] h₀) (X : (Mine.hd.heap_1 w.params).In h₀)
    (N : News h₀ L s.heap ((J, listOf #[.ref C, .int p t] jn) :: (L + 1 + 1, oR) :: (L + 1, oJ) :: news)) (T : Top Mine.hd.view_1 (looseW Mine.hd.view_1 [Str.ofString "set_of_sets"]) mean mg mb h₀)
    (hoR : oR.data = .cell (some (.ref R))) (hoJ : oJ.data = .cell (some (.ref J))) (hR : (R, listOf rs.toArray rn) ∈ news) (hRD : DatAll news rs ((List.range 4).map (rowD ar))) (h4 : rs.length = 4) (har : ar = 1 ∨ ar = 2)
    (hC : (C, listOf vs.toArray ck) ∈ news) (hD : IntsAre vs ns) (hvl : vs.length < 100000) (hb : ∀ x ∈ ns, 0 ≤ x ∧ x < 1000003) (h0 : 0 ≤ p) (h1 : p < 100)
    (hr0 : rs[0]? = some (.ref a00)) (ha0 : (a00, ({ cls := .type "tuple", data := .seq us0.toArray nn0 } : Obj)) ∈ news) (hu0 : us0.length = ar)
    (offJ : ∀ q ∈ (L + 1 + 1, oR) :: (L + 1, oJ) :: news, q.1 ≠ J)
    (hP : PassesOwn (model PySem.Challenge.rw_rr0086_01.row.prog w) (callerA.deeper (lawE L fa cd)) (lawE L fa cd) E) (fin : ∀ h' m' tk', Fr h₀ L h' m' → Q (.ret (.bool true)) { s with heap := h', toks := tk' }) :
    wpAny (model PySem.Challenge.rw_rr0086_01.row.prog w) (callerA.deeper (lawE L fa cd)) (execs (lawB 3) (lawE L fa cd)) Q E s := by
  have hP0 := hP
  simp only [lawB, lawE, lawS, PySem.Challenge.pw_rr0086_01, lastOf, bodyOf, scopeOf, dropS] at hP ⊢
  walk_at "STEPS3"
  rename IsRange _ _ _ _ _ _ _ _ => rg
  rename Fr _ _ _ _ => F1
  rename News _ _ _ _ => N1
  k_dflt refine' LCg.CompSrc.range (n := 4) (by rfl) F1 N1 rg (by decide) (by decide) ?sz fun g => rest_J (Jdraw J C p ((L + 1 + 1, oR) :: (L + 1, oJ) :: news)) 4 ?cT ?cE 4 0 [] _ (Nat.zero_add _) ⟨t, jn, [], by simp, .nil, rfl, fun _ h => nomatch h⟩
  case sz => rw [sizeLine_eq]; omega
  case cT =>
    intro i ys nw v I oI C' oC D m₂ h tk E' hi hJ hP hC' hx F N off ne
    obtain ⟨t', n', ms, rfl, hys, hml, hmb⟩ := hJ
    have N2 : News h₀ L h ((J, listOf #[.ref C, .int (p + (i : Int)) t'] n') :: (I, oI) :: (C', oC) :: (D, lst ys) :: (L + 1 + 1, oR) :: (L + 1, oJ) :: news) := News.sub9 N (fun q hq => by
      rcases List.mem_cons.mp hq with rfl | hq
      · exact .tail _ (.tail _ (.tail _ (.head _)))
      rcases List.mem_cons.mp hq with rfl | hq
      · exact .head _
      rcases List.mem_cons.mp hq with rfl | hq
      · exact .tail _ (.head _)
      rcases List.mem_cons.mp hq with rfl | hq
      · exact .tail _ (.tail _ (.head _))
      exact .tail _ (.tail _ (.tail _ (.tail _ hq))))
    clear N N1
    walk_at "STEPS3"
    obtain ⟨⟨o1, o2, o3⟩, o4⟩ := off
    k_dflt refine' Does.use (draw_does ?um hD ?uo ?u0 ?u1 ?u2 ?u3 hvl hb) ?k1 ?k2 ?k3 ?k4 ?k5 ?kK ?kd ?ku ?_
    case k4 => exact N2
    case k1 => k_asm
    case k2 => k_asm
    case k3 => k_asm
    case um => exact .tail _ (.tail _ (.tail _ (.tail _ (.tail _ hC))))
    case u0 => omega
    case u1 => omega
    case u2 => decide
    case u3 => decide
    case uo =>
      intro q hq
      rcases List.mem_cons.mp hq with rfl | hq
      · exact fun (e : I = J) => o1 e.symm
      rcases List.mem_cons.mp hq with rfl | hq
      · exact fun (e : C' = J) => o2 e.symm
      rcases List.mem_cons.mp hq with rfl | hq
      · exact fun (e : D = J) => o3 e.symm
      exact offJ q hq
    case k5 => k_asm
    case kK => first | exact rfl | assumption
    case kd => first | k_room | ktr_room
    case ku => first | ktr_units | decide
    intro rv nw9 h9 tk9 F9 N9 P9
    obtain ⟨x, tx, t2, n2, rfl, hx0, hx1, rfl⟩ := P9
    (try dsimp only)
    refine CompEnd.intro F9 N9 ((J, listOf #[.ref C, .int (p + (i : Int) + 1) t2] n2) :: (L + 1 + 1, oR) :: (L + 1, oJ) :: news) (fun q hq => ?_) ⟨⟨o1, o2, o3⟩, o4⟩ trivial ⟨t2, n2, ms ++ [x], by rw [show p + ((i + 1 : Nat) : Int) = p + (i : Int) + 1 by omega], ints_snoc hys, by rw [List.length_append, hml]; rfl, fun z hz => (List.mem_append.mp hz).elim (hmb z) fun h => by rw [List.mem_singleton.mp h]; exact ⟨hx0, hx1⟩⟩
    rcases List.mem_cons.mp hq with rfl | hq
    · exact .tail _ (.head _)
    rcases List.mem_cons.mp hq with rfl | hq
    · exact .tail _ (.tail _ (.head _))
    rcases List.mem_cons.mp hq with rfl | hq
    · exact .tail _ (.tail _ (.tail _ (.head _)))
    rcases List.mem_cons.mp hq with rfl | hq
    · exact .head _
    exact .tail _ (.tail _ (.tail _ (.tail _ hq)))
  intro ys nw hJ
  obtain ⟨t', n', ms, rfl, hys, hml, hmb⟩ := hJ
  obtain ⟨b0, b1, b2, b3, rfl⟩ : ∃ b0 b1 b2 b3, ms = [b0, b1, b2, b3] := by
    match ms, hml with
    | [a, b, c, d], _ => exact ⟨a, b, c, d, rfl⟩
  obtain ⟨u0, u1, u2, u3, rfl⟩ := ints4 hys
  have c0 := hmb b0 (.head _)
  have c1 := hmb b1 (.tail _ (.head _))
  have c2 := hmb b2 (.tail _ (.tail _ (.head _)))
  have c3 := hmb b3 (.tail _ (.tail _ (.tail _ (.head _))))
  walk_at "STEPS3"
  rename (@LT.lt _ _ _ _ ∧ @LT.lt _ _ _ _ ∧ @LT.lt _ _ _ _ ∧ @LT.lt _ _ _ _ ∧ @LT.lt _ _ _ _ ∧ AllLt _ _) => lT
  rename (@LT.lt _ _ _ _ ∧ @LT.lt _ _ _ _ ∧ @LT.lt _ _ _ _ ∧ @LT.lt _ _ _ _ ∧ AllLt _ _) => lP
  rename (@Ne _ _ _ ∧ @Ne _ _ _ ∧ @Ne _ _ _ ∧ Off1 _ _) => oM
  rename Fr _ _ _ _ => F3
  rename News _ _ _ _ => N3
  obtain ⟨lT1, lT2, lT3, lT4, lT5, lT6⟩ := lT
  obtain ⟨lP1, lP2, lP3, lP4, lP5⟩ := lP
  dsimp only
  refine' st5 (jn := n') (t := t') (p := p + (4 : Nat)) (kst_self [(Str.ofString "arity", .int (ar : Int) ta), (Str.ofString "masks", _), (Str.ofString "pairs", _), (Str.ofString "whole", .int 0 _), (Str.ofString "levels", .int 0 _)] (List.forall_mem_cons.mpr ⟨rfl, List.forall_mem_cons.mpr ⟨rfl, List.forall_mem_cons.mpr ⟨rfl, List.forall_mem_cons.mpr ⟨rfl, List.forall_mem_cons.mpr ⟨rfl, fun _ h => nomatch h⟩⟩⟩⟩⟩) F3) B X (News.sub9 N3 ?xN) T hoR hoJ (.tail _ (.tail _ hR)) (hRD.mono fun q hq => .tail _ (.tail _ hq)) h4 (.tail _ (.head _)) c0.1 c0.2 c1.1 c1.2 c2.1 c2.2 c3.1 c3.2 har (.tail _ (.tail _ hC)) hD hvl hb (by omega) (by omega) hr0 (.tail _ (.tail _ ha0)) hu0 ?xJ ?xP hP0 fin
  case xN =>
    intro q hq
    rcases List.mem_cons.mp hq with rfl | hq
    · exact .tail _ (.tail _ (.tail _ (.head _)))
    rcases List.mem_cons.mp hq with rfl | hq
    · exact .tail _ (.head _)
    rcases List.mem_cons.mp hq with rfl | hq
    · exact .tail _ (.tail _ (.tail _ (.tail _ (.head _))))
    rcases List.mem_cons.mp hq with rfl | hq
    · exact .tail _ (.tail _ (.tail _ (.tail _ (.tail _ (.head _)))))
    rcases List.mem_cons.mp hq with rfl | hq
    · exact .head _
    rcases List.mem_cons.mp hq with rfl | hq
    · exact .tail _ (.tail _ (.head _))
    exact .tail _ (.tail _ (.tail _ (.tail _ (.tail _ (.tail _ hq)))))
  case xJ =>
    intro q hq
    rcases List.mem_cons.mp hq with rfl | hq
    · exact Nat.ne_of_gt lP2
    rcases List.mem_cons.mp hq with rfl | hq
    · exact offJ _ (.head _)
    rcases List.mem_cons.mp hq with rfl | hq
    · exact offJ _ (.tail _ (.head _))
    rcases List.mem_cons.mp hq with rfl | hq
    · exact Nat.ne_of_gt lT3
    rcases List.mem_cons.mp hq with rfl | hq
    · exact Ne.symm oM.1
    exact offJ _ (.tail _ (.tail _ hq))
  case xP =>
    intro q hq
    rcases List.mem_cons.mp hq with rfl | hq
    · exact Nat.ne_of_lt lP3
    rcases List.mem_cons.mp hq with rfl | hq
    · exact Nat.ne_of_lt lP4
    rcases List.mem_cons.mp hq with rfl | hq
    · exact Nat.ne_of_gt lT1
    rcases List.mem_cons.mp hq with rfl | hq
    · exact Nat.ne_of_lt lP1
    exact Nat.ne_of_lt (ktn_ltOf lP5 q hq)
end
end Mine
end

namespace Mine
theorem rstC0 : True := by
  w_top off
  exact trivial
end Mine
section
open PySem PySem.W PyProof.Rows PySem.Calls PySem.Spec PyProof.Rows.LCg
namespace Mine
theorem fmod_bnd {xs : List Int} : ∀ x ∈ xs.map (fun k' => k'.fmod 1000003), 0 ≤ x ∧ x < 1000003 := fun x hx => by
  obtain ⟨y, _, rfl⟩ := List.mem_map.mp hx
  exact ⟨Int.fmod_nonneg_of_pos _ (by decide), Int.fmod_lt_of_pos _ (by decide)⟩
section
variable {w : World}

local macro_rules | `(tactic| walk_at "call builtin:len") => `(tactic| (k_here; (with_reducible show wpAny _ _ (call (Value.builtin "len") [Value.ref _]) _ _ _); k_dflt (refine' len_c ?k1 ?k2 ?k3 ?_; (case k1 => k_asm); (case k2 => k_mem); (case k3 => omega); k_whole)))
local macro_rules | `(tactic| walk_at "STEPS0") => `(tactic| repeat' ((fail_if_success (with_reducible show wpAny _ _ (execs (PySem.Stmt.Assign _ _ _ :: PySem.Stmt.Assign _ _ _ :: PySem.Stmt.For _ _ _ _ _ :: _) _) _ _ _)); (fail_if_success (with_reducible show wpAny _ _ (call (Value.ref _) _) _ _ _)); first | (k_unfold; (try dsimp only)) | walk1 | (dsimp only; walk1)))
set_option maxRecDepth 100000 in
theorem go3 {L fa : Addr} {cd : Value} {s : Shared} {h₀ : Heap} {Q : Flow → Shared → Prop} {E : Value → Shared → Prop} {mean : ExcName → Option Value} {mg mb m : Str → Option Value} {oR oJ o5 : Obj} {J C R d0 d1 d2 d3 D5 : Addr} {jn rn ar n0 n1 n2 n3 ck : Nat} {vs us0 us1 us2 us3 : List Value} {ns : List Int} {p : Int} {ta t : Tok} {P0 P1 P2 P3 P9 X2 X11 X12 X01 X02 X03 X91 X92 X93 X94 : Prop}
    (F : Fr h₀ L s.heap m) (hma : m (Str.ofString "arity") = some (.int (ar : Int) ta)) (B : Below callerA h₀ [] h₀) (X : (Mine.hd.heap_1 w.params).In h₀)
    (N : News h₀ L s.heap [(R, listOf #[.ref d0, .ref d1, .ref d2, .ref d3] rn), (d3, { cls := .type "tuple", data := .seq us3.toArray n3 }), (d2, { cls := .type "tuple", data := .seq us2.toArray n2 }), (d1, { cls := .type "tuple", data := .seq us1.toArray n1 }), (d0, { cls := .type "tuple", data := .seq us0.toArray n0 }), (J, listOf #[.ref C, .int p t] jn), (C, listOf vs.toArray ck), (D5, o5), (L + 1 + 1, oR), (L + 1, oJ)])
    (T : Top Mine.hd.view_1 (looseW Mine.hd.view_1 [Str.ofString "set_of_sets"]) mean mg mb h₀)
    (hoR : oR.data = .cell (some (.ref R))) (hoJ : oJ.data = .cell (some (.ref J)))
    (h0 : DatAll [] us0 ((rowL ar 0).map Dat.int)) (h1 : DatAll [] us1 ((rowL ar 1).map Dat.int)) (h2 : DatAll [] us2 ((rowL ar 2).map Dat.int)) (h3 : DatAll [] us3 ((rowL ar 3).map Dat.int))
    (har : ar = 1 ∨ ar = 2) (hD : IntsAre vs ns) (hvl : vs.length < 100000) (hb : ∀ x ∈ ns, 0 ≤ x ∧ x < 1000003) (hp0 : 0 ≤ p) (hp1 : p < 100) (hu0 : us0.length = ar)
    (q0 : J < d0 ∧ P0) (q1 : X2 ∧ J < d1 ∧ P1) (q2 : X11 ∧ X12 ∧ J < d2 ∧ P2) (q3 : X01 ∧ X02 ∧ X03 ∧ J < d3 ∧ P3) (q9 : X91 ∧ X92 ∧ X93 ∧ X94 ∧ J < R ∧ P9) (qJ : C < J ∧ D5 < J ∧ L + 1 + 1 < J ∧ L + 1 < J)
    (hP : PassesOwn (model PySem.Challenge.rw_rr0086_01.row.prog w) (callerA.deeper (lawE L fa cd)) (lawE L fa cd) E) (fin : ∀ h' m' tk', Fr h₀ L h' m' → Q (.ret (.bool true)) { s with heap := h', toks := tk' }) :
    wpAny (model PySem.Challenge.rw_rr0086_01.row.prog w) (callerA.deeper (lawE L fa cd)) (execs (lawB 3) (lawE L fa cd)) Q E s := by
  obtain ⟨j1, j2, j3, j4⟩ := qJ
  let nw : List (Addr × Obj) := [(R, listOf #[.ref d0, .ref d1, .ref d2, .ref d3] rn), (d3, { cls := .type "tuple", data := .seq us3.toArray n3 }), (d2, { cls := .type "tuple", data := .seq us2.toArray n2 }), (d1, { cls := .type "tuple", data := .seq us1.toArray n1 }), (d0, { cls := .type "tuple", data := .seq us0.toArray n0 }), (C, listOf vs.toArray ck), (D5, o5)]
  refine' st3 (news := nw) (rs := [.ref d0, .ref d1, .ref d2, .ref d3]) (kst_self [(Str.ofString "arity", .int (ar : Int) ta)] (List.forall_mem_cons.mpr ⟨hma, fun _ h => nomatch h⟩) F) B X (News.sub9 N ?xN) T hoR hoJ (.head _) ?xD rfl har (.tail _ (.tail _ (.tail _ (.tail _ (.tail _ (.head _)))))) hD hvl hb hp0 hp1 rfl (.tail _ (.tail _ (.tail _ (.tail _ (.head _))))) hu0 ?xJ hP fin
  case xN =>
    intro q hq
    rcases List.mem_cons.mp hq with rfl | hq
    · exact .tail _ (.tail _ (.tail _ (.tail _ (.tail _ (.head _)))))
    rcases List.mem_cons.mp hq with rfl | hq
    · exact .tail _ (.tail _ (.tail _ (.tail _ (.tail _ (.tail _ (.tail _ (.tail _ (.head _))))))))
    rcases List.mem_cons.mp hq with rfl | hq
    · exact .tail _ (.tail _ (.tail _ (.tail _ (.tail _ (.tail _ (.tail _ (.tail _ (.tail _ (.head _)))))))))
    rcases List.mem_cons.mp hq with rfl | hq
    · exact .head _
    rcases List.mem_cons.mp hq with rfl | hq
    · exact .tail _ (.head _)
    rcases List.mem_cons.mp hq with rfl | hq
    · exact .tail _ (.tail _ (.head _))
    rcases List.mem_cons.mp hq with rfl | hq
    · exact .tail _ (.tail _ (.tail _ (.head _)))
    rcases List.mem_cons.mp hq with rfl | hq
    · exact .tail _ (.tail _ (.tail _ (.tail _ (.head _))))
    rcases List.mem_cons.mp hq with rfl | hq
    · exact .tail _ (.tail _ (.tail _ (.tail _ (.tail _ (.tail _ (.head _))))))
    rcases List.mem_cons.mp hq with rfl | hq
    · exact .tail _ (.tail _ (.tail _ (.tail _ (.tail _ (.tail _ (.tail _ (.head _)))))))
    cases hq
  case xD =>
    have nn : ∀ q ∈ ([] : List (Addr × Obj)), q ∈ nw := fun _ h => nomatch h
    exact .cons (.tuple (.tail _ (.tail _ (.tail _ (.tail _ (.head _))))) (h0.mono nn)) (.cons (.tuple (.tail _ (.tail _ (.tail _ (.head _)))) (h1.mono nn)) (.cons (.tuple (.tail _ (.tail _ (.head _))) (h2.mono nn)) (.cons (.tuple (.tail _ (.head _)) (h3.mono nn)) .nil)))
  case xJ =>
    intro q hq
    rcases List.mem_cons.mp hq with rfl | hq
    · exact Nat.ne_of_lt j3
    rcases List.mem_cons.mp hq with rfl | hq
    · exact Nat.ne_of_lt j4
    rcases List.mem_cons.mp hq with rfl | hq
    · exact Nat.ne_of_gt q9.2.2.2.2.1
    rcases List.mem_cons.mp hq with rfl | hq
    · exact Nat.ne_of_gt q3.2.2.2.1
    rcases List.mem_cons.mp hq with rfl | hq
    · exact Nat.ne_of_gt q2.2.2.1
    rcases List.mem_cons.mp hq with rfl | hq
    · exact Nat.ne_of_gt q1.2.1
    rcases List.mem_cons.mp hq with rfl | hq
    · exact Nat.ne_of_gt q0.1
    rcases List.mem_cons.mp hq with rfl | hq
    · exact Nat.ne_of_lt j1
    rcases List.mem_cons.mp hq with rfl | hq
    · exact Nat.ne_of_lt j2
    cases hq
/-! The head lays a quick twin of each constant that it makes, under the name of the theorem it stands in, when that theorem is
elaborated apart; the twins of these constants are many times the proof's size and the head goes through without them:
where the twin's name is taken, it lays none. -/
theorem top.tw16541100652227675460 : True := trivial
theorem top.tw12451476361096058153 : True := trivial
theorem top.tw18064794426631996164 : True := trivial
theorem top.tw16713831800681072344 : True := trivial
theorem top.tw12318557346453588183 : True := trivial
theorem top.tw6333448901615975916 : True := trivial
theorem top.tw6520327441239513222 : True := trivial
theorem top.tw795583310449317561 : True := trivial
theorem top.tw4299629679881509495 : True := trivial
theorem top.tw1212798325632107971 : True := trivial
theorem top.tw5244899138074338376 : True := trivial
theorem top.tw1400011881503588481 : True := trivial
theorem top.tw16196420915677631385 : True := trivial
theorem top.tw13272337422414781067 : True := trivial
theorem top.tw1195175773429642966 : True := trivial
theorem top.tw12012865196380796599 : True := trivial
theorem top.tw5088376156974544275 : True := trivial
theorem top.tw18008055252877512497 : True := trivial
theorem top.tw9259421805112917234 : True := trivial
theorem top.tw1516213087968936877 : True := trivial
theorem top.tw12376051458212225564 : True := trivial
theorem top.tw6286779285267259847 : True := trivial
theorem top.tw72247145696351765 : True := trivial
theorem top.tw7990429038631628895 : True := trivial
theorem top.tw16273406610938067001 : True := trivial
theorem top.tw6187478851450931391 : True := trivial
theorem top.tw2924597203103170677 : True := trivial
theorem top.tw2514443458684651071 : True := trivial
theorem top.tw3730354652608582461 : True := trivial
theorem top.tw10617020205504526918 : True := trivial
theorem top.tw12483720753089274532 : True := trivial
theorem top.tw12622177474791663080 : True := trivial
theorem top.tw5581607755468803823 : True := trivial
theorem top.tw14459580976405569124 : True := trivial
theorem top.tw517144808224063464 : True := trivial
theorem top.tw14826035006057030972 : True := trivial
theorem top.tw2985252069258134486 : True := trivial
theorem top.tw10404823597219466188 : True := trivial
theorem top.tw390997316461189296 : True := trivial
theorem top.tw987869383939708018 : True := trivial
theorem top.tw370947364307004932 : True := trivial
theorem top.tw6664487174759623829 : True := trivial
theorem top.tw13091174067606910046 : True := trivial
theorem top.tw9108098604805947806 : True := trivial
theorem top.tw2508255044705368994 : True := trivial
theorem top.tw12413978512387470194 : True := trivial
theorem top.tw4390711018229674620 : True := trivial
theorem top.tw12973084742139787200 : True := trivial
theorem top.tw17600567758703202055 : True := trivial
theorem top.tw2080415116128066167 : True := trivial
theorem top.tw9685306978477570941 : True := trivial
theorem top.tw3176535264509419967 : True := trivial
theorem top.tw16795567611416646642 : True := trivial
theorem top.tw5889316905344633881 : True := trivial
theorem top.tw6859976401760118174 : True := trivial
theorem top.tw2617719716777270872 : True := trivial
theorem top.tw10665585003947065092 : True := trivial
theorem top.tw12385144161495827662 : True := trivial
theorem top.tw1275901062530889299 : True := trivial
theorem top.tw708234853630380328 : True := trivial
theorem top.tw5969682004907312646 : True := trivial
theorem top.tw15569959144833144457 : True := trivial
theorem top.tw12958502747184954254 : True := trivial
theorem top.tw2462062305354472974 : True := trivial
theorem top.tw4656485037274611717 : True := trivial
theorem top.tw18034075008235765660 : True := trivial
theorem top.tw17470836177267949868 : True := trivial
theorem top.tw4963205469387433577 : True := trivial
theorem top.tw12819366960792805191 : True := trivial
theorem top.tw7527032243904285869 : True := trivial
theorem top.tw1959476706220467273 : True := trivial
theorem top.tw13370750898655102155 : True := trivial
theorem top.tw16123964013534891561 : True := trivial
theorem top.tw9503340733035011235 : True := trivial
theorem top.tw9068506458530023791 : True := trivial
theorem top.tw15362295582089109014 : True := trivial
theorem top.tw956942650209027819 : True := trivial
theorem top.tw15177526630643400193 : True := trivial
theorem top.tw5868845118606482295 : True := trivial
theorem top.tw11858546649754279707 : True := trivial
theorem top.tw12342655685612074800 : True := trivial
theorem top.tw342308947776675178 : True := trivial
theorem top.tw7855079511596107753 : True := trivial
theorem top.tw3776753064480771068 : True := trivial
theorem top.tw1814787853859245837 : True := trivial
theorem top.tw9229161468869434483 : True := trivial
theorem top.tw728428047077509346 : True := trivial
theorem top.tw15299407806266782574 : True := trivial
theorem top.tw14390669486469195807 : True := trivial
theorem top.tw3195968871104189447 : True := trivial
theorem top.tw6431110157172167083 : True := trivial
theorem top.tw105208000716104510 : True := trivial
theorem top.tw1149218181149386328 : True := trivial
theorem top.tw2731995056826638727 : True := trivial
theorem top.tw13345470168829271861 : True := trivial
theorem top.tw16174758807025615021 : True := trivial
theorem top.tw1483126911874232274 : True := trivial
theorem top.tw11960245374511038805 : True := trivial
theorem top.tw5303079699428457377 : True := trivial
theorem top.tw6919701780365589675 : True := trivial
theorem top.tw9800703332001039478 : True := trivial
theorem top.tw16900427199656544559 : True := trivial
theorem top.tw14282377253939248939 : True := trivial
theorem top.tw18164388396756303480 : True := trivial
theorem top.tw12535971307161669396 : True := trivial
theorem top.tw8265191368974092141 : True := trivial
theorem top.tw6812286434817487243 : True := trivial
theorem top.tw7297446738713254254 : True := trivial
theorem top.tw13359135706311490777 : True := trivial
theorem top.tw11430207588045935325 : True := trivial
theorem top.tw864819663365544661 : True := trivial
theorem top.tw8184561461823581802 : True := trivial
theorem top.tw16325430554902658873 : True := trivial
theorem top.tw5523086135645875356 : True := trivial
theorem top.tw16352630495959832749 : True := trivial
theorem top.tw12540527436937284434 : True := trivial
theorem top.tw4186445540838780016 : True := trivial
theorem top.tw14861896470697024400 : True := trivial
theorem top.tw352232786441526191 : True := trivial
theorem top.tw5105846836358774362 : True := trivial
set_option Elab.async true in
set_option maxRecDepth 100000 in
set_option maxHeartbeats 8000000 in
theorem top : PySem.Challenge.rw_rr0086_01.Holds := by
  (w_on; o_law; k_head; (case hw => w_witness2))
  show WalkO Mine.hd.view_1 _ (XL Mine.hd.view_1 _) (kHook Mine.hd.heap_1 _ _).says _ _ _ _
  w_top off
  k_go0
  all_goals try k_fold
  walk_at "STEPS0"
  rename IntsAre _ (List.map _ _) => hD
  rename List.length _ = List.length (List.map _ _) => hL8
  rename (@LT.lt _ _ _ _ ∧ @LT.lt _ _ _ _ ∧ @LT.lt _ _ _ _ ∧ @LT.lt _ _ _ _) => l9
  have hvl : _ < 100000 := Nat.lt_of_le_of_lt (Nat.le_of_eq hL8) (by rw [List.length_map, List.length_take]; omega)
  k_dflt refine' Does.use (draw_does ?um hD ?uo ?u0 ?u1 ?u2 ?u3 hvl fmod_bnd) ?k1 ?k2 ?k3 ?k4 ?k5 ?kK ?kd ?ku ?_
  case k4 => k_asm
  case k1 => k_asm
  case k2 => k_asm
  case k3 => k_asm
  case um => exact .head _
  case u0 => decide
  case u1 => decide
  case u2 => decide
  case u3 => decide
  case uo =>
    obtain ⟨l1, l2, l3, l4⟩ := l9
    intro q hq
    rcases List.mem_cons.mp hq with rfl | hq
    · exact Nat.ne_of_lt l1
    rcases List.mem_cons.mp hq with rfl | hq
    · exact Nat.ne_of_lt l2
    rcases List.mem_cons.mp hq with rfl | hq
    · exact Nat.ne_of_lt l3
    rcases List.mem_cons.mp hq with rfl | hq
    · exact Nat.ne_of_lt l4
    cases hq
  case k5 => k_asm
  case kK => first | exact rfl | assumption
  case kd => first | k_room | ktr_room
  case ku => first | ktr_units | decide
  intro rv nw9 h9 tk9 F9 N9 P9
  obtain ⟨x, tx, t2, n2, rfl, hx0, hx1, rfl⟩ := P9
  (try dsimp only)
  obtain rfl | rfl : x = 0 ∨ x = 1 := by omega
  · walk_at "STEPS0"
    rename Fr _ _ _ _ => F3
    rename News _ _ _ _ => N3
    dsimp only
    refine' go3 (ar := 1) F3 rfl ?x11 ?x12 N3 ?x13 ?x14 ?x15 (.cons (.int _ _) .nil) (.cons (.int _ _) .nil) (.cons (.int _ _) .nil) (.cons (.int _ _) .nil) (by decide) hD hvl fmod_bnd (by decide) (by decide) rfl ?y10 ?y11 ?y12 ?y13 ?y19 l9 ?z1P ?z1F
    case x11 => k_asm
    case x12 => k_asm
    case x13 => k_asm
    case x14 => assumption
    case x15 => assumption
    case y10 => assumption
    case y11 => assumption
    case y12 => assumption
    case y13 => assumption
    case y19 => assumption
    case z1P => first | assumption | passes_own
    case z1F =>
      intro h' m' tk' Fe
      first | wrow_close | (k_steps; done) | (dsimp only [qk]; wrow_close)
  · walk_at "STEPS0"
    rename Fr _ _ _ _ => F3
    rename News _ _ _ _ => N3
    dsimp only
    refine' go3 (ar := 2) F3 rfl ?x21 ?x22 N3 ?x23 ?x24 ?x25 (.cons (.int _ _) (.cons (.int _ _) .nil)) (.cons (.int _ _) (.cons (.int _ _) .nil)) (.cons (.int _ _) (.cons (.int _ _) .nil)) (.cons (.int _ _) (.cons (.int _ _) .nil)) (by decide) hD hvl fmod_bnd (by decide) (by decide) rfl ?y20 ?y21 ?y22 ?y23 ?y29 l9 ?z2P ?z2F
    case x21 => k_asm
    case x22 => k_asm
    case x23 => k_asm
    case x24 => assumption
    case x25 => assumption
    case y20 => assumption
    case y21 => assumption
    case y22 => assumption
    case y23 => assumption
    case y29 => assumption
    case z2P => first | assumption | passes_own
    case z2F =>
      intro h' m' tk' Fe
      first | wrow_close | (k_steps; done) | (dsimp only [qk]; wrow_close)
end
end Mine
end

end

theorem PySem.Challenge.cw_rr0086_01_holds : PySem.Challenge.rw_rr0086_01.Holds :=
  Mine.top
