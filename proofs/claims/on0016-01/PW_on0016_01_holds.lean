import PyProof.Rows.All
import Wide.All
import OpenK.AllK
import Wide.FinOn
import PySem.Challenge.RW_on0016_01
set_option Elab.async false
set_option genSizeOf false
set_option genInjectivity false
section
open PySem PySem.W PySem.Spec PySem.Calls PyProof.Rows
open AutoSeq1 (wpAny_loadPart')
namespace Mine
set_option maxRecDepth 100000
/-! enumerate over a tuple -/
set_option maxHeartbeats 1000000 in
theorem meets_enumerate_newT (l : Addr) (items : Array Value) (n : Nat) :
    Meets (Builtin.«enumerate.__new__» ⟨[.type "enumerate", .ref l], []⟩) (fun _ R s => s.heap.get? l = some { cls := .type "tuple", dict := none, data := .seq items n, slots := #[] } ∧
      R (.ok (.ret (.ref (s.heap.push { cls := .type "tuple_iterator", data := .fields #[.ref l, .int 0 0] }).objs.size)))
        { s with heap := (s.heap.push { cls := .type "tuple_iterator", data := .fields #[.ref l, .int 0 0] }).push { cls := .type "enumerate", data := .fields #[.none, .bool false, .ref s.heap.objs.size, rawInt 0, .none, .none] } }) :=
  .of_wp fun prog w A R s h => by
    obtain ⟨hp, g, d, tk, os⟩ := s; obtain ⟨hl, h⟩ := h
    have hsub := sub_enumerate
    have hL : Heap.IsTuple (Shared.heap ⟨hp, g, d, tk, os⟩) l items := ⟨_, hl, rfl, n, rfl⟩
    wp_walk using wpAny_loadPart' hl
    refine wpAny_stack_any fun st => wpAny_pure ?_
    split
    · rename_i c _ _ _ _ _
      cases (c == Value.type "enumerate")
      · wp_walk using wpAny_loadPart' hl, wpAny_pyIter_tuple hL
        exact ⟨_, rfl, h⟩
      · wp_walk using wpAny_loadPart' hl, wpAny_pyIter_tuple hL
        exact ⟨_, rfl, h⟩
    · wp_walk using wpAny_loadPart' hl, wpAny_pyIter_tuple hL
      exact ⟨_, rfl, h⟩
section
variable {prog : Program} {w : World} {A : Around} {E : Value → Shared → Prop} {s : Shared}
theorem call_enumerate_tuple {l : Addr} {items : Array Value} {n : Nat} {Q : Value → Shared → Prop}
    (hl : s.heap.get? l = some { cls := .type "tuple", dict := none, data := .seq items n, slots := #[] })
    (h : ∀ h', IsEnum h' (s.heap.objs.size + 1) s.heap.objs.size 0 .none → h'.IsTupleIter s.heap.objs.size l 0 → h'.objs.size = s.heap.objs.size + 2 →
      (∀ b o, s.heap.get? b = some o → h'.get? b = some o) → Q (.ref (s.heap.objs.size + 1)) { s with heap := h' }) :
    wpAny (model prog w) A (call (.type "enumerate") [.ref l]) Q E s := by
  refine callType_new F.called_enumerate (by decide) (F.typeCall_enumerate_1 _) (F.newCall_enumerate_1 _) (fun obj => F.args_object_init_2 obj _) F.entry_enumerate_new
    (meets_enumerate_newT l items n) ⟨hl, ?_⟩
  have hz : (s.heap.push { cls := .type "tuple_iterator", data := .fields #[.ref l, .int 0 0] }).objs.size = s.heap.objs.size + 1 := Heap.size_push ..
  show _ ∧ _
  rw [hz]
  have he : IsEnum ((s.heap.push { cls := .type "tuple_iterator", data := .fields #[.ref l, .int 0 0] }).push
      { cls := .type "enumerate", data := .fields #[.none, .bool false, .ref s.heap.objs.size, rawInt 0, .none, .none] }) (s.heap.objs.size + 1) s.heap.objs.size 0 .none := by
    have := Heap.get?_push_size (s.heap.push { cls := .type "tuple_iterator", data := .fields #[.ref l, .int 0 0] })
      (o := { cls := .type "enumerate", data := .fields #[.none, .bool false, .ref s.heap.objs.size, rawInt 0, .none, .none] }) rfl
    rw [hz] at this; exact this
  refine ⟨⟨_, he, rfl⟩, h _ he ⟨_, Heap.get?_push_of_some _ (Heap.get?_push_size _ rfl), rfl, rfl⟩ (by rw [Heap.size_push, hz]) fun b o x => Heap.get?_push_of_some _ (Heap.get?_push_of_some _ x)⟩
theorem nextOf_tuple_item {it l : Addr} {i : Nat} {items} {x : Value} {Q : Value → Shared → Prop} (hit : s.heap.IsTupleIter it l i)
    (hl : s.heap.IsTuple l items) (hx : items[i]? = some x)
    (hQ : ∀ h', h'.IsTupleIter it l (i + 1) → Heap.SameBut it s.heap h' → Q x { s with heap := h' }) :
    wpAny (model prog w) A (Builtin.SmallTypes.nextOf (.ref it)) Q E s := by
  obtain ⟨o, ho, hc, hd⟩ := id hit
  obtain ⟨ol, hol, _, nl, hdl⟩ := hl
  unfold Builtin.SmallTypes.nextOf
  refine wpAny_bind (wpAny_callSpecial?_slot (name := Str.ofString "__next__") hit.typeIs slot_tupleiter_next
    (wpAny_call_entry slot_tupleiter_next hit.typeIs entry_tupleiter_next ?_ (args_tupleiter_next _)))
  show wpAny _ _ (field (.ref it) 0 >>= _) _ _ s
  refine wpAny_bind (wpAny_field ho hd (x := .ref l) rfl ?_)
  show wpAny _ _ (if (Value.ref l == Value.none) = true then _ else _) _ _ s
  rw [if_neg (show ¬ ((Value.ref l == Value.none) = true) from Bool.false_ne_true)]
  show wpAny _ _ (field (.ref it) 1 >>= _) _ _ s
  refine wpAny_bind (wpAny_field ho hd (x := .int i 0) rfl ?_)
  show wpAny _ _ (seqItems? (.ref l) >>= _) _ _ s
  refine wpAny_bind (wpAny_seqItems hol hdl ?_)
  simp only [Int.toNat_natCast, hx]
  refine wpAny_bind (wpAny_setField ho hd (by simp) (wpAny_pure ⟨x, rfl, wpAny_pure (hQ _ ?_ (Heap.SameBut.update ..))⟩))
  exact ⟨_, Heap.get?_update_self _ ho (Obj.isFreed_of_fields (Obj.data_mapFields hd _)), (Obj.cls_mapFields ..).trans hc, by
    rw [Obj.data_mapFields hd]; simp [rawInt]⟩
theorem nextOf_tuple_end {it l : Addr} {i : Nat} {items} {Q : Value → Shared → Prop} (hh : A.handled = none)
    (hit : s.heap.IsTupleIter it l i) (hl : s.heap.IsTuple l items) (hx : items[i]? = none)
    (hE : ∀ h' e, Heap.ExtBut it s.heap h' → (∃ o, h'.get? e = some o ∧ o.cls = .type "StopIteration") → E (.ref e) { s with heap := h' }) :
    wpAny (model prog w) A (Builtin.SmallTypes.nextOf (.ref it)) Q E s := by
  obtain ⟨o, ho, hc, hd⟩ := id hit
  obtain ⟨ol, hol, _, nl, hdl⟩ := hl
  unfold Builtin.SmallTypes.nextOf
  refine wpAny_bind (wpAny_callSpecial?_slot (name := Str.ofString "__next__") hit.typeIs slot_tupleiter_next
    (wpAny_call_entry slot_tupleiter_next hit.typeIs entry_tupleiter_next ?_ (args_tupleiter_next _)))
  show wpAny _ _ (field (.ref it) 0 >>= _) _ _ s
  refine wpAny_bind (wpAny_field ho hd (x := .ref l) rfl ?_)
  show wpAny _ _ (if (Value.ref l == Value.none) = true then _ else _) _ _ s
  rw [if_neg (show ¬ ((Value.ref l == Value.none) = true) from Bool.false_ne_true)]
  show wpAny _ _ (field (.ref it) 1 >>= _) _ _ s
  refine wpAny_bind (wpAny_field ho hd (x := .int i 0) rfl ?_)
  show wpAny _ _ (seqItems? (.ref l) >>= _) _ _ s
  refine wpAny_bind (wpAny_seqItems hol hdl ?_)
  simp only [Int.toNat_natCast, hx]
  refine wpAny_bind (wpAny_rule (wpAny_bind (wpAny_setField ho hd (by simp) ?_)))
  show wpAny _ _ (newExc (.type "StopIteration") [] >>= _) _ _ _
  refine wpAny_bind ?_
  simp only [newExc, newTuple]
  refine wpAny_bind (wpAny_newObj_type ?_ (by size_fits))
  refine wpAny_bind (m := firstArgMember _ _) (wpAny_of_eq (a := Value.none) (by first | rfl | (simp only [firstArgMember]; rfl)) ?_)
  refine wpAny_newObj_type ?_ (by size_fits)
  simp only [raiseNew]
  refine wpAny_bind (wpAny_handled ?_)
  first | rw [show A.in1.handled = none from hh] | rw [hh]
  refine wpAny_bind (wpAny_pure (wpAny_throw ?_))
  exact hE _ _ (((Heap.SameBut.update ..).extBut.push _).push _) ⟨_, Heap.get?_push_size _ rfl, rfl⟩
end
theorem Draws.tuple {prog : Program} {w : World} {A : Around} (hh : A.handled = none) (it l : Addr) (hne : l ≠ it) (items : Array Value) :
    Draws prog w A it [it, l] items.size (fun i v => items[i]? = some v) (fun i h => h.IsTupleIter it l i ∧ h.IsTuple l items) where
  live := fun _ _ st => let ⟨o, ho, _⟩ := st.1; ⟨o, ho⟩
  frame := fun _ _ _ st hk => ⟨st.1.at fun o e => hk it (by simp) o e, st.2.at fun o e => hk l (by simp) o e⟩
  item := fun i s Q E hi st hQ => by
    refine nextOf_tuple_item st.1 st.2 (x := items[i]) (by simp [hi]) fun h' hit' hs' => ?_
    exact hQ _ h' s.toks (by simp [hi]) ⟨hit', st.2.extBut hs'.extBut hne⟩ hs'
  done := fun s Q E st hE => nextOf_tuple_end hh st.1 st.2 (by simp) hE
/-- a tuple's own iterator leaves an unpacked item alone -/
theorem letOwnedTupleGo_tupiter {prog : Program} {w : World} {A : Around} {E : Value → Shared → Prop} {s : Shared} {elts : List Expr} {x1} {pos : Pos} {I l T : Addr} {i : Nat} {Q : Unit → Shared → Prop} (hit : s.heap.IsTupleIter I l i) (hQ : Q () s) :
    wpAny (model prog w) A (letOwnedTupleGo (.Tuple elts x1 pos) (.ref I) (.ref T)) Q E s := by
  obtain ⟨o, ho, hc, hd⟩ := hit
  unfold letOwnedTupleGo
  refine wpAny_bind (wpAny_load ho ?_)
  rw [hc, hd]
  show wpAny _ A (if (["enumerate", "zip", "dict_itemiterator", "dict_reverseitemiterator", "odict_iterator", "itertools.zip_longest", "itertools.pairwise"].contains "tuple_iterator" &&
      (#[.ref l, .int i 0] : Array Value)[0]? == some (rawInt T)) = true then _ else _) Q E s
  rw [if_neg (by
    intro h
    rw [show (["enumerate", "zip", "dict_itemiterator", "dict_reverseitemiterator", "odict_iterator", "itertools.zip_longest", "itertools.pairwise"].contains "tuple_iterator") = false from by decide, Bool.false_and] at h
    cases h)]
  exact wpAny_pure hQ
end Mine
end
section
open PySem PySem.W PySem.Spec PySem.Calls PyProof.Rows
namespace Mine
set_option maxRecDepth 100000
/-! sorted over the keys of a dict -/
theorem rising_pairwise {S : List Str} (tr : ∀ x ∈ S, ∀ y ∈ S, ∀ z ∈ S, ltCps y.cps.toList x.cps.toList = false → ltCps z.cps.toList y.cps.toList = false → ltCps z.cps.toList x.cps.toList = false) :
    ∀ (p : Str) (l : List Str), (∀ x ∈ p :: l, x ∈ S) → risingS p l = true → (p :: l).Pairwise (fun a b => ltCps b.cps.toList a.cps.toList = false)
  | p, [], _, _ => List.pairwise_cons.mpr ⟨fun _ h => (nomatch h), .nil⟩
  | p, x :: r, hm, h => by
    rw [risingS, Bool.and_eq_true, Bool.not_eq_true'] at h
    have ih := rising_pairwise tr x r (fun y hy => hm y (.tail _ hy)) h.2
    refine List.pairwise_cons.mpr ⟨fun y hy => ?_, ih⟩
    rcases List.mem_cons.mp hy with rfl | hy'
    · exact h.1
    · exact tr p (hm p (.head _)) x (hm x (.tail _ (.head _))) y (hm y (.tail _ hy)) h.1 ((List.pairwise_cons.mp ih).1 y hy')
theorem sorted_pairwise {S : List Str} (tr : ∀ x ∈ S, ∀ y ∈ S, ∀ z ∈ S, ltCps y.cps.toList x.cps.toList = false → ltCps z.cps.toList y.cps.toList = false → ltCps z.cps.toList x.cps.toList = false) {l : List Str} (hm : ∀ x ∈ l, x ∈ S) (h : sortedS l = true) :
    l.Pairwise (fun a b => ltCps b.cps.toList a.cps.toList = false) := by
  cases l with
  | nil => exact .nil
  | cons p l => exact rising_pairwise tr p l hm h
theorem pairwise_uniq {R : Str → Str → Prop} : ∀ {a b : List Str}, (∀ x ∈ a, ∀ y ∈ a, R x y → R y x → x = y) → a.Perm b → a.Pairwise R → b.Pairwise R → a = b
  | [], _, _, p, _, _ => p.nil_eq
  | x :: r, b, an, p, ha, hb => by
    cases b with
    | nil => exact absurd p.length_eq (by simp)
    | cons y t =>
      have hx : x ∈ y :: t := p.mem_iff.mp (.head _)
      have hy : y ∈ x :: r := p.mem_iff.mpr (.head _)
      have e : x = y := by
        rcases List.mem_cons.mp hx with h | h
        · exact h
        · rcases List.mem_cons.mp hy with h' | h'
          · exact h'.symm
          · exact an x (.head _) y hy ((List.pairwise_cons.mp ha).1 y h') ((List.pairwise_cons.mp hb).1 x h)
      subst e
      rw [pairwise_uniq (fun x hx y hy => an x (.tail _ hx) y (.tail _ hy)) (List.Perm.cons_inv p) (List.pairwise_cons.mp ha).2 (List.pairwise_cons.mp hb).2]
theorem sorted_uniq {S l l' : List Str} (tr : ∀ x ∈ S, ∀ y ∈ S, ∀ z ∈ S, ltCps y.cps.toList x.cps.toList = false → ltCps z.cps.toList y.cps.toList = false → ltCps z.cps.toList x.cps.toList = false)
    (an : ∀ x ∈ S, ∀ y ∈ S, ltCps y.cps.toList x.cps.toList = false → ltCps x.cps.toList y.cps.toList = false → x = y) (hm : ∀ x ∈ l, x ∈ S) (p : l'.Perm l) (h : sortedS l = true) (h' : sortedS l' = true) : l' = l :=
  have hm' : ∀ x ∈ l', x ∈ S := fun x hx => hm x (p.mem_iff.mp hx)
  pairwise_uniq (fun x hx y hy => an x (hm' x hx) y (hm' y hy)) p (sorted_pairwise tr hm' h') (sorted_pairwise tr hm h)
section
variable {prog : Program} {w : World} {A : Around} {E : Value → Shared → Prop} {s : Shared}
theorem strsAre_keys {kvs : List (Str × Value)} : ∀ {n : Nat} {acc : List Value}, acc.length = kvs.length → (∀ (j : Nat) (v : Value), acc[j]? = some v → ∃ k x, kvs[j]? = some (k, x) ∧ (PySem.strKind prog w).is k v = true) → StrsAre acc (kvs.map (·.1)) := by
  induction kvs with
  | nil => intro _ acc hl _; rw [List.length_eq_zero_iff.mp hl]; exact .nil
  | cons q kvs ih =>
    intro n acc hl h
    cases acc with
    | nil => cases hl
    | cons v acc =>
      obtain ⟨k, x, e, hk⟩ := h 0 v rfl
      simp at e
      obtain ⟨t, rfl⟩ := Value.isStrOf_shape hk
      rw [List.map_cons, e]
      exact .cons k t (ih (n := 0) (by simpa using hl) fun j v e => by have := h (j + 1) v (by simpa using e); simpa using this)
theorem sorted_dict {d : Addr} {kvs : List (Str × Value)} {ep : Nat} {Q : Value → Shared → Prop} (lo : (d == sysModules) = false) (hh : A.handled = none) (hd : s.heap.DictAt (PySem.strKind prog w) d kvs ep) (hn : kvs.length < 64)
    (h : ∀ (D : Addr) (h' : Heap) (tk : Nat) (out : List Value) (ss : List Str) (e : Nat), StrsAre out ss → ss.Perm (kvs.map (·.1)) → sortedS ss = true → s.heap.get? D = none → (∀ b o, s.heap.get? b = some o → h'.get? b = some o) → h'.get? D = some (seqObj "list" out.toArray e) → Q (.ref D) { s with heap := h', toks := tk }) :
    wpAny (model prog w) A (call (.builtin "sorted") [.ref d]) Q E s := by
  refine call_function_entry kind_sorted plain_sorted entry_sorted (args_sorted1 _) ?_
  unfold Builtin.«sorted»
  refine wpAny_bind (m := checkCount "sorted" 1 1 _) (wpAny_pure ?_)
  refine wpAny_bind (kdu_collect (A := A.in1) (kdl_dict (knd := PySem.strKind prog w) (kvs := kvs) (ep := ep) lo) hh hd (by rw [sizeLine_eq]; omega) fun h' tk acc hk hacc => ?_)
  have hl : acc.toList.length = kvs.length := by rw [Array.length_toList]; exact hacc.1
  have hS : StrsAre acc.toList (kvs.map (·.1)) := strsAre_keys (prog := prog) (w := w) (n := 0) hl fun j v e => hacc.2 j v (by rw [← Array.getElem?_toList]; exact e)
  refine wpAny_bind (wpAny_newList ?_ (by rw [hl, sizeLine_eq]; omega))
  have ho : (h'.push { cls := .type "list", data := .seq acc.toList.toArray }).get? h'.objs.size = some (seqObj "list" acc.toList.toArray 0) := Heap.get?_push_size _ rfl
  refine wpAny_bind (wpAny_holding (wpAny_call_entry PyProof.Rows.slot_list_sort ⟨_, ho, rfl⟩ PyProof.Rows.entry_list_sort (list_sort_treeK strKind_oneLt ho hS.keysOf (fun v₁ v₂ rest e => keyKind_strs (by rw [← e]; exact hS)) (by rw [hl]; exact hn) fun st' a1 a2 => ⟨_, rfl, ?_⟩) (PyProof.Rows.args_list_sort _)))
  obtain ⟨ss', b1, b2, b3⟩ := sorted_out_str hS a1 a2
  obtain ⟨e, he⟩ := sortedHeap_at (vs := acc.toList) (out := (arrOf st').map (·.2)) ho
  refine wpAny_pure ⟨_, rfl, h h'.objs.size _ tk _ ss' e b1 b2 b3 ?_ ?_ (by rw [Array.toArray_toList]; exact he)⟩
  · cases q : s.heap.get? h'.objs.size with
    | none => rfl
    | some o => exact absurd (Heap.lt_size (hk _ _ q)) (Nat.lt_irrefl _)
  · intro b o eb
    have e1 := hk b o eb
    have lt : b < h'.objs.size := Heap.lt_size e1
    rw [sortedHeap_old (Nat.ne_of_lt lt) (by show b < (h'.push _).objs.size; rw [size_push']; exact Nat.lt_succ_of_lt lt)]
    exact Heap.get?_push_of_some _ e1
end
end Mine
end
section
open PySem PySem.W PySem.Spec PySem.Calls PyProof.Rows
namespace Mine
set_option maxRecDepth 100000
/-! an exception whose class takes its initializer from another class of the text -/
section
variable {M : Model} {A : Around} {E : Value → Shared → Prop} {h : Heap} {g : Array GenState} {d : Drawn} {t : Nat} {os : OsState}
variable {nm q : Str} {C N : Addr} {bs bm bmB : List Value} {hdct : Bool} {sn : List Str} {sub : List Value} {ab : Bool} {col : Option Bool} {dd : Option Addr} {k0 k1 k2 k3 k5 : Option Value} {B newId initId : String}
theorem exc_check_new (F : ExcBaseFacts B newId initId bmB) (c1 : (Value.ref C :: bm).contains (.type B) = true) {rest : List Value} {Q : Unit → Shared → Prop} (hC : h.get? C = some (excClassObj nm q C N bs bm hdct sn sub ab col dd k0 k1 k2 k3 k5 newId))
    (hq : Q () ⟨h, g, d, t, os⟩) : wpAny M A (checkBuiltinCall newId ⟨.ref C :: rest, []⟩) Q E ⟨h, g, d, t, os⟩ := by
  have hstar := F.noStar
  simp only [checkBuiltinCall, F.newKind, F.newSplit, F.newRow]
  repeat (first | refine wpAny_loadPart_at hC ?_ | (refine wpAny_isSubtype_exc hC ?_; rw [c1]) | refine wpAny_staticBase_exc hC ?_ | refine wpAny_madeBy_exc hC ?_ | simp only [bne_self_eq_false, Bool.false_eq_true, if_false] | wp_step)
  exact hq
end
section
variable {prog : Program} {w : World} {A : Around} {R : Result → Shared → Prop} {E : Value → Shared → Prop} {h : Heap} {g : Array GenState} {d : Drawn} {t : Nat} {os : OsState} {K : Frag}
variable {nm q : Str} {C N : Addr} {bs bm bmB : List Value} {hdct : Bool} {sn : List Str} {sub : List Value} {ab : Bool} {col : Option Bool} {dd : Option Addr} {k0 k1 k2 k3 k5 : Option Value} {B newId initId : String}
theorem exc_new (F : ExcBaseFacts B newId initId bmB) (hcB : (Value.ref C :: bm).contains (.type B) = true) (hcA : (Value.ref C :: bm).contains (.type "AttributeError") = false) (hcN : (Value.ref C :: bm).contains (.type "NameError") = false)
    {rest : List Value} (hC : h.get? C = some (excClassObj nm q C N bs bm hdct sn sub ab col dd k0 k1 k2 k3 k5 newId))
    (hq : R (.ok (.ret (.ref (h.objs.size + 1)))) ⟨(h.push { cls := .type "tuple", data := .seq rest.toArray }).push
      { cls := .ref C, data := .fields #[.ref h.objs.size, .none, .none, .none, .bool false, .none] }, g, d, t, os⟩) (hrest : rest.length ≤ sizeLine := by size_fits) :
    codeAny (model prog w) A (.builtin newId ⟨.ref C :: rest, []⟩) R ⟨h, g, d, t, os⟩ := by
  have hends := F.ends
  refine codeAny_builtinAt F.entry ?_
  unfold Builtin.«BaseException.__new__»
  refine PySem.wpAt_bind ?_
  show PySem.wpAt _ _ _ (stack >>= _) _ _ _
  refine PySem.wpAt_bind (PySem.wpAt_stack fun p below => PySem.wpAt_of_wpAny ?_)
  wp_walk
  refine PySem.wpAt_of_wpAny ?_
  rw [F.owner]
  repeat (first | with_reducible refine wpAny_madeHere_exc F.canon hC ?_ | with_reducible refine wpAny_loadPart_at hC ?_ | (with_reducible refine wpAny_isSubtype_exc hC ?_; first | rw [hcB] | rw [hcA] | rw [hcN]) | wp_step)
  show R _ _
  rw [Heap.size_push]
  exact hq
theorem exc_type_call (F : ExcBaseFacts B newId initId bmB) (hcB : (Value.ref C :: bm).contains (.type B) = true) (hcA : (Value.ref C :: bm).contains (.type "AttributeError") = false) (hcN : (Value.ref C :: bm).contains (.type "NameError") = false)
    {rest : List Value} {fI : Addr} {Q : Fin → Shared → Prop} (X : K.In h) (hi : findIn K (.ref C) "__init__" = some (some (.ref fI))) (hf : typeIn K (.ref fI) = some (.type "function"))
    (hC : h.get? C = some (excClassObj nm q C N bs bm hdct sn sub ab col dd k0 k1 k2 k3 k5 newId))
    (hq : ∀ h' e, Heap.MadeExcOf h h' e (.ref C) rest → h.objs.size ≤ e →
      wpAny (model prog w) A (call (.ref fI) (.ref e :: rest)) (fun r s' => r = .none ∧ Q (.done (.ret (.ref e))) s') E ⟨h', g, d, t, os⟩) (hrest : rest.length ≤ sizeLine := by size_fits) :
    wpAny (model prog w) A (Builtin.«type.__call__» ⟨.ref C :: rest, []⟩) Q E ⟨h, g, d, t, os⟩ := by
  repeat (first | with_reducible refine wpAny_loadPart_at hC ?_ | with_reducible refine wpAny_madeBy_exc hC ?_ | wp_step)
  refine codeAny_call_builtin_code (Code.quiet_builtin _ F.quiet) (exc_check_new F hcB hC ?_)
  refine exc_new F hcB hcA hcN hC ?_ hrest
  show wpAny _ _ _ _ _ _
  have hk : ∀ b o, h.get? b = some o → ((h.push { cls := .type "tuple", data := .seq rest.toArray }).push { cls := .ref C, data := .fields #[.ref h.objs.size, .none, .none, .none, .bool false, .none] }).get? b = some o := fun b o e => Heap.get?_push_of_some _ (Heap.get?_push_of_some _ e)
  have hC₁ := hk _ _ hC
  have X₁ : K.In ((h.push { cls := .type "tuple", data := .seq rest.toArray }).push { cls := .ref C, data := .fields #[.ref h.objs.size, .none, .none, .none, .bool false, .none] }) := fun a o e => hk a o (X a o e)
  have hget : ((h.push { cls := .type "tuple", data := .seq rest.toArray }).push
      { cls := .ref C, data := .fields #[.ref h.objs.size, .none, .none, .none, .bool false, .none] }).get? (h.objs.size + 1) = some
      { cls := .ref C, data := .fields #[.ref h.objs.size, .none, .none, .none, .bool false, .none] } := by heap_get
  have hcC : (Value.ref C :: bm).contains (.ref C) = true := by simp
  unfold isInstance
  repeat (first | with_reducible refine wpAny_loadPart_at hget ?_ | (with_reducible refine wpAny_isSubtype_exc hC₁ ?_; rw [hcC]) | wp_step)
  show wpAny _ _ (typeLookup (.ref C) _) _ _ _
  refine (looks_findIn X₁ hi).at ?_
  refine wpAny_holding (wpAny_bind ?_)
  refine (bind_fn X₁ (.ref (h.objs.size + 1)) hf).at ?_
  refine wpAny_bind (wpAny_mono (hq _ (h.objs.size + 1) ⟨hk, Heap.get?_none_of_le (Nat.le_succ _), h.objs.size, hget, Heap.get?_none_of_le (Nat.le_refl _), ?_⟩ (Nat.le_succ _)) (fun r s' hr => ?_) fun _ _ x => x)
  · exact Heap.get?_push_of_some _ (Heap.get?_push_at rfl rfl)
  · obtain ⟨rfl, hQ⟩ := hr
    wp_walk
    exact hQ
theorem exc_call (F : ExcBaseFacts B newId initId bmB) (hcB : (Value.ref C :: bm).contains (.type B) = true) (hcA : (Value.ref C :: bm).contains (.type "AttributeError") = false) (hcN : (Value.ref C :: bm).contains (.type "NameError") = false)
    {rest : List Value} {fI : Addr} {Q : Value → Shared → Prop} (X : K.In h) (hi : findIn K (.ref C) "__init__" = some (some (.ref fI))) (hf : typeIn K (.ref fI) = some (.type "function"))
    (hC : h.get? C = some (excClassObj nm q C N bs bm hdct sn sub ab col dd k0 k1 k2 k3 k5 newId))
    (hq : ∀ h' e, Heap.MadeExcOf h h' e (.ref C) rest → h.objs.size ≤ e →
      wpAny (model prog w) (A.under (.builtin "type.__call__" ⟨.ref C :: rest, []⟩)) (call (.ref fI) (.ref e :: rest)) (fun r s' => r = .none ∧ Q (.ref e) s') E ⟨h', g, d, t, os⟩) (hrest : rest.length ≤ sizeLine := by size_fits) :
    wpAny (model prog w) A (call (.ref C) rest) Q E ⟨h, g, d, t, os⟩ := by
  have f1 := tc_lookup
  have f2 := tc_bind (.ref C)
  have hT : (⟨h, g, d, t, os⟩ : Shared).TypeIs (.ref C) "type" := ⟨_, hC, rfl⟩
  refine wpAny_call (codeAny_of_tree ?_)
  show wpAny _ _ (callAny (.ref C) _) _ _ _
  repeat (any_goals (first | assumption | with_reducible refine wpAny_loadPart_at hC ?_ | wp_step))
  refine ⟨rfl, ?_⟩
  refine codeAny_call_builtin_at (Code.quiet_builtin _ (by decide +kernel)) entry_typeCall (wpAny_check_type_call_sub hC (exc_type_call (hrest := hrest) F hcB hcA hcN X hi hf hC fun h' e hm hl => ?_))
  exact hq h' e hm hl
end
end Mine
end
section
open PySem PySem.W PySem.Spec PySem.Calls PyProof.Rows
namespace Mine
/-! plain symbolic values and how a part of the heap bears them -/
inductive PV where
  | none
  | bool (b : Bool)
  | int (i : Int)
  | str (s : Str)
  | tup (l : List PV)
  | list (l : List PV)
  | dict (l : List (Str × PV))
  | obj (C : Addr) (l : List (Str × PV))
  | ref (a : Addr)
  | inst (C dx : Addr)
  | any
noncomputable abbrev Bs := Addr → Option Obj
noncomputable abbrev tupO (vs : List Value) (n : Nat) : Obj := { cls := .type "tuple", data := .seq vs.toArray n }
noncomputable abbrev listO (vs : List Value) (n : Nat) : Obj := { cls := .type "list", data := .seq vs.toArray n }
mutual
noncomputable def Rep (P : Params) (b : Bs) : PV → Value → Prop
  | .none, v => v = .none
  | .bool x, v => v = .bool x
  | .int i, v => ∃ t, v = .int i t
  | .str x, v => ∃ t, v = .str x t
  | .tup ps, v => ∃ a vs n, v = .ref a ∧ b a = some (tupO vs n) ∧ Reps P b ps vs
  | .list ps, v => ∃ a vs n, v = .ref a ∧ b a = some (listO vs n) ∧ Reps P b ps vs
  | .dict kvs, v => ∃ a es n, v = .ref a ∧ a ≠ sysModules ∧ b a = some (dictOf es n) ∧ RepE P b kvs es
  | .obj C kvs, v => ∃ a dx es n, v = .ref a ∧ b a = some (instObj C dx) ∧ b dx = some (dictOf es n) ∧ RepE P b kvs es
  | .ref a, v => v = .ref a
  | .inst C dx, v => ∃ a, v = .ref a ∧ b a = some (instObj C dx)
  | .any, _ => True
noncomputable def Reps (P : Params) (b : Bs) : List PV → List Value → Prop
  | [], vs => vs = []
  | p :: ps, vs => ∃ v r, vs = v :: r ∧ Rep P b p v ∧ Reps P b ps r
noncomputable def RepE (P : Params) (b : Bs) : List (Str × PV) → List DictEntry → Prop
  | [], es => es = []
  | kp :: r, es => ∃ e er, es = e :: er ∧ RepP P b kp e ∧ RepE P b r er
noncomputable def RepP (P : Params) (b : Bs) : Str × PV → DictEntry → Prop
  | (k, p), e => (∃ t, e.key = .str k t) ∧ e.hash = PyData.keyHash P k ∧ Rep P b p e.val
end
noncomputable def Sub (b b' : Bs) : Prop := ∀ a o, b a = some o → b' a = some o
theorem Sub.refl (b : Bs) : Sub b b := fun _ _ e => e
theorem Sub.trans {b b' b'' : Bs} (h : Sub b b') (h' : Sub b' b'') : Sub b b'' := fun a o e => h' a o (h a o e)
mutual
theorem Rep.mono {P : Params} {b b' : Bs} (h : Sub b b') : ∀ {p : PV} {v : Value}, Rep P b p v → Rep P b' p v
  | .none, _, r => by rw [Rep] at r ⊢; exact r
  | .bool _, _, r => by rw [Rep] at r ⊢; exact r
  | .int _, _, r => by rw [Rep] at r ⊢; exact r
  | .str _, _, r => by rw [Rep] at r ⊢; exact r
  | .tup _, _, r => by
    rw [Rep] at r ⊢
    obtain ⟨a, vs, n, e, g, q⟩ := r
    exact ⟨a, vs, n, e, h _ _ g, Reps.mono h q⟩
  | .list _, _, r => by
    rw [Rep] at r ⊢
    obtain ⟨a, vs, n, e, g, q⟩ := r
    exact ⟨a, vs, n, e, h _ _ g, Reps.mono h q⟩
  | .dict _, _, r => by
    rw [Rep] at r ⊢
    obtain ⟨a, vs, n, e, z, g, q⟩ := r
    exact ⟨a, vs, n, e, z, h _ _ g, RepE.mono h q⟩
  | .obj _ _, _, r => by
    rw [Rep] at r ⊢
    obtain ⟨a, dx, vs, n, e, g, g2, q⟩ := r
    exact ⟨a, dx, vs, n, e, h _ _ g, h _ _ g2, RepE.mono h q⟩
  | .ref _, _, r => by rw [Rep] at r ⊢; exact r
  | .inst _ _, _, r => by
    rw [Rep] at r ⊢
    obtain ⟨a, e, g⟩ := r
    exact ⟨a, e, h _ _ g⟩
  | .any, _, r => by rw [Rep]; trivial
theorem Reps.mono {P : Params} {b b' : Bs} (h : Sub b b') : ∀ {ps : List PV} {vs : List Value}, Reps P b ps vs → Reps P b' ps vs
  | [], _, r => by rw [Reps] at r ⊢; exact r
  | _ :: _, _, r => by
    rw [Reps] at r ⊢
    obtain ⟨v, q, e, r1, r2⟩ := r
    exact ⟨v, q, e, Rep.mono h r1, Reps.mono h r2⟩
theorem RepE.mono {P : Params} {b b' : Bs} (h : Sub b b') : ∀ {ps : List (Str × PV)} {vs : List DictEntry}, RepE P b ps vs → RepE P b' ps vs
  | [], _, r => by rw [RepE] at r ⊢; exact r
  | _ :: _, _, r => by
    rw [RepE] at r ⊢
    obtain ⟨v, q, e, r1, r2⟩ := r
    exact ⟨v, q, e, RepP.mono h r1, RepE.mono h r2⟩
theorem RepP.mono {P : Params} {b b' : Bs} (h : Sub b b') : ∀ {p : Str × PV} {e : DictEntry}, RepP P b p e → RepP P b' p e
  | (_, _), _, r => by
    rw [RepP] at r ⊢
    exact ⟨r.1, r.2.1, Rep.mono h r.2.2⟩
end
section
variable {P : Params} {b : Bs}
theorem Rep.mkNone : Rep P b .none .none := by rw [Rep]
theorem Rep.mkBool {x : Bool} : Rep P b (.bool x) (.bool x) := by rw [Rep]
theorem Rep.mkInt {i : Int} {t : Tok} : Rep P b (.int i) (.int i t) := by rw [Rep]; exact ⟨t, rfl⟩
theorem Rep.mkStr {x : Str} {t : Tok} : Rep P b (.str x) (.str x t) := by rw [Rep]; exact ⟨t, rfl⟩
theorem Rep.mkRef {a : Addr} : Rep P b (.ref a) (.ref a) := by rw [Rep]
theorem Rep.mkAny {v : Value} : Rep P b .any v := by rw [Rep]; trivial
theorem Rep.mkTup {a : Addr} {vs : List Value} {n : Nat} {ps : List PV} (h : b a = some (tupO vs n)) (r : Reps P b ps vs) : Rep P b (.tup ps) (.ref a) := by rw [Rep]; exact ⟨a, vs, n, rfl, h, r⟩
theorem Rep.mkList {a : Addr} {vs : List Value} {n : Nat} {ps : List PV} (h : b a = some (listO vs n)) (r : Reps P b ps vs) : Rep P b (.list ps) (.ref a) := by rw [Rep]; exact ⟨a, vs, n, rfl, h, r⟩
theorem Rep.mkDict {a : Addr} {es : List DictEntry} {n : Nat} {ps : List (Str × PV)} (z : a ≠ sysModules) (h : b a = some (dictOf es n)) (r : RepE P b ps es) : Rep P b (.dict ps) (.ref a) := by rw [Rep]; exact ⟨a, es, n, rfl, z, h, r⟩
theorem Rep.mkObj {C a dx : Addr} {es : List DictEntry} {n : Nat} {ps : List (Str × PV)} (g : b a = some (instObj C dx)) (h : b dx = some (dictOf es n)) (r : RepE P b ps es) : Rep P b (.obj C ps) (.ref a) := by rw [Rep]; exact ⟨a, dx, es, n, rfl, g, h, r⟩
theorem Rep.mkInst {C a dx : Addr} (g : b a = some (instObj C dx)) : Rep P b (.inst C dx) (.ref a) := by rw [Rep]; exact ⟨a, rfl, g⟩
section
variable {v : Value}
theorem Rep.noneI (h : Rep P b .none v) : v = .none := by rw [Rep] at h; exact h
theorem Rep.boolI {x : Bool} (h : Rep P b (.bool x) v) : v = .bool x := by rw [Rep] at h; exact h
theorem Rep.intI {i : Int} (h : Rep P b (.int i) v) : ∃ t, v = .int i t := by rw [Rep] at h; exact h
theorem Rep.strI {x : Str} (h : Rep P b (.str x) v) : ∃ t, v = .str x t := by rw [Rep] at h; exact h
theorem Rep.refI {a : Addr} (h : Rep P b (.ref a) v) : v = .ref a := by rw [Rep] at h; exact h
theorem Rep.tupI {ps : List PV} (h : Rep P b (.tup ps) v) : ∃ a vs n, v = .ref a ∧ b a = some (tupO vs n) ∧ Reps P b ps vs := by rw [Rep] at h; exact h
theorem Rep.listI {ps : List PV} (h : Rep P b (.list ps) v) : ∃ a vs n, v = .ref a ∧ b a = some (listO vs n) ∧ Reps P b ps vs := by rw [Rep] at h; exact h
theorem Rep.dictI {ps : List (Str × PV)} (h : Rep P b (.dict ps) v) : ∃ a es n, v = .ref a ∧ a ≠ sysModules ∧ b a = some (dictOf es n) ∧ RepE P b ps es := by rw [Rep] at h; exact h
theorem Rep.objI {C : Addr} {ps : List (Str × PV)} (h : Rep P b (.obj C ps) v) : ∃ a dx es n, v = .ref a ∧ b a = some (instObj C dx) ∧ b dx = some (dictOf es n) ∧ RepE P b ps es := by rw [Rep] at h; exact h
theorem Rep.instI {C dx : Addr} (h : Rep P b (.inst C dx) v) : ∃ a, v = .ref a ∧ b a = some (instObj C dx) := by rw [Rep] at h; exact h
end
theorem Reps.nil : Reps P b [] [] := by rw [Reps]
theorem Reps.cons {p : PV} {ps : List PV} {v : Value} {vs : List Value} (h : Rep P b p v) (r : Reps P b ps vs) : Reps P b (p :: ps) (v :: vs) := by
  rw [Reps]; exact ⟨v, vs, rfl, h, r⟩
theorem Reps.nil_inv {vs : List Value} (h : Reps P b [] vs) : vs = [] := by rw [Reps] at h; exact h
theorem Reps.cons_inv {p : PV} {ps : List PV} {vs : List Value} (h : Reps P b (p :: ps) vs) : ∃ v r, vs = v :: r ∧ Rep P b p v ∧ Reps P b ps r := by
  rw [Reps] at h; exact h
theorem Reps.length {ps : List PV} : ∀ {vs : List Value}, Reps P b ps vs → vs.length = ps.length := by
  induction ps with
  | nil => intro vs h; rw [h.nil_inv]; rfl
  | cons p ps ih => intro vs h; obtain ⟨v, r, rfl, _, h2⟩ := h.cons_inv; simp [ih h2]
theorem Reps.append {ps qs : List PV} : ∀ {vs ws : List Value}, Reps P b ps vs → Reps P b qs ws → Reps P b (ps ++ qs) (vs ++ ws) := by
  induction ps with
  | nil => intro vs ws h h'; rw [h.nil_inv]; exact h'
  | cons p ps ih => intro vs ws h h'; obtain ⟨v, r, rfl, h1, h2⟩ := h.cons_inv; exact .cons h1 (ih h2 h')
theorem Reps.get {ps : List PV} : ∀ {vs : List Value} {i : Nat} {p : PV}, Reps P b ps vs → ps[i]? = some p → ∃ v, vs[i]? = some v ∧ Rep P b p v := by
  induction ps with
  | nil => intro vs i p _ e; simp at e
  | cons q ps ih =>
    intro vs i p h e
    obtain ⟨v, r, rfl, h1, h2⟩ := h.cons_inv
    cases i with
    | zero => simp at e; subst e; exact ⟨v, rfl, h1⟩
    | succ i => simp at e; obtain ⟨u, e1, e2⟩ := ih h2 e; exact ⟨u, by simpa using e1, e2⟩
theorem Reps.get' {ps : List PV} : ∀ {vs : List Value} {i : Nat} {v : Value}, Reps P b ps vs → vs[i]? = some v → ∃ p, ps[i]? = some p ∧ Rep P b p v := by
  induction ps with
  | nil => intro vs i p h e; rw [h.nil_inv] at e; simp at e
  | cons q ps ih =>
    intro vs i w h e
    obtain ⟨v, r, rfl, h1, h2⟩ := h.cons_inv
    cases i with
    | zero => simp at e; subst e; exact ⟨q, rfl, h1⟩
    | succ i => simp at e; obtain ⟨u, e1, e2⟩ := ih h2 e; exact ⟨u, by simpa using e1, e2⟩
theorem RepE.nil : RepE P b [] [] := by rw [RepE]
theorem RepE.cons {k : Str} {p : PV} {ps : List (Str × PV)} {e : DictEntry} {es : List DictEntry} {t : Tok} (hk : e.key = .str k t) (hh : e.hash = PyData.keyHash P k) (h : Rep P b p e.val) (r : RepE P b ps es) : RepE P b ((k, p) :: ps) (e :: es) := by
  rw [RepE]; refine ⟨e, es, rfl, ?_, r⟩; rw [RepP]; exact ⟨⟨t, hk⟩, hh, h⟩
theorem RepE.nil_inv {es : List DictEntry} (h : RepE P b [] es) : es = [] := by rw [RepE] at h; exact h
theorem RepE.cons_inv {k : Str} {p : PV} {ps : List (Str × PV)} {es : List DictEntry} (h : RepE P b ((k, p) :: ps) es) : ∃ e er, es = e :: er ∧ (∃ t, e.key = .str k t) ∧ e.hash = PyData.keyHash P k ∧ Rep P b p e.val ∧ RepE P b ps er := by
  rw [RepE] at h; obtain ⟨e, er, h1, h2, h3⟩ := h; rw [RepP] at h2; exact ⟨e, er, h1, h2.1, h2.2.1, h2.2.2, h3⟩
theorem RepE.length {ps : List (Str × PV)} : ∀ {es : List DictEntry}, RepE P b ps es → es.length = ps.length := by
  induction ps with
  | nil => intro es h; rw [h.nil_inv]; rfl
  | cons p ps ih => obtain ⟨k, p⟩ := p; intro es h; obtain ⟨v, r, rfl, _, _, _, h2⟩ := h.cons_inv; simp [ih h2]
theorem RepE.append {ps qs : List (Str × PV)} : ∀ {es fs : List DictEntry}, RepE P b ps es → RepE P b qs fs → RepE P b (ps ++ qs) (es ++ fs) := by
  induction ps with
  | nil => intro vs ws h h'; rw [h.nil_inv]; exact h'
  | cons p ps ih => obtain ⟨k, p⟩ := p; intro vs ws h h'; obtain ⟨v, r, rfl, ⟨t, h1⟩, h2, h3, h4⟩ := h.cons_inv; exact .cons h1 h2 h3 (ih h4 h')
end

inductive MO where
  | list (l : List PV)
  | dict (l : List (Str × PV))
  | raw (R : Obj → Prop)
noncomputable def MRep (P : Params) (b : Bs) : MO → Obj → Prop
  | .list ps, o => ∃ vs n, o = listO vs n ∧ Reps P b ps vs
  | .dict kvs, o => ∃ es n, o = dictOf es n ∧ RepE P b kvs es
  | .raw R, o => R o
theorem MRep.mono {P : Params} {b b' : Bs} (h : Sub b b') {m : MO} {o : Obj} (r : MRep P b m o) : MRep P b' m o := by
  cases m with
  | list ps => obtain ⟨vs, n, e, q⟩ := r; exact ⟨vs, n, e, q.mono h⟩
  | dict ps => obtain ⟨vs, n, e, q⟩ := r; exact ⟨vs, n, e, q.mono h⟩
  | raw R => exact r
structure Sy where
  env : List (Str × PV)
  st : List (Addr × MO)
structure Fx where
  prog : Program
  w : World
  b₀ : Heap
  A : Around
  env : Env
  outer : List Env
noncomputable def priv (env : Env) (a : Addr) : Prop := a = env.locals ∨ ∃ x, (x, a) ∈ env.cells
noncomputable def FF (h : Heap) (b : Bs) (outer : List Env) : Prop :=
  ∀ env ∈ outer, env.scope.kind ≠ .module ∧ ∃ L o, env.frame = some L ∧ b L = none ∧ h.get? L = some o ∧ ∀ vs, o.data ≠ .fields vs
noncomputable def fr (outer : List Env) (a : Addr) : Prop := ∃ env ∈ outer, env.frame = some a
noncomputable def VarOk (P : Params) (b : Bs) (h : Heap) (env : Env) (m : Str → Option Value) (x : Str) (p : PV) : Prop :=
  (env.kindOf x = some .local ∧ ∃ v, m x = some v ∧ Rep P b p v) ∨
  ((env.kindOf x = some .cell ∨ env.kindOf x = some .free) ∧ ∃ c v, env.cells.lookup x = some c ∧ h.IsCell c (some v) ∧ Rep P b p v)
structure Cx (Φ : Fx) (σ : Sy) (b : Bs) (h : Heap) : Prop where
  sub : Sub b h.get?
  low : Sub Φ.b₀.get? b
  ns : ∃ m, h.Ns Φ.env.locals m ∧ ∀ x p, σ.env.lookup x = some p → VarOk Φ.w.params b h Φ.env m x p
  cells : ∀ x c, (x, c) ∈ Φ.env.cells → (∃ ov, h.IsCell c ov) ∧ b c = none
  Lb : b Φ.env.locals = none
  st : ∀ q ∈ σ.st, (∃ o, h.get? q.1 = some o ∧ MRep Φ.w.params b q.2 o) ∧ b q.1 = none ∧ ¬ priv Φ.env q.1 ∧ q.1 ≠ sysModules ∧ ¬ fr Φ.outer q.1
  nd : (σ.st.map (·.1)).Nodup
  ff : FF h b Φ.outer
  glob : ∃ o, Φ.b₀.get? mainGlobals = some o
noncomputable def dom (σ : Sy) (a : Addr) : Prop := a ∈ σ.st.map (·.1)
structure Ext (Φ : Fx) (σ σ' : Sy) (b b' : Bs) (h h' : Heap) : Prop where
  sub : Sub b b'
  new : ∀ a o, b' a = some o → b a = some o ∨ h.get? a = none ∨ dom σ a
  keep : ∀ a o, h.get? a = some o → ¬ priv Φ.env a → ¬ dom σ a → (∃ sl, h'.get? a = some { o with slots := sl }) ∧ (¬ fr Φ.outer a → h'.get? a = some o)
  dom : ∀ a, dom σ' a → dom σ a ∨ h.get? a = none
  there : ∀ a o, h.get? a = some o → ∃ o', h'.get? a = some o'
theorem Ext.refl {Φ : Fx} {σ : Sy} {b : Bs} {h : Heap} : Ext Φ σ σ b b h h :=
  ⟨.refl b, fun _ _ e => .inl e, fun a o e _ _ => ⟨⟨o.slots, e⟩, fun _ => e⟩, fun _ e => .inl e, fun _ o e => ⟨o, e⟩⟩
theorem Ext.trans {Φ : Fx} {σ σ₁ σ₂ : Sy} {b b₁ b₂ : Bs} {h h₁ h₂ : Heap} (x : Ext Φ σ σ₁ b b₁ h h₁) (y : Ext Φ σ₁ σ₂ b₁ b₂ h₁ h₂) : Ext Φ σ σ₂ b b₂ h h₂ := by
  have old : ∀ a, h₁.get? a = none → h.get? a = none := fun a e => by
    cases q : h.get? a with
    | none => rfl
    | some o => obtain ⟨o', e'⟩ := x.there a o q; rw [e] at e'; cases e'
  refine ⟨x.sub.trans y.sub, fun a o e => ?_, fun a o e hp hd => ?_, fun a e => ?_, fun a o e => ?_⟩
  · rcases y.new a o e with e | e | e
    · exact x.new a o e
    · exact .inr (.inl (old a e))
    · rcases x.dom a e with e | e
      · exact .inr (.inr e)
      · exact .inr (.inl e)
  · obtain ⟨⟨sl, e1⟩, e2⟩ := x.keep a o e hp hd
    have hd' : ¬ Mine.dom σ₁ a := fun q => by
      rcases x.dom a q with q | q
      · exact hd q
      · rw [e] at q; cases q
    obtain ⟨⟨sl', e3⟩, _⟩ := y.keep a _ e1 hp hd'
    refine ⟨⟨sl', e3⟩, fun hc => ?_⟩
    have := e2 hc
    exact (y.keep a _ this hp hd').2 hc
  · rcases y.dom a e with e | e
    · exact x.dom a e
    · exact .inr (old a e)
  · obtain ⟨o', e'⟩ := x.there a o e
    exact y.there a o' e'
/-- a tree's triple over symbolic states -/
structure T {α β : Type} (Φ : Fx) (E : Value → Shared → Prop) (m : Sem α) (R : Bs → α → β → Prop) (σ : Sy) (Post : β → Sy → Prop) : Prop where
  run : ∀ (b : Bs) (s : Shared) (Q : α → Shared → Prop), Cx Φ σ b s.heap →
    (∀ β σ' b' h' tk' a, Post β σ' → Cx Φ σ' b' h' → Ext Φ σ σ' b b' s.heap h' → R b' a β → Q a { s with heap := h', toks := tk' }) →
    wpAny (model Φ.prog Φ.w) Φ.A m Q E s
theorem T.mono {α β : Type} {Φ : Fx} {E : Value → Shared → Prop} {m : Sem α} {R : Bs → α → β → Prop} {σ : Sy} {Post Post' : β → Sy → Prop} (h : T Φ E m R σ Post') (k : ∀ x σ, Post' x σ → Post x σ) : T Φ E m R σ Post :=
  T.mk fun b s Q C q => h.run b s Q C fun β σ' b' h' tk' a p => q β σ' b' h' tk' a (k _ _ p)
noncomputable abbrev RV (Φ : Fx) : Bs → Value → PV → Prop := fun b v p => Rep Φ.w.params b p v
noncomputable abbrev RVs (Φ : Fx) : Bs → List Value → List PV → Prop := fun b v p => Reps Φ.w.params b p v
noncomputable abbrev RB : Bs → Bool → Bool → Prop := fun _ v p => v = p
inductive PF where
  | next | brk | cont | ret (p : PV)
noncomputable def RF (Φ : Fx) : Bs → Flow → PF → Prop := fun b f p => match f, p with
  | .next, .next => True
  | .brk, .brk => True
  | .cont, .cont => True
  | .ret v, .ret p => Rep Φ.w.params b p v
  | _, _ => False
noncomputable abbrev Ev (Φ : Fx) (E : Value → Shared → Prop) (e : Expr) (σ : Sy) (Post : PV → Sy → Prop) : Prop := T Φ E (eval e Φ.env) (RV Φ) σ Post
noncomputable abbrev Evs (Φ : Fx) (E : Value → Shared → Prop) (es : List Expr) (σ : Sy) (Post : List PV → Sy → Prop) : Prop := ∀ pos, T Φ E (spliced (backTo pos (starEach es Φ.env))) (RVs Φ) σ Post
noncomputable abbrev Te (Φ : Fx) (E : Value → Shared → Prop) (e : Expr) (σ : Sy) (Post : Bool → Sy → Prop) : Prop := T Φ E (isTrue e Φ.env (eval e Φ.env)) RB σ Post
noncomputable abbrev Ex (Φ : Fx) (E : Value → Shared → Prop) (st : Stmt) (σ : Sy) (Post : PF → Sy → Prop) : Prop := T Φ E (exec st Φ.env) (RF Φ) σ Post
noncomputable abbrev Exs (Φ : Fx) (E : Value → Shared → Prop) (st : List Stmt) (σ : Sy) (Post : PF → Sy → Prop) : Prop := T Φ E (execs st Φ.env) (RF Φ) σ Post
structure Fx.Ok (Φ : Fx) (n : Nat) : Prop where
  kind : Φ.env.scope.kind = .function
  glob : Φ.env.globals = mainGlobals
  blt : Φ.env.builtins = builtinsNs
  hh : Φ.A.handled = none
  fr : Φ.A.frames = some Φ.outer
  depth : Φ.A.depth + 4 * n < recursionLimit
  units : Φ.A.units + 200 + 32 * n < cLine
  cnd : (Φ.env.cells.map (·.2)).Nodup
end Mine
end
section
open PySem PySem.W PySem.Spec PySem.Calls PyProof.Rows
namespace Mine
theorem mem_of_lookup {β : Type} {x : Str} {p : β} : ∀ {l : List (Str × β)}, l.lookup x = some p → (x, p) ∈ l
  | [], h => by simp at h
  | (y, q) :: r, h => by
    rw [List.lookup_cons] at h
    split at h
    · rename_i e; cases h; rw [beq_iff_eq.mp e]; exact List.mem_cons_self ..
    · exact List.mem_cons_of_mem _ (mem_of_lookup h)
noncomputable def ext (b : Bs) (a : Addr) (o : Obj) : Bs := fun x => if x = a then some o else b x
theorem ext_at (b : Bs) (a : Addr) (o : Obj) : ext b a o a = some o := by simp [ext]
theorem ext_ne {b : Bs} {a x : Addr} {o : Obj} (h : x ≠ a) : ext b a o x = b x := by simp [ext, h]
theorem ext_sub {b : Bs} {a : Addr} {o : Obj} (h : b a = none) : Sub b (ext b a o) := fun x p e => by
  by_cases q : x = a
  · subst q; rw [h] at e; cases e
  · rw [ext_ne q]; exact e
section
variable {Φ : Fx} {σ : Sy} {b : Bs} {h h' : Heap}
theorem get_lt {h : Heap} {a : Addr} {o : Obj} (e : h.get? a = some o) : a < h.objs.size := Heap.lt_size e
theorem fresh_size (h : Heap) : h.get? h.objs.size = none := Heap.get?_none_of_le (Nat.le_refl _)
theorem Cx.bnew (C : Cx Φ σ b h) : b h.objs.size = none := by
  cases q : b h.objs.size with
  | none => rfl
  | some o => have := C.sub _ _ q; rw [fresh_size] at this; cases this
theorem Cx.size_ne (C : Cx Φ σ b h) : h.objs.size ≠ sysModules := by
  obtain ⟨o, e⟩ := C.glob
  have l := get_lt (C.sub _ _ (C.low _ _ e))
  intro z
  rw [z] at l
  exact absurd l (by decide)
theorem FF.there {h : Heap} {b : Bs} {outer : List Env} (F : FF h b outer) {a : Addr} (f : fr outer a) : b a = none ∧ ∃ o, h.get? a = some o ∧ ∀ vs, o.data ≠ .fields vs := by
  obtain ⟨env, he, hf⟩ := f
  obtain ⟨_, L, o, hL, n, e, d⟩ := F env he
  rw [hf] at hL; cases hL
  exact ⟨n, o, e, d⟩
theorem Cx.notpriv {a : Addr} (C : Cx Φ σ b h) (hp : priv Φ.env a) : (∃ o, h.get? a = some o) := by
  rcases hp with rfl | ⟨x, hx⟩
  · obtain ⟨m, ⟨o, _, _, e, _⟩, _⟩ := C.ns; exact ⟨o, e⟩
  · obtain ⟨⟨ov, o, e, _⟩, _⟩ := C.cells x a hx; exact ⟨o, e⟩
theorem VarOk.mono {P : Params} {b b' : Bs} {h h' : Heap} {env : Env} {m : Str → Option Value} {x : Str} {p : PV} (v : VarOk P b h env m x p) (hb : Sub b b') (hc : ∀ c ov, (∃ y, (y, c) ∈ env.cells) → h.IsCell c ov → h'.IsCell c ov) : VarOk P b' h' env m x p := by
  rcases v with ⟨k, v, e, r⟩ | ⟨k, c, v, e, i, r⟩
  · exact .inl ⟨k, v, e, r.mono hb⟩
  · refine .inr ⟨k, c, v, e, hc _ _ ⟨x, ?_⟩ i, r.mono hb⟩
    exact mem_of_lookup e
/-- the heap grows and keeps all, the base may take in what is new -/
theorem Cx.grow {b' : Bs} (C : Cx Φ σ b h) (hk : ∀ a o, h.get? a = some o → h'.get? a = some o) (hb : Sub b b') (hs : Sub b' h'.get?) (hn : ∀ a o, b' a = some o → b a = some o ∨ h.get? a = none) : Cx Φ σ b' h' := by
  have off : ∀ a o, h.get? a = some o → b a = none → b' a = none := fun a o e n => by
    cases q : b' a with
    | none => rfl
    | some o' => rcases hn a o' q with z | z
                 · rw [n] at z; cases z
                 · rw [e] at z; cases z
  refine ⟨hs, C.low.trans hb, ?_, fun x c hx => ?_, ?_, fun q hq => ?_, C.nd, fun env he => ?_, C.glob⟩
  · obtain ⟨m, hm, hv⟩ := C.ns
    exact ⟨m, hm.keeps hk, fun x p e => (hv x p e).mono hb fun c ov _ i => let ⟨o, e1, e2⟩ := i; ⟨o, hk _ _ e1, e2⟩⟩
  · obtain ⟨⟨ov, o, e, d⟩, n⟩ := C.cells x c hx
    exact ⟨⟨ov, o, hk _ _ e, d⟩, off c o e n⟩
  · obtain ⟨m, ⟨o, _, _, e, _⟩, _⟩ := C.ns
    exact off _ o e C.Lb
  · obtain ⟨⟨o, e, r⟩, n, p⟩ := C.st q hq
    exact ⟨⟨o, hk _ _ e, r.mono hb⟩, off _ o e n, p⟩
  · obtain ⟨k, L, o, f, n, e, d⟩ := C.ff env he
    exact ⟨k, L, o, f, off L o e n, hk _ _ e, d⟩
theorem Ext.grow {b' : Bs} (hk : ∀ a o, h.get? a = some o → h'.get? a = some o) (hb : Sub b b') (hn : ∀ a o, b' a = some o → b a = some o ∨ h.get? a = none) : Ext Φ σ σ b b' h h' :=
  ⟨hb, fun a o e => (hn a o e).elim .inl fun e => .inr (.inl e), fun a o e _ _ => ⟨⟨o.slots, hk a o e⟩, fun _ => hk a o e⟩, fun _ e => .inl e, fun a o e => ⟨o, hk a o e⟩⟩
theorem Cx.keeps (C : Cx Φ σ b h) (hk : ∀ a o, h.get? a = some o → h'.get? a = some o) : Cx Φ σ b h' := C.grow hk (.refl b) (fun a o e => hk a o (C.sub a o e)) fun _ _ e => .inl e
theorem Ext.keeps (hk : ∀ a o, h.get? a = some o → h'.get? a = some o) : Ext Φ σ σ b b h h' := .grow hk (.refl b) fun _ _ e => .inl e
/-- a new object that stays as it is -/
theorem Cx.push (C : Cx Φ σ b h) (o : Obj) (hf : o.isFreed = false) : Cx Φ σ (ext b h.objs.size o) (h.push o) ∧ Ext Φ σ σ b (ext b h.objs.size o) h (h.push o) := by
  have hk : ∀ a x, h.get? a = some x → (h.push o).get? a = some x := fun a x e => Heap.get?_push_of_some _ e
  have hb : Sub b (ext b h.objs.size o) := ext_sub C.bnew
  have hn : ∀ a x, ext b h.objs.size o a = some x → b a = some x ∨ h.get? a = none := fun a x e => by
    by_cases q : a = h.objs.size
    · subst q; exact .inr (fresh_size h)
    · rw [ext_ne q] at e; exact .inl e
  refine ⟨C.grow hk hb (fun a x e => ?_) hn, .grow hk hb hn⟩
  by_cases q : a = h.objs.size
  · subst q; rw [ext_at] at e; cases e; exact Heap.get?_push_size _ hf
  · rw [ext_ne q] at e; exact hk a x (C.sub a x e)
/-- a new object that may turn -/
theorem Cx.new (C : Cx Φ σ b h) (o : Obj) (hf : o.isFreed = false) {mo : MO} (r : MRep Φ.w.params b mo o) : Cx Φ ⟨σ.env, (h.objs.size, mo) :: σ.st⟩ b (h.push o) ∧ Ext Φ σ ⟨σ.env, (h.objs.size, mo) :: σ.st⟩ b b h (h.push o) := by
  have hk : ∀ a x, h.get? a = some x → (h.push o).get? a = some x := fun a x e => Heap.get?_push_of_some _ e
  have C' := C.keeps hk
  have E' : Ext Φ σ σ b b h (h.push o) := Ext.keeps hk
  refine ⟨⟨C'.sub, C'.low, C'.ns, C'.cells, C'.Lb, fun q hq => ?_, ?_, C'.ff, C.glob⟩, ⟨E'.sub, E'.new, E'.keep, fun a e => ?_, E'.there⟩⟩
  · rcases List.mem_cons.mp hq with rfl | hq
    · refine ⟨⟨o, Heap.get?_push_size _ hf, r⟩, C.bnew, fun hp => ?_, C.size_ne, fun hf => ?_⟩
      · obtain ⟨o', e⟩ := C.notpriv hp
        rw [fresh_size] at e; cases e
      · obtain ⟨_, o', e, _⟩ := C.ff.there hf
        rw [fresh_size] at e; cases e
    · exact C'.st q hq
  · rw [List.map_cons, List.nodup_cons]
    refine ⟨fun hm => ?_, C.nd⟩
    obtain ⟨q, hq, e⟩ := List.mem_map.mp hm
    obtain ⟨⟨o', e', _⟩, _⟩ := C.st q hq
    rw [e] at e'
    rw [show h.get? h.objs.size = none from fresh_size h] at e'; cases e'
  · rcases List.mem_cons.mp (show a ∈ h.objs.size :: σ.st.map (·.1) from e) with rfl | e
    · exact .inr (fresh_size h)
    · exact .inl e
end
/-- the place of an address in a store, turned -/
noncomputable def setM (a : Addr) (mo : MO) : List (Addr × MO) → List (Addr × MO)
  | [] => []
  | (c, x) :: r => if c = a then (c, mo) :: r else (c, x) :: setM a mo r
theorem setM_keys (a : Addr) (mo : MO) : ∀ l, (setM a mo l).map (·.1) = l.map (·.1)
  | [] => rfl
  | (c, x) :: r => by
    rw [setM]
    split
    · rfl
    · rw [List.map_cons, List.map_cons, setM_keys a mo r]
theorem setM_mem {a : Addr} {mo : MO} : ∀ {l : List (Addr × MO)} {q : Addr × MO}, (l.map (·.1)).Nodup → q ∈ setM a mo l → (q = (a, mo)) ∨ (q ∈ l ∧ q.1 ≠ a)
  | [], _, _, h => nomatch h
  | (c, x) :: r, q, hn, h => by
    rw [List.map_cons, List.nodup_cons] at hn
    rw [setM] at h
    split at h
    · rename_i e
      rcases List.mem_cons.mp h with rfl | h
      · exact .inl (by rw [e])
      · refine .inr ⟨List.mem_cons_of_mem _ h, fun e' => hn.1 ?_⟩
        have := List.mem_map_of_mem (f := (·.1)) h; rw [e'] at this; rw [e]; exact this
    · rename_i e
      rcases List.mem_cons.mp h with rfl | h
      · exact .inr ⟨List.mem_cons_self .., e⟩
      · rcases setM_mem hn.2 h with h | ⟨h, h'⟩
        · exact .inl h
        · exact .inr ⟨List.mem_cons_of_mem _ h, h'⟩
noncomputable def getM (a : Addr) : List (Addr × MO) → Option MO
  | [] => none
  | (c, x) :: r => if c = a then some x else getM a r
theorem getM_mem {a : Addr} {mo : MO} : ∀ {l : List (Addr × MO)}, getM a l = some mo → (a, mo) ∈ l
  | [], h => nomatch h
  | (c, x) :: r, h => by
    rw [getM] at h
    split at h
    · rename_i e; cases h; rw [e]; exact List.mem_cons_self ..
    · exact List.mem_cons_of_mem _ (getM_mem h)
section
variable {Φ : Fx} {σ : Sy} {b : Bs} {h h' : Heap}
theorem Cx.at (C : Cx Φ σ b h) {a : Addr} {mo : MO} (e : getM a σ.st = some mo) : ∃ o, h.get? a = some o ∧ MRep Φ.w.params b mo o := (C.st _ (getM_mem e)).1
theorem Cx.domb (C : Cx Φ σ b h) {a : Addr} (e : dom σ a) : b a = none ∧ ¬ priv Φ.env a ∧ a ≠ sysModules ∧ ¬ fr Φ.outer a ∧ ∃ o, h.get? a = some o := by
  obtain ⟨q, hq, rfl⟩ := List.mem_map.mp e
  obtain ⟨⟨o, e, _⟩, n, p, z, f⟩ := C.st q hq
  exact ⟨n, p, z, f, o, e⟩
/-- an object of the store is turned -/
theorem Cx.upd (C : Cx Φ σ b h) {a : Addr} {mo mo' : MO} {o' : Obj} (e : getM a σ.st = some mo) (hs : ∀ x o, x ≠ a → h.get? x = some o → h'.get? x = some o) (ho : h'.get? a = some o') (r : MRep Φ.w.params b mo' o') :
    Cx Φ ⟨σ.env, setM a mo' σ.st⟩ b h' ∧ Ext Φ σ ⟨σ.env, setM a mo' σ.st⟩ b b h h' := by
  have hm : dom σ a := List.mem_map_of_mem (getM_mem e)
  obtain ⟨n, p, z, f, o, eo⟩ := C.domb hm
  obtain ⟨o1, eo1, r1⟩ := C.at e
  have ne : ∀ x ox, b x = some ox → x ≠ a := fun x ox q z => by rw [z, n] at q; cases q
  refine ⟨⟨fun x ox q => hs x ox (ne x ox q) (C.sub x ox q), C.low, ?_, fun x c hx => ?_, C.Lb, fun q hq => ?_, ?_, fun env he => ?_, C.glob⟩, ⟨.refl b, fun _ _ q => .inl q, fun x ox q hp hd => ?_, fun x q => ?_, fun x ox q => ?_⟩⟩
  · obtain ⟨m, ⟨oL, es, ep, eL, rL⟩, hv⟩ := C.ns
    have nL : Φ.env.locals ≠ a := fun z => p (z ▸ .inl rfl)
    refine ⟨m, ⟨oL, es, ep, hs _ _ nL eL, rL⟩, fun x q e => (hv x q e).mono (.refl b) fun c ov ⟨y, hy⟩ i => ?_⟩
    obtain ⟨oc, e1, e2⟩ := i
    exact ⟨oc, hs _ _ (fun z => p (z ▸ .inr ⟨y, hy⟩)) e1, e2⟩
  · obtain ⟨⟨ov, oc, e1, d⟩, nc⟩ := C.cells x c hx
    exact ⟨⟨ov, oc, hs _ _ (fun z => p (z ▸ .inr ⟨x, hx⟩)) e1, d⟩, nc⟩
  · rcases setM_mem C.nd hq with rfl | ⟨hq, hne⟩
    · exact ⟨⟨o', ho, r⟩, n, p, z, f⟩
    · obtain ⟨⟨ox, ex, rx⟩, nx, px, zx⟩ := C.st q hq
      exact ⟨⟨ox, hs _ _ hne ex, rx⟩, nx, px, zx⟩
  · rw [setM_keys]; exact C.nd
  · obtain ⟨k, L, oL, fL, nL, eL, dL⟩ := C.ff env he
    exact ⟨k, L, oL, fL, nL, hs _ _ (fun z => f (z ▸ ⟨env, he, fL⟩)) eL, dL⟩
  · have z : x ≠ a := fun z => hd (z ▸ hm)
    exact ⟨⟨ox.slots, hs x ox z q⟩, fun _ => hs x ox z q⟩
  · have : x ∈ (setM a mo' σ.st).map (·.1) := q
    rw [setM_keys] at this
    exact .inl this
  · by_cases z : x = a
    · subst z; exact ⟨o', ho⟩
    · exact ⟨ox, hs x ox z q⟩
end
/-- weaker knowledge -/
noncomputable def Weak (σ' σ : Sy) : Prop := (∀ q ∈ σ'.env, σ.env.lookup q.1 = some q.2) ∧ (∀ q ∈ σ'.st, q ∈ σ.st) ∧ (σ'.st.map (·.1)).Nodup
theorem Cx.weak {Φ : Fx} {σ σ' : Sy} {b : Bs} {h : Heap} (C : Cx Φ σ b h) (w : Weak σ' σ) : Cx Φ σ' b h :=
  ⟨C.sub, C.low, let ⟨m, hm, hv⟩ := C.ns; ⟨m, hm, fun x p e => hv x p (w.1 (x, p) (mem_of_lookup e))⟩, C.cells, C.Lb, fun q hq => C.st q (w.2.1 q hq), w.2.2, C.ff, C.glob⟩
theorem Ext.weak {Φ : Fx} {σ σ' : Sy} {b : Bs} {h : Heap} (w : Weak σ' σ) : Ext Φ σ σ' b b h h :=
  ⟨.refl b, fun _ _ e => .inl e, fun a o e _ _ => ⟨⟨o.slots, e⟩, fun _ => e⟩, fun a e => .inl (let ⟨q, hq, z⟩ := List.mem_map.mp e; z ▸ List.mem_map_of_mem (w.2.1 q hq)), fun _ o e => ⟨o, e⟩⟩
theorem T.weak {α β : Type} {Φ : Fx} {E : Value → Shared → Prop} {m : Sem α} {R : Bs → α → β → Prop} {σ σ' : Sy} {Post : β → Sy → Prop} (w : Weak σ' σ) (h : T Φ E m R σ' Post) : T Φ E m R σ Post :=
  T.mk fun b s Q C k => h.run b s Q (C.weak w) fun β σ'' b' h' tk' a p C' X r => k β σ'' b' h' tk' a p C' ((Ext.weak w).trans X) r
end Mine
end
section
open PySem PySem.W PySem.Spec PySem.Calls PyProof.Rows
namespace Mine
section
variable {Φ : Fx} {E : Value → Shared → Prop} {σ : Sy} {n : Nat}
/-! expressions -/
theorem e_loc {x : Str} {pos : Pos} {p : PV} {Post : PV → Sy → Prop} (O : Φ.Ok n) (h : σ.env.lookup x = some p) (q : Post p σ) (hd : (x == ("__debug__" : Str)) = false := by decide) (hn : (x == ("__classdict__" : Str)) = false := by decide) :
    Ev Φ E (.Name x pos) σ Post := by
  refine T.mk fun b s Q C k => ?_
  obtain ⟨m, hm, hv⟩ := C.ns
  have fin : ∀ v, Rep Φ.w.params b p v → Q v s := fun v r => k p σ b s.heap s.toks v q C .refl r
  refine wpAny_Name ?_ hd
  rcases hv x p h with ⟨hl, v, e, r⟩ | ⟨hl | hl, c, v, e, i, r⟩
  · exact wpAny_loadName_local O.kind hl hm e (fin v r)
  · exact wpAny_loadName_cell O.kind hl e i (fin v r)
  · exact wpAny_loadName_free O.kind hl e i (fin v r) hn
theorem e_int {i : Int} {kk : Nat} {pos : Pos} {Post : PV → Sy → Prop} (q : Post (.int i) σ) : Ev Φ E (.Constant (.int i) kk pos) σ Post :=
  T.mk fun b s Q C k => wpAny_Constant_int (k (.int i) σ b s.heap (s.toks + 1) _ q C .refl Rep.mkInt)
theorem e_str {x : Str} {kk : Nat} {pos : Pos} {Post : PV → Sy → Prop} (q : Post (.str x) σ) : Ev Φ E (.Constant (.str x) kk pos) σ Post :=
  T.mk fun b s Q C k => wpAny_Constant_str (k (.str x) σ b s.heap (s.toks + 1) _ q C .refl Rep.mkStr)
theorem e_bool {x : Bool} {kk : Nat} {pos : Pos} {Post : PV → Sy → Prop} (q : Post (.bool x) σ) : Ev Φ E (.Constant (.bool x) kk pos) σ Post :=
  T.mk fun b s Q C k => wpAny_Constant_bool (k (.bool x) σ b s.heap s.toks _ q C .refl Rep.mkBool)
theorem e_none {kk : Nat} {pos : Pos} {Post : PV → Sy → Prop} (q : Post .none σ) : Ev Φ E (.Constant .none kk pos) σ Post :=
  T.mk fun b s Q C k => wpAny_Constant_none (k .none σ b s.heap s.toks _ q C .refl Rep.mkNone)
theorem es_nil {Post : List PV → Sy → Prop} (q : Post [] σ) : Evs Φ E [] σ Post :=
  fun pos => T.mk fun b s Q C k => wpAny_items_nil (k [] σ b s.heap s.toks _ q C .refl .nil)
theorem es_cons {e : Expr} {rest : List Expr} {Post : List PV → Sy → Prop} (h : Ev Φ E e σ fun p σ₁ => Evs Φ E rest σ₁ fun ps σ₂ => Post (p :: ps) σ₂)
    (he : starEach (e :: rest) Φ.env = (false, eval e Φ.env) :: starEach rest Φ.env := by rfl) : Evs Φ E (e :: rest) σ Post :=
  fun pos => T.mk fun b s Q C k => wpAny_items_cons (h.run b s _ C fun p σ₁ b₁ h₁ t₁ v hP C₁ X₁ r₁ => (hP pos).run b₁ _ _ C₁ fun ps σ₂ b₂ h₂ t₂ vs hP₂ C₂ X₂ r₂ =>
    k (p :: ps) σ₂ b₂ h₂ t₂ (v :: vs) hP₂ C₂ (X₁.trans X₂) (.cons (r₁.mono X₂.sub) r₂)) he
theorem e_tup {es : List Expr} {kk : Nat} {pos : Pos} {Post : PV → Sy → Prop} (h : Evs Φ E es σ fun ps σ₁ => ps.length ≤ sizeLine ∧ Post (.tup ps) σ₁) : Ev Φ E (.Tuple es kk pos) σ Post :=
  T.mk fun b s Q C k => wpAny_Tuple ((h pos).run b s _ C fun ps σ₁ b₁ h₁ t₁ vs hP C₁ X₁ r₁ => by
    obtain ⟨hl, hP⟩ := hP
    obtain ⟨C₂, X₂⟩ := C₁.push (tupO vs 0) rfl
    exact ⟨by rw [r₁.length]; exact hl, k (.tup ps) σ₁ _ _ t₁ _ hP C₂ (X₁.trans X₂) (Rep.mkTup (ext_at ..) (r₁.mono X₂.sub))⟩)
/-- a list that stays as it is -/
theorem e_list {es : List Expr} {pos : Pos} {Post : PV → Sy → Prop} (h : Evs Φ E es σ fun ps σ₁ => ps.length ≤ sizeLine ∧ Post (.list ps) σ₁) : Ev Φ E (.List es pos) σ Post :=
  T.mk fun b s Q C k => wpAny_List ((h pos).run b s _ C fun ps σ₁ b₁ h₁ t₁ vs hP C₁ X₁ r₁ => by
    obtain ⟨hl, hP⟩ := hP
    obtain ⟨C₂, X₂⟩ := C₁.push (listO vs 0) rfl
    exact ⟨by rw [r₁.length]; exact hl, k (.list ps) σ₁ _ _ t₁ _ hP C₂ (X₁.trans X₂) (Rep.mkList (ext_at ..) (r₁.mono X₂.sub))⟩)
/-- a list that may turn -/
theorem e_listM {es : List Expr} {pos : Pos} {Post : PV → Sy → Prop} (h : Evs Φ E es σ fun ps σ₁ => ps.length ≤ sizeLine ∧ ∀ a, Post (.ref a) ⟨σ₁.env, (a, .list ps) :: σ₁.st⟩) : Ev Φ E (.List es pos) σ Post :=
  T.mk fun b s Q C k => wpAny_List ((h pos).run b s _ C fun ps σ₁ b₁ h₁ t₁ vs hP C₁ X₁ r₁ => by
    obtain ⟨hl, hP⟩ := hP
    obtain ⟨C₂, X₂⟩ := C₁.new (listO vs 0) rfl (mo := .list ps) ⟨vs, 0, rfl, r₁⟩
    exact ⟨by rw [r₁.length]; exact hl, k (.ref _) _ _ _ t₁ _ (hP _) C₂ (X₁.trans X₂) Rep.mkRef⟩)
theorem e_dictM {pos : Pos} {Post : PV → Sy → Prop} (h : ∀ a, Post (.ref a) ⟨σ.env, (a, .dict []) :: σ.st⟩) : Ev Φ E (.Dict [] [] pos) σ Post := by
  refine T.mk fun b s Q C k => ?_
  rw [eval_Dict_empty]
  refine wpAny_bind (wpAny_standAt ?_)
  obtain ⟨C₂, X₂⟩ := C.new (dictOf [] 0) rfl (mo := .dict []) ⟨[], 0, rfl, .nil⟩
  exact wpAny_newObj_type (k (.ref _) _ _ _ s.toks _ (h _) C₂ X₂ Rep.mkRef)
/-- an empty dict that stays as it is -/
theorem e_dict0 {pos : Pos} {Post : PV → Sy → Prop} (h : Post (.dict []) σ) : Ev Φ E (.Dict [] [] pos) σ Post := by
  refine T.mk fun b s Q C k => ?_
  rw [eval_Dict_empty]
  refine wpAny_bind (wpAny_standAt ?_)
  obtain ⟨C₂, X₂⟩ := C.push (dictOf [] 0) rfl
  exact wpAny_newObj_type (k (.dict []) _ _ _ s.toks _ h C₂ X₂ (Rep.mkDict C.size_ne (ext_at ..) .nil))
noncomputable abbrev BinT (Φ : Fx) (E : Value → Shared → Prop) (op : Operator) (p q : PV) (σ : Sy) (Post : PV → Sy → Prop) : Prop :=
  ∀ (b : Bs) (s : Shared) (v u : Value) (Q : Value → Shared → Prop), Cx Φ σ b s.heap → Rep Φ.w.params b p v → Rep Φ.w.params b q u →
    (∀ r σ' b' h' tk' a, Post r σ' → Cx Φ σ' b' h' → Ext Φ σ σ' b b' s.heap h' → Rep Φ.w.params b' r a → Q a { s with heap := h', toks := tk' }) → wpAny (model Φ.prog Φ.w) Φ.A (binaryOp op v u) Q E s
theorem e_bin {l r : Expr} {op : Operator} {pos : Pos} {Post : PV → Sy → Prop} (h : Ev Φ E l σ fun p σ₁ => Ev Φ E r σ₁ fun q σ₂ => BinT Φ E op p q σ₂ Post) : Ev Φ E (.BinOp l op r pos) σ Post :=
  T.mk fun b s Q C k => wpAny_BinOp (h.run b s _ C fun p σ₁ b₁ h₁ t₁ v hP C₁ X₁ r₁ => hP.run b₁ _ _ C₁ fun q σ₂ b₂ h₂ t₂ u hP₂ C₂ X₂ r₂ =>
    hP₂ b₂ _ v u _ C₂ (r₁.mono X₂.sub) r₂ fun r σ₃ b₃ h₃ t₃ a hP₃ C₃ X₃ r₃ => k r σ₃ b₃ h₃ t₃ a hP₃ C₃ ((X₁.trans X₂).trans X₃) r₃)
section
variable {i j : Int} {Post : PV → Sy → Prop}
theorem b_add (q : Post (.int (i + j)) σ) : BinT Φ E .Add (.int i) (.int j) σ Post := fun b s v u Q C hv hu k => by
  obtain ⟨t, rfl⟩ := hv.intI; obtain ⟨t', rfl⟩ := hu.intI
  exact add_int (k _ σ b s.heap _ _ q C .refl Rep.mkInt)
theorem b_sub (q : Post (.int (i - j)) σ) : BinT Φ E .Sub (.int i) (.int j) σ Post := fun b s v u Q C hv hu k => by
  obtain ⟨t, rfl⟩ := hv.intI; obtain ⟨t', rfl⟩ := hu.intI
  exact sub_int (k _ σ b s.heap _ _ q C .refl Rep.mkInt)
theorem b_mul (hm : IntMulOk i j) (q : Post (.int (i * j)) σ) : BinT Φ E .Mult (.int i) (.int j) σ Post := fun b s v u Q C hv hu k => by
  obtain ⟨t, rfl⟩ := hv.intI; obtain ⟨t', rfl⟩ := hu.intI
  exact P.mul_int (k _ σ b s.heap _ _ q C .refl Rep.mkInt) hm
theorem b_mod (hj : j ≠ 0) (q : Post (.int (i.fmod j)) σ) : BinT Φ E .Mod (.int i) (.int j) σ Post := fun b s v u Q C hv hu k => by
  obtain ⟨t, rfl⟩ := hv.intI; obtain ⟨t', rfl⟩ := hu.intI
  exact mod_int' hj (k _ σ b s.heap _ _ q C .refl Rep.mkInt)
theorem b_pow (h0 : 0 ≤ j) (h1 : j ≤ 1000000) (h2 : i.natAbs < 2 ^ 64) (q : Post (.int (i ^ j.toNat)) σ) : BinT Φ E .Pow (.int i) (.int j) σ Post := fun b s v u Q C hv hu k => by
  obtain ⟨t, rfl⟩ := hv.intI; obtain ⟨t', rfl⟩ := hu.intI
  exact pow_int_small h0 h1 h2 (k _ σ b s.heap _ _ q C .refl Rep.mkInt)
theorem b_sadd {x y : Str} (hl : x.length + y.length ≤ sizeLine) (q : Post (.str (x ++ y)) σ) : BinT Φ E .Add (.str x) (.str y) σ Post := fun b s v u Q C hv hu k => by
  obtain ⟨t, rfl⟩ := hv.strI; obtain ⟨t', rfl⟩ := hu.strI
  exact add_str (fun t'' tk => k _ σ b s.heap tk _ q C .refl Rep.mkStr) hl
theorem b_tadd {ps qs : List PV} (hl : ps.length + qs.length ≤ sizeLine) (q : Post (.tup (ps ++ qs)) σ) : BinT Φ E .Add (.tup ps) (.tup qs) σ Post := fun b s v u Q C hv hu k => by
  obtain ⟨a, vs, n, rfl, ha, hvs⟩ := hv.tupI
  obtain ⟨c, ws, n', rfl, hc, hws⟩ := hu.tupI
  have ga := C.sub _ _ ha
  have gc := C.sub _ _ hc
  have S1 : s.TypeIs (.ref a) "tuple" := ⟨_, ga, rfl⟩
  have S2 : s.TypeIs (.ref c) "tuple" := ⟨_, gc, rfl⟩
  cases vs with
  | nil =>
    have e : ps = [] := List.length_eq_zero_iff.mp (by rw [← hvs.length]; rfl)
    subst e
    exact concat_meets S1 S2 noFill_tuple_add seq_tuple_add F.slot_tuple_add F.entry_tuple_add (F.args_tuple_add_2 _ _) (AutoSeq1.tuple___add___tuple_tuple_0 a _ n c _ n' rfl) ⟨ga, gc, k _ σ b s.heap s.toks _ q C .refl (Rep.mkTup hc hws)⟩
  | cons x vs =>
    cases ws with
    | nil =>
      have e : qs = [] := List.length_eq_zero_iff.mp (by rw [← hws.length]; rfl)
      subst e
      rw [List.append_nil] at q
      exact concat_meets S1 S2 noFill_tuple_add seq_tuple_add F.slot_tuple_add F.entry_tuple_add (F.args_tuple_add_2 _ _) (AutoSeq1.tuple___add___tuple_tuple_1 a _ n c _ n' (by simp) rfl) ⟨ga, gc, k _ σ b s.heap s.toks _ q C .refl (Rep.mkTup ha hvs)⟩
    | cons y ws =>
      obtain ⟨C₂, X₂⟩ := C.push (tupO ((x :: vs) ++ (y :: ws)) 0) rfl
      refine P.add_tuple ga gc (by simp) (by simp) ?_ (by rw [List.size_toArray, List.size_toArray, hvs.length, hws.length]; exact hl)
      have e : (x :: vs).toArray ++ (y :: ws).toArray = ((x :: vs) ++ (y :: ws)).toArray := by simp
      rw [e]
      exact k (.tup (ps ++ qs)) σ _ _ s.toks _ q C₂ X₂ (Rep.mkTup (ext_at ..) ((hvs.append hws).mono X₂.sub))
theorem b_ladd {ps qs : List PV} (hl : ps.length + qs.length ≤ sizeLine) (q : Post (.list (ps ++ qs)) σ) : BinT Φ E .Add (.list ps) (.list qs) σ Post := fun b s v u Q C hv hu k => by
  obtain ⟨a, vs, n, rfl, ha, hvs⟩ := hv.listI
  obtain ⟨c, ws, n', rfl, hc, hws⟩ := hu.listI
  obtain ⟨C₂, X₂⟩ := C.push (listO (vs ++ ws) 0) rfl
  refine P.add_list (C.sub _ _ ha) (C.sub _ _ hc) ?_ (by rw [List.size_toArray, List.size_toArray, hvs.length, hws.length]; exact hl)
  have e : vs.toArray ++ ws.toArray = (vs ++ ws).toArray := by simp
  rw [e]
  exact k (.list (ps ++ qs)) σ _ _ s.toks _ q C₂ X₂ (Rep.mkList (ext_at ..) ((hvs.append hws).mono X₂.sub))
/-- a turned list and one that stays: a new one that may turn -/
theorem b_laddM {c : Addr} {ps qs : List PV} (hg : getM c σ.st = some (.list ps)) (hl : ps.length + qs.length ≤ sizeLine) (q : ∀ a, Post (.ref a) ⟨σ.env, (a, .list (ps ++ qs)) :: σ.st⟩) : BinT Φ E .Add (.ref c) (.list qs) σ Post := fun b s v u Q C hv hu k => by
  obtain rfl := hv.refI
  obtain ⟨d, ws, n', rfl, hc, hws⟩ := hu.listI
  obtain ⟨o, ho, vs, n, rfl, hvs⟩ := C.at hg
  obtain ⟨C₂, X₂⟩ := C.new (listO (vs ++ ws) 0) rfl (mo := .list (ps ++ qs)) ⟨_, 0, rfl, hvs.append hws⟩
  refine P.add_list ho (C.sub _ _ hc) ?_ (by rw [List.size_toArray, List.size_toArray, hvs.length, hws.length]; exact hl)
  have e : vs.toArray ++ ws.toArray = (vs ++ ws).toArray := by simp
  rw [e]
  exact k (.ref _) _ _ _ s.toks _ (q _) C₂ X₂ Rep.mkRef
end
end
end Mine
end
section
open PySem PySem.W PySem.Spec PySem.Calls PyProof.Rows
namespace Mine
section
variable {Φ : Fx} {E : Value → Shared → Prop} {σ : Sy} {n : Nat}
/-! tests and comparisons -/
noncomputable abbrev CmpT (Φ : Fx) (E : Value → Shared → Prop) (op : CmpOp) (p q : PV) (σ : Sy) (x : Bool) : Prop :=
  ∀ (b : Bs) (s : Shared) (v u : Value) (Q : Value → Shared → Prop), Cx Φ σ b s.heap → Rep Φ.w.params b p v → Rep Φ.w.params b q u →
    (∀ tk', Q (.bool x) { s with toks := tk' }) → wpAny (model Φ.prog Φ.w) Φ.A (compareOp op v u) Q E s
theorem t_cmp {l r : Expr} {op : CmpOp} {pos : Pos} {Post : Bool → Sy → Prop} (h : Ev Φ E l σ fun p σ₁ => Ev Φ E r σ₁ fun q σ₂ => ∃ x, CmpT Φ E op p q σ₂ x ∧ Post x σ₂)
    (hm : behindInMarks op r = false := by with_unfolding_all rfl) : Te Φ E (.Compare l [op] [r] pos) σ Post :=
  T.mk fun b s Q C k => wpAny_isTrue_Compare1 (h.run b s _ C fun p σ₁ b₁ h₁ t₁ v hP C₁ X₁ r₁ => hP.run b₁ _ _ C₁ fun q σ₂ b₂ h₂ t₂ u hP₂ C₂ X₂ r₂ => by
    obtain ⟨x, c, hx⟩ := hP₂
    exact c b₂ _ v u _ C₂ (r₁.mono X₂.sub) r₂ fun tk => wpAny_truthy_bool (k x σ₂ b₂ h₂ tk x hx C₂ (X₁.trans X₂) rfl)) hm
theorem e_cmp {l r : Expr} {op : CmpOp} {pos : Pos} {Post : PV → Sy → Prop} (h : Ev Φ E l σ fun p σ₁ => Ev Φ E r σ₁ fun q σ₂ => ∃ x, CmpT Φ E op p q σ₂ x ∧ Post (.bool x) σ₂)
    (hm : behindInMarks op r = false := by with_unfolding_all rfl) : Ev Φ E (.Compare l [op] [r] pos) σ Post :=
  T.mk fun b s Q C k => wpAny_Compare1 (h.run b s _ C fun p σ₁ b₁ h₁ t₁ v hP C₁ X₁ r₁ => hP.run b₁ _ _ C₁ fun q σ₂ b₂ h₂ t₂ u hP₂ C₂ X₂ r₂ => by
    obtain ⟨x, c, hx⟩ := hP₂
    exact c b₂ _ v u _ C₂ (r₁.mono X₂.sub) r₂ fun tk => k (.bool x) σ₂ b₂ h₂ tk _ hx C₂ (X₁.trans X₂) Rep.mkBool) hm
/-- a test whose value is a bool -/
theorem t_bool {e : Expr} {Post : Bool → Sy → Prop} (h : Ev Φ E e σ fun p σ₁ => ∃ x, p = .bool x ∧ Post x σ₁)
    (he : isTrue e Φ.env (eval e Φ.env) = (do let v ← eval e Φ.env; standAt e.pos; holding [v] (truthy v)) := by rfl) : Te Φ E e σ Post :=
  T.mk fun b s Q C k => wpAny_isTrue_value (h.run b s _ C fun p σ₁ b₁ h₁ t₁ v hP C₁ X₁ r₁ => by
    obtain ⟨x, rfl, hx⟩ := hP
    obtain rfl := r₁.boolI
    exact wpAny_truthy_bool (k x σ₁ b₁ h₁ t₁ x hx C₁ X₁ rfl)) he
theorem t_not {x : Expr} {pos : Pos} {Post : Bool → Sy → Prop} (h : Te Φ E x σ fun t σ₁ => Post (!t) σ₁) : Te Φ E (.UnaryOp .Not x pos) σ Post :=
  T.mk fun b s Q C k => wpAny_isTrue_Not (h.run b s _ C fun p σ₁ b₁ h₁ t₁ v hP C₁ X₁ r₁ => by cases r₁; exact k (!p) σ₁ b₁ h₁ t₁ (!p) hP C₁ X₁ rfl)
noncomputable abbrev TAll (Φ : Fx) (E : Value → Shared → Prop) (op : BoolOp) (es : List Expr) (σ : Sy) (Post : Bool → Sy → Prop) : Prop := T Φ E (allTrue op es Φ.env) RB σ Post
theorem t_boolop {op : BoolOp} {es : List Expr} {pos : Pos} {Post : Bool → Sy → Prop} (h : TAll Φ E op es σ Post) : Te Φ E (.BoolOp op es pos) σ Post :=
  T.mk fun b s Q C k => wpAny_isTrue_BoolOp (h.run b s Q C k)
theorem ta_and_nil {Post : Bool → Sy → Prop} (h : Post true σ) : TAll Φ E .And [] σ Post := T.mk fun b s Q C k => wpAny_allTrue_And_nil (k true σ b s.heap s.toks true h C .refl rfl)
theorem ta_or_nil {Post : Bool → Sy → Prop} (h : Post false σ) : TAll Φ E .Or [] σ Post := T.mk fun b s Q C k => wpAny_allTrue_Or_nil (k false σ b s.heap s.toks false h C .refl rfl)
theorem ta_and {e : Expr} {r : List Expr} {Post : Bool → Sy → Prop} (h : Te Φ E e σ fun t σ₁ => (t = true → TAll Φ E .And r σ₁ Post) ∧ (t = false → Post false σ₁)) : TAll Φ E .And (e :: r) σ Post :=
  T.mk fun b s Q C k => wpAny_allTrue_And_cons (h.run b s _ C fun p σ₁ b₁ h₁ t₁ v hP C₁ X₁ r₁ => by
    cases r₁
    cases p with
    | false => exact k false σ₁ b₁ h₁ t₁ false (hP.2 rfl) C₁ X₁ rfl
    | true => exact (hP.1 rfl).run b₁ _ _ C₁ fun q σ₂ b₂ h₂ t₂ u hP₂ C₂ X₂ r₂ => k q σ₂ b₂ h₂ t₂ u hP₂ C₂ (X₁.trans X₂) r₂)
theorem ta_or {e : Expr} {r : List Expr} {Post : Bool → Sy → Prop} (h : Te Φ E e σ fun t σ₁ => (t = true → Post true σ₁) ∧ (t = false → TAll Φ E .Or r σ₁ Post)) : TAll Φ E .Or (e :: r) σ Post :=
  T.mk fun b s Q C k => wpAny_allTrue_Or_cons (h.run b s _ C fun p σ₁ b₁ h₁ t₁ v hP C₁ X₁ r₁ => by
    cases r₁
    cases p with
    | true => exact k true σ₁ b₁ h₁ t₁ true (hP.1 rfl) C₁ X₁ rfl
    | false => exact (hP.2 rfl).run b₁ _ _ C₁ fun q σ₂ b₂ h₂ t₂ u hP₂ C₂ X₂ r₂ => k q σ₂ b₂ h₂ t₂ u hP₂ C₂ (X₁.trans X₂) r₂)
theorem e_ifexp {t x y : Expr} {pos : Pos} {Post : PV → Sy → Prop} (h : Te Φ E t σ fun c σ₁ => (c = true → Ev Φ E x σ₁ Post) ∧ (c = false → Ev Φ E y σ₁ Post)) : Ev Φ E (.IfExp t x y pos) σ Post :=
  T.mk fun b s Q C k => wpAny_IfExp (h.run b s _ C fun p σ₁ b₁ h₁ t₁ v hP C₁ X₁ r₁ => by
    cases r₁
    cases p with
    | true => exact (hP.1 rfl).run b₁ _ _ C₁ fun q σ₂ b₂ h₂ t₂ u hP₂ C₂ X₂ r₂ => k q σ₂ b₂ h₂ t₂ u hP₂ C₂ (X₁.trans X₂) r₂
    | false => exact (hP.2 rfl).run b₁ _ _ C₁ fun q σ₂ b₂ h₂ t₂ u hP₂ C₂ X₂ r₂ => k q σ₂ b₂ h₂ t₂ u hP₂ C₂ (X₁.trans X₂) r₂)
theorem e_and2 {x y : Expr} {pos : Pos} {Post : PV → Sy → Prop} (h : Ev Φ E x σ fun p σ₁ => ∃ c, p = .bool c ∧ (c = true → Ev Φ E y σ₁ Post) ∧ (c = false → Post (.bool false) σ₁)) : Ev Φ E (.BoolOp .And [x, y] pos) σ Post :=
  T.mk fun b s Q C k => wpAny_And2 (h.run b s _ C fun p σ₁ b₁ h₁ t₁ v hP C₁ X₁ r₁ => by
    obtain ⟨c, rfl, hT, hF⟩ := hP
    obtain rfl := r₁.boolI
    refine wpAny_truthy_bool ?_
    cases c with
    | true => exact (hT rfl).run b₁ _ _ C₁ fun q σ₂ b₂ h₂ t₂ u hP₂ C₂ X₂ r₂ => k q σ₂ b₂ h₂ t₂ u hP₂ C₂ (X₁.trans X₂) r₂
    | false => exact k _ σ₁ b₁ h₁ t₁ _ (hF rfl) C₁ X₁ Rep.mkBool)
theorem e_or2 {x y : Expr} {pos : Pos} {Post : PV → Sy → Prop} (h : Ev Φ E x σ fun p σ₁ => ∃ c, p = .bool c ∧ (c = true → Post (.bool true) σ₁) ∧ (c = false → Ev Φ E y σ₁ Post)) : Ev Φ E (.BoolOp .Or [x, y] pos) σ Post :=
  T.mk fun b s Q C k => wpAny_Or2 (h.run b s _ C fun p σ₁ b₁ h₁ t₁ v hP C₁ X₁ r₁ => by
    obtain ⟨c, rfl, hT, hF⟩ := hP
    obtain rfl := r₁.boolI
    refine wpAny_truthy_bool ?_
    cases c with
    | false => exact (hF rfl).run b₁ _ _ C₁ fun q σ₂ b₂ h₂ t₂ u hP₂ C₂ X₂ r₂ => k q σ₂ b₂ h₂ t₂ u hP₂ C₂ (X₁.trans X₂) r₂
    | true => exact k _ σ₁ b₁ h₁ t₁ _ (hT rfl) C₁ X₁ Rep.mkBool)
theorem e_not {x : Expr} {pos : Pos} {Post : PV → Sy → Prop} (h : Ev Φ E x σ fun p σ₁ => ∃ c, p = .bool c ∧ Post (.bool (!c)) σ₁) : Ev Φ E (.UnaryOp .Not x pos) σ Post :=
  T.mk fun b s Q C k => wpAny_UnaryOp (h.run b s _ C fun p σ₁ b₁ h₁ t₁ v hP C₁ X₁ r₁ => by
    obtain ⟨c, rfl, hc⟩ := hP
    obtain rfl := r₁.boolI
    exact not_value (wpAny_truthy_bool (k _ σ₁ b₁ h₁ t₁ _ hc C₁ X₁ Rep.mkBool)))
/-! comparisons, by kinds -/
theorem c_eq_str {x y : Str} : CmpT Φ E .Eq (.str x) (.str y) σ (x == y) := fun b s v u Q C hv hu k => by
  obtain ⟨t, rfl⟩ := hv.strI; obtain ⟨t', rfl⟩ := hu.strI; exact PyProof.Rows.eq_str (k s.toks)
theorem c_ne_str {x y : Str} : CmpT Φ E .NotEq (.str x) (.str y) σ (x != y) := fun b s v u Q C hv hu k => by
  obtain ⟨t, rfl⟩ := hv.strI; obtain ⟨t', rfl⟩ := hu.strI; exact PyProof.Rows.ne_str (k s.toks)
section
variable {i j : Int}
theorem c_eq_int : CmpT Φ E .Eq (.int i) (.int j) σ (i == j) := fun b s v u Q C hv hu k => by
  obtain ⟨t, rfl⟩ := hv.intI; obtain ⟨t', rfl⟩ := hu.intI; exact P.eq_int (k s.toks)
theorem c_lt_int : CmpT Φ E .Lt (.int i) (.int j) σ (decide (i < j)) := fun b s v u Q C hv hu k => by
  obtain ⟨t, rfl⟩ := hv.intI; obtain ⟨t', rfl⟩ := hu.intI; exact P.lt_int (k s.toks)
theorem c_le_int : CmpT Φ E .LtE (.int i) (.int j) σ (decide (i ≤ j)) := fun b s v u Q C hv hu k => by
  obtain ⟨t, rfl⟩ := hv.intI; obtain ⟨t', rfl⟩ := hu.intI; exact P.le_int (k s.toks)
theorem c_gt_int : CmpT Φ E .Gt (.int i) (.int j) σ (decide (i > j)) := fun b s v u Q C hv hu k => by
  obtain ⟨t, rfl⟩ := hv.intI; obtain ⟨t', rfl⟩ := hu.intI; exact P.gt_int (k s.toks)
theorem c_ge_int : CmpT Φ E .GtE (.int i) (.int j) σ (decide (i ≥ j)) := fun b s v u Q C hv hu k => by
  obtain ⟨t, rfl⟩ := hv.intI; obtain ⟨t', rfl⟩ := hu.intI; exact P.ge_int (k s.toks)
end
noncomputable def PV.isNone : PV → Option Bool
  | .none => some true
  | .any => Option.none
  | _ => some false
theorem c_is_none {p : PV} {x : Bool} (h : p.isNone = some x) : CmpT Φ E .Is p .none σ x := fun b s v u Q C hv hu k => by
  obtain rfl := hu.noneI
  refine PySem.is_none ?_
  cases p with
  | none => cases h; obtain rfl := hv.noneI; exact k s.toks
  | any => cases h
  | bool x => cases h; obtain rfl := hv.boolI; exact k s.toks
  | int x => cases h; obtain ⟨_, rfl⟩ := hv.intI; exact k s.toks
  | str x => cases h; obtain ⟨_, rfl⟩ := hv.strI; exact k s.toks
  | ref x => cases h; obtain rfl := hv.refI; exact k s.toks
  | tup x => cases h; obtain ⟨_, _, _, rfl, _⟩ := hv.tupI; exact k s.toks
  | list x => cases h; obtain ⟨_, _, _, rfl, _⟩ := hv.listI; exact k s.toks
  | dict x => cases h; obtain ⟨_, _, _, rfl, _⟩ := hv.dictI; exact k s.toks
  | obj c x => cases h; obtain ⟨_, _, _, _, rfl, _⟩ := hv.objI; exact k s.toks
  | inst c x => cases h; obtain ⟨_, rfl, _⟩ := hv.instI; exact k s.toks
/-! plain data -/
mutual
noncomputable def toPy : PV → Option PyData
  | .none => some .none
  | .bool b => some (.bool b)
  | .int i => some (.int i)
  | .str x => some (.str x)
  | .tup ps => (toPys ps).map .tuple
  | .list ps => (toPys ps).map .list
  | _ => Option.none
noncomputable def toPys : List PV → Option (List PyData)
  | [] => some []
  | p :: ps => (toPy p).bind fun d => (toPys ps).map (d :: ·)
end
mutual
theorem reads_of {P : Params} {b : Bs} {h : Heap} (hs : Sub b h.get?) : ∀ {p : PV} {v : Value} {d : PyData}, Rep P b p v → toPy p = some d → ∃ as, Reads h v d as
  | .none, v, d, r, e => by simp only [toPy, Option.some.injEq] at e; subst e; obtain rfl := r.noneI; exact ⟨_, .none⟩
  | .bool _, v, d, r, e => by simp only [toPy, Option.some.injEq] at e; subst e; obtain rfl := r.boolI; exact ⟨_, .bool _⟩
  | .int _, v, d, r, e => by simp only [toPy, Option.some.injEq] at e; subst e; obtain ⟨_, rfl⟩ := r.intI; exact ⟨_, .int _ _⟩
  | .str _, v, d, r, e => by simp only [toPy, Option.some.injEq] at e; subst e; obtain ⟨_, rfl⟩ := r.strI; exact ⟨_, .str _ _⟩
  | .tup ps, v, d, r, e => by
    simp only [toPy, Option.map_eq_some_iff] at e
    obtain ⟨ds, e, rfl⟩ := e
    obtain ⟨a, vs, n, rfl, g, q⟩ := r.tupI
    obtain ⟨as, x⟩ := readsAll_of hs q e
    exact ⟨as, .tuple (hs _ _ g) rfl rfl (by simpa using x)⟩
  | .list ps, v, d, r, e => by
    simp only [toPy, Option.map_eq_some_iff] at e
    obtain ⟨ds, e, rfl⟩ := e
    obtain ⟨a, vs, n, rfl, g, q⟩ := r.listI
    obtain ⟨as, x⟩ := readsAll_of hs q e
    exact ⟨_, .list (hs _ _ g) rfl rfl (by simpa using x)⟩
  | .dict _, _, _, _, e => by simp [toPy] at e
  | .obj _ _, _, _, _, e => by simp [toPy] at e
  | .ref _, _, _, _, e => by simp [toPy] at e
  | .inst _ _, _, _, _, e => by simp [toPy] at e
  | .any, _, _, _, e => by simp [toPy] at e
theorem readsAll_of {P : Params} {b : Bs} {h : Heap} (hs : Sub b h.get?) : ∀ {ps : List PV} {vs : List Value} {ds : List PyData}, Reps P b ps vs → toPys ps = some ds → ∃ as, ReadsAll h vs ds as
  | [], vs, ds, r, e => by simp only [toPys, Option.some.injEq] at e; subst e; obtain rfl := r.nil_inv; exact ⟨_, .nil⟩
  | p :: ps, vs, ds, r, e => by
    simp only [toPys, Option.bind_eq_some_iff, Option.map_eq_some_iff] at e
    obtain ⟨d, e1, ds', e2, rfl⟩ := e
    obtain ⟨v, vs', rfl, r1, r2⟩ := r.cons_inv
    obtain ⟨as, x⟩ := reads_of hs r1 e1
    obtain ⟨bs, y⟩ := readsAll_of hs r2 e2
    exact ⟨_, .cons x y⟩
end
theorem c_eq_py {p q : PV} {dp dq : PyData} {x : Bool} (O : Φ.Ok n) (hp : toPy p = some dp) (hq : toPy q = some dq) (sp : SeqAt.shaped dp = true) (sq : SeqAt.shaped dq = true) (e : PyData.eqv dp dq = x) : CmpT Φ E .Eq p q σ x := fun b s v u Q C hv hu k => by
  obtain ⟨as, r1⟩ := reads_of C.sub hv hp
  obtain ⟨bs, r2⟩ := reads_of C.sub hu hq
  exact eq_dataH r1 r2 sp sq (by have := O.units; omega) (by rw [e]; exact k s.toks)
theorem c_ne_py {p q : PV} {dp dq : PyData} {x : Bool} (O : Φ.Ok n) (hp : toPy p = some dp) (hq : toPy q = some dq) (sp : SeqAt.shaped dp = true) (sq : SeqAt.shaped dq = true) (e : (!PyData.eqv dp dq) = x) : CmpT Φ E .NotEq p q σ x := fun b s v u Q C hv hu k => by
  obtain ⟨as, r1⟩ := reads_of C.sub hv hp
  obtain ⟨bs, r2⟩ := reads_of C.sub hu hq
  exact ne_dataH r1 r2 sp sq (by have := O.units; omega) (by rw [e]; exact k s.toks)
end
end Mine
end
section
open PySem PySem.W PySem.Spec PySem.Calls PyProof.Rows
namespace Mine
section
variable {P : Params} {b : Bs} {h : Heap} {prog : Program} {w : World}
theorem find_of {k : Str} : ∀ {kvs : List (Str × PV)} {es : List DictEntry}, RepE P b kvs es →
    (∀ p, kvs.lookup k = some p → ∃ e, es.find? (fun e => e.key.isStr k) = some e ∧ Rep P b p e.val) ∧ (kvs.lookup k = none → es.find? (fun e => e.key.isStr k) = none)
  | [], es, r => by obtain rfl := r.nil_inv; exact ⟨fun _ q => by simp at q, fun _ => rfl⟩
  | (k', p') :: kvs, es, r => by
    obtain ⟨e, er, rfl, ⟨t, hk⟩, _, hv, r'⟩ := r.cons_inv
    obtain ⟨i1, i2⟩ := find_of (k := k) r'
    have key : e.key.isStr k = (k == k') := by
      rw [hk]
      show (k' == k) = (k == k')
      exact Bool.eq_iff_iff.mpr ⟨fun h => beq_iff_eq.mpr (beq_iff_eq.mp h).symm, fun h => beq_iff_eq.mpr (beq_iff_eq.mp h).symm⟩
    refine ⟨fun p q => ?_, fun q => ?_⟩
    · rw [List.lookup_cons] at q
      rw [List.find?_cons, key]
      cases hb : (k == k') with
      | true => rw [hb] at q; cases q; exact ⟨e, rfl, hv⟩
      | false => rw [hb] at q; exact i1 p q
    · rw [List.lookup_cons] at q
      rw [List.find?_cons, key]
      cases hb : (k == k') with
      | true => rw [hb] at q; cases q
      | false => rw [hb] at q; exact i2 q
theorem allStr : ∀ {kvs : List (Str × PV)} {es : List DictEntry}, RepE P b kvs es → ∀ e ∈ es, ∃ k t, e.key = .str k t ∧ e.hash = PyData.keyHash P k
  | [], es, r => by obtain rfl := r.nil_inv; intro e he; cases he
  | (k', p') :: kvs, es, r => by
    obtain ⟨e, er, rfl, ⟨t, hk⟩, hh, hv, r'⟩ := r.cons_inv
    intro x hx
    rcases List.mem_cons.mp hx with rfl | hx
    · exact ⟨k', t, hk, hh⟩
    · exact allStr r' x hx
theorem getL_of {k : Str} {kvs : List (Str × PV)} {es : List DictEntry} (r : RepE P b kvs es) :
    (∀ p, kvs.lookup k = some p → ∃ v, getL k es = some (some v) ∧ Rep P b p v) ∧ (kvs.lookup k = none → getL k es = some none) := by
  obtain ⟨i1, i2⟩ := find_of (k := k) r
  refine ⟨fun p q => ?_, fun q => ?_⟩
  · obtain ⟨e, h1, h2⟩ := i1 p q
    exact ⟨e.val, by unfold getL; rw [h1], h2⟩
  · have no : es.any (·.refKey) = false := by
      rw [List.any_eq_false]; intro e he; obtain ⟨n, t, h, _⟩ := allStr r e he; simp [DictEntry.refKey, h]
    unfold getL; rw [i2 q]; dsimp only; rw [no]; rfl
theorem mapOf_of {a : Addr} {kvs : List (Str × PV)} {es : List DictEntry} {n : Nat} (ho : h.get? a = some (dictOf es n)) (r : RepE w.params b kvs es) :
    h.MapOf (strKind prog w) a (fun k => findBy Value.isStrOf es.toArray k) :=
  ⟨_, es.toArray, n, ho, ⟨rfl, rfl, rfl⟩, rfl, fun e he => by
    obtain ⟨k, t, hk, hh⟩ := allStr r e (List.mem_toArray.mp he)
    exact ⟨k, by rw [hk]; exact strKind_is prog w k t, hh⟩, fun _ => rfl⟩
theorem findBy_of {k : Str} {kvs : List (Str × PV)} {es : List DictEntry} (r : RepE P b kvs es) :
    (∀ p, kvs.lookup k = some p → ∃ v, findBy Value.isStrOf es.toArray k = some v ∧ Rep P b p v) ∧ (kvs.lookup k = none → findBy Value.isStrOf es.toArray k = none) := by
  obtain ⟨i1, i2⟩ := find_of (k := k) r
  have q : (fun d : DictEntry => Value.isStrOf k d.key) = fun d => d.key.isStr k := funext fun d => (isStr_of k d.key).symm
  refine ⟨fun p hp => ?_, fun hp => ?_⟩
  · obtain ⟨e, h1, h2⟩ := i1 p hp
    exact ⟨e.val, by unfold findBy; rw [List.find?_toArray, q, h1]; rfl, h2⟩
  · unfold findBy; rw [List.find?_toArray, q, i2 hp]; rfl
theorem findBy_isSome {k : Str} {kvs : List (Str × PV)} {es : List DictEntry} (r : RepE P b kvs es) : (findBy Value.isStrOf es.toArray k).isSome = (kvs.lookup k).isSome := by
  obtain ⟨i1, i2⟩ := findBy_of (k := k) r
  cases q : kvs.lookup k with
  | none => rw [i2 q]; rfl
  | some p => obtain ⟨v, h1, _⟩ := i1 p q; rw [h1]; rfl
noncomputable def PV.known : PV → Bool
  | .any => false
  | _ => true
theorem Rep.handed {p : PV} {v : Value} (r : Rep P b p v) (h : p.known = true) : handedIn v = true := by
  cases p with
  | none => obtain rfl := r.noneI; rfl
  | any => cases h
  | bool x => obtain rfl := r.boolI; rfl
  | int x => obtain ⟨_, rfl⟩ := r.intI; rfl
  | str x => obtain ⟨_, rfl⟩ := r.strI; rfl
  | ref x => obtain rfl := r.refI; rfl
  | tup x => obtain ⟨_, _, _, rfl, _⟩ := r.tupI; rfl
  | list x => obtain ⟨_, _, _, rfl, _⟩ := r.listI; rfl
  | dict x => obtain ⟨_, _, _, rfl, _⟩ := r.dictI; rfl
  | obj c x => obtain ⟨_, _, _, _, rfl, _⟩ := r.objI; rfl
  | inst c x => obtain ⟨_, rfl, _⟩ := r.instI; rfl
end
section
variable {Φ : Fx} {E : Value → Shared → Prop} {σ : Sy} {n : Nat}
/-! dicts asked -/
/-- what a value says as a dict -/
inductive IsD (σ : Sy) : PV → List (Str × PV) → Prop
  | fix {kvs} : IsD σ (.dict kvs) kvs
  | var {a kvs} : getM a σ.st = some (.dict kvs) → IsD σ (.ref a) kvs
theorem IsD.get {p : PV} {kvs : List (Str × PV)} {b : Bs} {h : Heap} {v : Value} (d : IsD σ p kvs) (C : Cx Φ σ b h) (r : Rep Φ.w.params b p v) : ∃ a es n, v = .ref a ∧ a ≠ sysModules ∧ h.get? a = some (dictOf es n) ∧ RepE Φ.w.params b kvs es := by
  cases d with
  | fix => obtain ⟨a, es, n, rfl, z, g, r⟩ := r.dictI; exact ⟨a, es, n, rfl, z, C.sub _ _ g, r⟩
  | var g =>
    obtain rfl := r.refI
    obtain ⟨o, ho, es, n, rfl, r⟩ := C.at g
    exact ⟨_, es, n, rfl, (C.domb (List.mem_map_of_mem (getM_mem g))).2.2.1, ho, r⟩
theorem c_in {k : Str} {p : PV} {kvs : List (Str × PV)} {x : Bool} (d : IsD σ p kvs) (e : (kvs.lookup k).isSome = x) : CmpT Φ E .In (.str k) p σ x := fun b s v u Q C hv hu q => by
  obtain ⟨t, rfl⟩ := hv.strI
  obtain ⟨a, es, n, rfl, z, g, r⟩ := d.get C hu
  exact wpAny_in_of (strKind_is Φ.prog Φ.w k t) (by simpa using z) (mapOf_of g r) (by rw [findBy_isSome r, e]; exact q _)
theorem c_notin {k : Str} {p : PV} {kvs : List (Str × PV)} {x : Bool} (d : IsD σ p kvs) (e : (!(kvs.lookup k).isSome) = x) : CmpT Φ E .NotIn (.str k) p σ x := fun b s v u Q C hv hu q => by
  obtain ⟨t, rfl⟩ := hv.strI
  obtain ⟨a, es, n, rfl, z, g, r⟩ := d.get C hu
  exact wpAny_notIn_of (strKind_is Φ.prog Φ.w k t) (by simpa using z) (mapOf_of g r) (by rw [findBy_isSome r, e]; exact q _)
theorem strsAre_of {P : Params} {b : Bs} : ∀ {ks : List Str} {vs : List Value}, Reps P b (ks.map .str) vs → StrsAre vs ks
  | [], vs, r => by obtain rfl := r.nil_inv; exact .nil
  | k :: ks, vs, r => by
    obtain ⟨v, vs', rfl, r1, r2⟩ := r.cons_inv
    obtain ⟨t, rfl⟩ := r1.strI
    exact .cons k t (strsAre_of r2)
theorem c_notin_strs {k : Str} {ks : List Str} {x : Bool} (O : Φ.Ok n) (e : (!(ks.any (· == k))) = x) : CmpT Φ E .NotIn (.str k) (.list (ks.map .str)) σ x := fun b s v u Q C hv hu q => by
  obtain ⟨t, rfl⟩ := hv.strI
  obtain ⟨a, vs, n, rfl, g, r⟩ := hu.listI
  exact notin_list_strs ⟨_, C.sub _ _ g, rfl, n, rfl⟩ (strsAre_of r) (by rw [e]; exact q _)
/-! items -/
noncomputable abbrev SubT (Φ : Fx) (E : Value → Shared → Prop) (value slice : Expr) (p q : PV) (σ : Sy) (Post : PV → Sy → Prop) : Prop :=
  ∀ (b : Bs) (s : Shared) (v u : Value) (Q : Value → Shared → Prop), Cx Φ σ b s.heap → Rep Φ.w.params b p v → Rep Φ.w.params b q u →
    (∀ r σ' b' h' tk' a, Post r σ' → Cx Φ σ' b' h' → Ext Φ σ σ' b b' s.heap h' → Rep Φ.w.params b' r a → Q a { s with heap := h', toks := tk' }) → wpAny (model Φ.prog Φ.w) Φ.A (subscriptTail value slice v u) Q E s
theorem e_sub {value slice : Expr} {pos : Pos} {Post : PV → Sy → Prop} (h : Ev Φ E value σ fun p σ₁ => Ev Φ E slice σ₁ fun q σ₂ => SubT Φ E value slice p q σ₂ Post) : Ev Φ E (.Subscript value slice pos) σ Post :=
  T.mk fun b s Q C k => Subscript_ (h.run b s _ C fun p σ₁ b₁ h₁ t₁ v hP C₁ X₁ r₁ => hP.run b₁ _ _ C₁ fun q σ₂ b₂ h₂ t₂ u hP₂ C₂ X₂ r₂ =>
    hP₂ b₂ _ v u _ C₂ (r₁.mono X₂.sub) r₂ fun r σ₃ b₃ h₃ t₃ a hP₃ C₃ X₃ r₃ => k r σ₃ b₃ h₃ t₃ a hP₃ C₃ ((X₁.trans X₂).trans X₃) r₃)
noncomputable abbrev PlainSlice (slice : Expr) : Prop := ∀ o i, subscripted slice false o i = operate [o, i] (getItem o i)
section
variable {value slice : Expr} {Post : PV → Sy → Prop}
theorem s_tup {ps : List PV} {i : Nat} {p : PV} (hx : ps[i]? = some p) (hl : ps.length < 1000000) (q : Post p σ) (hs : PlainSlice slice := by intro _ _; rfl) : SubT Φ E value slice (.tup ps) (.int i) σ Post := fun b s v u Q C hv hu k => by
  obtain ⟨a, vs, n, rfl, g, r⟩ := hv.tupI
  obtain ⟨t, rfl⟩ := hu.intI
  obtain ⟨x, hx', rx⟩ := r.get hx
  have hlt : i < ps.length := by
    rcases Nat.lt_or_ge i ps.length with h | h
    · exact h
    · rw [List.getElem?_eq_none h] at hx; cases hx
  have hT : IsTup s.heap a vs.toArray := ⟨_, C.sub _ _ g, rfl, n, rfl⟩
  have hj : seqIndex? (i : Int) vs.toArray.size = some i := by
    rw [List.size_toArray, r.length]
    unfold seqIndex?
    have h1 : ¬ ((i : Int) < 0) := by omega
    have h2 : (decide ((0 : Int) ≤ (i : Int)) && decide ((i : Int) < (ps.length : Int))) = true := by
      rw [Bool.and_eq_true, decide_eq_true_eq, decide_eq_true_eq]; omega
    simp only [if_neg h1, h2, if_true, Int.toNat_natCast]
  exact tail_any hT.typeIs slot_tuple_getitem.lookup (getItem_tuple hT (by omega) (by omega) hj (by simpa using hx') (k p σ b s.heap s.toks x q C .refl rx)) (hs _ _)
theorem getItem_list_of {ps : List PV} {vs : List Value} {i : Int} {p : PV} {b : Bs} {s : Shared} {a : Addr} {m : Nat} {t : Tok} {Q : Value → Shared → Prop} (g : s.heap.get? a = some (listO vs m)) (r : Reps Φ.w.params b ps vs) (h0 : 0 ≤ i) (h1 : i < 1000000) (hx : ps[i.toNat]? = some p) (q : ∀ x, Rep Φ.w.params b p x → Q x s)
    (hs : PlainSlice slice) : wpAny (model Φ.prog Φ.w) Φ.A (subscriptTail value slice (.ref a) (.int i t)) Q E s := by
  obtain ⟨x, hx', rx⟩ := r.get hx
  have hL : s.heap.IsList a vs.toArray := ⟨_, g, rfl, m, rfl⟩
  exact tail_any hL.typeIs slot_list_getitem.lookup (wpAny_getItem_list hL h0 (by omega) (by simpa using hx') (q x rx)) (hs _ _)
/-- an item of a list -/
theorem s_list {ps : List PV} {i : Int} {p : PV} (h0 : 0 ≤ i) (h1 : i < 1000000) (hx : ps[i.toNat]? = some p) (q : Post p σ) (hs : PlainSlice slice := by intro _ _; rfl) : SubT Φ E value slice (.list ps) (.int i) σ Post := fun b s v u Q C hv hu k => by
  obtain ⟨a, vs, n, rfl, g, r⟩ := hv.listI
  obtain ⟨t, rfl⟩ := hu.intI
  exact getItem_list_of (C.sub _ _ g) r h0 h1 hx (fun x rx => k p σ b s.heap s.toks x q C .refl rx) hs
theorem s_listM {a : Addr} {ps : List PV} {i : Int} {p : PV} (hg : getM a σ.st = some (.list ps)) (h0 : 0 ≤ i) (h1 : i < 1000000) (hx : ps[i.toNat]? = some p) (q : Post p σ) (hs : PlainSlice slice := by intro _ _; rfl) : SubT Φ E value slice (.ref a) (.int i) σ Post := fun b s v u Q C hv hu k => by
  obtain rfl := hv.refI
  obtain ⟨t, rfl⟩ := hu.intI
  obtain ⟨o, ho, vs, m, rfl, r⟩ := C.at hg
  exact getItem_list_of ho r h0 h1 hx (fun x rx => k p σ b s.heap s.toks x q C .refl rx) hs
theorem s_dict {k : Str} {d : PV} {kvs : List (Str × PV)} {p : PV} (hd : IsD σ d kvs) (e : kvs.lookup k = some p) (q : Post p σ) (hs : PlainSlice slice := by intro _ _; rfl) : SubT Φ E value slice d (.str k) σ Post := fun b s v u Q C hv hu kk => by
  obtain ⟨t, rfl⟩ := hu.strI
  obtain ⟨a, es, n, rfl, z, g, r⟩ := hd.get C hv
  obtain ⟨x, hx, rx⟩ := (findBy_of (k := k) r).1 p e
  have hm := mapOf_of (prog := Φ.prog) g r
  exact tail_any hm.typeIs slot_dict_getitem.lookup (wpAny_getItem_of (strKind_is Φ.prog Φ.w k t) hm hx (kk p σ b s.heap (s.toks + 1) x q C .refl rx)) (hs _ _)
end
/-- a text from a place on -/
theorem e_from {value : Expr} {i : Int} {k : Nat} {p1 p2 pos : Pos} {Post : PV → Sy → Prop} (h : Ev Φ E value σ fun p σ₁ => ∃ x, p = .str x ∧ x.length ≤ sizeLine ∧ Post (.str (Txt.slice x (some i) none)) σ₁) :
    Ev Φ E (.Subscript value (.Slice (some (.Constant (.int i) k p1)) none none p2) pos) σ Post :=
  T.mk fun b s Q C kk => Subscript_ (h.run b s _ C fun p σ₁ b₁ h₁ t₁ v hP C₁ X₁ r₁ => by
    obtain ⟨x, rfl, hl, hP⟩ := hP
    obtain ⟨t, rfl⟩ := r₁.strI
    have e : eval (.Slice (some (.Constant (.int i) k p1)) none none p2) Φ.env = (do
        let l ← mkInt i
        let u ← holding [l] (pure Value.none)
        let s ← holding [l, u] (pure Value.none)
        newFields "slice" [l, u, s]) := by with_unfolding_all rfl
    rw [e]
    refine wpAny_bind (wpAny_mkInt (wpAny_bind (wpAny_holding (wpAny_pure (wpAny_bind (wpAny_holding (wpAny_pure ?_)))))))
    refine wpAny_newObj_type ?_
    refine tail_of_ItemOn (SBH.sliceItem_sn (P := fun h' => Cx Φ σ₁ b₁ h' ∧ Ext Φ σ₁ σ₁ b₁ b₁ h₁ h') (s := { s with heap := h₁, toks := t₁ + 1 }) ?_ ⟨C₁, .refl⟩ (fun h' t' k' hh => ?_) hl) (by with_unfolding_all rfl) (fun r => by cases value <;> rfl)
    · intro h' o hh
      have hk : ∀ a x, h'.get? a = some x → (h'.push o).get? a = some x := fun a x e => Heap.get?_push_of_some _ e
      exact ⟨hh.1.keeps hk, hh.2.trans (Ext.keeps hk)⟩
    · exact kk _ σ₁ b₁ h' k' _ hP hh.1 (X₁.trans hh.2) Rep.mkStr)
end
end Mine
end
section
open PySem PySem.W PySem.Spec PySem.Calls PyProof.Rows
namespace Mine
/-! contracts of calls -/
structure Hx (w : World) (b₀ : Heap) (outer : List Env) (S : List (Addr × MO)) (b : Bs) (h : Heap) : Prop where
  sub : Sub b h.get?
  low : Sub b₀.get? b
  st : ∀ q ∈ S, (∃ o, h.get? q.1 = some o ∧ MRep w.params b q.2 o) ∧ b q.1 = none ∧ q.1 ≠ sysModules ∧ ¬ fr outer q.1
  nd : (S.map (·.1)).Nodup
  ff : FF h b outer
  glob : ∃ o, b₀.get? mainGlobals = some o
structure Xh (outer : List Env) (st st' : List (Addr × MO)) (b b' : Bs) (h h' : Heap) : Prop where
  sub : Sub b b'
  new : ∀ a o, b' a = some o → b a = some o ∨ h.get? a = none ∨ a ∈ st.map (·.1)
  keep : ∀ a o, h.get? a = some o → a ∉ st.map (·.1) → (∃ sl, h'.get? a = some { o with slots := sl }) ∧ (¬ fr outer a → h'.get? a = some o)
  dom : ∀ a, a ∈ st'.map (·.1) → a ∈ st.map (·.1) ∨ h.get? a = none
  there : ∀ a o, h.get? a = some o → ∃ o', h'.get? a = some o'
structure Lv (A : Around) (outer : List Env) (n : Nat) : Prop where
  hh : A.handled = none
  fr : A.frames = some outer
  depth : A.depth + 4 * n < recursionLimit
  units : A.units + 200 + 32 * n < cLine
theorem Lv.mono {A : Around} {outer : List Env} {n k : Nat} (l : Lv A outer n) (h : k ≤ n) : Lv A outer k := ⟨l.hh, l.fr, by have := l.depth; omega, by have := l.units; omega⟩
noncomputable def FnT (prog : Program) (w : World) (b₀ : Heap) (n : Nat) (f : Value) (ps : List PV) (st : List (Addr × MO)) (Post : PV → List (Addr × MO) → Prop) : Prop :=
  ∀ (A : Around) (outer : List Env) (b : Bs) (s : Shared) (vs : List Value) (R : Result → Shared → Prop), Lv A outer n → Hx w b₀ outer st b s.heap → Reps w.params b ps vs →
    (∀ r st' b' h' tk' a, Post r st' → Hx w b₀ outer st' b' h' → Xh outer st st' b b' s.heap h' → Rep w.params b' r a → R (.ok (.ret a)) { s with heap := h', toks := tk' }) →
    codeAny (model prog w) A (.call f ⟨vs, []⟩) R s
theorem FnT.mono {prog : Program} {w : World} {b₀ : Heap} {n k : Nat} {f : Value} {ps : List PV} {st : List (Addr × MO)} {Post Post' : PV → List (Addr × MO) → Prop} (h : FnT prog w b₀ n f ps st Post) (hk : n ≤ k) (hp : ∀ r st', Post r st' → Post' r st') : FnT prog w b₀ k f ps st Post' :=
  fun A outer b s vs R l H r q => h A outer b s vs R (l.mono hk) H r fun r st' b' h' tk' a p => q r st' b' h' tk' a (hp _ _ p)
theorem Fx.Ok.lv {Φ : Fx} {n : Nat} (O : Φ.Ok n) : Lv Φ.A Φ.outer n := ⟨O.hh, O.fr, O.depth, O.units⟩
theorem Fx.Ok.mono {Φ : Fx} {n k : Nat} (O : Φ.Ok n) (h : k ≤ n) : Φ.Ok k := ⟨O.kind, O.glob, O.blt, O.hh, O.fr, by have := O.depth; omega, by have := O.units; omega, O.cnd⟩
noncomputable abbrev CallT (Φ : Fx) (E : Value → Shared → Prop) (f : Value) (ps : List PV) (σ : Sy) (Post : PV → Sy → Prop) : Prop :=
  ∀ (b : Bs) (s : Shared) (vs : List Value) (Q : Value → Shared → Prop), Cx Φ σ b s.heap → Reps Φ.w.params b ps vs →
    (∀ r σ' b' h' tk' a, Post r σ' → Cx Φ σ' b' h' → Ext Φ σ σ' b b' s.heap h' → Rep Φ.w.params b' r a → Q a { s with heap := h', toks := tk' }) → wpAny (model Φ.prog Φ.w) Φ.A (call f vs) Q E s
section
variable {Φ : Fx} {E : Value → Shared → Prop} {σ : Sy} {n : Nat}
theorem Ns.slots {h h' : Heap} {L : Addr} {m : Str → Option Value} (N : h.Ns L m) (k : ∀ o, h.get? L = some o → ∃ sl, h'.get? L = some { o with slots := sl }) : h'.Ns L m := by
  obtain ⟨o, es, ep, e, d, r⟩ := N
  obtain ⟨sl, e'⟩ := k o e
  exact ⟨_, es, ep, e', d, r⟩
theorem IsCell.slots {h h' : Heap} {c : Addr} {v : Option Value} (N : h.IsCell c v) (k : ∀ o, h.get? c = some o → ∃ sl, h'.get? c = some { o with slots := sl }) : h'.IsCell c v := by
  obtain ⟨o, e, d⟩ := N
  obtain ⟨sl, e'⟩ := k o e
  exact ⟨_, e', d⟩
/-- what a caller knows behind a call that was handed the part st of its store -/
theorem Cx.back {st st' rest : List (Addr × MO)} {b b' : Bs} {h h' : Heap} (C : Cx Φ σ b h) (hp : σ.st.Perm (st ++ rest)) (H : Hx Φ.w Φ.b₀ Φ.outer st' b' h') (X : Xh Φ.outer st st' b b' h h') :
    Cx Φ ⟨σ.env, st' ++ rest⟩ b' h' ∧ Ext Φ σ ⟨σ.env, st' ++ rest⟩ b b' h h' := by
  have nd : ((st ++ rest).map (·.1)).Nodup := (hp.map _).nodup_iff.mp C.nd
  rw [List.map_append, List.nodup_append] at nd
  obtain ⟨n1, n2, n3⟩ := nd
  have inS : ∀ a, a ∈ st.map (·.1) → dom σ a := fun a ha => by
    have : a ∈ (st ++ rest).map (·.1) := by rw [List.map_append]; exact List.mem_append_left _ ha
    exact (hp.map _).mem_iff.mpr this
  have np : ∀ a, priv Φ.env a → a ∉ st.map (·.1) := fun a q z => (C.domb (inS a z)).2.1 q
  have offb : ∀ a o, h.get? a = some o → a ∉ st.map (·.1) → b a = none → b' a = none := fun a o e z n => by
    cases q : b' a with
    | none => rfl
    | some x => rcases X.new a x q with y | y | y
                · rw [n] at y; cases y
                · rw [e] at y; cases y
                · exact absurd y z
  have pk : ∀ a, priv Φ.env a → ∀ o, h.get? a = some o → ∃ sl, h'.get? a = some { o with slots := sl } := fun a q o e => (X.keep a o e (np a q)).1
  have restOk : ∀ q ∈ rest, q ∈ σ.st ∧ q.1 ∉ st.map (·.1) := fun q hq => ⟨hp.mem_iff.mpr (List.mem_append_right _ hq), fun z => n3 _ z _ (List.mem_map_of_mem hq) rfl⟩
  refine ⟨⟨H.sub, H.low, ?_, fun x c hx => ?_, ?_, fun q hq => ?_, ?_, H.ff, C.glob⟩, ⟨X.sub, fun a o e => ?_, fun a o e hpv hd => X.keep a o e fun z => hd (inS a z), fun a e => ?_, X.there⟩⟩
  · obtain ⟨m, hm, hv⟩ := C.ns
    exact ⟨m, Ns.slots hm (pk _ (.inl rfl)), fun x p e => (hv x p e).mono X.sub fun c ov hy i => IsCell.slots i (pk c (.inr hy))⟩
  · obtain ⟨⟨ov, i⟩, n⟩ := C.cells x c hx
    obtain ⟨o, e, d⟩ := id i
    exact ⟨⟨ov, IsCell.slots i (pk c (.inr ⟨x, hx⟩))⟩, offb c o e (np c (.inr ⟨x, hx⟩)) n⟩
  · obtain ⟨m, ⟨o, _, _, e, _⟩, _⟩ := C.ns
    exact offb _ o e (np _ (.inl rfl)) C.Lb
  · rcases List.mem_append.mp hq with hq | hq
    · obtain ⟨e, n, z, f⟩ := H.st q hq
      refine ⟨e, n, fun pv => ?_, z, f⟩
      rcases X.dom q.1 (List.mem_map_of_mem hq) with y | y
      · exact (np _ pv) y
      · obtain ⟨o, e⟩ := C.notpriv pv
        rw [e] at y; cases y
    · obtain ⟨hs, hn⟩ := restOk q hq
      obtain ⟨⟨o, e, r⟩, n, p, z, f⟩ := C.st q hs
      exact ⟨⟨o, (X.keep _ o e hn).2 f, r.mono X.sub⟩, offb _ o e hn n, p, z, f⟩
  · show ((st' ++ rest).map (·.1)).Nodup
    rw [List.map_append, List.nodup_append]
    refine ⟨H.nd, n2, fun a ha c hc e => ?_⟩
    subst e
    rcases X.dom a ha with y | y
    · exact n3 _ y _ hc rfl
    · obtain ⟨q, hq, rfl⟩ := List.mem_map.mp hc
      obtain ⟨⟨o, e, _⟩, _⟩ := C.st q (restOk q hq).1
      rw [e] at y; cases y
  · rcases X.new a o e with y | y | y
    · exact .inl y
    · exact .inr (.inl y)
    · exact .inr (.inr (inS a y))
  · have : a ∈ (st' ++ rest).map (·.1) := e
    rw [List.map_append] at this
    rcases List.mem_append.mp this with y | y
    · rcases X.dom a y with z | z
      · exact .inl (inS a z)
      · exact .inr z
    · obtain ⟨q, hq, rfl⟩ := List.mem_map.mp y
      exact .inl (List.mem_map_of_mem (restOk q hq).1)
theorem Cx.hx {st rest : List (Addr × MO)} {b : Bs} {h : Heap} (C : Cx Φ σ b h) (hp : σ.st.Perm (st ++ rest)) : Hx Φ.w Φ.b₀ Φ.outer st b h := by
  refine ⟨C.sub, C.low, fun q hq => ?_, ?_, C.ff, C.glob⟩
  · obtain ⟨e, n, _, z, f⟩ := C.st q (hp.mem_iff.mpr (List.mem_append_left _ hq))
    exact ⟨e, n, z, f⟩
  · have nd : ((st ++ rest).map (·.1)).Nodup := (hp.map _).nodup_iff.mp C.nd
    rw [List.map_append, List.nodup_append] at nd
    exact nd.1
theorem callT_of {f : Value} {ps : List PV} {st rest : List (Addr × MO)} {Post : PV → List (Addr × MO) → Prop} {Post' : PV → Sy → Prop} (O : Φ.Ok n) (F : FnT Φ.prog Φ.w Φ.b₀ n f ps st Post) (hp : σ.st.Perm (st ++ rest))
    (q : ∀ r st', Post r st' → Post' r ⟨σ.env, st' ++ rest⟩) : CallT Φ E f ps σ Post' := fun b s vs Q C rs k =>
  wpAny_call (F Φ.A Φ.outer b s vs _ O.lv (C.hx hp) rs fun r st' b' h' tk' a p H X ra => by
    obtain ⟨C', X'⟩ := C.back hp H X
    exact k r _ b' h' tk' a (q r st' p) C' X' ra)
theorem callT_pure {f : Value} {ps : List PV} {p : PV} {Post' : PV → Sy → Prop} (O : Φ.Ok n) (F : FnT Φ.prog Φ.w Φ.b₀ n f ps [] fun r st' => r = p ∧ st' = []) (q : Post' p σ) : CallT Φ E f ps σ Post' :=
  callT_of O F (st := []) (rest := σ.st) (List.Perm.refl _) fun r st' h => by obtain ⟨rfl, rfl⟩ := h; exact q
/-! names of the top -/
structure Tp (b₀ : Heap) (K : Frag) : Prop where
  kin : K.In b₀
  top : ∃ p loose mg mb, TopRead p loose mg mb b₀
theorem Cx.kin {K : Frag} {b : Bs} {h : Heap} (C : Cx Φ σ b h) (tp : Tp Φ.b₀ K) : K.In h := fun a o e => C.sub _ _ (C.low _ _ (tp.kin a o e))
theorem Cx.old {b : Bs} {h : Heap} (C : Cx Φ σ b h) : ∀ a o, Φ.b₀.get? a = some o → h.get? a = some o := fun a o e => C.sub _ _ (C.low _ _ e)
theorem name_g {K : Frag} {x : Str} {pos : Pos} {v : Value} {b : Bs} {s : Shared} {Q : Value → Shared → Prop} (O : Φ.Ok n) (tp : Tp Φ.b₀ K) (C : Cx Φ σ b s.heap) (e : nsIn K mainGlobals x = some (some v)) (hx : Φ.env.kindOf x = some .globalImplicit) (h : Q v s)
    (hd : (x == ("__debug__" : Str)) = false := by decide) : wpAny (model Φ.prog Φ.w) Φ.A (eval (.Name x pos) Φ.env) Q E s := by
  obtain ⟨p, loose, mg, mb, t⟩ := tp.top
  exact Name_function_global O.kind hx (loadGlobal_global (by rw [O.glob]; exact t.g.keeps C.old) (mg_of tp.kin t.g e) h) hd
theorem name_b {K : Frag} {x : Str} {pos : Pos} {v : Value} {b : Bs} {s : Shared} {Q : Value → Shared → Prop} (O : Φ.Ok n) (tp : Tp Φ.b₀ K) (C : Cx Φ σ b s.heap) (e : nsIn K mainGlobals x = some none) (hv : bootBuiltins x = some v) (hn : x ≠ "__name__") (hx : Φ.env.kindOf x = some .globalImplicit) (h : Q v s)
    (hd : (x == ("__debug__" : Str)) = false := by decide) : wpAny (model Φ.prog Φ.w) Φ.A (eval (.Name x pos) Φ.env) Q E s := by
  obtain ⟨p, loose, mg, mb, t⟩ := tp.top
  exact Name_function_global O.kind hx (loadGlobal_builtin (by rw [O.glob]; exact t.g.keeps C.old) (mg_none_of tp.kin t.g e) (by rw [O.blt]; exact t.b.keeps C.old) ((t.builtins x hn).trans hv) h) hd
/-- what the interpreter keeps while it calls f -/
noncomputable def KeepsOk (K : Frag) (f : Value) : Prop := ∀ (M : Model) (h : Heap), K.In h → ∃ k, (k = Keeper.frame ∨ k = Keeper.machine ∨ k = Keeper.boundFrame) ∧ Looks M h (keeperOf f) k
theorem KeepsOk.of {K : Frag} {f : Value} (e : keepIn K f = true) : KeepsOk K f := fun _ h X => keeps_K e h X
theorem KeepsOk.builtin {K : Frag} {id : String} : KeepsOk K (.builtin id) := fun _ _ _ => ⟨.machine, .inr (.inl rfl), Looks.of_pure rfl⟩
theorem KeepsOk.type {K : Frag} {id : String} : KeepsOk K (.type id) := fun _ _ _ => ⟨.machine, .inr (.inl rfl), Looks.of_pure rfl⟩
/-- a name in the place of the callee -/
noncomputable def Callee (Φ : Fx) (K : Frag) (x : Str) (f : Value) : Prop :=
  KeepsOk K f ∧ ∀ (E : Value → Shared → Prop) (σ : Sy) (pos : Pos) (b : Bs) (s : Shared) (Q : Value → Shared → Prop), Cx Φ σ b s.heap → Q f s → wpAny (model Φ.prog Φ.w) Φ.A (eval (.Name x pos) Φ.env) Q E s
theorem callee_g {K : Frag} {x : Str} {f : Value} (O : Φ.Ok n) (tp : Tp Φ.b₀ K) (e : nsIn K mainGlobals x = some (some f)) (hk : keepIn K f = true) (hx : Φ.env.kindOf x = some .globalImplicit) (hd : (x == ("__debug__" : Str)) = false := by decide) : Callee Φ K x f :=
  ⟨.of hk, fun _ _ _ _ _ _ C q => name_g O tp C e hx q hd⟩
theorem callee_b {K : Frag} {x : Str} {f : Value} (O : Φ.Ok n) (tp : Tp Φ.b₀ K) (e : nsIn K mainGlobals x = some none) (hv : bootBuiltins x = some f) (hk : KeepsOk K f) (hx : Φ.env.kindOf x = some .globalImplicit) (hn : x ≠ "__name__" := by decide) (hd : (x == ("__debug__" : Str)) = false := by decide) : Callee Φ K x f :=
  ⟨hk, fun _ _ _ _ _ _ C q => name_b O tp C e hv hn hx q hd⟩
theorem e_call {K : Frag} {x : Str} {f : Value} {p pos : Pos} {e : Expr} {rest : List Expr} {Post : PV → Sy → Prop} (tp : Tp Φ.b₀ K) (cl : Callee Φ K x f) (h : Evs Φ E (e :: rest) σ fun ps σ₁ => CallT Φ E f ps σ₁ Post)
    (he : starEach (e :: rest) Φ.env = (false, eval e Φ.env) :: starEach rest Φ.env := by rfl) (hplain : (backTo pos (starEach rest Φ.env)).any (·.1) = false := by rfl) : Ev Φ E (.Call (.Name x p) (e :: rest) [] pos) σ Post :=
  T.mk fun b s Q C k => wpAny_Call_ofName (cl.2 E σ p b s _ C (by
    show wpAny _ _ (callWith pos f [] (backTo pos (starEach (e :: rest) Φ.env)) []) _ _ _
    refine callWith_of (P := K.In) (by rw [he]; show ((false || (backTo pos (starEach rest Φ.env)).any (·.1)) || false) = false; rw [hplain]; rfl) (fun h X => cl.1 _ h X) ?_
    have h' := h pos
    rw [he] at h' ⊢
    refine evalArgs_plain (h'.run b s _ C fun ps σ₁ b₁ h₁ t₁ vs hP C₁ X₁ r₁ => ⟨C₁.kin tp, ?_⟩)
    exact hP b₁ _ vs _ C₁ r₁ fun r σ₂ b₂ h₂ t₂ a hP₂ C₂ X₂ r₂ => k r σ₂ b₂ h₂ t₂ a hP₂ C₂ (X₁.trans X₂) r₂))
theorem e_call0 {K : Frag} {x : Str} {f : Value} {p pos : Pos} {Post : PV → Sy → Prop} (tp : Tp Φ.b₀ K) (cl : Callee Φ K x f) (h : CallT Φ E f [] σ Post) : Ev Φ E (.Call (.Name x p) [] [] pos) σ Post :=
  T.mk fun b s Q C k => wpAny_Call_ofName (cl.2 E σ p b s _ C (by
    show wpAny _ _ (callWith pos f [] [] []) _ _ _
    refine callWith_of (P := K.In) rfl (fun h X => cl.1 _ h X) (evalArgs_nil3 ⟨C.kin tp, ?_⟩)
    exact h b s [] _ C .nil k))
/-! methods -/
noncomputable abbrev MethT (Φ : Fx) (E : Value → Shared → Prop) (p : PV) (name : Str) (f : Value) (σ : Sy) : Prop :=
  ∀ (b : Bs) (s : Shared) (v : Value) (pl : Sem Bool) (Q : Value × List Value → Shared → Prop), Cx Φ σ b s.heap → Rep Φ.w.params b p v → Q (f, [v]) s → wpAny (model Φ.prog Φ.w) Φ.A (getMethod v name pl) Q E s
theorem meth_core {K : Frag} {name : Str} {o : Expr} {apos pos : Pos} {args : List Expr} {f ov : Value} {trees : List (Bool × Sem Value)} {s : Shared} {Q : Value → Shared → Prop}
    (hform : methodCallForm (args.length + 0) trees [] = true) (hline : (apos.endLine == pos.line) = true)
    (hm : ∀ (pl : Sem Bool) (Q : Value × List Value → Shared → Prop), Q (f, [ov]) s → wpAny (model Φ.prog Φ.w) Φ.A (getMethod ov name pl) Q E s)
    (h : wpAny (model Φ.prog Φ.w) Φ.A (callWith pos f [ov] trees []) Q E s) (_K : Frag := K) : wpAny (model Φ.prog Φ.w) Φ.A (methodCall o name apos pos Φ.env ov (args.length + 0) trees []) Q E s := by
  unfold methodCall
  rw [hform]
  refine wpAny_bind (wpAny_holding ?_)
  show wpAny _ _ (getMethod ov name _) _ _ _
  refine hm _ _ ?_
  have hpos : methodCallPos true o Φ.env apos pos = pure pos := by unfold methodCallPos; simp [hline]
  exact wpAny_bind (wpAny_of_eq hpos h)
theorem e_meth {K : Frag} {name : Str} {o : Expr} {apos pos : Pos} {e : Expr} {rest : List Expr} {Post : PV → Sy → Prop} (tp : Tp Φ.b₀ K)
    (h : Ev Φ E o σ fun p σ₁ => ∃ f, KeepsOk K f ∧ MethT Φ E p name f σ₁ ∧ Evs Φ E (e :: rest) σ₁ fun ps σ₂ => CallT Φ E f (p :: ps) σ₂ Post)
    (hbase : attributeBase o name Φ.env (eval o Φ.env) = eval o Φ.env := by with_unfolding_all rfl)
    (hform : methodCallForm ((e :: rest).length + 0) (backTo pos (starEach (e :: rest) Φ.env)) [] = true := by rfl) (hline : (apos.endLine == pos.line) = true := by rfl)
    (he : starEach (e :: rest) Φ.env = (false, eval e Φ.env) :: starEach rest Φ.env := by rfl) (hplain : (backTo pos (starEach rest Φ.env)).any (·.1) = false := by rfl) :
    Ev Φ E (.Call (.Attribute o name apos) (e :: rest) [] pos) σ Post := T.mk fun b s Q C k => by
  show wpAny _ _ (eval (.Call (.Attribute o name apos) (e :: rest) [] pos) Φ.env) _ _ _
  rw [arm_eval_Call, hbase]
  refine wpAny_bind (h.run b s _ C fun p σ₁ b₁ h₁ t₁ v hP C₁ X₁ r₁ => wpAny_bind (wpAny_standAt ?_))
  obtain ⟨f, kp, mt, hP⟩ := hP
  refine meth_core (K := K) (args := e :: rest) hform hline (fun pl Q q => mt b₁ _ v pl Q C₁ r₁ q) ?_
  refine callWith_of (P := K.In) (by rw [he]; show ((false || (backTo pos (starEach rest Φ.env)).any (·.1)) || false) = false; rw [hplain]; rfl) (fun h X => kp _ h X) ?_
  have h' := hP pos
  rw [he] at h' ⊢
  refine evalArgs_plain (h'.run b₁ _ _ C₁ fun ps σ₂ b₂ h₂ t₂ vs hP₂ C₂ X₂ r₂ => ⟨C₂.kin tp, ?_⟩)
  exact hP₂ b₂ _ (v :: vs) _ C₂ (.cons (r₁.mono X₂.sub) r₂) fun r σ₃ b₃ h₃ t₃ a hP₃ C₃ X₃ r₃ => k r σ₃ b₃ h₃ t₃ a hP₃ C₃ ((X₁.trans X₂).trans X₃) r₃
theorem e_meth0 {K : Frag} {name : Str} {o : Expr} {apos pos : Pos} {Post : PV → Sy → Prop} (tp : Tp Φ.b₀ K)
    (h : Ev Φ E o σ fun p σ₁ => ∃ f, KeepsOk K f ∧ MethT Φ E p name f σ₁ ∧ CallT Φ E f [p] σ₁ Post)
    (hbase : attributeBase o name Φ.env (eval o Φ.env) = eval o Φ.env := by with_unfolding_all rfl)
    (hform : methodCallForm (([] : List Expr).length + 0) (backTo pos (starEach [] Φ.env)) [] = true := by rfl) (hline : (apos.endLine == pos.line) = true := by rfl) :
    Ev Φ E (.Call (.Attribute o name apos) [] [] pos) σ Post := T.mk fun b s Q C k => by
  show wpAny _ _ (eval (.Call (.Attribute o name apos) [] [] pos) Φ.env) _ _ _
  rw [arm_eval_Call, hbase]
  refine wpAny_bind (h.run b s _ C fun p σ₁ b₁ h₁ t₁ v hP C₁ X₁ r₁ => wpAny_bind (wpAny_standAt ?_))
  obtain ⟨f, kp, mt, hP⟩ := hP
  refine meth_core (K := K) (args := []) hform hline (fun pl Q q => mt b₁ _ v pl Q C₁ r₁ q) ?_
  show wpAny _ _ (callWith pos f [v] [] []) _ _ _
  refine callWith_of (P := K.In) rfl (fun h X => kp _ h X) (evalArgs_nil3 ⟨C₁.kin tp, ?_⟩)
  exact hP b₁ _ [v] _ C₁ (.cons r₁ .nil) fun r σ₂ b₂ h₂ t₂ a hP₂ C₂ X₂ r₂ => k r σ₂ b₂ h₂ t₂ a hP₂ C₂ (X₁.trans X₂) r₂
/-! fields -/
structure Cls (K : Frag) (C : Addr) : Prop where
  ga : findIn K (.ref C) "__getattribute__" = some (some (.builtin "object.__getattribute__"))
  gt : findIn K (.ref C) "__getattr__" = some none
  hd : hasDictIn K C = true
  mki : makesIn K C = true
  sa : findIn K (.ref C) "__setattr__" = some (some (.builtin "object.__setattr__"))
  po : plainOver K C = true
inductive IsO (K : Frag) (σ : Sy) : PV → Addr → List (Str × PV) → Prop
  | fix {C kvs} : IsO K σ (.obj C kvs) C kvs
  | var {C dx kvs} : getM dx σ.st = some (.dict kvs) → IsO K σ (.inst C dx) C kvs
theorem IsO.get {K : Frag} {p : PV} {D : Addr} {kvs : List (Str × PV)} {b : Bs} {h : Heap} {v : Value} (d : IsO K σ p D kvs) (C : Cx Φ σ b h) (r : Rep Φ.w.params b p v) :
    ∃ a dx es n, v = .ref a ∧ InstAt h a (instObj D dx) D (some (dictOf es n)) ∧ RepE Φ.w.params b kvs es := by
  cases d with
  | fix => obtain ⟨a, dx, es, n, rfl, g, g2, r⟩ := r.objI; exact ⟨a, dx, es, n, rfl, ⟨C.sub _ _ g, rfl, rfl, C.sub _ _ g2⟩, r⟩
  | var g =>
    obtain ⟨a, rfl, g1⟩ := r.instI
    obtain ⟨o, ho, es, n, rfl, r⟩ := C.at g
    exact ⟨a, _, es, n, rfl, ⟨C.sub _ _ g1, rfl, rfl, ho⟩, r⟩
theorem e_attr {K : Frag} {value : Expr} {attr : Str} {pos : Pos} {Post : PV → Sy → Prop} (tp : Tp Φ.b₀ K)
    (h : Ev Φ E value σ fun p σ₁ => ∃ D kvs q, IsO K σ₁ p D kvs ∧ Cls K D ∧ findIn K (.ref D) attr = some none ∧ kvs.lookup attr = some q ∧ q.known = true ∧ Post q σ₁)
    (hbase : attributeBase value attr Φ.env (eval value Φ.env) = eval value Φ.env := by with_unfolding_all rfl) : Ev Φ E (.Attribute value attr pos) σ Post := T.mk fun b s Q C k => by
  show wpAny _ _ (eval (.Attribute value attr pos) Φ.env) _ _ _
  rw [arm_eval_Attribute, hbase]
  refine wpAny_bind (h.run b s _ C fun p σ₁ b₁ h₁ t₁ v hP C₁ X₁ r₁ => wpAny_bind (wpAny_standAt (wpAny_bind (wpAny_holding ?_))))
  obtain ⟨D, kvs, q, d, cl, hn, e, hk, hP⟩ := hP
  obtain ⟨a, dx, es, m, rfl, I, re⟩ := d.get C₁ r₁
  obtain ⟨x, gx, rx⟩ := (getL_of (k := attr) re).1 q e
  refine get_value (C₁.kin tp) I cl.ga (findObj_own cl.hd hn rfl (by rw [lookIn_dict]; exact gx)) (rx.handed hk) ?_
  exact wpAny_bind (wpAny_letTemporaryGo (wpAny_pure (k q σ₁ b₁ h₁ _ x hP C₁ X₁ rx)))
/-- a method of the text's own class -/
theorem m_own {K : Frag} {p : PV} {D f : Addr} {kvs : List (Str × PV)} {name : Str} (tp : Tp Φ.b₀ K) (d : IsO K σ p D kvs) (cl : Cls K D) (hf : findIn K (.ref D) name = some (some (.ref f))) (ht : isFn K (.ref f) = true) (e : kvs.lookup name = none) : MethT Φ E p name (.ref f) σ := fun b s v pl Q C r q => by
  obtain ⟨a, dx, es, m, rfl, I, re⟩ := d.get C r
  exact method_fn (C.kin tp) I cl.ga cl.gt hf (beq_iff_eq.mp ht) (by show (lookIn name (dictOf es m)).map _ = _; rw [lookIn_dict, (getL_of (k := name) re).2 e]; rfl) q
end
end Mine
end
section
open PySem PySem.W PySem.Spec PySem.Calls PyProof.Rows
namespace Mine
/-! entering a def -/
noncomputable def RepB (P : Params) (b : Bs) : List (Str × PV) → List (Str × Value) → Prop
  | [], bs => bs = []
  | (x, p) :: r, bs => ∃ v bs', bs = (x, v) :: bs' ∧ Rep P b p v ∧ RepB P b r bs'
theorem RepB.of {P : Params} {b : Bs} : ∀ {xs : List Str} {ps : List PV} {vs : List Value}, Reps P b ps vs → RepB P b (xs.zip ps) (xs.zip vs)
  | [], _, _, _ => rfl
  | _ :: _, [], _, r => by obtain rfl := r.nil_inv; rfl
  | x :: xs, p :: ps, _, r => by
    obtain ⟨v, vs, rfl, r1, r2⟩ := r.cons_inv
    exact ⟨v, xs.zip vs, rfl, r1, RepB.of r2⟩
theorem RepB.names {P : Params} {b : Bs} : ∀ {l : List (Str × PV)} {bs : List (Str × Value)}, RepB P b l bs → bs.map (·.1) = l.map (·.1)
  | [], _, r => by rw [RepB] at r; subst r; rfl
  | (x, p) :: l, _, r => by
    rw [RepB] at r
    obtain ⟨v, bs', rfl, _, r2⟩ := r
    rw [List.map_cons, List.map_cons, r2.names]
theorem RepB.look {P : Params} {b : Bs} {x : Str} {p : PV} : ∀ {l : List (Str × PV)} {bs : List (Str × Value)}, RepB P b l bs → l.lookup x = some p → ∃ v, bs.lookup x = some v ∧ Rep P b p v
  | [], _, _, e => by simp at e
  | (y, q) :: l, _, r, e => by
    rw [RepB] at r
    obtain ⟨v, bs', rfl, r1, r2⟩ := r
    rw [List.lookup_cons] at e ⊢
    cases hb : (x == y) with
    | true => rw [hb] at e; cases e; exact ⟨v, rfl, r1⟩
    | false => rw [hb] at e; exact r2.look e
theorem bindL_off {k : Str → Option NameKind} {x : Str} : ∀ {bs : List (Str × Value)} {m : Str → Option Value}, x ∉ bs.map (·.1) → bindL k bs m x = m x
  | [], _, _ => rfl
  | (y, v) :: bs, m, h => by
    rw [List.map_cons, List.mem_cons, not_or] at h
    unfold bindL
    rw [bindL_off h.2]
    split
    · exact if_neg h.1
    · rfl
theorem bindC_off {k : Str → Option NameKind} {x : Str} : ∀ {bs : List (Str × Value)} {m : Str → Option Value}, x ∉ bs.map (·.1) → bindC k bs m x = m x
  | [], _, _ => rfl
  | (y, v) :: bs, m, h => by
    rw [List.map_cons, List.mem_cons, not_or] at h
    unfold bindC
    rw [bindC_off h.2]
    split
    · rfl
    · exact if_neg h.1
theorem bindL_on {k : Str → Option NameKind} {x : Str} {v : Value} (hk : k x = some .local) : ∀ {bs : List (Str × Value)} {m : Str → Option Value}, (bs.map (·.1)).Nodup → bs.lookup x = some v → bindL k bs m x = some v
  | [], _, _, e => by simp at e
  | (y, u) :: bs, m, n, e => by
    rw [List.map_cons, List.nodup_cons] at n
    rw [List.lookup_cons] at e
    unfold bindL
    cases hb : (x == y) with
    | true =>
      rw [hb] at e; cases e
      have hxy := beq_iff_eq.mp hb
      subst hxy
      rw [bindL_off n.1, if_pos hk, if_pos rfl]
    | false => rw [hb] at e; exact bindL_on hk n.2 e
theorem bindC_on {k : Str → Option NameKind} {x : Str} {v : Value} (hk : k x ≠ some .local) : ∀ {bs : List (Str × Value)} {m : Str → Option Value}, (bs.map (·.1)).Nodup → bs.lookup x = some v → bindC k bs m x = some v
  | [], _, _, e => by simp at e
  | (y, u) :: bs, m, n, e => by
    rw [List.map_cons, List.nodup_cons] at n
    rw [List.lookup_cons] at e
    unfold bindC
    cases hb : (x == y) with
    | true =>
      rw [hb] at e; cases e
      have hxy := beq_iff_eq.mp hb
      subst hxy
      rw [bindC_off n.1, if_neg hk, if_pos rfl]
    | false => rw [hb] at e; exact bindC_on hk n.2 e
noncomputable def retOf : PF → PV
  | .ret p => p
  | _ => .none
noncomputable abbrev fxOf (prog : Program) (w : World) (b₀ : Heap) (A : Around) (outer : List Env) (env : Env) : Fx := ⟨prog, w, b₀, A.deeper env, env, env :: outer⟩
/-- what a def's text says behind itself -/
noncomputable def Done (Post : PV → List (Addr × MO) → Prop) (f : PF) (σ : Sy) : Prop := ∃ st', Post (retOf f) st' ∧ (∀ q ∈ st', q ∈ σ.st) ∧ (st'.map (·.1)).Nodup
section
variable {prog : Program} {w : World} {b₀ : Heap} {K : Frag} {n : Nat}
set_option maxHeartbeats 1000000 in
theorem FnT.mk {f : Addr} {name qual : Str} {params : Arguments} {body : List Stmt} {scope : Scope} {dV kV doc pm cdv ct oc : Value} {an od : Option Addr} {osl : Array (Option Value)} {ps : List PV} {env₀ : List (Str × PV)} {st : List (Addr × MO)} {Post : PV → List (Addr × MO) → Prop}
    (tp : Tp b₀ K) (ho : K.lookup f = some ⟨oc, od, .func (fnX name qual params body scope [] dV kV doc pm an cdv ct), osl⟩) (hcd : codeIn K cdv qual = true)
    (hbind : ∀ (s : Shared) (b : Bs) (vs : List Value), K.In s.heap → Sub b s.heap.get? → Sub b₀.get? b → Reps w.params b ps vs → ∃ binds, BindsTo s (fnX name qual params body scope [] dV kV doc pm an cdv ct) ⟨vs, []⟩ binds ∧ RepB w.params b env₀ binds)
    (hnd : (env₀.map (·.1)).Nodup)
    (hkind : ∀ m, ∀ x ∈ env₀, scope.names.lookup x.1 = some .local ∨ (scope.names.lookup x.1 = some .cell ∧ ((cellsFrom m scope.names []).lookup x.1).isSome = true))
    (hcn : ∀ m, ((cellsFrom m scope.names []).map (·.1)).Nodup)
    (hbody : ∀ (A : Around) (outer : List Env) (L : Addr) (E : Value → Shared → Prop), (fxOf prog w b₀ A outer (envX qual scope L f cdv (cellsFrom (L + 1) scope.names []))).Ok n →
      Exs (fxOf prog w b₀ A outer (envX qual scope L f cdv (cellsFrom (L + 1) scope.names []))) E body ⟨env₀, st⟩ (Done Post))
    (hco : scope.isCoroutine = false := by rfl) (hgen : scope.isGenerator = false := by rfl) (hk : scope.kind = .function := by rfl) :
    FnT prog w b₀ (n + 1) (.ref f) ps st Post := by
  intro A outer b s vs R lv H rs q
  have X : K.In s.heap := fun a o e => H.sub _ _ (H.low _ _ (tp.kin a o e))
  obtain ⟨p, loose, mg, mb, t⟩ := tp.top
  have hlim : s.heap.NoLimit := t.nolimit.keeps fun a o e => H.sub _ _ (H.low _ _ e)
  obtain ⟨binds, hbt, rb⟩ := hbind s b vs X H.sub H.low rs
  have names := rb.names
  refine codeAny_call_function (by have := lv.depth; omega) (X _ _ ho) rfl hco hgen rfl (codeRec_of X hcd) (hbt _ _ _ _ ?_)
  have hkb : ∀ m, ∀ x ∈ binds, scope.names.lookup x.1 = some .local ∨ (scope.names.lookup x.1 = some .cell ∧ ((cellsFrom m scope.names []).lookup x.1).isSome = true) := fun m x hx => by
    have : x.1 ∈ env₀.map (·.1) := names ▸ List.mem_map_of_mem hx
    obtain ⟨y, hy, e⟩ := List.mem_map.mp this
    rw [← e]; exact hkind m y hy
  refine wpAny_newFunctionEnv_cells hk (hkb _) fun env' he s' x => ?_
  subst he
  refine ⟨hlim.keeps x.toInCall.keep, codeAny_func ?_⟩
  obtain ⟨h₁, tk, rfl, _⟩ := x.done
  have keep := x.toInCall.keep
  have env_is : newEnv scope s.heap.objs.size mainGlobals (cellsFrom (s.heap.objs.size + 1) scope.names []) (qual ++ ".<locals>.") (some f) cdv none builtinsNs = envX qual scope s.heap.objs.size f cdv (cellsFrom (s.heap.objs.size + 1) scope.names []) := rfl
  generalize hEnv : envX qual scope s.heap.objs.size f cdv (cellsFrom (s.heap.objs.size + 1) scope.names []) = env at env_is
  have e1 : env.locals = s.heap.objs.size := by rw [← hEnv]
  have e2 : env.cells = cellsFrom (s.heap.objs.size + 1) scope.names [] := by rw [← hEnv]
  have e3 : env.scope = scope := by rw [← hEnv]
  have e4 : env.frame = some s.heap.objs.size := by rw [← hEnv]
  have x' : InCallC s env.locals (bindL env.kindOf binds fun _ => none) env.cells (bindC env.kindOf binds fun _ => none) { s with heap := h₁, toks := tk } := by rw [← env_is]; exact x
  have freshL : s.heap.get? env.locals = none := by rw [e1]; exact fresh_size _
  have freshC : ∀ y c, (y, c) ∈ env.cells → s.heap.get? c = none := fun y c hy => Heap.get?_none_of_le (Nat.le_of_lt (Nat.lt_of_le_of_lt x'.toInCall.fresh (x'.above y c hy)))
  have bnone : ∀ a, s.heap.get? a = none → b a = none := fun a e => by
    cases z : b a with
    | none => rfl
    | some o => have := H.sub _ _ z; rw [e] at this; cases this
  obtain ⟨oL, esL, epL, gL, dL, _⟩ := x'.toInCall.ns
  have npriv : ∀ a o, s.heap.get? a = some o → ¬ priv env a := fun a o e hp => by
    rcases hp with z | ⟨y, hy⟩
    · rw [z, freshL] at e; cases e
    · rw [freshC y a hy] at e; cases e
  have C : Cx (fxOf prog w b₀ A outer env) ⟨env₀, st⟩ b h₁ := by
    refine ⟨fun a o e => keep _ _ (H.sub _ _ e), H.low, ⟨_, x'.toInCall.ns, fun y pv e => ?_⟩, fun y c hy => ⟨⟨_, x'.cell y c ?_⟩, bnone _ (freshC y c hy)⟩, bnone _ freshL, fun q' hq => ?_, H.nd, fun en he => ?_, H.glob⟩
    · obtain ⟨v, hv, rv⟩ := rb.look e
      have mem := Mine.mem_of_lookup e
      have nd' : (binds.map (·.1)).Nodup := names ▸ hnd
      have kd : env.kindOf y = scope.names.lookup y := by unfold Env.kindOf; rw [e3]
      rcases hkind (s.heap.objs.size + 1) (y, pv) mem with hl | ⟨hc, hs⟩
      · exact .inl ⟨kd.trans hl, v, bindL_on (kd.trans hl) nd' hv, rv⟩
      · obtain ⟨c, hc'⟩ := Option.isSome_iff_exists.mp hs
        have hcc : env.cells.lookup y = some c := by rw [e2]; exact hc'
        refine .inr ⟨.inl (kd.trans hc), c, v, hcc, ?_, rv⟩
        have := x'.cell y c hcc
        rw [bindC_on (by rw [kd, hc]; decide) nd' hv] at this
        exact this
    · rw [e2] at hy ⊢
      exact lookup_of_mem_nodup (hcn _) hy
    · obtain ⟨⟨o, e, r⟩, nb, z, hf⟩ := H.st q' hq
      refine ⟨⟨o, keep _ _ e, r⟩, nb, npriv _ o e, z, fun hf' => ?_⟩
      obtain ⟨en, hen, hfr⟩ := hf'
      rcases List.mem_cons.mp hen with rfl | hen
      · rw [e4] at hfr
        rw [← Option.some.inj hfr, fresh_size] at e; cases e
      · exact hf ⟨en, hen, hfr⟩
    · rcases List.mem_cons.mp he with rfl | he
      · refine ⟨by rw [e3, hk]; decide, _, oL, by rw [e4, ← e1], bnone _ freshL, gL, fun vs e => by rw [dL] at e; cases e⟩
      · obtain ⟨k, L', o, hf, nb, e, d⟩ := H.ff en he
        exact ⟨k, L', o, hf, nb, keep _ _ e, d⟩
  have ok : (fxOf prog w b₀ A outer env).Ok n := by
    refine ⟨by rw [← hk]; exact congrArg _ e3, by show env.globals = _; rw [← hEnv], by show env.builtins = _; rw [← hEnv], lv.hh, Around.frames_deeper lv.fr, ?_, ?_, ?_⟩
    · have := lv.depth; show A.depth + 1 + 4 * n < recursionLimit; omega
    · have := lv.units; show A.units + 3 + 200 + 32 * n < cLine; omega
    · have := x'.apart
      show (env.cells.map (·.2)).Nodup
      rw [List.nodup_iff_pairwise_ne, List.pairwise_map]
      exact this
  have hb := fun E => hbody A outer s.heap.objs.size E (by rw [hEnv]; exact ok)
  rw [hEnv] at hb
  show wpAny (model prog w) (A.deeper (newEnv scope s.heap.objs.size mainGlobals (cellsFrom (s.heap.objs.size + 1) scope.names []) (qual ++ ".<locals>.") (some f) cdv none builtinsNs)) (execs body (newEnv scope s.heap.objs.size mainGlobals (cellsFrom (s.heap.objs.size + 1) scope.names []) (qual ++ ".<locals>.") (some f) cdv none builtinsNs)) _ _ _
  rw [env_is]
  refine (hb _).run b _ _ C fun pf σ' b' h' tk' fl hd C' X' rf => ?_
  obtain ⟨st', hP, hin, hnd'⟩ := hd
  have rr : ∀ (fl : Flow) (pf : PF), RF (fxOf prog w b₀ A outer env) b' fl pf → Rep w.params b' (retOf pf) (match fl with | .ret v => v | _ => .none) := by
    intro fl pf rf
    cases fl <;> cases pf <;> first | exact rf | exact Rep.mkNone | exact False.elim rf
  have old : ∀ a, h₁.get? a = none → s.heap.get? a = none := fun a e => by
    cases z : s.heap.get? a with
    | none => rfl
    | some o => have := keep _ _ z; rw [show h₁.get? a = none from e] at this; cases this
  have H' : Hx w b₀ outer st' b' h' := ⟨C'.sub, C'.low, fun q' hq => by
      obtain ⟨e, nb, _, z, hf⟩ := C'.st q' (hin q' hq)
      exact ⟨e, nb, z, fun ⟨en, hen, hfr⟩ => hf ⟨en, List.mem_cons_of_mem _ hen, hfr⟩⟩, hnd', fun en he => C'.ff en (List.mem_cons_of_mem _ he), H.glob⟩
  have Xh' : Xh outer st st' b b' s.heap h' := by
    refine ⟨X'.sub, fun a o e => ?_, fun a o e hn => ?_, fun a ha => ?_, fun a o e => X'.there a o (keep _ _ e)⟩
    · rcases X'.new a o e with z | z | z
      · exact .inl z
      · exact .inr (.inl (old a z))
      · exact .inr (.inr z)
    · obtain ⟨k1, k2⟩ := X'.keep a o (keep _ _ e) (npriv a o e) hn
      refine ⟨k1, fun hf => k2 fun ⟨en, hen, hfr⟩ => ?_⟩
      rcases List.mem_cons.mp hen with rfl | hen
      · rw [e4] at hfr
        rw [← Option.some.inj hfr, fresh_size] at e; cases e
      · exact hf ⟨en, hen, hfr⟩
    · obtain ⟨q', hq, rfl⟩ := List.mem_map.mp ha
      rcases X'.dom q'.1 (List.mem_map_of_mem (hin q' hq)) with z | z
      · exact .inl z
      · exact .inr (old _ z)
  exact q (retOf pf) st' b' h' tk' _ hP H' Xh' (rr fl pf rf)
/-- plain parameters -/
theorem binds_plain {fd : FuncData} {xs : List Str} {ps : List PV} {b : Bs} {vs : List Value} (rs : Reps w.params b ps vs) (h : bindArgs fd ⟨vs, []⟩ = pure (xs.zip vs)) (s : Shared) : ∃ binds, BindsTo s fd ⟨vs, []⟩ binds ∧ RepB w.params b (xs.zip ps) binds :=
  ⟨_, .of_eq h, .of rs⟩
end
end Mine
end
section
open PySem PySem.W PySem.Spec PySem.Calls PyProof.Rows
namespace Mine
section
variable {Φ : Fx} {E : Value → Shared → Prop} {σ : Sy} {n : Nat}
/-! names stored -/
theorem lookup_put {x y : Str} {p : PV} {l : List (Str × PV)} : List.lookup y ((x, p) :: l) = if y = x then some p else l.lookup y := by
  rw [List.lookup_cons]
  by_cases h : y = x
  · rw [if_pos h, beq_iff_eq.mpr h]
  · rw [if_neg h]
    cases hb : (y == x) with
    | true => exact absurd (beq_iff_eq.mp hb) h
    | false => rfl
theorem Cx.store_local {b : Bs} {h h' : Heap} {x : Str} {p : PV} {v : Value} {m : Str → Option Value} (C : Cx Φ σ b h) (hk : Φ.env.kindOf x = some .local) (r : Rep Φ.w.params b p v)
    (hN : h.Ns Φ.env.locals m) (hv : ∀ x p, σ.env.lookup x = some p → VarOk Φ.w.params b h Φ.env m x p) (hm : h'.Ns Φ.env.locals (fun y => if y = x then some v else m y)) (hs : Heap.SameBut Φ.env.locals h h') :
    Cx Φ ⟨(x, p) :: σ.env, σ.st⟩ b h' ∧ Ext Φ σ ⟨(x, p) :: σ.env, σ.st⟩ b b h h' := by
  obtain ⟨oL, esL, epL, gL, dL, kL⟩ := id hN
  obtain ⟨oL', esL', epL', gL', dL', kL'⟩ := id hm
  have keep : ∀ a o, a ≠ Φ.env.locals → h.get? a = some o → h'.get? a = some o := fun a o ne e => (hs.2 a ne).trans e
  have bL : ∀ a o, b a = some o → a ≠ Φ.env.locals := fun a o e z => by rw [z, C.Lb] at e; cases e
  have cL : ∀ y c, (y, c) ∈ Φ.env.cells → c ≠ Φ.env.locals := fun y c hy z => by
    obtain ⟨⟨ov, o, e, d⟩, _⟩ := C.cells y c hy
    rw [z, gL] at e; cases e; rw [dL] at d; cases d
  have kc : ∀ y c ov, (y, c) ∈ Φ.env.cells → h.IsCell c ov → h'.IsCell c ov := fun y c ov hy ⟨o, e, d⟩ => ⟨o, keep c o (cL y c hy) e, d⟩
  refine ⟨⟨fun a o e => keep a o (bL a o e) (C.sub a o e), C.low, ⟨_, hm, fun y q e => ?_⟩, fun y c hy => ?_, C.Lb, fun q hq => ?_, C.nd, fun env he => ?_, C.glob⟩, ⟨.refl b, fun _ _ e => .inl e, fun a o e hp hd => ?_, fun a e => .inl e, fun a o e => ?_⟩⟩
  · rw [show (⟨(x, p) :: σ.env, σ.st⟩ : Sy).env = (x, p) :: σ.env from rfl, lookup_put] at e
    by_cases hy : y = x
    · rw [if_pos hy] at e; cases e
      exact .inl ⟨hy ▸ hk, v, if_pos hy, r⟩
    · rw [if_neg hy] at e
      rcases hv y q e with ⟨k, u, e1, r1⟩ | ⟨k, c, u, e1, i, r1⟩
      · exact .inl ⟨k, u, (if_neg hy).trans e1, r1⟩
      · exact .inr ⟨k, c, u, e1, kc y c _ (mem_of_lookup e1) i, r1⟩
  · obtain ⟨⟨ov, i⟩, nb⟩ := C.cells y c hy
    exact ⟨⟨ov, kc y c ov hy i⟩, nb⟩
  · obtain ⟨⟨o, e, rr⟩, nb, np, z⟩ := C.st q hq
    exact ⟨⟨o, keep _ _ (fun z => np (.inl z)) e, rr⟩, nb, np, z⟩
  · obtain ⟨k, L', o, f, nb, e, d⟩ := C.ff env he
    by_cases z : L' = Φ.env.locals
    · subst z
      exact ⟨k, _, oL', f, nb, gL', fun vs e => by rw [dL'] at e; cases e⟩
    · exact ⟨k, L', o, f, nb, keep _ _ z e, d⟩
  · have : a ≠ Φ.env.locals := fun z => hp (.inl z)
    exact ⟨⟨o.slots, keep a o this e⟩, fun _ => keep a o this e⟩
  · by_cases z : a = Φ.env.locals
    · subst z; exact ⟨oL', gL'⟩
    · exact ⟨o, keep a o z e⟩
theorem cell_inj {l : List (Str × Addr)} (hn : (l.map (·.2)).Nodup) {x y : Str} {c : Addr} (hx : (x, c) ∈ l) (hy : (y, c) ∈ l) : x = y := by
  induction l with
  | nil => cases hx
  | cons q l ih =>
    rw [List.map_cons, List.nodup_cons] at hn
    rcases List.mem_cons.mp hx with rfl | hx <;> rcases List.mem_cons.mp hy with h | hy
    · cases h; rfl
    · exact absurd (List.mem_map_of_mem (f := (·.2)) hy) hn.1
    · rw [← h] at hn; exact absurd (List.mem_map_of_mem (f := (·.2)) hx) hn.1
    · exact ih hn.2 hx hy
theorem Cx.store_cell {b : Bs} {h h' : Heap} {x : Str} {p : PV} {v : Value} {c : Addr} (O : Φ.Ok n) (C : Cx Φ σ b h) (hk : Φ.env.kindOf x = some .cell) (r : Rep Φ.w.params b p v)
    (hc : Φ.env.cells.lookup x = some c) (hm : h'.IsCell c (some v)) (hs : Heap.SameBut c h h') :
    Cx Φ ⟨(x, p) :: σ.env, σ.st⟩ b h' ∧ Ext Φ σ ⟨(x, p) :: σ.env, σ.st⟩ b b h h' := by
  obtain ⟨oc', gc', dc'⟩ := id hm
  have hmem := mem_of_lookup hc
  obtain ⟨⟨ovc, oc, gc, dc⟩, nbc⟩ := C.cells x c hmem
  obtain ⟨m, hN, hv⟩ := C.ns
  obtain ⟨oL, esL, epL, gL, dL, kL⟩ := id hN
  have keep : ∀ a o, a ≠ c → h.get? a = some o → h'.get? a = some o := fun a o ne e => (hs.2 a ne).trans e
  have cL : Φ.env.locals ≠ c := fun z => by rw [z, gc] at gL; cases gL; rw [dc] at dL; cases dL
  have kc : ∀ y d ov, y ≠ x → (y, d) ∈ Φ.env.cells → h.IsCell d ov → h'.IsCell d ov := fun y d ov ne hy ⟨o, e, q⟩ =>
    ⟨o, keep d o (fun z => ne (cell_inj O.cnd (z ▸ hy) hmem)) e, q⟩
  refine ⟨⟨fun a o e => keep a o (fun z => by rw [z, nbc] at e; cases e) (C.sub a o e), C.low, ⟨m, hN.sameBut hs cL, fun y q e => ?_⟩, fun y d hy => ?_, C.Lb, fun q hq => ?_, C.nd, fun env he => ?_, C.glob⟩, ⟨.refl b, fun _ _ e => .inl e, fun a o e hp hd => ?_, fun a e => .inl e, fun a o e => ?_⟩⟩
  · rw [show (⟨(x, p) :: σ.env, σ.st⟩ : Sy).env = (x, p) :: σ.env from rfl, lookup_put] at e
    by_cases hy : y = x
    · rw [if_pos hy] at e; cases e
      exact .inr ⟨.inl (hy ▸ hk), c, v, hy ▸ hc, hm, r⟩
    · rw [if_neg hy] at e
      rcases hv y q e with ⟨k, u, e1, r1⟩ | ⟨k, d, u, e1, i, r1⟩
      · exact .inl ⟨k, u, e1, r1⟩
      · exact .inr ⟨k, d, u, e1, kc y d _ hy (mem_of_lookup e1) i, r1⟩
  · obtain ⟨⟨ov, o, e, dd⟩, nb⟩ := C.cells y d hy
    by_cases z : d = c
    · subst z; exact ⟨⟨_, hm⟩, nb⟩
    · exact ⟨⟨ov, o, keep d o z e, dd⟩, nb⟩
  · obtain ⟨⟨o, e, rr⟩, nb, np, z⟩ := C.st q hq
    exact ⟨⟨o, keep _ _ (fun z => np (z ▸ .inr ⟨x, hmem⟩)) e, rr⟩, nb, np, z⟩
  · obtain ⟨k, L', o, f, nb, e, d⟩ := C.ff env he
    by_cases z : L' = c
    · subst z
      exact ⟨k, _, oc', f, nb, gc', fun vs e => by rw [dc'] at e; cases e⟩
    · exact ⟨k, L', o, f, nb, keep _ _ z e, d⟩
  · have : a ≠ c := fun z => hp (z ▸ .inr ⟨x, hmem⟩)
    exact ⟨⟨o.slots, keep a o this e⟩, fun _ => keep a o this e⟩
  · by_cases z : a = c
    · subst z; exact ⟨oc', gc'⟩
    · exact ⟨o, keep a o z e⟩
/-- a name that can be stored -/
noncomputable def Sto (env : Env) (x : Str) : Prop := env.kindOf x = some .local ∨ (env.kindOf x = some .cell ∧ ∃ c, env.cells.lookup x = some c)
noncomputable def StoreT (Φ : Fx) (E : Value → Shared → Prop) (x : Str) (p : PV) (σ : Sy) (Post : Sy → Prop) : Prop :=
  ∀ (b : Bs) (s : Shared) (v : Value) (Q : Unit → Shared → Prop), Cx Φ σ b s.heap → Rep Φ.w.params b p v →
    (∀ σ' b' h' tk', Post σ' → Cx Φ σ' b' h' → Ext Φ σ σ' b b' s.heap h' → Q () { s with heap := h', toks := tk' }) → wpAny (model Φ.prog Φ.w) Φ.A (storeName Φ.env x v) Q E s
theorem store {x : Str} {p : PV} {Post : Sy → Prop} (O : Φ.Ok n) (hx : Sto Φ.env x) (q : Post ⟨(x, p) :: σ.env, σ.st⟩) : StoreT Φ E x p σ Post := fun b s v Q C r k => by
  rcases hx with hl | ⟨hc, c, e⟩
  · obtain ⟨m, hN, hv⟩ := C.ns
    refine wpAny_storeName_local hl hN (fun h' hm hs => ?_) (by rw [O.kind]; rfl)
    obtain ⟨C', X'⟩ := C.store_local hl r hN hv hm hs
    exact k _ b h' _ q C' X'
  · obtain ⟨⟨ov, i⟩, _⟩ := C.cells x c (mem_of_lookup e)
    refine wpAny_storeName_cell O.kind hc e i fun h' hm hs => ?_
    obtain ⟨C', X'⟩ := C.store_cell O hc r e hm hs
    exact k _ b h' s.toks q C' X'
/-! statements -/
noncomputable def Thn (Φ : Fx) (E : Value → Shared → Prop) (rest : List Stmt) (Post : PF → Sy → Prop) : PF → Sy → Prop
  | .next, σ => Exs Φ E rest σ Post
  | f, σ => Post f σ
theorem xs_nil {Post : PF → Sy → Prop} (q : Post .next σ) : Exs Φ E [] σ Post := T.mk fun b s Q C k => wpAny_execs_nil (k .next σ b s.heap s.toks .next q C .refl trivial)
theorem xs_cons {st : Stmt} {rest : List Stmt} {Post : PF → Sy → Prop} (h : Ex Φ E st σ (Thn Φ E rest Post)) : Exs Φ E (st :: rest) σ Post :=
  T.mk fun b s Q C k => wpAny_execs_cons (h.run b s _ C fun f σ₁ b₁ h₁ t₁ fl hP C₁ X₁ r₁ => by
    cases f <;> cases fl <;> first | exact False.elim r₁ | skip
    · exact hP.run b₁ _ Q C₁ fun f σ₂ b₂ h₂ t₂ fl hP₂ C₂ X₂ r₂ => k f σ₂ b₂ h₂ t₂ fl hP₂ C₂ (X₁.trans X₂) r₂
    · exact k _ σ₁ b₁ h₁ t₁ _ hP C₁ X₁ r₁
    · exact k _ σ₁ b₁ h₁ t₁ _ hP C₁ X₁ r₁
    · exact k _ σ₁ b₁ h₁ t₁ _ hP C₁ X₁ r₁)
theorem x_expr {e : Expr} {pos : Pos} {Post : PF → Sy → Prop} (h : Ev Φ E e σ fun p σ₁ => p = .none ∧ Post .next σ₁)
    (hi : interactive Φ.env = false := by rfl) (hs : swapsWith e none pos.line Φ.env = pure false := by rfl) : Ex Φ E (.Expr e pos) σ Post :=
  T.mk fun b s Q C k => wpAny_Expr (h.run b s _ C fun p σ₁ b₁ h₁ t₁ v hP C₁ X₁ r₁ => by
    obtain ⟨rfl, hP⟩ := hP
    obtain rfl := r₁.noneI
    exact k .next σ₁ b₁ h₁ t₁ .next hP C₁ X₁ trivial) hi hs
theorem x_assign {x : Str} {pos' pos : Pos} {value : Expr} {Post : PF → Sy → Prop} (O : Φ.Ok n) (hx : Sto Φ.env x) (h : Ev Φ E value σ fun p σ₁ => Post .next ⟨(x, p) :: σ₁.env, σ₁.st⟩)
    (hs : swapsWith value (some (.Name x pos')) pos.line Φ.env = pure false := by rfl) : Ex Φ E (.Assign [.Name x pos'] value pos) σ Post :=
  T.mk fun b s Q C k => wpAny_Assign_Name (h.run b s _ C fun p σ₁ b₁ h₁ t₁ v hP C₁ X₁ r₁ =>
    store (Post := fun σ' => Post .next σ') O hx hP b₁ _ v _ C₁ r₁ fun σ₂ b₂ h₂ t₂ hP₂ C₂ X₂ => k .next σ₂ b₂ h₂ t₂ .next hP₂ C₂ (X₁.trans X₂) trivial) hs
theorem x_if {test : Expr} {body orelse : List Stmt} {pos : Pos} {Post : PF → Sy → Prop} (h : Te Φ E test σ fun c σ₁ => (c = true → Exs Φ E body σ₁ Post) ∧ (c = false → Exs Φ E orelse σ₁ Post)) : Ex Φ E (.If test body orelse pos) σ Post :=
  T.mk fun b s Q C k => wpAny_If (h.run b s _ C fun c σ₁ b₁ h₁ t₁ v hP C₁ X₁ r₁ => by
    cases r₁
    cases c with
    | true => exact (hP.1 rfl).run b₁ _ Q C₁ fun f σ₂ b₂ h₂ t₂ fl hP₂ C₂ X₂ r₂ => k f σ₂ b₂ h₂ t₂ fl hP₂ C₂ (X₁.trans X₂) r₂
    | false => exact (hP.2 rfl).run b₁ _ Q C₁ fun f σ₂ b₂ h₂ t₂ fl hP₂ C₂ X₂ r₂ => k f σ₂ b₂ h₂ t₂ fl hP₂ C₂ (X₁.trans X₂) r₂)
theorem x_ret {e : Expr} {pos : Pos} {Post : PF → Sy → Prop} (h : Ev Φ E e σ fun p σ₁ => Post (.ret p) σ₁) : Ex Φ E (.Return (some e) pos) σ Post :=
  T.mk fun b s Q C k => wpAny_Return_some (h.run b s _ C fun p σ₁ b₁ h₁ t₁ v hP C₁ X₁ r₁ => k (.ret p) σ₁ b₁ h₁ t₁ (.ret v) hP C₁ X₁ r₁)
theorem x_cont {pos : Pos} {Post : PF → Sy → Prop} (h : Post .cont σ) : Ex Φ E (.Continue pos) σ Post := T.mk fun b s Q C k => by
  show wpAny _ _ (exec (.Continue pos) Φ.env) _ _ _
  rw [arm_exec_Continue]
  exact wpAny_bind (wpAny_standAt (wpAny_pure (k .cont σ b s.heap s.toks .cont h C .refl trivial)))
/-! many names at once -/
noncomputable def Binds (env : Env) (t : Value → Sem Unit) (x : Str) : Prop := ∀ (M : Model) (A : Around) (E : Value → Shared → Prop) (s : Shared) (v : Value) (Q : Unit → Shared → Prop), wpAny M A (storeName env x v) Q E s → wpAny M A (t v) Q E s
theorem binds_name {env : Env} {x : Str} {pos : Pos} : Binds env (assign (.Name x pos) env) x := fun _ _ _ _ _ _ h => wpAny_assign_Name h
theorem binds_bind {env : Env} {x : Str} : Binds env (bindName env x) x := fun _ _ _ _ _ _ h => wpAny_bindName h
noncomputable def putAll : List Str → List PV → List (Str × PV) → List (Str × PV)
  | x :: xs, p :: ps, l => putAll xs ps ((x, p) :: l)
  | _, _, l => l
inductive BindsAll (env : Env) : List (Value → Sem Unit) → List Str → Prop
  | nil : BindsAll env [] []
  | cons {t x ts xs} : Binds env t x → BindsAll env ts xs → BindsAll env (t :: ts) (x :: xs)
theorem storeAll {ts : List (Value → Sem Unit)} {xs : List Str} (O : Φ.Ok n) (hb : BindsAll Φ.env ts xs) : ∀ {ps : List PV} {σ : Sy} {b : Bs} {s : Shared} {vs : List Value} {Q : Unit → Shared → Prop} {Post : Sy → Prop}, ps.length = xs.length → (∀ x ∈ xs, Sto Φ.env x) → Post ⟨putAll xs ps σ.env, σ.st⟩ → Cx Φ σ b s.heap → Reps Φ.w.params b ps vs →
    (∀ σ' b' h' tk', Post σ' → Cx Φ σ' b' h' → Ext Φ σ σ' b b' s.heap h' → Q () { s with heap := h', toks := tk' }) → wpAny (model Φ.prog Φ.w) Φ.A (assignInOrder ts vs) Q E s := by
  induction hb with
  | nil =>
    intro ps σ b s vs Q Post hl hx hp C r k
    obtain rfl : ps = [] := List.length_eq_zero_iff.mp hl
    exact assignInOrder_nil (k _ b s.heap s.toks hp C .refl)
  | @cons t x ts xs ht _ ih =>
    intro ps σ b s vs Q Post hl hx hp C r k
    cases ps with
    | nil => cases hl
    | cons p ps =>
      obtain ⟨v, vs, rfl, r1, r2⟩ := r.cons_inv
      refine assignInOrder_cons (ht _ _ _ _ _ _ (store (Post := fun σ' => σ' = ⟨(x, p) :: σ.env, σ.st⟩) O (hx x (.head _)) rfl b s v _ C r1 fun σ₁ b₁ h₁ t₁ e C₁ X₁ => ?_))
      subst e
      exact ih (by simpa using hl) (fun y hy => hx y (.tail _ hy)) hp C₁ (r2.mono X₁.sub) fun σ₂ b₂ h₂ t₂ hP₂ C₂ X₂ => k σ₂ b₂ h₂ t₂ hP₂ C₂ (X₁.trans X₂)
theorem ExtBut.keeps {h h' : Heap} (k : Heap.ExtBut h.objs.size h h') : ∀ a o, h.get? a = some o → h'.get? a = some o := fun a o e => k a o (Nat.ne_of_lt (get_lt e)) e
theorem x_unpack {elts : List Expr} {kk : Nat} {tpos pos : Pos} {value : Expr} {xs : List Str} {Post : PF → Sy → Prop} (O : Φ.Ok n) (hx : ∀ x ∈ xs, Sto Φ.env x) (hb : BindsAll Φ.env ((assignEach elts Φ.env).map (·.2)) xs)
    (h : Ev Φ E value σ fun p σ₁ => ∃ ps, p = .tup ps ∧ ps.length = xs.length ∧ Post .next ⟨putAll xs ps σ₁.env, σ₁.st⟩)
    (hl : (assignEach elts Φ.env).length = xs.length := by rfl) (hstar : (assignEach elts Φ.env).findIdx? (·.1) = none := by rfl)
    (hs : swapsWithSole [.Tuple elts kk tpos] value pos.line Φ.env = pure false := by rfl) (hw : swappedStores [.Tuple elts kk tpos] value Φ.env = pure none := by rfl) :
    Ex Φ E (.Assign [.Tuple elts kk tpos] value pos) σ Post :=
  T.mk fun b s Q C k => Assign_Tuple (h.run b s _ C fun p σ₁ b₁ h₁ t₁ v hP C₁ X₁ r₁ => by
    obtain ⟨ps, rfl, hlen, hP⟩ := hP
    obtain ⟨a, vs, m, rfl, ga, rs⟩ := r₁.tupI
    refine assign_Tuple_tuple O.hh (items := vs.toArray) ⟨_, C₁.sub _ _ ga, rfl, m, rfl⟩ (by rw [hl, List.size_toArray, rs.length, hlen]) hstar fun h₂ he => ?_
    have kp := ExtBut.keeps he
    exact storeAll (Post := fun σ' => Post .next σ') O hb hlen hx hP (C₁.keeps kp) rs fun σ₂ b₂ h₃ t₃ hP₂ C₂ X₂ => k .next σ₂ b₂ h₃ t₃ .next hP₂ C₂ (X₁.trans ((Ext.keeps kp).trans X₂)) trivial) hs hw
theorem Reps.reverse {P : Params} {b : Bs} : ∀ {ps : List PV} {vs : List Value}, Reps P b ps vs → Reps P b ps.reverse vs.reverse
  | [], _, r => by obtain rfl := r.nil_inv; exact .nil
  | p :: ps, _, r => by
    obtain ⟨v, vs, rfl, r1, r2⟩ := r.cons_inv
    rw [List.reverse_cons, List.reverse_cons]
    exact r2.reverse.append (.cons r1 .nil)
theorem BindsAll.rev {env : Env} : ∀ (xs : List Str), BindsAll env (xs.map fun n => bindName env n) xs
  | [] => .nil
  | _ :: xs => .cons binds_bind (BindsAll.rev xs)
theorem x_unpackS {elts : List Expr} {kk : Nat} {tpos pos : Pos} {value : Expr} {xs : List Str} {Post : PF → Sy → Prop} (O : Φ.Ok n) (hx : ∀ x ∈ xs, Sto Φ.env x)
    (h : Ev Φ E value σ fun p σ₁ => ∃ ps, p = .tup ps ∧ ps.length = xs.length ∧ Post .next ⟨putAll xs.reverse ps.reverse σ₁.env, σ₁.st⟩)
    (hw : swappedStores [.Tuple elts kk tpos] value Φ.env = pure (some xs) := by rfl)
    (hs : swapsWithSole [.Tuple elts kk tpos] value pos.line Φ.env = pure false := by rfl) :
    Ex Φ E (.Assign [.Tuple elts kk tpos] value pos) σ Post :=
  T.mk fun b s Q C k => Assign_Tuple_swapped (names := xs) (h.run b s _ C fun p σ₁ b₁ h₁ t₁ v hP C₁ X₁ r₁ => by
    obtain ⟨ps, rfl, hlen, hP⟩ := hP
    obtain ⟨a, vs, m, rfl, ga, rs⟩ := r₁.tupI
    have hsz : xs.length = vs.toArray.size := by rw [List.size_toArray, rs.length, hlen]
    rw [hsz]
    refine unpackItems_tuple O.hh (items := vs.toArray) ⟨_, C₁.sub _ _ ga, rfl, m, rfl⟩ fun h₂ he => ?_
    have kp := ExtBut.keeps he
    exact storeAll (Post := fun σ' => Post .next σ') O (.rev xs.reverse) (by simpa using hlen) (fun x hx' => hx x (List.mem_reverse.mp hx')) hP (C₁.keeps kp) rs.reverse fun σ₂ b₂ h₃ t₃ hP₂ C₂ X₂ =>
      k .next σ₂ b₂ h₃ t₃ .next hP₂ C₂ (X₁.trans ((Ext.keeps kp).trans X₂)) trivial) hs hw
end
end Mine
end
section
open PySem PySem.W PySem.Spec PySem.Calls PyProof.Rows
namespace Mine
/-! what is turned: dicts, lists, fields; what is frozen -/
noncomputable def setK (k : Str) (p : PV) : List (Str × PV) → List (Str × PV)
  | [] => [(k, p)]
  | (x, q) :: l => if x = k then (x, p) :: l else (x, q) :: setK k p l
theorem RepE.put {P : Params} {b : Bs} {k : Str} {p : PV} {t : Tok} {v : Value} (rv : Rep P b p v) : ∀ {kvs : List (Str × PV)} {es : List DictEntry}, RepE P b kvs es → RepE P b (setK k p kvs) (putL k (PyData.keyHash P k) (.str k t) v es)
  | [], es, r => by obtain rfl := r.nil_inv; exact RepE.cons (t := t) rfl rfl rv .nil
  | (x, q) :: l, es, r => by
    obtain ⟨e, er, rfl, ⟨t', hk⟩, hh, hv, r'⟩ := r.cons_inv
    rw [setK, putL]
    have key : e.key.isStr k = (x == k) := by rw [hk]; rfl
    rw [key]
    by_cases h : x = k
    · rw [if_pos h, if_pos (beq_iff_eq.mpr h)]
      exact RepE.cons (t := t') hk hh rv r'
    · rw [if_neg h, if_neg (fun z => h (beq_iff_eq.mp z))]
      exact RepE.cons (t := t') hk hh hv (RepE.put rv r')
theorem setK_length (k : Str) (p : PV) : ∀ l : List (Str × PV), (setK k p l).length ≤ l.length + 1
  | [] => Nat.le_refl _
  | (x, q) :: l => by
    rw [setK]
    split
    · simp
    · simpa using setK_length k p l
/-- two lists of pairs, one of them plain -/
noncomputable def RelV (P : Params) (b : Bs) : List (Str × PV) → List (Str × Value) → Prop
  | [], l => l = []
  | (k, p) :: r, l => ∃ v l', l = (k, v) :: l' ∧ Rep P b p v ∧ RelV P b r l'
section
variable {P : Params} {b : Bs} {prog : Program} {w : World}
theorem RelV.keys : ∀ {kvs : List (Str × PV)} {l : List (Str × Value)}, RelV P b kvs l → l.map (·.1) = kvs.map (·.1)
  | [], _, h => by rw [RelV] at h; subst h; rfl
  | (k, p) :: r, _, h => by
    rw [RelV] at h; obtain ⟨v, l', rfl, _, h2⟩ := h
    rw [List.map_cons, List.map_cons, h2.keys]
theorem relV_of : ∀ {kvs : List (Str × PV)} {es : List DictEntry}, RepE w.params b kvs es → ∃ l, RelV w.params b kvs l ∧ Pairs (strKind prog w) es l
  | [], _, r => by obtain rfl := r.nil_inv; exact ⟨[], rfl, .nil⟩
  | (k, p) :: kvs, _, r => by
    obtain ⟨e, er, rfl, ⟨t, hk⟩, hh, hv, r'⟩ := r.cons_inv
    obtain ⟨l, h1, h2⟩ := relV_of r'
    exact ⟨(k, e.val) :: l, ⟨_, _, rfl, hv, h1⟩, .cons (by rw [hk]; exact strKind_is prog w k t) rfl h2⟩
theorem repE_of : ∀ {kvs : List (Str × PV)} {es : List DictEntry} {l : List (Str × Value)}, RelV w.params b kvs l → Pairs (strKind prog w) es l → (∀ e ∈ es, ∃ k, (strKind prog w).is k e.key = true ∧ e.hash = (strKind prog w).hash k) → RepE w.params b kvs es
  | [], es, l, h, q, _ => by rw [RelV] at h; subst h; cases q; exact .nil
  | (k, p) :: kvs, es, l, h, q, hk => by
    rw [RelV] at h; obtain ⟨v, l', rfl, h1, h2⟩ := h
    cases q with
    | @cons e _ es' _ a c d =>
      obtain ⟨k', hk1, hk2⟩ := hk e (.head _)
      obtain ⟨t, ht⟩ := Value.isStrOf_shape a
      have : k' = k := Value.isStrOf_inj _ _ _ hk1 a
      subst this
      exact RepE.cons (t := t) ht hk2 (by rw [c]; exact h1) (repE_of h2 d fun e he => hk e (.tail _ he))
theorem relV_stored {k : Str} {p : PV} {v : Value} (rv : Rep P b p v) : ∀ {kvs : List (Str × PV)} {l : List (Str × Value)}, RelV P b kvs l → (kvs.map (·.1)).Nodup → RelV P b (setK k p kvs) (stored l k v)
  | [], l, h, _ => by rw [RelV] at h; subst h; exact ⟨v, [], rfl, rv, rfl⟩
  | (x, q) :: kvs, l, h, hn => by
    rw [RelV] at h; obtain ⟨u, l', rfl, h1, h2⟩ := h
    rw [List.map_cons, List.nodup_cons] at hn
    have ih := relV_stored (k := k) rv h2 hn.2
    rw [setK]
    unfold stored at ih ⊢
    rw [List.any_cons]
    by_cases hx : x = k
    · subst hx
      rw [if_pos rfl]
      simp only [decide_true, Bool.true_or, if_true, List.map_cons]
      refine ⟨v, _, rfl, rv, ?_⟩
      have no : x ∉ l'.map (·.1) := by rw [h2.keys]; exact hn.1
      rw [map_store_of_not_mem l' _ v no]
      exact h2
    · rw [if_neg hx]
      simp only [hx, decide_false, Bool.false_or]
      split at ih
      · rename_i hany
        rw [if_pos hany, List.map_cons, if_neg hx]
        exact ⟨u, _, rfl, h1, ih⟩
      · rename_i hany
        rw [if_neg hany, List.cons_append]
        exact ⟨u, _, rfl, h1, ih⟩
end
section
variable {Φ : Fx} {E : Value → Shared → Prop} {σ : Sy} {n : Nat}
theorem SameBut.other {a : Addr} {h h' : Heap} (s : Heap.SameBut a h h') : ∀ x o, x ≠ a → h.get? x = some o → h'.get? x = some o := fun x _ ne e => (s.2 x ne).trans e
theorem x_setdict {o i : Expr} {pos' pos : Pos} {value : Expr} {Post : PF → Sy → Prop}
    (h : Ev Φ E value σ fun p σ₁ => Ev Φ E o σ₁ fun d σ₂ => Ev Φ E i σ₂ fun q σ₃ => ∃ a k kvs, d = .ref a ∧ q = .str k ∧ getM a σ₃.st = some (.dict kvs) ∧ (kvs.map (·.1)).Nodup ∧ kvs.length ≤ sizeLine ∧ Post .next ⟨σ₃.env, setM a (.dict (setK k p kvs)) σ₃.st⟩)
    (hs : swapsWith value (some (.Subscript o i pos')) pos.line Φ.env = pure false := by rfl) : Ex Φ E (.Assign [.Subscript o i pos'] value pos) σ Post :=
  T.mk fun b s Q C kk => wpAny_Assign_Subscript (h.run b s _ C fun p σ₁ b₁ h₁ t₁ v hP C₁ X₁ r₁ => hP.run b₁ _ _ C₁ fun d σ₂ b₂ h₂ t₂ dv hP₂ C₂ X₂ r₂ => hP₂.run b₂ _ _ C₂ fun q σ₃ b₃ h₃ t₃ kv hP₃ C₃ X₃ r₃ => by
    obtain ⟨a, k, kvs, rfl, rfl, hg, hn, hl, hP⟩ := hP₃
    obtain rfl := r₂.refI
    obtain ⟨t, rfl⟩ := r₃.strI
    obtain ⟨ob, go, es, m, rfl, re⟩ := C₃.at hg
    obtain ⟨l, hl1, hl2⟩ := relV_of (prog := Φ.prog) re
    have rv := r₁.mono (X₂.sub.trans X₃.sub)
    refine wpAny_setItem_pairs (knd := strKind Φ.prog Φ.w) (kvs := l) (strKind_is Φ.prog Φ.w k t) ⟨_, es.toArray, m, go, ⟨rfl, rfl, rfl⟩, rfl, fun e he => ?_, hl2, by rw [hl1.keys]; exact hn⟩ (fun h' hd hs' => ?_) (by
      have := congrArg List.length hl1.keys
      rw [List.length_map, List.length_map] at this
      rw [this]; exact hl)
    · obtain ⟨k', t', hk, hh⟩ := allStr re e (List.mem_toArray.mp he)
      exact ⟨k', by rw [hk]; exact strKind_is Φ.prog Φ.w k' t', hh⟩
    · obtain ⟨o', es', m', go', ⟨e1, e2, e3⟩, e4, hk', hp', _⟩ := hd
      obtain ⟨oc, od, oda, osl⟩ := o'
      dsimp only at e1 e2 e3 e4
      subst e1 e2 e3 e4
      obtain ⟨es'⟩ := es'
      have re' := repE_of (relV_stored (k := k) rv hl1 hn) hp' (fun e he => hk' e (List.mem_toArray.mpr he))
      obtain ⟨C₄, X₄⟩ := C₃.upd hg (SameBut.other hs') go' (mo' := .dict (setK k p kvs)) ⟨es', m', rfl, re'⟩
      exact kk .next _ b₃ h' _ .next hP C₄ (((X₁.trans X₂).trans X₃).trans X₄) trivial) hs
/-! lists -/
theorem mapSeq_list (f : Array Value → Array Value) (vs : List Value) (n : Nat) : ∃ n', Obj.mapSeq f (listO vs n) = listO (f vs.toArray).toList n' := ⟨_, rfl⟩
theorem Cx.updList {b : Bs} {h : Heap} {a : Addr} {ps qs : List PV} {vs : List Value} {m : Nat} {f : Array Value → Array Value} (C : Cx Φ σ b h) (hg : getM a σ.st = some (.list ps)) (go : h.get? a = some (listO vs m)) (r : Reps Φ.w.params b qs (f vs.toArray).toList) :
    Cx Φ ⟨σ.env, setM a (.list qs) σ.st⟩ b (h.update a (Obj.mapSeq f)) ∧ Ext Φ σ ⟨σ.env, setM a (.list qs) σ.st⟩ b b h (h.update a (Obj.mapSeq f)) := by
  obtain ⟨n', e⟩ := mapSeq_list f vs m
  exact C.upd hg (SameBut.other (Heap.SameBut.update ..)) (by rw [← e]; exact Heap.get?_update_self _ go (by rw [e]; rfl)) ⟨_, n', rfl, r⟩
theorem setItem_listX {prog : Program} {w : World} {A : Around} {s : Shared} {l : Addr} {items : Array Value} {m : Nat} {k : Int} {t : Tok} {v : Value} {Q : Unit → Shared → Prop} (ho : s.heap.get? l = some (listO items.toList m))
    (h0 : 0 ≤ k) (hfit : k < 1000000) (hn : k < items.size) (hQ : Q () { s with heap := s.heap.update l (Obj.mapSeq (·.setIfInBounds k.toNat v)) }) : wpAny (model prog w) A (setItem (.ref l) (.int k t) v) Q E s := by
  have hl : s.heap.IsList l items := ⟨_, ho, rfl, m, by simp⟩
  unfold setItem
  try with_reducible refine wpAny_holding ?_
  first | refine wpAny_bind (wpAny_pure ?_) | skip
  refine wpAny_bind (wpAny_sequenceKey hl.typeIs (by decide) ?_)
  refine wpAny_bind (wpAny_callSpecial?_slot (name := Str.ofString "__setitem__") hl.typeIs slot_list_setitem (wpAny_call_entry slot_list_setitem hl.typeIs entry_list_setitem ?_ (args_list_setitem _ _ _)))
  show wpAny _ _ (Builtin.List.listSubscript? (.int k t) >>= _) _ _ s
  refine wpAny_bind (wpAny_listSubscript_int (fitsIndex_of h0 (by omega)) ?_)
  clear hfit
  obtain ⟨j, rfl⟩ := Int.eq_ofNat_of_zero_le h0
  have hj : j < items.size := by omega
  have hx' : items[j]? = some items[j] := Array.getElem?_eq_getElem hj
  have hd : (listO items.toList m).data = .seq items m := by simp
  show wpAny _ _ ((seqItemAt l j >>= fun r => pure (r.map (j, ·))) >>= _) _ _ s
  refine wpAny_bind (wpAny_bind (wpAny_seqItemAt ho hd (wpAny_pure ?_)))
  rw [hx']
  show wpAny _ _ (setSeqItemAt l j v >>= _) _ _ s
  refine wpAny_bind (wpAny_setSeqItemAt ho hd ?_)
  first
    | exact wpAny_bind (wpAny_pure (wpAny_pure ⟨.none, rfl, wpAny_pure hQ⟩))
    | exact wpAny_pure ⟨.none, rfl, wpAny_pure hQ⟩
theorem Reps.set {P : Params} {b : Bs} {p : PV} {v : Value} (rv : Rep P b p v) : ∀ {ps : List PV} {vs : List Value} {i : Nat}, Reps P b ps vs → Reps P b (ps.set i p) (vs.set i v)
  | [], _, i, r => by obtain rfl := r.nil_inv; exact .nil
  | q :: ps, _, i, r => by
    obtain ⟨u, vs, rfl, r1, r2⟩ := r.cons_inv
    cases i with
    | zero => exact .cons rv r2
    | succ i => exact .cons r1 (Reps.set rv r2)
theorem x_setlist {o i : Expr} {pos' pos : Pos} {value : Expr} {Post : PF → Sy → Prop}
    (h : Ev Φ E value σ fun p σ₁ => Ev Φ E o σ₁ fun d σ₂ => Ev Φ E i σ₂ fun q σ₃ => ∃ (a : Addr) (j : Nat) (ps : List PV), d = .ref a ∧ q = .int j ∧ getM a σ₃.st = some (.list ps) ∧ j < ps.length ∧ j < 1000000 ∧ Post .next ⟨σ₃.env, setM a (.list (ps.set j p)) σ₃.st⟩)
    (hs : swapsWith value (some (.Subscript o i pos')) pos.line Φ.env = pure false := by rfl) : Ex Φ E (.Assign [.Subscript o i pos'] value pos) σ Post :=
  T.mk fun b s Q C kk => wpAny_Assign_Subscript (h.run b s _ C fun p σ₁ b₁ h₁ t₁ v hP C₁ X₁ r₁ => hP.run b₁ _ _ C₁ fun d σ₂ b₂ h₂ t₂ dv hP₂ C₂ X₂ r₂ => hP₂.run b₂ _ _ C₂ fun q σ₃ b₃ h₃ t₃ kv hP₃ C₃ X₃ r₃ => by
    obtain ⟨a, j, ps, rfl, rfl, hg, hj, hj', hP⟩ := hP₃
    obtain rfl := r₂.refI
    obtain ⟨t, rfl⟩ := r₃.intI
    obtain ⟨ob, go, vs, m, rfl, re⟩ := C₃.at hg
    have rv := r₁.mono (X₂.sub.trans X₃.sub)
    obtain ⟨C₄, X₄⟩ := C₃.updList (f := (·.setIfInBounds j v)) (qs := ps.set j p) hg go (by simpa using re.set rv)
    refine setItem_listX (items := vs.toArray) (by simpa using go) (by omega) (by omega) (by rw [List.size_toArray, re.length]; omega) ?_
    exact kk .next _ b₃ _ t₃ .next hP C₄ (((X₁.trans X₂).trans X₃).trans X₄) trivial) hs
/-! fields -/
theorem x_setattr {K : Frag} {o : Expr} {attr : Str} {pos' pos : Pos} {value : Expr} {Post : PF → Sy → Prop} (tp : Tp Φ.b₀ K)
    (h : Ev Φ E value σ fun p σ₁ => Ev Φ E o σ₁ fun d σ₂ => ∃ D dx kvs, d = .inst D dx ∧ getM dx σ₂.st = some (.dict kvs) ∧ Cls K D ∧ takerIn K D attr = some none ∧ kvs.length ≤ 900 ∧ Post .next ⟨σ₂.env, setM dx (.dict (setK attr p kvs)) σ₂.st⟩)
    (hs : swapsWith value (some (.Attribute o attr pos')) pos.line Φ.env = pure false := by rfl) : Ex Φ E (.Assign [.Attribute o attr pos'] value pos) σ Post :=
  T.mk fun b s Q C kk => plainObj_wpAny_Assign_Attribute (h.run b s _ C fun p σ₁ b₁ h₁ t₁ v hP C₁ X₁ r₁ => hP.run b₁ _ _ C₁ fun d σ₂ b₂ h₂ t₂ dv hP₂ C₂ X₂ r₂ => by
    obtain ⟨D, dx, kvs, rfl, hg, cl, ht, hl, hP⟩ := hP₂
    obtain ⟨a, rfl, ga⟩ := r₂.instI
    obtain ⟨ob, go, es, m, rfl, re⟩ := C₂.at hg
    have X := C₂.kin tp
    have I : InstAt h₂ a (instObj D dx) D (some (dictOf es m)) := ⟨C₂.sub _ _ ga, rfl, rfl, go⟩
    have rv := r₁.mono X₂.sub
    refine set_plain X I cl.sa (osa_open X I cl.po ht fun bb => ?_)
    obtain ⟨cd, hc, hd'⟩ := any_some cl.hd
    have re' := RepE.put (k := attr) (t := t₂ + 1) rv re
    have hl' : (putL attr (PyData.keyHash Φ.w.params attr) (.str attr (t₂ + 1)) v es).length ≤ 1000 := by
      rw [re'.length]; have := setK_length attr p kvs; omega
    have e := putName_dict attr (PyData.keyHash Φ.w.params attr) (.str attr (t₂ + 1)) v es m
    have go' : (h₂.update dx (Obj.putName attr (PyData.keyHash Φ.w.params attr) (.str attr (t₂ + 1)) v)).get? dx = some (dictOf (putL attr (PyData.keyHash Φ.w.params attr) (.str attr (t₂ + 1)) v es) (putN attr es m)) := by
      rw [← e]; exact Heap.get?_update_self _ go (by rw [e]; rfl)
    obtain ⟨C₄, X₄⟩ := C₂.upd hg (SameBut.other (Heap.SameBut.update ..)) go' (mo' := .dict (setK attr p kvs)) ⟨_, _, rfl, re'⟩
    refine wpAny_bind (wpAny_pure (wpAny_bind (wpAny_bind (wpAny_loadPart (C₂.sub _ _ ga) (wpAny_bind ((looks_clsIn X hc).here ?_))))))
    rw [hd']
    refine wpAny_pure (a := some dx) (wpAny_bind (wpAny_pure (wpAny_bind ?_)))
    unfold nsSet
    refine wpAny_bind (wpAny_bind (wpAny_askSetting (wpAny_pure (wpAny_bind (wpAny_mkText (wpAny_bind (wpAny_loadPart go ?_)))))))
    have no : (!(es.toArray.any (·.key.isStr attr)) && es.toArray.any (·.refKey)) = false := by
      have : es.any (·.refKey) = false := by
        rw [List.any_eq_false]; intro e he; obtain ⟨n, t, h, _⟩ := allStr re e he; simp [DictEntry.refKey, h]
      rw [← Array.any_toList, ← Array.any_toList]
      show (!(es.any _) && es.any _) = false
      rw [this, Bool.and_false]
    dsimp only
    rw [aRefKeyMayBeTheName_at, no]
    refine wpAny_updatePart go ?_
    refine wpAny_bind (wpAny_lookBehind go' (pastItsLine_dict (by rw [List.size_toArray, sizeLine_eq]; omega)) ?_)
    exact wpAny_pure (kk .next _ b₂ _ _ .next hP C₄ ((X₁.trans X₂).trans X₄) trivial)) hs
/-! freezing -/
noncomputable def MO.pv : MO → PV
  | .list l => .list l
  | .dict l => .dict l
  | .raw _ => .any
noncomputable def delM (a : Addr) : List (Addr × MO) → List (Addr × MO)
  | [] => []
  | (c, x) :: r => if c = a then r else (c, x) :: delM a r
theorem delM_mem {a : Addr} : ∀ {l : List (Addr × MO)} {q : Addr × MO}, (l.map (·.1)).Nodup → q ∈ delM a l → q ∈ l ∧ q.1 ≠ a
  | [], _, _, h => nomatch h
  | (c, x) :: r, q, hn, h => by
    rw [List.map_cons, List.nodup_cons] at hn
    rw [delM] at h
    split at h
    · rename_i e
      refine ⟨.tail _ h, fun e' => hn.1 ?_⟩
      have := List.mem_map_of_mem (f := (·.1)) h; rw [e'] at this; rw [e]; exact this
    · rename_i e
      rcases List.mem_cons.mp h with rfl | h
      · exact ⟨.head _, e⟩
      · obtain ⟨h1, h2⟩ := delM_mem hn.2 h
        exact ⟨.tail _ h1, h2⟩
theorem delM_sub {a : Addr} : ∀ {l : List (Addr × MO)}, ((delM a l).map (·.1)).Sublist (l.map (·.1))
  | [] => .slnil
  | (c, x) :: r => by
    rw [delM]
    split
    · exact List.sublist_cons_self ..
    · exact .cons_cons _ delM_sub
/-- what a frozen value may be said to be -/
inductive Frz (a : Addr) (mo : MO) : PV → PV → Prop
  | same {p} : Frz a mo p p
  | ref : Frz a mo (.ref a) mo.pv
  | inst {C kvs} : mo = .dict kvs → Frz a mo (.inst C a) (.obj C kvs)
theorem Cx.frz {b : Bs} {h : Heap} {a : Addr} {mo : MO} (C : Cx Φ σ b h) (hg : getM a σ.st = some mo) : ∃ b', (∀ p p', Frz a mo p p' → ∀ v, Rep Φ.w.params b p v → Rep Φ.w.params b' p' v) ∧ Sub b b' ∧
    ∀ env', (∀ x p', env'.lookup x = some p' → ∃ p, σ.env.lookup x = some p ∧ Frz a mo p p') → Cx Φ ⟨env', delM a σ.st⟩ b' h ∧ Ext Φ σ ⟨env', delM a σ.st⟩ b b' h h := by
  have hm : dom σ a := List.mem_map_of_mem (getM_mem hg)
  obtain ⟨nb, np, z, nf, _⟩ := C.domb hm
  obtain ⟨o, go, ro⟩ := C.at hg
  have sub : Sub b (ext b a o) := ext_sub nb
  have off : ∀ c, c ≠ a → b c = none → ext b a o c = none := fun c ne e => by rw [ext_ne ne]; exact e
  have conv : ∀ p p', Frz a mo p p' → ∀ v, Rep Φ.w.params b p v → Rep Φ.w.params (ext b a o) p' v := fun p p' f v r => by
    cases f with
    | same => exact r.mono sub
    | ref =>
      obtain rfl := r.refI
      cases mo with
      | list l => obtain ⟨vs, m, rfl, q⟩ := ro; exact Rep.mkList (ext_at ..) (q.mono sub)
      | dict l => obtain ⟨es, m, rfl, q⟩ := ro; exact Rep.mkDict z (ext_at ..) (q.mono sub)
      | raw R => exact Rep.mkAny
    | inst e =>
      subst e
      obtain ⟨c, rfl, gc⟩ := r.instI
      obtain ⟨es, m, rfl, q⟩ := ro
      exact Rep.mkObj (sub _ _ gc) (ext_at ..) (q.mono sub)
  refine ⟨ext b a o, conv, sub, fun env' he => ⟨⟨fun x ox e => ?_, C.low.trans sub, ?_, fun x c hx => ?_, ?_, fun q hq => ?_, ?_, fun env hen => ?_, C.glob⟩, ⟨sub, fun x ox e => ?_, fun x ox e _ _ => ⟨⟨ox.slots, e⟩, fun _ => e⟩, fun x hx => ?_, fun x ox e => ⟨ox, e⟩⟩⟩⟩
  · by_cases q : x = a
    · subst q; rw [ext_at] at e; cases e; exact go
    · rw [ext_ne q] at e; exact C.sub _ _ e
  · obtain ⟨m, hN, hv⟩ := C.ns
    refine ⟨m, hN, fun x p' e => ?_⟩
    obtain ⟨p, ep, f⟩ := he x p' e
    rcases hv x p ep with ⟨k, v, e1, r1⟩ | ⟨k, c, v, e1, i, r1⟩
    · exact .inl ⟨k, v, e1, conv _ _ f v r1⟩
    · exact .inr ⟨k, c, v, e1, i, conv _ _ f v r1⟩
  · obtain ⟨i, nc⟩ := C.cells x c hx
    exact ⟨i, off c (fun q => np (q ▸ .inr ⟨x, hx⟩)) nc⟩
  · exact off _ (fun q => np (q ▸ .inl rfl)) C.Lb
  · obtain ⟨hq1, hq2⟩ := delM_mem C.nd hq
    obtain ⟨⟨oq, eq, rq⟩, nq, pq⟩ := C.st q hq1
    exact ⟨⟨oq, eq, rq.mono sub⟩, off _ hq2 nq, pq⟩
  · exact List.Sublist.nodup delM_sub C.nd
  · obtain ⟨k, L', oL, f, nL, e, d⟩ := C.ff env hen
    exact ⟨k, L', oL, f, off _ (fun q => nf (q ▸ ⟨env, hen, f⟩)) nL, e, d⟩
  · by_cases q : x = a
    · subst q; exact .inr (.inr hm)
    · rw [ext_ne q] at e; exact .inl e
  · exact .inl (delM_sub.subset hx)
theorem T.frz {α β : Type} {m : Sem α} {R : Bs → α → β → Prop} {Post : β → Sy → Prop} {a : Addr} {mo : MO} (env' : List (Str × PV)) (hg : getM a σ.st = some mo) (he : ∀ x p', env'.lookup x = some p' → ∃ p, σ.env.lookup x = some p ∧ Frz a mo p p')
    (h : T Φ E m R ⟨env', delM a σ.st⟩ Post) : T Φ E m R σ Post := T.mk fun b s Q C k => by
  obtain ⟨b', _, _, hc⟩ := C.frz hg
  obtain ⟨C', X'⟩ := hc env' he
  exact h.run b' s Q C' fun β σ₂ b₂ h₂ t₂ a p C₂ X₂ r => k β σ₂ b₂ h₂ t₂ a p C₂ (X'.trans X₂) r
/-- a value's object is frozen behind its evaluation -/
theorem e_frz {e : Expr} {Post : PV → Sy → Prop} (h : Ev Φ E e σ fun p σ₁ => ∃ a mo p', getM a σ₁.st = some mo ∧ Frz a mo p p' ∧ Post p' ⟨σ₁.env, delM a σ₁.st⟩) : Ev Φ E e σ Post :=
  T.mk fun b s Q C k => h.run b s _ C fun p σ₁ b₁ h₁ t₁ v hP C₁ X₁ r₁ => by
    obtain ⟨a, mo, p', hg, f, hP⟩ := hP
    obtain ⟨b', conv, sub, hc⟩ := C₁.frz hg
    obtain ⟨C', X'⟩ := hc σ₁.env fun x q e => ⟨q, e, .same⟩
    exact k p' _ b' h₁ t₁ v hP C' (X₁.trans X') (conv _ _ f v r₁)
theorem e_any {e : Expr} {Post : PV → Sy → Prop} (h : Ev Φ E e σ fun _ σ₁ => Post .any σ₁) : Ev Φ E e σ Post :=
  T.mk fun b s Q C k => h.run b s _ C fun p σ₁ b₁ h₁ t₁ v hP C₁ X₁ r₁ => k .any σ₁ b₁ h₁ t₁ v hP C₁ X₁ Rep.mkAny
end
end Mine
end
section
open PySem PySem.W PySem.Spec PySem.Calls PyProof.Rows
namespace Mine
/-! loops -/
/-- an iterator, what it draws, and the addresses that it writes -/
structure ItrH (Hold : Bs → Heap → Prop) (Φ : Fx) (bI : Bs) (I : Addr) (wr : List Addr) (qs : List PV) (tgt : Expr) (St : Nat → Heap → Prop) : Prop where
  frame : ∀ i h h', St i h → (∀ a ∈ wr, ∀ o, h.get? a = some o → h'.get? a = some o) → St i h'
  item : ∀ i p b s Q E, qs[i]? = some p → Sub bI b → Sub b s.heap.get? → (∀ a ∈ wr, b a = none) → Hold b s.heap → St i s.heap →
    (∀ v b' h' tk', Rep Φ.w.params b' p v → Sub b b' → Sub b' h'.get? → (∀ a o, b' a = some o → b a = some o ∨ s.heap.get? a = none) → (∀ a o, a ∉ wr → s.heap.get? a = some o → h'.get? a = some o) → (∀ a ∈ wr, ∃ o, h'.get? a = some o) →
      (∀ Q' E', (∀ h'', (∀ a o, a ∉ wr → h'.get? a = some o → h''.get? a = some o) → (∀ a ∈ wr, ∃ o, h''.get? a = some o) → St (i + 1) h'' → Q' () { s with heap := h'', toks := tk' }) → wpAny (model Φ.prog Φ.w) Φ.A (letOwnedTupleGo tgt (.ref I) v) Q' E' { s with heap := h', toks := tk' }) →
      Q (some v) { s with heap := h', toks := tk' }) → wpAny (model Φ.prog Φ.w) Φ.A (pyNext (.ref I)) Q E s
  done : ∀ b s Q E, Sub bI b → Sub b s.heap.get? → Hold b s.heap → St qs.length s.heap → (∀ h' tk', (∀ a o, a ∉ wr → s.heap.get? a = some o → h'.get? a = some o) → Q none { s with heap := h', toks := tk' }) → wpAny (model Φ.prog Φ.w) Φ.A (pyNext (.ref I)) Q E s
  self : ∀ b s Q E, Sub bI b → Sub b s.heap.get? → Hold b s.heap → St 0 s.heap → Q (.ref I) s → wpAny (model Φ.prog Φ.w) Φ.A (pyIter (.ref I)) Q E s
noncomputable abbrev Itr := ItrH fun _ _ => True
structure Loose (Φ : Fx) (σ : Sy) (b : Bs) (h : Heap) (a : Addr) : Prop where
  off : b a = none
  np : ¬ priv Φ.env a
  nd : ¬ dom σ a
  nf : ¬ fr Φ.outer a
  there : ∃ o, h.get? a = some o
/-- how a value is walked over -/
noncomputable def IterE (Φ : Fx) (E : Value → Shared → Prop) (iter : Expr) (σ : Sy) (tgt : Expr) (Post : List PV → Sy → Prop) : Prop :=
  ∀ (b : Bs) (s : Shared) (Q : Value → Shared → Prop), Cx Φ σ b s.heap →
    (∀ qs σ' b' h' tk' I wr St, Post qs σ' → Cx Φ σ' b' h' → Ext Φ σ σ' b b' s.heap h' → Itr Φ b' I wr qs tgt St → St 0 h' → (∀ a ∈ wr, Loose Φ σ' b' h' a ∧ s.heap.get? a = none) → Q (.ref I) { s with heap := h', toks := tk' }) →
    wpAny (model Φ.prog Φ.w) Φ.A (eval iter Φ.env) (fun x s₁ => wpAny (model Φ.prog Φ.w) Φ.A (pyIter x) Q E s₁) E s
noncomputable abbrev AsgT (Φ : Fx) (E : Value → Shared → Prop) (tgt : Expr) (p : PV) (σ : Sy) (Post : Sy → Prop) : Prop :=
  ∀ (b : Bs) (s : Shared) (v : Value) (Q : Unit → Shared → Prop), Cx Φ σ b s.heap → Rep Φ.w.params b p v →
    (∀ σ' b' h' tk', Post σ' → Cx Φ σ' b' h' → Ext Φ σ σ' b b' s.heap h' → Q () { s with heap := h', toks := tk' }) → wpAny (model Φ.prog Φ.w) Φ.A (assign tgt Φ.env v) Q E s
section
variable {Φ : Fx} {E : Value → Shared → Prop} {σ : Sy} {n : Nat}
theorem a_name {x : Str} {pos : Pos} {p : PV} {Post : Sy → Prop} (O : Φ.Ok n) (hx : Sto Φ.env x) (q : Post ⟨(x, p) :: σ.env, σ.st⟩) : AsgT Φ E (.Name x pos) p σ Post :=
  fun b s v Q C r k => wpAny_assign_Name (store O hx q b s v Q C r k)
theorem a_tup {elts : List Expr} {kk : Nat} {tpos : Pos} {xs : List Str} {ps : List PV} {Post : Sy → Prop} (O : Φ.Ok n) (hx : ∀ x ∈ xs, Sto Φ.env x) (hb : BindsAll Φ.env ((assignEach elts Φ.env).map (·.2)) xs)
    (hlen : ps.length = xs.length) (q : Post ⟨putAll xs ps σ.env, σ.st⟩)
    (hl : (assignEach elts Φ.env).length = xs.length := by rfl) (hstar : (assignEach elts Φ.env).findIdx? (·.1) = none := by rfl) : AsgT Φ E (.Tuple elts kk tpos) (.tup ps) σ Post := fun b s v Q C r k => by
  obtain ⟨a, vs, m, rfl, ga, rs⟩ := r.tupI
  refine assign_Tuple_tuple O.hh (items := vs.toArray) ⟨_, C.sub _ _ ga, rfl, m, rfl⟩ (by rw [hl, List.size_toArray, rs.length, hlen]) hstar fun h₂ he => ?_
  have kp := ExtBut.keeps he
  exact storeAll O hb hlen hx q (C.keeps kp) rs fun σ₂ b₂ h₃ t₃ hP₂ C₂ X₂ => k σ₂ b₂ h₃ t₃ hP₂ C₂ ((Ext.keeps kp).trans X₂)
theorem Loose.ext {σ' : Sy} {b b' : Bs} {h h' : Heap} {a : Addr} (l : Loose Φ σ b h a) (X : Ext Φ σ σ' b b' h h') : Loose Φ σ' b' h' a := by
  obtain ⟨o, e⟩ := l.there
  refine ⟨?_, l.np, fun q => ?_, l.nf, ⟨o, (X.keep a o e l.np l.nd).2 l.nf⟩⟩
  · cases q : b' a with
    | none => rfl
    | some x => rcases X.new a x q with z | z | z
                · rw [l.off] at z; cases z
                · rw [e] at z; cases z
                · exact absurd z l.nd
  · rcases X.dom a q with z | z
    · exact l.nd z
    · rw [e] at z; cases z
/-- the heap turns at loose addresses alone -/
theorem Cx.wr {b b' : Bs} {h h' : Heap} {wr : List Addr} (C : Cx Φ σ b h) (lo : ∀ a ∈ wr, Loose Φ σ b h a) (hk : ∀ a o, a ∉ wr → h.get? a = some o → h'.get? a = some o) (hb : Sub b b') (hs : Sub b' h'.get?) (hn : ∀ a o, b' a = some o → b a = some o ∨ h.get? a = none) : Cx Φ σ b' h' := by
  have off : ∀ a o, h.get? a = some o → b a = none → b' a = none := fun a o e n => by
    cases q : b' a with
    | none => rfl
    | some o' => rcases hn a o' q with z | z
                 · rw [n] at z; cases z
                 · rw [e] at z; cases z
  have pw : ∀ a, priv Φ.env a → a ∉ wr := fun a p m => (lo a m).np p
  refine ⟨hs, C.low.trans hb, ?_, fun x c hx => ?_, ?_, fun q hq => ?_, C.nd, fun env he => ?_, C.glob⟩
  · obtain ⟨m, hm, hv⟩ := C.ns
    obtain ⟨oL, es, ep, eL, rL⟩ := hm
    exact ⟨m, ⟨oL, es, ep, hk _ _ (pw _ (.inl rfl)) eL, rL⟩, fun x p e => (hv x p e).mono hb fun c ov hy i => let ⟨o, e1, e2⟩ := i; ⟨o, hk _ _ (pw _ (.inr hy)) e1, e2⟩⟩
  · obtain ⟨⟨ov, o, e, d⟩, n⟩ := C.cells x c hx
    exact ⟨⟨ov, o, hk _ _ (pw _ (.inr ⟨x, hx⟩)) e, d⟩, off c o e n⟩
  · obtain ⟨m, ⟨o, _, _, e, _⟩, _⟩ := C.ns
    exact off _ o e C.Lb
  · obtain ⟨⟨o, e, r⟩, n, p⟩ := C.st q hq
    exact ⟨⟨o, hk _ _ (fun m => (lo _ m).nd (List.mem_map_of_mem hq)) e, r.mono hb⟩, off _ o e n, p⟩
  · obtain ⟨k, L, o, f, n, e, d⟩ := C.ff env he
    exact ⟨k, L, o, f, off L o e n, hk _ _ (fun m => (lo _ m).nf ⟨env, he, f⟩) e, d⟩
theorem Ext.wr {σ₀ : Sy} {b₀ b b' : Bs} {h₀ h h' : Heap} {wr : List Addr} (X : Ext Φ σ₀ σ b₀ b h₀ h) (fresh : ∀ a ∈ wr, h₀.get? a = none) (hk : ∀ a o, a ∉ wr → h.get? a = some o → h'.get? a = some o) (hb : Sub b b') (hn : ∀ a o, b' a = some o → b a = some o ∨ h.get? a = none) : Ext Φ σ₀ σ b₀ b' h₀ h' := by
  have nw : ∀ a o, h₀.get? a = some o → a ∉ wr := fun a o e m => by rw [fresh a m] at e; cases e
  refine ⟨X.sub.trans hb, fun a o e => ?_, fun a o e hp hd => ?_, X.dom, fun a o e => ?_⟩
  · rcases hn a o e with z | z
    · exact X.new a o z
    · cases q : h₀.get? a with
      | none => exact .inr (.inl rfl)
      | some x => obtain ⟨y, hy⟩ := X.there a x q; rw [hy] at z; cases z
  · obtain ⟨⟨sl, e1⟩, e2⟩ := X.keep a o e hp hd
    exact ⟨⟨sl, hk _ _ (nw a o e) e1⟩, fun q => hk _ _ (nw a o e) (e2 q)⟩
  · obtain ⟨y, hy⟩ := X.there a o e
    exact ⟨y, hk _ _ (nw a o e) hy⟩
noncomputable def TurnPost (I : Sy → Prop) (Post : PF → Sy → Prop) : PF → Sy → Prop
  | .next, σ => I σ
  | .cont, σ => I σ
  | .brk, σ => Post .next σ
  | .ret p, σ => Post (.ret p) σ
theorem x_for {target iter : Expr} {body : List Stmt} {pos : Pos} {Post : PF → Sy → Prop}
    (h : IterE Φ E iter σ target fun qs σ₁ => ∃ Inv : Nat → Sy → Prop, Inv 0 σ₁ ∧ (∀ (E' : Value → Shared → Prop) i p σ', qs[i]? = some p → Inv i σ' → AsgT Φ E' target p σ' fun σ'' => Exs Φ E' body σ'' (TurnPost (Inv (i + 1)) Post)) ∧ ∀ σ', Inv qs.length σ' → Post .next σ')
    (hs : ∀ x, foldedSetIterable iter Φ.env x = pure x := by intro _; rfl) : Ex Φ E (.For target iter body [] pos) σ Post := by
  refine T.mk fun b s Q C k => ?_
  refine wpAny_For (h b s _ C fun qs σ₁ b₁ h₁ t₁ I wr St hP C₁ X₁ it st₀ lo => ?_) hs
  obtain ⟨Inv, h0, turn, fin⟩ := hP
  refine codeAny_forLoop_any
    (fun m s' => ∃ i σ' b' h' tk', s' = { s with heap := h', toks := tk' } ∧ m + i = qs.length ∧ Inv i σ' ∧ Cx Φ σ' b' h' ∧ Ext Φ σ σ' b b' s.heap h' ∧ Sub b₁ b' ∧ St i h' ∧ ∀ a ∈ wr, Loose Φ σ' b' h' a) ?_ qs.length
    ⟨0, σ₁, b₁, h₁, t₁, rfl, rfl, h0, C₁, X₁, .refl b₁, st₀, fun a ha => (lo a ha).1⟩
  rintro m s' ⟨i, σ', b', h', tk', rfl, hm, hI, C', X', sb, st, lo'⟩
  have fresh : ∀ a ∈ wr, s.heap.get? a = none := fun a ha => (lo a ha).2
  cases hq : qs[i]? with
  | none =>
    have : i = qs.length := by
      have := List.getElem?_eq_none_iff.mp hq; omega
    subst this
    refine it.done b' _ _ _ sb C'.sub trivial st fun h'' tk'' hk => ?_
    have hs' : Sub b' h''.get? := fun a o e => hk a o (fun z => by rw [(lo' a z).off] at e; cases e) (C'.sub a o e)
    have C'' := C'.wr lo' hk (.refl b') hs' fun _ _ e => .inl e
    have X'' := X'.wr fresh hk (.refl b') fun _ _ e => .inl e
    exact wpAny_execs_nil (k .next σ' b' h'' tk'' .next (fin σ' hI) C'' X'' trivial)
  | some p =>
    refine it.item i p b' _ _ _ hq sb C'.sub (fun a ha => (lo' a ha).off) trivial st fun v b₂ h₂ t₂ rv sb₂ sh₂ nw₂ hk₂ wt₂ go => ?_
    refine go _ _ fun h₃ hk₃ wt₃ st₃ => ?_
    have hk : ∀ a o, a ∉ wr → h'.get? a = some o → h₃.get? a = some o := fun a o z e => hk₃ a o z (hk₂ a o z e)
    have off₂ : ∀ a ∈ wr, b₂ a = none := fun a ha => by
      cases q : b₂ a with
      | none => rfl
      | some o => rcases nw₂ a o q with z | z
                  · rw [(lo' a ha).off] at z; cases z
                  · obtain ⟨x, e⟩ := (lo' a ha).there; rw [e] at z; cases z
    have sh₃ : Sub b₂ h₃.get? := fun a o e => hk₃ a o (fun z => by rw [off₂ a z] at e; cases e) (sh₂ a o e)
    have C₃ := C'.wr lo' hk sb₂ sh₃ nw₂
    have X₃ := X'.wr fresh hk sb₂ nw₂
    have lo₃ : ∀ a ∈ wr, Loose Φ σ' b₂ h₃ a := fun a ha => ⟨off₂ a ha, (lo' a ha).np, (lo' a ha).nd, (lo' a ha).nf, wt₃ a ha⟩
    refine turn _ i p σ' hq hI b₂ _ v _ C₃ rv fun σ₄ b₄ h₄ t₄ hb C₄ X₄ => ?_
    refine hb.run b₄ _ _ C₄ fun pf σ₅ b₅ h₅ t₅ fl hP C₅ X₅ rf => ?_
    have X45 := X₄.trans X₅
    have lo₅ : ∀ a ∈ wr, Loose Φ σ₅ b₅ h₅ a := fun a ha => (lo₃ a ha).ext X45
    have nxt : Inv (i + 1) σ₅ → ∃ m', m' < m ∧ ∃ i' σ' b' h' tk', ({ s with heap := h₅, toks := t₅ } : Shared) = { s with heap := h', toks := tk' } ∧ m' + i' = qs.length ∧ Inv i' σ' ∧ Cx Φ σ' b' h' ∧ Ext Φ σ σ' b b' s.heap h' ∧ Sub b₁ b' ∧ St i' h' ∧ ∀ a ∈ wr, Loose Φ σ' b' h' a := fun hI' => by
      have hlt : i < qs.length := by
        rcases Nat.lt_or_ge i qs.length with h | h
        · exact h
        · rw [List.getElem?_eq_none h] at hq; cases hq
      refine ⟨m - 1, by omega, i + 1, σ₅, b₅, h₅, t₅, rfl, by omega, hI', C₅, X₃.trans X45, (sb.trans sb₂).trans X45.sub, it.frame _ _ _ st₃ fun a ha o e => ?_, lo₅⟩
      exact (X45.keep a o e (lo₃ a ha).np (lo₃ a ha).nd).2 (lo₃ a ha).nf
    cases pf <;> cases fl <;> first | exact False.elim rf | skip
    · exact nxt hP
    · exact k .next σ₅ b₅ h₅ t₅ .next hP C₅ (X₃.trans X45) trivial
    · exact nxt hP
    · exact k (.ret _) σ₅ b₅ h₅ t₅ (.ret _) hP C₅ (X₃.trans X45) rf
/-! iterators -/
noncomputable def nameTgt : Expr → Prop
  | .Name .. => True
  | _ => False
theorem go_name {M : Model} {A : Around} {x : Str} {pos : Pos} {it v : Value} {Q : Unit → Shared → Prop} {E : Value → Shared → Prop} {s : Shared} (h : Q () s) : wpAny M A (letOwnedTupleGo (.Name x pos) it v) Q E s := wpAny_pure h
/-- items that are names or tuples to unpack -/
noncomputable def TgtOk (tgt : Expr) (qs : List PV) : Prop := (∃ x pos, tgt = .Name x pos) ∨ ((∃ elts k pos, tgt = .Tuple elts k pos) ∧ ∀ p ∈ qs, ∃ ps, p = .tup ps)
theorem Loose.fresh {b : Bs} {h h' : Heap} {a : Addr} (C : Cx Φ σ b h) (f : h.get? a = none) (t : ∃ o, h'.get? a = some o) : Loose Φ σ b h' a := by
  refine ⟨?_, fun p => ?_, fun d => ?_, fun r => ?_, t⟩
  · cases q : b a with
    | none => rfl
    | some o => have := C.sub _ _ q; rw [f] at this; cases this
  · obtain ⟨o, e⟩ := C.notpriv p; rw [f] at e; cases e
  · obtain ⟨_, _, _, _, o, e⟩ := C.domb d; rw [f] at e; cases e
  · obtain ⟨_, o, e, _⟩ := C.ff.there r; rw [f] at e; cases e
theorem Ext.fresh {σ₀ : Sy} {b₀ b : Bs} {h₀ h : Heap} {a : Addr} (X : Ext Φ σ₀ σ b₀ b h₀ h) (f : h.get? a = none) : h₀.get? a = none := by
  cases q : h₀.get? a with
  | none => rfl
  | some o => obtain ⟨o', e⟩ := X.there _ _ q; rw [f] at e; cases e
theorem it_list {iter tgt : Expr} {Post : List PV → Sy → Prop} (O : Φ.Ok n) (h : Ev Φ E iter σ fun p σ₁ => ∃ qs, p = .list qs ∧ TgtOk tgt qs ∧ Post qs σ₁) : IterE Φ E iter σ tgt Post := fun b s Q C k =>
  h.run b s _ C fun p σ₁ b₁ h₁ t₁ v hP C₁ X₁ r₁ => by
    obtain ⟨qs, rfl, ht, hP⟩ := hP
    obtain ⟨a, vs, m, rfl, ga, rs⟩ := r₁.listI
    have isL : ∀ (b : Bs) (h : Heap), Sub b₁ b → Sub b h.get? → h.IsList a vs.toArray := fun b h s1 s2 => ⟨_, s2 _ _ (s1 _ _ ga), rfl, m, rfl⟩
    refine wpAny_pyIter_list (isL b₁ h₁ (.refl _) C₁.sub) ?_
    have hk : ∀ c x, h₁.get? c = some x → (h₁.push { cls := .type "list_iterator", data := .fields #[.ref a, .int 0 0] }).get? c = some x := fun c x e => Heap.get?_push_of_some _ e
    refine k qs σ₁ b₁ _ t₁ _ [h₁.objs.size] (fun i h => h.IsListIter h₁.objs.size a i) hP (C₁.keeps hk) (X₁.trans (Ext.keeps hk)) ⟨?_, ?_, ?_, ?_⟩ ⟨_, Heap.get?_push_size _ rfl, rfl, rfl⟩ fun c hc => ?_
    · exact fun i h h' st hh => st.at fun o e => hh _ (.head _) o e
    · intro i p b s Q E hq s1 s2 off _ st kk
      obtain ⟨x, hx, rx⟩ := rs.get hq
      have hne : a ≠ h₁.objs.size := Nat.ne_of_lt (get_lt (C₁.sub _ _ ga))
      refine wpAny_pyNext_list_item st (isL b _ s1 s2) (x := x) (by simpa using hx) fun h' st' sb => ?_
      refine kk x b h' s.toks (rx.mono s1) (.refl b) (fun c o e => SameBut.other sb c o (fun z => by rw [z, off _ (.head _)] at e; cases e) (s2 c o e)) (fun _ _ e => .inl e) (fun c o hc e => SameBut.other sb c o (fun z => hc (z ▸ .head _)) e)
        (fun c hc => by rw [List.mem_singleton.mp hc]; obtain ⟨o, e, _⟩ := st'; exact ⟨o, e⟩) fun Q' E' q => ?_
      rcases ht with ⟨y, yp, rfl⟩ | ⟨⟨elts, kk', tp, rfl⟩, ht⟩
      · exact go_name (q h' (fun _ _ _ e => e) (fun c hc => by rw [List.mem_singleton.mp hc]; obtain ⟨o, e, _⟩ := st'; exact ⟨o, e⟩) st')
      · obtain ⟨ps, rfl⟩ := ht p (List.mem_of_getElem? hq)
        obtain ⟨c, _, _, rfl, _⟩ := rx.tupI
        exact wpAny_letOwnedTupleGo_listiter st' (q h' (fun _ _ _ e => e) (fun c hc => by rw [List.mem_singleton.mp hc]; obtain ⟨o, e, _⟩ := st'; exact ⟨o, e⟩) st')
    · intro b s Q E s1 s2 _ st kk
      refine wpAny_pyNext_list_end O.hh st (isL b _ s1 s2) (by simp [rs.length]) fun h' he => kk h' s.toks (fun c o hc e => he c o (fun z => hc (z ▸ .head _)) e)
    · exact fun b s Q E _ _ _ st q => wpAny_pyIter_listiter st q
    · rw [List.mem_singleton.mp hc]
      exact ⟨.fresh C₁ (fresh_size _) ⟨_, Heap.get?_push_size _ rfl⟩, X₁.fresh (fresh_size _)⟩
/-- a list of the store holds what it held -/
noncomputable def HoldL (P : Params) (a : Addr) (qs : List PV) : Bs → Heap → Prop := fun b h => ∃ vs n, h.get? a = some (listO vs n) ∧ Reps P b qs vs
noncomputable def IterM (Φ : Fx) (E : Value → Shared → Prop) (iter : Expr) (σ : Sy) (tgt : Expr) (Post : Addr → List PV → Sy → Prop) : Prop :=
  ∀ (b : Bs) (s : Shared) (Q : Value → Shared → Prop), Cx Φ σ b s.heap →
    (∀ a qs σ' b' h' tk' I wr St, Post a qs σ' → Cx Φ σ' b' h' → Ext Φ σ σ' b b' s.heap h' → ItrH (HoldL Φ.w.params a qs) Φ b' I wr qs tgt St → St 0 h' → (∀ a ∈ wr, Loose Φ σ' b' h' a ∧ s.heap.get? a = none) → Q (.ref I) { s with heap := h', toks := tk' }) →
    wpAny (model Φ.prog Φ.w) Φ.A (eval iter Φ.env) (fun x s₁ => wpAny (model Φ.prog Φ.w) Φ.A (pyIter x) Q E s₁) E s
/-- a list of the store is walked over, and stays -/
theorem it_listM {x : Str} {xp : Pos} {iter : Expr} {Post : Addr → List PV → Sy → Prop} (O : Φ.Ok n) (h : Ev Φ E iter σ fun p σ₁ => ∃ a qs, p = .ref a ∧ getM a σ₁.st = some (.list qs) ∧ Post a qs σ₁) : IterM Φ E iter σ (.Name x xp) Post := fun b s Q C k =>
  h.run b s _ C fun p σ₁ b₁ h₁ t₁ v hP C₁ X₁ r₁ => by
    obtain ⟨a, qs, rfl, hg, hP⟩ := hP
    obtain rfl := r₁.refI
    obtain ⟨_, ga, vs, m, rfl, rs⟩ := C₁.at hg
    refine wpAny_pyIter_list ⟨_, ga, rfl, m, rfl⟩ ?_
    have hk : ∀ c x, h₁.get? c = some x → (h₁.push { cls := .type "list_iterator", data := .fields #[.ref a, .int 0 0] }).get? c = some x := fun c x e => Heap.get?_push_of_some _ e
    refine k a qs σ₁ b₁ _ t₁ _ [h₁.objs.size] (fun i h => h.IsListIter h₁.objs.size a i) hP (C₁.keeps hk) (X₁.trans (Ext.keeps hk)) ⟨?_, ?_, ?_, ?_⟩ ⟨_, Heap.get?_push_size _ rfl, rfl, rfl⟩ fun c hc => ?_
    · exact fun i h h' st hh => st.at fun o e => hh _ (.head _) o e
    · intro i p b s Q E hq s1 s2 off hold st kk
      obtain ⟨vs, m, ga, rs⟩ := hold
      obtain ⟨x, hx, rx⟩ := rs.get hq
      refine wpAny_pyNext_list_item st ⟨_, ga, rfl, m, rfl⟩ (x := x) (by simpa using hx) fun h' st' sb => ?_
      refine kk x b h' s.toks rx (.refl b) (fun c o e => SameBut.other sb c o (fun z => by rw [z, off _ (.head _)] at e; cases e) (s2 c o e)) (fun _ _ e => .inl e) (fun c o hc e => SameBut.other sb c o (fun z => hc (z ▸ .head _)) e)
        (fun c hc => by rw [List.mem_singleton.mp hc]; obtain ⟨o, e, _⟩ := st'; exact ⟨o, e⟩) fun Q' E' q => ?_
      exact go_name (q h' (fun _ _ _ e => e) (fun c hc => by rw [List.mem_singleton.mp hc]; obtain ⟨o, e, _⟩ := st'; exact ⟨o, e⟩) st')
    · intro b s Q E s1 s2 hold st kk
      obtain ⟨vs, m, ga, rs⟩ := hold
      refine wpAny_pyNext_list_end O.hh st ⟨_, ga, rfl, m, rfl⟩ (by simp [rs.length]) fun h' he => kk h' s.toks (fun c o hc e => he c o (fun z => hc (z ▸ .head _)) e)
    · exact fun b s Q E _ _ _ st q => wpAny_pyIter_listiter st q
    · rw [List.mem_singleton.mp hc]
      exact ⟨.fresh C₁ (fresh_size _) ⟨_, Heap.get?_push_size _ rfl⟩, X₁.fresh (fresh_size _)⟩
theorem it_tuple {iter tgt : Expr} {Post : List PV → Sy → Prop} (O : Φ.Ok n) (h : Ev Φ E iter σ fun p σ₁ => ∃ qs, p = .tup qs ∧ TgtOk tgt qs ∧ Post qs σ₁) : IterE Φ E iter σ tgt Post := fun b s Q C k =>
  h.run b s _ C fun p σ₁ b₁ h₁ t₁ v hP C₁ X₁ r₁ => by
    obtain ⟨qs, rfl, ht, hP⟩ := hP
    obtain ⟨a, vs, m, rfl, ga, rs⟩ := r₁.tupI
    have isL : ∀ (b : Bs) (h : Heap), Sub b₁ b → Sub b h.get? → h.IsTuple a vs.toArray := fun b h s1 s2 => ⟨_, s2 _ _ (s1 _ _ ga), rfl, m, rfl⟩
    refine wpAny_pyIter_tuple (isL b₁ h₁ (.refl _) C₁.sub) ?_
    have hk : ∀ c x, h₁.get? c = some x → (h₁.push { cls := .type "tuple_iterator", data := .fields #[.ref a, .int 0 0] }).get? c = some x := fun c x e => Heap.get?_push_of_some _ e
    refine k qs σ₁ b₁ _ t₁ _ [h₁.objs.size] (fun i h => h.IsTupleIter h₁.objs.size a i) hP (C₁.keeps hk) (X₁.trans (Ext.keeps hk)) ⟨?_, ?_, ?_, ?_⟩ ⟨_, Heap.get?_push_size _ rfl, rfl, rfl⟩ fun c hc => ?_
    · exact fun i h h' st hh => st.at fun o e => hh _ (.head _) o e
    · intro i p b s Q E hq s1 s2 off _ st kk
      obtain ⟨x, hx, rx⟩ := rs.get hq
      refine wpAny_pyNext_tuple_item st (isL b _ s1 s2) (x := x) (by simpa using hx) fun h' st' sb => ?_
      refine kk x b h' s.toks (rx.mono s1) (.refl b) (fun c o e => SameBut.other sb c o (fun z => by rw [z, off _ (.head _)] at e; cases e) (s2 c o e)) (fun _ _ e => .inl e) (fun c o hc e => SameBut.other sb c o (fun z => hc (z ▸ .head _)) e)
        (fun c hc => by rw [List.mem_singleton.mp hc]; obtain ⟨o, e, _⟩ := st'; exact ⟨o, e⟩) fun Q' E' q => ?_
      rcases ht with ⟨y, yp, rfl⟩ | ⟨⟨elts, kk', tp, rfl⟩, ht⟩
      · exact go_name (q h' (fun _ _ _ e => e) (fun c hc => by rw [List.mem_singleton.mp hc]; obtain ⟨o, e, _⟩ := st'; exact ⟨o, e⟩) st')
      · obtain ⟨ps, rfl⟩ := ht p (List.mem_of_getElem? hq)
        obtain ⟨c, _, _, rfl, _⟩ := rx.tupI
        exact letOwnedTupleGo_tupiter st' (q h' (fun _ _ _ e => e) (fun c hc => by rw [List.mem_singleton.mp hc]; obtain ⟨o, e, _⟩ := st'; exact ⟨o, e⟩) st')
    · intro b s Q E s1 s2 _ st kk
      refine wpAny_pyNext_tuple_end O.hh st (isL b _ s1 s2) (by simp [rs.length]) fun h' he => kk h' s.toks (fun c o hc e => he c o (fun z => hc (z ▸ .head _)) e)
    · exact fun b s Q E _ _ _ st q => wpAny_pyIter_tupleiter st q
    · rw [List.mem_singleton.mp hc]
      exact ⟨.fresh C₁ (fresh_size _) ⟨_, Heap.get?_push_size _ rfl⟩, X₁.fresh (fresh_size _)⟩
/-- range(N) -/
theorem it_range {K : Frag} {e : Expr} {p pos : Pos} {x : Str} {xp : Pos} {Post : List PV → Sy → Prop} (O : Φ.Ok n) (tp : Tp Φ.b₀ K) (eg : nsIn K mainGlobals "range" = some none) (hx : Φ.env.kindOf "range" = some .globalImplicit)
    (hv : bootBuiltins "range" = some (.type "range"))
    (h : Ev Φ E e σ fun q σ₁ => ∃ N : Nat, q = .int N ∧ N < 1000000 ∧ Post ((List.range N).map fun i : Nat => .int (i : Int)) σ₁)
    (he : backTo pos (starEach [e] Φ.env) = [(false, eval e Φ.env)] := by rfl) : IterE Φ E (.Call (.Name "range" p) [e] [] pos) σ (.Name x xp) Post := fun b s Q C k => by
  refine wpAny_Call_NameR (name_b O tp C eg hv (by decide) hx ?_)
  rw [he]
  refine PySem.callWith_type rfl (Calls.evalArgs_plain (Calls.spliced_cons (h.run b s _ C fun q σ₁ b₁ h₁ t₁ v hP C₁ X₁ r₁ => Calls.spliced_nil ?_)))
  obtain ⟨N, rfl, hN, hP⟩ := hP
  obtain ⟨t, rfl⟩ := r₁.intI
  refine call_range_1 ?_
  refine wpAny_pyIter_range (IsRange.new ..) (small_one (by decide) (by decide) (by omega) (by omega)) ?_
  have hsz : Builtin.Range.rangeSize 0 N 1 = (N : Int) := by rw [rangeSize_one]; split <;> omega
  have hk : ∀ c x, h₁.get? c = some x → ((h₁.push { cls := .type "range", data := .fields #[.int 0 t₁, .int N t, .int 1 (t₁ + 1)] }).push { cls := .type "range_iterator", data := .fields #[.int 0 0, .int (Builtin.Range.rangeSize 0 N 1) 0, .int 1 0] }).get? c = some x :=
    fun c x e => Heap.get?_push_of_some _ (Heap.get?_push_of_some _ e)
  have f1 : h₁.get? (h₁.push { cls := .type "range", data := .fields #[.int 0 t₁, .int N t, .int 1 (t₁ + 1)] }).objs.size = none := by
    rw [Heap.size_push]; exact Heap.get?_none_of_le (Nat.le_succ _)
  have W := fun (A' : Around) (hA' : A'.handled = none) (I : Addr) => Walks.range (prog := Φ.prog) (w := Φ.w) hA' I 0 1 N
  refine k _ σ₁ b₁ _ _ _ [(h₁.push { cls := .type "range", data := .fields #[.int 0 t₁, .int N t, .int 1 (t₁ + 1)] }).objs.size] (fun i h => IsRangeIter h (h₁.push { cls := .type "range", data := .fields #[.int 0 t₁, .int N t, .int 1 (t₁ + 1)] }).objs.size (0 + (i : Nat) * 1) ((N : Int) - (i : Nat)) 1) hP (C₁.keeps hk) (X₁.trans (Ext.keeps hk)) ⟨?_, ?_, ?_, ?_⟩ ?_ fun c hc => ?_
  · exact fun i h h' st hh => hh _ (.head _) _ st
  · intro i p b s Q E hq s1 s2 off _ st kk
    have hi : i < N := by
      rcases Nat.lt_or_ge i N with h | h
      · exact h
      · rw [List.getElem?_eq_none (by simpa using h)] at hq; cases hq
    have hp : p = .int i := by
      rw [List.getElem?_map, List.getElem?_range hi] at hq
      exact (Option.some.inj hq).symm
    subst hp
    refine (W _ O.hh _).item i s _ _ hi st fun v h' tk' hv st' hk' => ?_
    obtain ⟨tt, rfl⟩ := hv
    have hz : (0 : Int) + (i : Int) * 1 = (i : Int) := by omega
    refine kk _ b h' tk' (by rw [hz]; exact Rep.mkInt) (.refl b) (fun c o e => hk' c o (fun z => by rw [off _ z] at e; cases e) (s2 c o e)) (fun _ _ e => .inl e) (fun c o hc e => hk' c o hc e) (fun c hc => by rw [List.mem_singleton.mp hc]; exact ⟨_, st'⟩) fun Q' E' q =>
      go_name (q h' (fun _ _ _ e => e) (fun c hc => by rw [List.mem_singleton.mp hc]; exact ⟨_, st'⟩) st')
  · intro b s Q E s1 s2 _ st kk
    rw [List.length_map, List.length_range] at st
    exact (W _ O.hh _).done s _ _ st fun h' tk' hk' => kk h' tk' hk'
  · exact fun b s Q E _ _ _ st q => wpAny_pyIter_rangeiter st q
  · have e1 : (0 + ((0 : Nat) : Int) * 1) = 0 := by simp
    have e2 : ((N : Int) - ((0 : Nat) : Int)) = Builtin.Range.rangeSize 0 N 1 := by rw [hsz]; simp
    rw [e1, e2]
    exact Heap.get?_push_size _ rfl
  · rw [List.mem_singleton.mp hc]
    exact ⟨.fresh C₁ f1 ⟨_, Heap.get?_push_size _ rfl⟩, X₁.fresh f1⟩
/-- enumerate over a tuple -/
theorem it_enum {K : Frag} {e : Expr} {p pos tpos : Pos} {elts : List Expr} {kk : Nat} {Post : List PV → Sy → Prop} (O : Φ.Ok n) (tp : Tp Φ.b₀ K) (eg : nsIn K mainGlobals "enumerate" = some none) (hx : Φ.env.kindOf "enumerate" = some .globalImplicit)
    (hv : bootBuiltins "enumerate" = some (.type "enumerate"))
    (h : Ev Φ E e σ fun q σ₁ => ∃ qs : List PV, q = .tup qs ∧ Post (qs.mapIdx fun (i : Nat) q => .tup [.int (i : Int), q]) σ₁)
    (he : backTo pos (starEach [e] Φ.env) = [(false, eval e Φ.env)] := by rfl) : IterE Φ E (.Call (.Name "enumerate" p) [e] [] pos) σ (.Tuple elts kk tpos) Post := fun b s Q C k => by
  refine wpAny_Call_NameR (name_b O tp C eg hv (by decide) hx ?_)
  rw [he]
  refine PySem.callWith_type rfl (Calls.evalArgs_plain (Calls.spliced_cons (h.run b s _ C fun q σ₁ b₁ h₁ t₁ v hP C₁ X₁ r₁ => Calls.spliced_nil ?_)))
  obtain ⟨qs, rfl, hP⟩ := hP
  obtain ⟨a, vs, m, rfl, ga, rs⟩ := r₁.tupI
  refine call_enumerate_tuple (C₁.sub _ _ ga) fun h₂ hE hI hsz hk => ?_
  refine wpAny_pyIter_enum hE ?_
  have isL : ∀ (b : Bs) (h : Heap), Sub b₁ b → Sub b h.get? → h.IsTuple a vs.toArray := fun b h s1 s2 => ⟨_, s2 _ _ (s1 _ _ ga), rfl, m, rfl⟩
  have hlt : a < h₁.objs.size := get_lt (C₁.sub _ _ ga)
  have hne : a ≠ h₁.objs.size := Nat.ne_of_lt hlt
  have hne' : h₁.objs.size + 1 ≠ a := Nat.ne_of_gt (Nat.lt_succ_of_lt hlt)
  have hsn : h₁.objs.size + 1 ≠ h₁.objs.size := Nat.succ_ne_self _
  have f1 : h₁.get? (h₁.objs.size + 1) = none := Heap.get?_none_of_le (Nat.le_succ _)
  have D := Draws.tuple (prog := Φ.prog) (w := Φ.w) (A := Φ.A.in1) O.hh h₁.objs.size a hne vs.toArray
  have hef : h₁.objs.size + 1 ∉ [h₁.objs.size, a] := by
    intro z
    rcases List.mem_cons.mp z with z | z
    · exact hsn z
    · exact hne' (List.mem_singleton.mp z)
  refine k _ σ₁ b₁ h₂ t₁ _ [h₁.objs.size + 1, h₁.objs.size] (fun i h => (∃ old, IsEnum h (h₁.objs.size + 1) h₁.objs.size i old) ∧ h.IsTupleIter h₁.objs.size a i) hP (C₁.keeps hk) (X₁.trans (Ext.keeps hk)) ⟨?_, ?_, ?_, ?_⟩ ⟨⟨_, hE⟩, hI⟩ fun c hc => ?_
  · exact fun i h h' st hh => ⟨let ⟨old, e⟩ := st.1; ⟨old, hh _ (.head _) _ e⟩, st.2.at fun o e => hh _ (.tail _ (.head _)) o e⟩
  · intro i p b s Q E hq s1 s2 off _ st kk
    rw [List.getElem?_mapIdx] at hq
    obtain ⟨q, hq', rfl⟩ := Option.map_eq_some_iff.mp hq
    obtain ⟨x, hx, rx⟩ := rs.get hq'
    have hi : i < vs.toArray.size := by
      rw [List.size_toArray]
      rcases Nat.lt_or_ge i vs.length with h | h
      · exact h
      · rw [List.getElem?_eq_none h] at hx; cases hx
    have hTup := isL b _ s1 s2
    obtain ⟨⟨old, he⟩, hit⟩ := st
    refine wpAny_pyNext_enum_itemD D he ⟨hit, hTup⟩ hi hsn hef fun y h' tk' hy hout st' hT hsz' hk' => ?_
    have : y = x := by rw [List.getElem?_toArray] at hy; rw [hx] at hy; exact (Option.some.inj hy).symm
    subst this
    have fT : s.heap.get? s.heap.objs.size = none := fresh_size _
    have bT : b s.heap.objs.size = none := by
      cases q : b s.heap.objs.size with
      | none => rfl
      | some o => have := s2 _ _ q; rw [fT] at this; cases this
    have sb := ext_sub (o := tupO [.int i tk', y] 0) bT
    have hk2 : ∀ c o, c ∉ [h₁.objs.size + 1, h₁.objs.size] → s.heap.get? c = some o → h'.get? c = some o := fun c o hc e => hk' c o (fun z => hc (z ▸ .head _)) (fun z => hc (z ▸ .tail _ (.head _))) e
    refine kk (.ref s.heap.objs.size) (ext b s.heap.objs.size (tupO [.int i tk', y] 0)) h' (tk' + 1) (Rep.mkTup (ext_at ..) (.cons Rep.mkInt (.cons ((rx.mono s1).mono sb) .nil))) sb (fun c o e => ?_) (fun c o e => ?_) hk2 (fun c hc => ?_) fun Q' E' qq => ?_
    · by_cases z : c = s.heap.objs.size
      · subst z; rw [ext_at] at e; cases e; exact hT
      · rw [ext_ne z] at e
        exact hk2 c o (fun m => by rw [off c m] at e; cases e) (s2 c o e)
    · by_cases z : c = s.heap.objs.size
      · subst z; exact .inr fT
      · rw [ext_ne z] at e; exact .inl e
    · rcases List.mem_cons.mp hc with rfl | hc
      · exact ⟨_, hout⟩
      · rw [List.mem_singleton.mp hc]; obtain ⟨o, e, _⟩ := st'.1; exact ⟨o, e⟩
    · refine wpAny_letOwnedTupleGo_enum hout fun h'' he'' hs'' => ?_
      have kp : ∀ c o, c ≠ h₁.objs.size + 1 → h'.get? c = some o → h''.get? c = some o := fun c o hc e => SameBut.other hs'' c o hc e
      obtain ⟨oi, ei, ri⟩ := st'.1
      have ei' := kp _ _ (Ne.symm hsn) ei
      refine qq h'' (fun c o hc e => kp c o (fun z => hc (z ▸ .head _)) e) (fun c hc => ?_) ⟨⟨_, by simpa using he''⟩, ⟨oi, ei', ri⟩⟩
      rcases List.mem_cons.mp hc with rfl | hc
      · exact ⟨_, he''⟩
      · rw [List.mem_singleton.mp hc]; exact ⟨_, ei'⟩
  · intro b s Q E s1 s2 _ st kk
    rw [List.length_mapIdx] at st
    obtain ⟨⟨old, he⟩, hit⟩ := st
    have hln : vs.toArray.size = qs.length := by rw [List.size_toArray, rs.length]
    refine wpAny_pyNext_enum_endD D he (hln ▸ ⟨hit, isL b _ s1 s2⟩) fun h' hk' => kk h' s.toks fun c o hc e => hk' c o (fun z => hc (z ▸ .tail _ (.head _))) e
  · exact fun b s Q E _ _ _ st q => let ⟨old, e⟩ := st.1; wpAny_pyIter_enum e q
  · rcases List.mem_cons.mp hc with rfl | hc
    · exact ⟨.fresh C₁ f1 ⟨_, hE⟩, X₁.fresh f1⟩
    · rw [List.mem_singleton.mp hc]
      obtain ⟨o, e, _⟩ := hI
      exact ⟨.fresh C₁ (fresh_size _) ⟨o, e⟩, X₁.fresh (fresh_size _)⟩
end
end Mine
end
section
open PySem PySem.W PySem.Spec PySem.Calls PyProof.Rows
namespace Mine
/-! list comprehensions -/
theorem codeAny_compLoop_go {prog : Program} {w : World} {A : Around} {R : Result → Shared → Prop} {s : Shared} {elt target iter : Expr} {ifs : List Expr} {scope : Scope} {pos : Pos} {it acc : Value} {env : Env} (I : Nat → Shared → Prop)
    (turn : ∀ n s, I n s → wpAny (model prog w) A (pyNext it) (fun r s₁ => match r with
      | none => R (.ok .next) s₁
      | some v => wpAny (model prog w) A (letOwnedTupleGo target it v) (fun _ s₁' => wpAny (model prog w) A (assign target env v) (fun _ s₂ =>
          wpAny (model prog w) A (forIn ifs true fun c r => if r = true then do let ok ← isTrue c env (eval c env); pure (ForInStep.yield ok) else pure (ForInStep.yield r)) (fun ok s₃ =>
            if ok = true then wpAny (model prog w) A (eval elt env) (fun x s₄ =>
              wpAny (model prog w) A (call (.builtin "list.append") [acc, x]) (fun _ s₅ => ∃ m, m < n ∧ I m s₅) (notedBy (model prog w) A env fun e s' => R (.error e) s') s₄) (notedBy (model prog w) A env fun e s' => R (.error e) s') s₃
            else ∃ m, m < n ∧ I m s₃) (notedBy (model prog w) A env fun e s' => R (.error e) s') s₂) (notedBy (model prog w) A env fun e s' => R (.error e) s') s₁') (notedBy (model prog w) A env fun e s' => R (.error e) s') s₁) (notedBy (model prog w) A env fun e s' => R (.error e) s') s)
    (n : Nat) (h : I n s) :
    codeAny (model prog w) A (.compLoop (.ListComp elt [⟨target, iter, ifs, 0⟩] scope pos) 0 it acc env) R s := by
  refine codeAny_loop rfl I (fun n s hI => ?_) n h
  show wpAny _ A ((compTurn (.ListComp elt [⟨target, iter, ifs, 0⟩] scope pos) 0 it acc env).onRaise (fun x => do noteFrame x env; theTreesLotGoes x)) _ _ s
  refine wpAny_noted ?_
  rw [compTurn_list]
  refine wpAny_bind (wpAny_standAt (wpAny_bind (wpAny_mono (turn n s hI) (fun r s₁ h₁ => ?_) fun _ _ h' => h')))
  cases r with
  | none => exact wpAny_pure h₁
  | some v =>
    refine wpAny_bind (wpAny_mono h₁ (fun _ s₁' h₁ => ?_) fun _ _ h' => h')
    refine wpAny_bind (wpAny_mono h₁ (fun _ s₂ h₂ => wpAny_bind (wpAny_mono h₂ (fun ok s₃ h₃ => ?_) fun _ _ h' => h')) fun _ _ h' => h')
    cases ok with
    | false => exact wpAny_pure ⟨rfl, h₃⟩
    | true =>
      exact wpAny_bind (wpAny_bind (wpAny_mono h₃ (fun x s₄ h₄ => wpAny_bind (wpAny_mono h₄ (fun _ s₅ h₅ => wpAny_pure (wpAny_pure ⟨rfl, h₅⟩)) fun _ _ h' => h')) fun _ _ h' => h'))
noncomputable abbrev TestsT (Φ : Fx) (E : Value → Shared → Prop) (ifs : List Expr) (σ : Sy) (Post : Bool → Sy → Prop) : Prop :=
  T Φ E (forIn ifs true fun c r => if r = true then do let ok ← isTrue c Φ.env (eval c Φ.env); pure (ForInStep.yield ok) else pure (ForInStep.yield r)) RB σ Post
/-- the comprehension's own activation -/
noncomputable abbrev fxC (Φ : Fx) (scope : Scope) (cl : List (Str × Addr)) (C : Addr) : Fx := { Φ with env := compEnvC scope cl C Φ.env }
section
variable {Φ : Fx} {E : Value → Shared → Prop} {σ : Sy} {n : Nat}
theorem tests_nil {Post : Bool → Sy → Prop} (q : Post true σ) : TestsT Φ E [] σ Post := T.mk fun b s Q C k => wpAny_pure (k true σ b s.heap s.toks true q C .refl rfl)
theorem tests_one {e : Expr} {Post : Bool → Sy → Prop} (h : Te Φ E e σ Post) : TestsT Φ E [e] σ Post := T.mk fun b s Q C k => by
  show wpAny _ _ (forIn [e] true _) _ _ _
  rw [List.forIn_cons]
  refine wpAny_bind ?_
  rw [if_pos rfl]
  refine wpAny_bind (h.run b s _ C fun p σ₁ b₁ h₁ t₁ v hP C₁ X₁ r₁ => wpAny_pure ?_)
  exact wpAny_pure (k p σ₁ b₁ h₁ t₁ v hP C₁ X₁ r₁)
/-- what a comprehension's scope takes from around it -/
structure Caps (Φ : Fx) (scope : Scope) (cl : List (Str × Addr)) (fe : List (Str × PV)) : Prop where
  at_ : ∀ x c, (x, c) ∈ cl → Φ.env.cells.lookup x = some c
  nd : (cl.map (·.2)).Nodup
  out : ∀ C x p, fe.lookup x = some p → ∃ c, cl.lookup x = some c ∧ ((compEnvC scope cl C Φ.env).kindOf x = some .cell ∨ (compEnvC scope cl C Φ.env).kindOf x = some .free) ∧ (Φ.env.kindOf x = some .cell ∨ Φ.env.kindOf x = some .free)
  kind : scope.kind = .function
variable {scope : Scope} {cl : List (Str × Addr)} {fe : List (Str × PV)}
theorem Caps.ok (K : Caps Φ scope cl fe) (O : Φ.Ok n) (C : Addr) : (fxC Φ scope cl C).Ok n := ⟨K.kind, O.glob, O.blt, O.hh, O.fr, O.depth, O.units, K.nd⟩
theorem Caps.inner {e : List (Str × PV)} {st : List (Addr × MO)} {b : Bs} {h : Heap} {C : Addr} {m : Str → Option Value} (K : Caps Φ scope cl fe) (X : Cx Φ ⟨e, st⟩ b h) (hN : h.Ns C m) (lo : Loose Φ ⟨e, st⟩ b h C)
    (hfe : ∀ x p, fe.lookup x = some p → e.lookup x = some p) : Cx (fxC Φ scope cl C) ⟨fe, st⟩ b h := by
  refine ⟨X.sub, X.low, ⟨m, hN, fun x p hx => ?_⟩, fun x c hx => X.cells x c (mem_of_lookup (K.at_ x c hx)), lo.off, fun q hq => ?_, X.nd, X.ff, X.glob⟩
  · obtain ⟨c, hc, hk, hk'⟩ := K.out C x p hx
    obtain ⟨m', hN', hv⟩ := X.ns
    rcases hv x p (hfe x p hx) with ⟨k, _⟩ | ⟨k, c', v, e1, i, r⟩
    · rcases hk' with z | z <;> (rw [k] at z; cases z)
    · have : c' = c := by
        have := K.at_ x c (mem_of_lookup hc)
        rw [e1] at this; exact Option.some.inj this
      subst this
      exact .inr ⟨hk, c', v, hc, i, r⟩
  · obtain ⟨e1, e2, e3, e4⟩ := X.st q hq
    refine ⟨e1, e2, fun z => ?_, e4⟩
    rcases z with z | ⟨x, hx⟩
    · exact lo.nd ((show q.1 = C from z) ▸ List.mem_map_of_mem hq)
    · exact e3 (.inr ⟨x, mem_of_lookup (K.at_ x _ hx)⟩)
theorem Caps.outer {e ec : List (Str × PV)} {st st' : List (Addr × MO)} {b b' bS : Bs} {h h' hS : Heap} {C : Addr} (K : Caps Φ scope cl fe) (O : Φ.Ok n) (X : Cx Φ ⟨e, st⟩ b h) (lo : Loose Φ ⟨e, st⟩ b h C)
    (hcap : ∀ x c, (x, c) ∈ cl → ∀ p, e.lookup x = some p → fe.lookup x = some p) (hec : ∀ x p, fe.lookup x = some p → ec.lookup x = some p) {ec₀ : List (Str × PV)}
    (C' : Cx (fxC Φ scope cl C) ⟨ec, st'⟩ b' h') (Y : Ext (fxC Φ scope cl C) ⟨ec₀, st⟩ ⟨ec, st'⟩ b b' h h') (XS : Ext Φ σ ⟨e, st⟩ bS b hS h) (fC : hS.get? C = none) :
    Cx Φ ⟨e, st'⟩ b' h' ∧ Ext Φ σ ⟨e, st'⟩ bS b' hS h' := by
  obtain ⟨m, hN, hv⟩ := X.ns
  obtain ⟨oL, esL, epL, gL, dL, kL⟩ := id hN
  have capd : ∀ a, (∃ x, (x, a) ∈ cl) → ∃ y, (y, a) ∈ Φ.env.cells := fun a ⟨x, hx⟩ => ⟨x, mem_of_lookup (K.at_ x a hx)⟩
  have np : ∀ a, a ≠ C → ¬ (∃ x, (x, a) ∈ cl) → ¬ priv (fxC Φ scope cl C).env a := fun a h1 h2 z => by
    rcases z with z | z
    · exact h1 z
    · exact h2 z
  have nL : ¬ (∃ x, (x, Φ.env.locals) ∈ cl) := fun z => by
    obtain ⟨y, hy⟩ := capd _ z
    obtain ⟨⟨ov, o, e1, d⟩, _⟩ := X.cells y _ hy
    rw [gL] at e1; cases e1; rw [dL] at d; cases d
  have LC : Φ.env.locals ≠ C := fun z => lo.np (.inl z.symm)
  have privd : ∀ a, priv Φ.env a → ¬ dom (⟨ec₀, st⟩ : Sy) a := fun a p d => (X.domb (show dom ⟨e, st⟩ a from d)).2.1 p
  have keep : ∀ a o, priv Φ.env a → a ≠ C → ¬ (∃ x, (x, a) ∈ cl) → h.get? a = some o → ∃ sl, h'.get? a = some { o with slots := sl } := fun a o hp h1 h2 e1 => (Y.keep a o e1 (np a h1 h2) (privd a hp)).1
  have cC : ∀ x c, (x, c) ∈ Φ.env.cells → c ≠ C := fun x c hx z => lo.np (z ▸ .inr ⟨x, hx⟩)
  have boff : ∀ a, priv Φ.env a → b a = none → b' a = none := fun a hp hb => by
    cases q : b' a with
    | none => rfl
    | some o =>
      rcases Y.new a o q with z | z | z
      · rw [hb] at z; cases z
      · obtain ⟨o', e'⟩ := X.notpriv hp; rw [e'] at z; cases z
      · exact absurd z (privd a hp)
  refine ⟨⟨C'.sub, C'.low, ⟨m, Ns.slots hN fun o e1 => keep _ o (.inl rfl) LC nL e1, fun x p hx => ?_⟩, fun x c hx => ?_, boff _ (.inl rfl) X.Lb, fun q hq => ?_, C'.nd, C'.ff, C'.glob⟩, ⟨XS.sub.trans Y.sub, fun a o e1 => ?_, fun a o e1 hp hd => ?_, fun a hd => ?_, fun a o e1 => ?_⟩⟩
  · rcases hv x p hx with ⟨k, v, e1, r⟩ | ⟨k, c, v, e1, i, r⟩
    · exact .inl ⟨k, v, e1, r.mono Y.sub⟩
    · by_cases hc : ∃ y, (y, c) ∈ cl
      · obtain ⟨y, hy⟩ := hc
        have : y = x := cell_inj O.cnd (mem_of_lookup (K.at_ y c hy)) (mem_of_lookup e1)
        subst this
        have hfx := hcap y c hy p hx
        obtain ⟨c', hc', hk', _⟩ := K.out C y p hfx
        have hcc : c' = c := by
          have := K.at_ y c' (mem_of_lookup hc'); rw [e1] at this; exact (Option.some.inj this).symm
        subst hcc
        obtain ⟨m', _, hv'⟩ := C'.ns
        rcases hv' y p (hec y p hfx) with ⟨k2, _⟩ | ⟨k2, c2, v2, e2, i2, r2⟩
        · rcases hk' with z | z <;> (rw [show (fxC Φ scope cl C).env.kindOf y = _ from z] at k2; cases k2)
        · rw [show (fxC Φ scope cl C).env.cells.lookup y = some c' from hc'] at e2
          cases e2
          exact .inr ⟨k, c', v2, e1, i2, r2⟩
      · have hmem := mem_of_lookup e1
        exact .inr ⟨k, c, v, e1, IsCell.slots i fun o e2 => keep c o (.inr ⟨x, hmem⟩) (cC x c hmem) hc e2, r.mono Y.sub⟩
  · obtain ⟨⟨ov, i⟩, nb⟩ := X.cells x c hx
    refine ⟨?_, boff c (.inr ⟨x, hx⟩) nb⟩
    by_cases hc : ∃ y, (y, c) ∈ cl
    · obtain ⟨y, hy⟩ := hc
      exact (C'.cells y c hy).1
    · exact ⟨ov, IsCell.slots i fun o e2 => keep c o (.inr ⟨x, hx⟩) (cC x c hx) hc e2⟩
  · obtain ⟨e1, e2, _, e4⟩ := C'.st q hq
    refine ⟨e1, e2, fun z => ?_, e4⟩
    rcases Y.dom q.1 (List.mem_map_of_mem hq) with y | y
    · exact privd _ z y
    · obtain ⟨o, e'⟩ := X.notpriv z
      rw [e'] at y; cases y
  · rcases Y.new a o e1 with z | z | z
    · exact XS.new a o z
    · exact .inr (.inl (XS.fresh z))
    · rcases XS.dom a z with y | y
      · exact .inr (.inr y)
      · exact .inr (.inl y)
  · obtain ⟨⟨sl, k1⟩, k2⟩ := XS.keep a o e1 hp hd
    have nC : a ≠ C := fun z => by rw [z, fC] at e1; cases e1
    have nc : ¬ ∃ x, (x, a) ∈ cl := fun z => by obtain ⟨y, hy⟩ := capd a z; exact hp (.inr ⟨y, hy⟩)
    have nd : ¬ dom (⟨ec₀, st⟩ : Sy) a := fun z => by
      rcases XS.dom a z with y | y
      · exact hd y
      · rw [e1] at y; cases y
    obtain ⟨⟨sl', k3⟩, _⟩ := Y.keep a _ k1 (np a nC nc) nd
    exact ⟨⟨sl', k3⟩, fun f => (Y.keep a o (k2 f) (np a nC nc) nd).2 f⟩
  · rcases Y.dom a hd with z | z
    · exact XS.dom a z
    · exact .inr (XS.fresh z)
  · obtain ⟨o', e'⟩ := XS.there a o e1
    exact Y.there a o' e'
/-- what each turn of a comprehension does -/
noncomputable abbrev CompTurns (n : Nat) (Φ : Fx) (scope : Scope) (cl : List (Str × Addr)) (fe : List (Str × PV)) (tgt elt : Expr) (ifs : List Expr) (qs : List PV) (Inv : Nat → List PV → List (Addr × MO) → Prop) : Prop :=
  ∀ (C : Addr) (E' : Value → Shared → Prop) i p acc st, (fxC Φ scope cl C).Ok n → qs[i]? = some p → Inv i acc st → AsgT (fxC Φ scope cl C) E' tgt p ⟨fe, st⟩ fun σ₂ => TestsT (fxC Φ scope cl C) E' ifs σ₂ fun ok σ₃ =>
    (ok = false → Inv (i + 1) acc σ₃.st ∧ ∀ x p, fe.lookup x = some p → σ₃.env.lookup x = some p) ∧
    (ok = true → Ev (fxC Φ scope cl C) E' elt σ₃ fun r σ₄ => Inv (i + 1) (acc ++ [r]) σ₄.st ∧ ∀ x p, fe.lookup x = some p → σ₄.env.lookup x = some p)
theorem Loose.inC {σ₁ σ₂ : Sy} {b : Bs} {h : Heap} {a C : Addr} (K : Caps Φ scope cl fe) (l : Loose Φ σ₁ b h a) (hne : a ≠ C) (hst : σ₂.st = σ₁.st) : Loose (fxC Φ scope cl C) σ₂ b h a :=
  ⟨l.off, fun z => by
    rcases z with z | ⟨x, hx⟩
    · exact hne z
    · exact l.np (.inr ⟨x, mem_of_lookup (K.at_ x a hx)⟩), fun d => l.nd (by unfold dom at d ⊢; rw [← hst]; exact d), l.nf, l.there⟩
theorem Loose.outC {σ₁ σ₂ : Sy} {b : Bs} {h : Heap} {a C : Addr} (l : Loose (fxC Φ scope cl C) σ₁ b h a) (np : ¬ priv Φ.env a) (hst : σ₂.st = σ₁.st) : Loose Φ σ₂ b h a :=
  ⟨l.off, np, fun d => l.nd (by unfold dom at d ⊢; rw [← hst]; exact d), l.nf, l.there⟩
set_option maxHeartbeats 1000000 in
theorem comp_core {elt tgt iter : Expr} {ifs : List Expr} {pos : Pos} {e : List (Str × PV)} {st : List (Addr × MO)} {bS b₂ : Bs} {hS : Heap} {s₂ : Shared} {I : Addr} {wr : List Addr} {qs : List PV} {St : Nat → Heap → Prop} {Inv : Nat → List PV → List (Addr × MO) → Prop} {RR : Value → Addr → Result → Shared → Prop}
    (K : Caps Φ scope cl fe) (O : Φ.Ok n) (hcell : ∀ y ∈ scope.names, y.2 ≠ .cell)
    (C₂ : Cx Φ ⟨e, st⟩ b₂ s₂.heap) (XS : Ext Φ σ ⟨e, st⟩ bS b₂ hS s₂.heap) {Hold : Bs → Heap → Prop} (it : ItrH Hold Φ b₂ I wr qs tgt St) (hold : ∀ i acc st b h, Inv i acc st → Cx Φ ⟨e, st⟩ b h → Hold b h) (st₀ : St 0 s₂.heap) (lo : ∀ a ∈ wr, Loose Φ ⟨e, st⟩ b₂ s₂.heap a ∧ hS.get? a = none)
    (hfe : ∀ x p, fe.lookup x = some p → e.lookup x = some p) (hcap : ∀ x c, (x, c) ∈ cl → ∀ p, e.lookup x = some p → fe.lookup x = some p) (hsz : ∀ i acc st, Inv i acc st → acc.length ≤ sizeLine)
    (h0 : Inv 0 [] st) (turn : CompTurns n Φ scope cl fe tgt elt ifs qs Inv)
    (hRR : ∀ D C st' b' h' tk' acc ys nn m, Inv qs.length acc st' → Cx Φ ⟨e, st'⟩ b' h' → Ext Φ σ ⟨e, st'⟩ bS b' hS h' → h'.get? D = some (listO ys nn) → Reps Φ.w.params b' acc ys → Loose Φ ⟨e, st'⟩ b' h' D → Loose Φ ⟨e, st'⟩ b' h' C → D ≠ C → hS.get? D = none → hS.get? C = none → h'.Ns C m →
      RR (.ref D) C (.ok .next) { s₂ with heap := h', toks := tk' }) :
    wpAny (model Φ.prog Φ.w) Φ.A (newList []) (fun acc s₃ => wpAny (model Φ.prog Φ.w) Φ.A (newFunctionEnv scope Φ.env.globals cl [] Φ.env.qual none .none (some Φ.env)) (fun cenv s₄ =>
      codeAny (model Φ.prog Φ.w) Φ.A (.compStart (.ListComp elt [⟨tgt, iter, ifs, 0⟩] scope pos) 0 (.ref I) acc { cenv with scope := relabel scope Φ.env }) (RR acc cenv.locals) s₄) E s₃) E s₂ := by
  refine wpAny_newObj_type (wpAny_newFunctionEnv hcell (by intro y hy; simp at hy) (fun h₁ hns₁ hsb₁ => ?_) K.kind)
  dsimp only at hns₁ hsb₁ ⊢
  generalize hH2 : s₂.heap.push { cls := .type "list", dict := none, data := .seq ([] : List Value).toArray } = H2 at hns₁ hsb₁ ⊢
  have hC : H2.objs.size = s₂.heap.objs.size + 1 := by rw [← hH2, Heap.size_push]
  have hDC : s₂.heap.objs.size ≠ H2.objs.size := by rw [hC]; exact Nat.ne_of_lt (Nat.lt_succ_self _)
  have old : ∀ a o, s₂.heap.get? a = some o → h₁.get? a = some o := fun a o e => hsb₁.extBut a o (by rw [hC]; exact Nat.ne_of_lt (Nat.lt_succ_of_lt (get_lt e))) (Heap.get?_push_of_some _ (hH2 ▸ Heap.get?_push_of_some _ e))
  have hacc : h₁.get? s₂.heap.objs.size = some (listO [] 0) := hsb₁.extBut _ _ hDC (Heap.get?_push_of_some _ (hH2 ▸ Heap.get?_push_size _ rfl))
  have fD : s₂.heap.get? s₂.heap.objs.size = none := fresh_size _
  have fC : s₂.heap.get? H2.objs.size = none := by rw [hC]; exact Heap.get?_none_of_le (Nat.le_succ _)
  generalize hDD : s₂.heap.objs.size = D at *
  generalize hCC : H2.objs.size = C at *
  have nDw : D ∉ wr := fun z => by obtain ⟨o, e1⟩ := (lo D z).1.there; rw [fD] at e1; cases e1
  have nCw : C ∉ wr := fun z => by obtain ⟨o, e1⟩ := (lo C z).1.there; rw [fC] at e1; cases e1
  have fresh : ∀ a ∈ wr, hS.get? a = none := fun a ha => (lo a ha).2
  have tC : ∃ o, h₁.get? C = some o := by obtain ⟨o, _, _, e1, _⟩ := hns₁; exact ⟨o, e1⟩
  have loop : ∀ tk, codeAny (model Φ.prog Φ.w) Φ.A (.compLoop (.ListComp elt [⟨tgt, iter, ifs, 0⟩] scope pos) 0 (.ref I) (.ref D) (compEnvC scope cl C Φ.env)) (RR (.ref D) C) { s₂ with heap := h₁, toks := tk } := by
    intro tk
    refine codeAny_compLoop_go
      (fun m s' => ∃ i acc st' b' h' tk' ys nn mm, s' = { s₂ with heap := h', toks := tk' } ∧ m + i = qs.length ∧ Inv i acc st' ∧ Cx Φ ⟨e, st'⟩ b' h' ∧ Ext Φ σ ⟨e, st'⟩ bS b' hS h' ∧ Sub b₂ b' ∧ St i h' ∧ (∀ a ∈ wr, Loose Φ ⟨e, st'⟩ b' h' a) ∧
        h'.get? D = some (listO ys nn) ∧ Reps Φ.w.params b' acc ys ∧ Loose Φ ⟨e, st'⟩ b' h' D ∧ Loose Φ ⟨e, st'⟩ b' h' C ∧ h'.Ns C mm) ?_ qs.length
      ⟨0, [], st, b₂, h₁, tk, [], 0, _, rfl, rfl, h0, C₂.keeps old, XS.trans (Ext.keeps old), .refl b₂, it.frame _ _ _ st₀ fun a _ o e => old a o e, fun a ha => (lo a ha).1.ext (Ext.keeps old), hacc, .nil, .fresh C₂ fD ⟨_, hacc⟩, .fresh C₂ fC tC, hns₁⟩
    rintro m s' ⟨i, acc, st', b', h', tk', ys, nn, mm, rfl, hm, hI, C', X', sb, stI, lo', gD, rD, lD, lC, nsC⟩
    cases hq : qs[i]? with
    | none =>
      have : i = qs.length := by have := List.getElem?_eq_none_iff.mp hq; omega
      subst this
      refine it.done b' _ _ _ sb C'.sub (hold _ _ _ _ _ hI C') stI fun h'' tk'' hk => ?_
      have hs' : Sub b' h''.get? := fun a o e => hk a o (fun z => by rw [(lo' a z).off] at e; cases e) (C'.sub a o e)
      have C'' := C'.wr lo' hk (.refl b') hs' fun _ _ e => .inl e
      have X'' := X'.wr fresh hk (.refl b') fun _ _ e => .inl e
      have gD' := hk D _ nDw gD
      obtain ⟨oC, esC, epC, eC, rC⟩ := nsC
      have eC' := hk C _ nCw eC
      exact hRR D C st' b' h'' tk'' acc ys nn mm hI C'' X'' gD' rD ⟨lD.off, lD.np, lD.nd, lD.nf, ⟨_, gD'⟩⟩ ⟨lC.off, lC.np, lC.nd, lC.nf, ⟨_, eC'⟩⟩ hDC (XS.fresh fD) (XS.fresh fC) ⟨oC, esC, epC, eC', rC⟩
    | some p =>
      have hlt : i < qs.length := by
        rcases Nat.lt_or_ge i qs.length with h | h
        · exact h
        · rw [List.getElem?_eq_none h] at hq; cases hq
      refine it.item i p b' _ _ _ hq sb C'.sub (fun a ha => (lo' a ha).off) (hold _ _ _ _ _ hI C') stI fun v b₃ h₂ t₂ rv sb₂ sh₂ nw₂ hk₂ wt₂ go => ?_
      refine go _ _ fun h₃ hk₃ wt₃ st₃ => ?_
      have hk : ∀ a o, a ∉ wr → h'.get? a = some o → h₃.get? a = some o := fun a o z e => hk₃ a o z (hk₂ a o z e)
      have off₂ : ∀ a, (∃ o, h'.get? a = some o) → b' a = none → b₃ a = none := fun a ⟨x, e⟩ n => by
        cases q : b₃ a with
        | none => rfl
        | some o => rcases nw₂ a o q with z | z
                    · rw [n] at z; cases z
                    · rw [e] at z; cases z
      have sh₃ : Sub b₃ h₃.get? := fun a o e => hk₃ a o (fun z => by rw [off₂ a (lo' a z).there (lo' a z).off] at e; cases e) (sh₂ a o e)
      have C₃ := C'.wr lo' hk sb₂ sh₃ nw₂
      have X₃ := X'.wr fresh hk sb₂ nw₂
      have lo₃ : ∀ a ∈ wr, Loose Φ ⟨e, st'⟩ b₃ h₃ a := fun a ha => ⟨off₂ a (lo' a ha).there (lo' a ha).off, (lo' a ha).np, (lo' a ha).nd, (lo' a ha).nf, wt₃ a ha⟩
      have gD₃ := hk D _ nDw gD
      obtain ⟨oC, esC, epC, eC, rC⟩ := nsC
      have eC' := hk C _ nCw eC
      have lD₃ : Loose Φ ⟨e, st'⟩ b₃ h₃ D := ⟨off₂ D lD.there lD.off, lD.np, lD.nd, lD.nf, ⟨_, gD₃⟩⟩
      have lC₃ : Loose Φ ⟨e, st'⟩ b₃ h₃ C := ⟨off₂ C lC.there lC.off, lC.np, lC.nd, lC.nf, ⟨_, eC'⟩⟩
      have Ci := K.inner C₃ ⟨oC, esC, epC, eC', rC⟩ lC₃ hfe
      have aft : ∀ (i' : Nat) (σ₅ : Sy) (b₅ : Bs) (h₅ : Heap), Cx (fxC Φ scope cl C) σ₅ b₅ h₅ → Ext (fxC Φ scope cl C) ⟨fe, st'⟩ σ₅ b₃ b₅ h₃ h₅ → (∀ x p, fe.lookup x = some p → σ₅.env.lookup x = some p) →
          Cx Φ ⟨e, σ₅.st⟩ b₅ h₅ ∧ Ext Φ σ ⟨e, σ₅.st⟩ bS b₅ hS h₅ ∧ Sub b₂ b₅ ∧ St (i + 1) h₅ ∧ (∀ a ∈ wr, Loose Φ ⟨e, σ₅.st⟩ b₅ h₅ a) ∧ h₅.get? D = some (listO ys nn) ∧ Reps Φ.w.params b₅ acc ys ∧ Loose Φ ⟨e, σ₅.st⟩ b₅ h₅ D ∧ Loose Φ ⟨e, σ₅.st⟩ b₅ h₅ C ∧ ∃ mm, h₅.Ns C mm := by
        intro _ σ₅ b₅ h₅ C₅ Y hec
        obtain ⟨ec, st5⟩ := σ₅
        obtain ⟨Co, Xo⟩ := K.outer O C₃ lC₃ hcap hec C₅ Y X₃ (XS.fresh fC)
        have inn : ∀ a, a ≠ C → Loose Φ ⟨e, st'⟩ b₃ h₃ a → Loose (fxC Φ scope cl C) ⟨fe, st'⟩ b₃ h₃ a := fun a hne l => l.inC K hne rfl
        have wC : ∀ a ∈ wr, a ≠ C := fun a ha z => nCw (z ▸ ha)
        obtain ⟨m5, hN5, _⟩ := C₅.ns
        refine ⟨Co, Xo, (sb.trans sb₂).trans Y.sub, it.frame _ _ _ st₃ fun a ha o e => ?_, fun a ha => ((inn a (wC a ha) (lo₃ a ha)).ext Y).outC (lo₃ a ha).np rfl, ?_, rD.mono (sb₂.trans Y.sub), ((inn D hDC lD₃).ext Y).outC lD₃.np rfl, ?_, m5, hN5⟩
        · have l := inn a (wC a ha) (lo₃ a ha)
          exact (Y.keep a o e l.np l.nd).2 l.nf
        · have l := inn D hDC lD₃
          exact (Y.keep D _ gD₃ l.np l.nd).2 l.nf
        · refine ⟨C₅.Lb, lC.np, fun d => (C₅.domb (show dom ⟨ec, st5⟩ C from d)).2.1 (.inl rfl), lC.nf, ?_⟩
          obtain ⟨o, _, _, e1, _⟩ := hN5
          exact ⟨o, e1⟩
      refine turn C _ i p acc st' (K.ok O C) hq hI b₃ _ v _ Ci (rv) fun σ₄ b₄ h₄ t₄ hb C₄ X₄ => ?_
      refine hb.run b₄ _ _ C₄ fun ok σ₅ b₅ h₅ t₅ fl hP C₅ X₅ rf => ?_
      cases rf
      cases ok with
      | false =>
        obtain ⟨hI', hec⟩ := hP.1 rfl
        obtain ⟨a1, a2, a3, a4, a5, a6, a7, a8, a9, mm5, a10⟩ := aft i σ₅ b₅ h₅ C₅ (X₄.trans X₅) hec
        exact ⟨m - 1, by omega, i + 1, acc, σ₅.st, b₅, h₅, t₅, ys, nn, mm5, rfl, by omega, hI', a1, a2, a3, a4, a5, a6, a7, a8, a9, a10⟩
      | true =>
        refine (hP.2 rfl).run b₅ _ _ C₅ fun r σ₆ b₆ h₆ t₆ rv₆ hP₆ C₆ X₆ r₆ => ?_
        obtain ⟨hI', hec⟩ := hP₆
        obtain ⟨a1, a2, a3, a4, a5, a6, a7, a8, a9, mm5, a10⟩ := aft i σ₆ b₆ h₆ C₆ ((X₄.trans X₅).trans X₆) hec
        have hys : ys.length ≤ sizeLine := by rw [rD.length]; exact hsz _ _ _ hI
        refine wpAny_list_append_plain (items := ys.toArray) ⟨nn, a6⟩ (fun h₇ hpl hs₇ => ?_) (by simpa using hys)
        obtain ⟨n7, g7⟩ := hpl
        have g7' : h₇.get? D = some (listO (ys ++ [rv₆]) n7) := by rw [g7]; simp
        have hk7 : ∀ a o, a ∉ [D] → h₆.get? a = some o → h₇.get? a = some o := fun a o hn e => SameBut.other hs₇ a o (fun z => hn (z ▸ .head _)) e
        have lo7 : ∀ a ∈ [D], Loose Φ ⟨e, σ₆.st⟩ b₆ h₆ a := fun a ha => by rw [List.mem_singleton.mp ha]; exact a8
        have s7 : Sub b₆ h₇.get? := fun a o e => hk7 a o (fun z => by rw [(lo7 a z).off] at e; cases e) (a1.sub a o e)
        have C7 := a1.wr lo7 hk7 (.refl b₆) s7 fun _ _ e => .inl e
        have X7 := a2.wr (fun a ha => by rw [List.mem_singleton.mp ha]; exact XS.fresh fD) hk7 (.refl b₆) fun _ _ e => .inl e
        have mv : ∀ a, a ≠ D → Loose Φ ⟨e, σ₆.st⟩ b₆ h₆ a → Loose Φ ⟨e, σ₆.st⟩ b₆ h₇ a := fun a hne l => by
          obtain ⟨o, e1⟩ := l.there
          exact ⟨l.off, l.np, l.nd, l.nf, ⟨o, hk7 a o (fun z => hne (List.mem_singleton.mp z)) e1⟩⟩
        have nsC7 : h₇.Ns C mm5 := a10.sameBut hs₇ (Ne.symm hDC)
        exact ⟨m - 1, by omega, i + 1, acc ++ [r], σ₆.st, b₆, h₇, t₆, _, n7, mm5, rfl, by omega, hI', C7, X7, a3, it.frame _ _ _ a4 fun a ha o e => hk7 a o (fun z => nDw (List.mem_singleton.mp z ▸ ha)) e,
          fun a ha => mv a (fun z => nDw (z ▸ ha)) (a5 a ha), g7', a7.append (.cons r₆ .nil), ⟨a8.off, a8.np, a8.nd, a8.nf, ⟨_, g7'⟩⟩, mv C (Ne.symm hDC) a9, nsC7⟩
  exact codeAny_compStart_list (loop _) (it.self b₂ _ _ _ (.refl _) (C₂.keeps old).sub (hold _ _ _ _ _ h0 (C₂.keeps old)) (it.frame _ _ _ st₀ fun a _ o e => old a o e) (loop _))
end
end Mine
end
section
open PySem PySem.W PySem.Spec PySem.Calls PyProof.Rows
namespace Mine
section
variable {Φ : Fx} {E : Value → Shared → Prop} {σ : Sy} {n : Nat} {scope : Scope} {cl : List (Str × Addr)} {fe : List (Str × PV)}
/-- the turns of a comprehension, from its source on -/
noncomputable abbrev CompAll (n : Nat) (Φ : Fx) (E : Value → Shared → Prop) (scope : Scope) (cl : List (Str × Addr)) (fe : List (Str × PV)) (iter tgt elt : Expr) (ifs : List Expr) (σ : Sy) (Post : List PV → Sy → Prop) : Prop :=
  IterE Φ E iter σ tgt fun qs σ₁ => (∀ x p, fe.lookup x = some p → σ₁.env.lookup x = some p) ∧ (∀ x c, (x, c) ∈ cl → ∀ p, σ₁.env.lookup x = some p → fe.lookup x = some p) ∧
    ∃ Inv : Nat → List PV → List (Addr × MO) → Prop, (∀ i acc st, Inv i acc st → acc.length ≤ sizeLine) ∧ Inv 0 [] σ₁.st ∧ CompTurns n Φ scope cl fe tgt elt ifs qs Inv ∧ ∀ acc st, Inv qs.length acc st → Post acc ⟨σ₁.env, st⟩
noncomputable abbrev CompAllM (n : Nat) (Φ : Fx) (E : Value → Shared → Prop) (scope : Scope) (cl : List (Str × Addr)) (fe : List (Str × PV)) (iter tgt elt : Expr) (ifs : List Expr) (σ : Sy) (Post : List PV → Sy → Prop) : Prop :=
  IterM Φ E iter σ tgt fun a qs σ₁ => (∀ x p, fe.lookup x = some p → σ₁.env.lookup x = some p) ∧ (∀ x c, (x, c) ∈ cl → ∀ p, σ₁.env.lookup x = some p → fe.lookup x = some p) ∧
    ∃ Inv : Nat → List PV → List (Addr × MO) → Prop, (∀ i acc st, Inv i acc st → acc.length ≤ sizeLine) ∧ (∀ i acc st, Inv i acc st → getM a st = some (.list qs)) ∧ Inv 0 [] σ₁.st ∧ CompTurns n Φ scope cl fe tgt elt ifs qs Inv ∧ ∀ acc st, Inv qs.length acc st → Post acc ⟨σ₁.env, st⟩
/-- freeze a loose list -/
theorem Cx.freezeL {bS b : Bs} {hS h : Heap} {D : Addr} {ys : List Value} {nn : Nat} {σ₀ : Sy} (C : Cx Φ σ b h) (X : Ext Φ σ₀ σ bS b hS h) (l : Loose Φ σ b h D) (g : h.get? D = some (listO ys nn)) (f : hS.get? D = none) :
    Cx Φ σ (ext b D (listO ys nn)) h ∧ Ext Φ σ₀ σ bS (ext b D (listO ys nn)) hS h := by
  have sb := ext_sub (o := listO ys nn) l.off
  have off : ∀ a, a ≠ D → b a = none → ext b D (listO ys nn) a = none := fun a hn e => by rw [ext_ne hn]; exact e
  refine ⟨⟨fun a o e => ?_, C.low.trans sb, ?_, fun x c hx => ?_, ?_, fun q hq => ?_, C.nd, fun env he => ?_, C.glob⟩, ⟨X.sub.trans sb, fun a o e => ?_, X.keep, X.dom, X.there⟩⟩
  · by_cases z : a = D
    · subst z; rw [ext_at] at e; cases e; exact g
    · rw [ext_ne z] at e; exact C.sub _ _ e
  · obtain ⟨m, hN, hv⟩ := C.ns
    exact ⟨m, hN, fun x p e => (hv x p e).mono sb fun _ _ _ i => i⟩
  · obtain ⟨i, nb⟩ := C.cells x c hx
    exact ⟨i, off c (fun z => l.np (z ▸ .inr ⟨x, hx⟩)) nb⟩
  · exact off _ (fun z => l.np (z ▸ .inl rfl)) C.Lb
  · obtain ⟨⟨o, e, r⟩, nb, p⟩ := C.st q hq
    exact ⟨⟨o, e, r.mono sb⟩, off _ (fun z => l.nd (z ▸ List.mem_map_of_mem hq)) nb, p⟩
  · obtain ⟨k, L, o, fL, nb, e, d⟩ := C.ff env he
    exact ⟨k, L, o, fL, off _ (fun z => l.nf (z ▸ ⟨env, he, fL⟩)) nb, e, d⟩
  · by_cases z : a = D
    · subst z; exact .inr (.inl f)
    · rw [ext_ne z] at e; exact X.new a o e
theorem e_comp {elt tgt iter : Expr} {ifs : List Expr} {pos : Pos} {Post : PV → Sy → Prop} (O : Φ.Ok n) (K : Caps Φ scope cl fe) (hclos : closureFor scope Φ.env = pure cl) (hcell : ∀ y ∈ scope.names, y.2 ≠ .cell)
    (hnames : ∀ y ∈ scope.names, y.2 = .local → scope.names.lookup y.1 = some .local)
    (h : CompAll n Φ E scope cl fe iter tgt elt ifs σ fun acc σ' => Post (.list acc) σ')
    (hs : ∀ x, foldedSetIterable iter Φ.env x = pure x := by intro _; rfl) : Ev Φ E (.ListComp elt [⟨tgt, iter, ifs, 0⟩] scope pos) σ Post := T.mk fun b s Q C k => by
  show wpAny _ _ (eval (.ListComp elt [⟨tgt, iter, ifs, 0⟩] scope pos) Φ.env) _ _ _
  rw [eval_ListComp]
  refine wpAny_comprehension_free (use := none) rfl hs hclos K.kind hnames (h b s _ C fun qs σ₁ b₁ h₁ t₁ I wr St hP C₁ X₁ it st₀ lo => ?_)
  obtain ⟨hfe, hcap, Inv, hsz, h0, turn, fin⟩ := hP
  obtain ⟨e, st⟩ := σ₁
  refine comp_core (RR := fun acc C => compPost (model Φ.prog Φ.w) Φ.A E none Q acc C) (s₂ := { s with heap := h₁, toks := t₁ }) K O hcell C₁ X₁ it (fun _ _ _ _ _ _ _ => trivial) st₀ lo hfe hcap hsz h0 turn ?_
  intro D Ca st' b' h' tk' acc ys nn m hI C' X' gD rD lD lC hDC fD fC nsC
  refine ⟨m, nsC, fun h'' sb => ?_⟩
  have hk : ∀ a o, a ∉ [Ca] → h'.get? a = some o → h''.get? a = some o := fun a o hn e => SameBut.other sb a o (fun z => hn (z ▸ .head _)) e
  have lo' : ∀ a ∈ [Ca], Loose Φ ⟨e, st'⟩ b' h' a := fun a ha => by rw [List.mem_singleton.mp ha]; exact lC
  have sh : Sub b' h''.get? := fun a o e => hk a o (fun z => by rw [(lo' a z).off] at e; cases e) (C'.sub a o e)
  have C'' := C'.wr lo' hk (.refl b') sh fun _ _ e => .inl e
  have X'' := X'.wr (fun a ha => by rw [List.mem_singleton.mp ha]; exact fC) hk (.refl b') fun _ _ e => .inl e
  have gD' := hk D _ (fun z => hDC (List.mem_singleton.mp z)) gD
  obtain ⟨C₃, X₃⟩ := C''.freezeL X'' ⟨lD.off, lD.np, lD.nd, lD.nf, ⟨_, gD'⟩⟩ gD' fD
  exact k (.list acc) ⟨e, st'⟩ _ h'' tk' _ (fin acc st' hI) C₃ X₃ (Rep.mkList (ext_at ..) (rD.mono (ext_sub lD.off)))
/-- a list display over a list of the store -/
theorem e_compM {elt tgt iter : Expr} {ifs : List Expr} {pos : Pos} {Post : PV → Sy → Prop} (O : Φ.Ok n) (K : Caps Φ scope cl fe) (hclos : closureFor scope Φ.env = pure cl) (hcell : ∀ y ∈ scope.names, y.2 ≠ .cell)
    (hnames : ∀ y ∈ scope.names, y.2 = .local → scope.names.lookup y.1 = some .local)
    (h : CompAllM n Φ E scope cl fe iter tgt elt ifs σ fun acc σ' => Post (.list acc) σ')
    (hs : ∀ x, foldedSetIterable iter Φ.env x = pure x := by intro _; rfl) : Ev Φ E (.ListComp elt [⟨tgt, iter, ifs, 0⟩] scope pos) σ Post := T.mk fun b s Q C k => by
  show wpAny _ _ (eval (.ListComp elt [⟨tgt, iter, ifs, 0⟩] scope pos) Φ.env) _ _ _
  rw [eval_ListComp]
  refine wpAny_comprehension_free (use := none) rfl hs hclos K.kind hnames (h b s _ C fun a qs σ₁ b₁ h₁ t₁ I wr St hP C₁ X₁ it st₀ lo => ?_)
  obtain ⟨hfe, hcap, Inv, hsz, hold, h0, turn, fin⟩ := hP
  obtain ⟨e, st⟩ := σ₁
  refine comp_core (RR := fun acc C => compPost (model Φ.prog Φ.w) Φ.A E none Q acc C) (s₂ := { s with heap := h₁, toks := t₁ }) K O hcell C₁ X₁ it (fun i acc st b h hI C => by
    obtain ⟨_, g, vs, n, rfl, r⟩ := C.at (hold i acc st hI)
    exact ⟨vs, n, g, r⟩) st₀ lo hfe hcap hsz h0 turn ?_
  intro D Ca st' b' h' tk' acc ys nn m hI C' X' gD rD lD lC hDC fD fC nsC
  refine ⟨m, nsC, fun h'' sb => ?_⟩
  have hk : ∀ a o, a ∉ [Ca] → h'.get? a = some o → h''.get? a = some o := fun a o hn e => SameBut.other sb a o (fun z => hn (z ▸ .head _)) e
  have lo' : ∀ a ∈ [Ca], Loose Φ ⟨e, st'⟩ b' h' a := fun a ha => by rw [List.mem_singleton.mp ha]; exact lC
  have sh : Sub b' h''.get? := fun a o e => hk a o (fun z => by rw [(lo' a z).off] at e; cases e) (C'.sub a o e)
  have C'' := C'.wr lo' hk (.refl b') sh fun _ _ e => .inl e
  have X'' := X'.wr (fun a ha => by rw [List.mem_singleton.mp ha]; exact fC) hk (.refl b') fun _ _ e => .inl e
  have gD' := hk D _ (fun z => hDC (List.mem_singleton.mp z)) gD
  obtain ⟨C₃, X₃⟩ := C''.freezeL X'' ⟨lD.off, lD.np, lD.nd, lD.nf, ⟨_, gD'⟩⟩ gD' fD
  exact k (.list acc) ⟨e, st'⟩ _ h'' tk' _ (fin acc st' hI) C₃ X₃ (Rep.mkList (ext_at ..) (rD.mono (ext_sub lD.off)))
/-- y = [... for ...], where the machine exchanges the stores -/
theorem x_comp {elt tgt iter : Expr} {ifs : List Expr} {pos spos py : Pos} {y : Str} {Post : PF → Sy → Prop} (O : Φ.Ok n) (K : Caps Φ scope cl fe) (hclos : closureFor scope Φ.env = pure cl) (hcell : ∀ y ∈ scope.names, y.2 ≠ .cell)
    (hnames : ∀ y ∈ scope.names, y.2 = .local → scope.names.lookup y.1 = some .local) (hy : Φ.env.kindOf y = some .local)
    (hsw : swapsWith (.ListComp elt [⟨tgt, iter, ifs, 0⟩] scope pos) (some (.Name y py)) spos.line Φ.env = pure true)
    (h : CompAll n Φ E scope cl fe iter tgt elt ifs σ fun acc σ' => Post .next ⟨(y, .list acc) :: σ'.env, σ'.st⟩)
    (hs : ∀ x, foldedSetIterable iter Φ.env x = pure x := by intro _; rfl) : Ex Φ E (.Assign [.Name y py] (.ListComp elt [⟨tgt, iter, ifs, 0⟩] scope pos) spos) σ Post := T.mk fun b s Q C k => by
  show wpAny _ _ (exec (.Assign [.Name y py] (.ListComp elt [⟨tgt, iter, ifs, 0⟩] scope pos) spos) Φ.env) _ _ _
  rw [exec_Assign_Name_used _ _ _ _ hsw]
  refine wpAny_bind (wpAny_standAt (wpAny_bind ?_))
  show wpAny _ _ (do let _ ← comprehension (.ListComp elt [⟨tgt, iter, ifs, 0⟩] scope pos) scope Φ.env _ (newList []) false (eval iter Φ.env) (some (assign (.Name y py) Φ.env))) _ _ s
  refine wpAny_bind (wpAny_mono (wpAny_comprehension_free (use := some (assign (.Name y py) Φ.env)) (Q := fun _ s' => Q .next s') rfl hs hclos K.kind hnames
    (h b s _ C fun qs σ₁ b₁ h₁ t₁ I wr St hP C₁ X₁ it st₀ lo => ?_)) (fun _ s' hq => wpAny_pure (wpAny_pure hq)) fun _ _ e => e)
  obtain ⟨hfe, hcap, Inv, hsz, h0, turn, fin⟩ := hP
  obtain ⟨e, st⟩ := σ₁
  refine comp_core (RR := fun acc C => compPost (model Φ.prog Φ.w) Φ.A E (some (assign (.Name y py) Φ.env)) (fun _ s' => Q .next s') acc C) (s₂ := { s with heap := h₁, toks := t₁ }) K O hcell C₁ X₁ it (fun _ _ _ _ _ _ _ => trivial) st₀ lo hfe hcap hsz h0 turn ?_
  intro D Ca st' b' h' tk' acc ys nn m hI C' X' gD rD lD lC hDC fD fC nsC
  show wpAny _ _ (assign (.Name y py) Φ.env (.ref D)) _ _ _
  obtain ⟨C₂, X₂⟩ := C'.freezeL X' lD gD fD
  have rD' : Rep Φ.w.params (ext b' D (listO ys nn)) (.list acc) (.ref D) := Rep.mkList (ext_at ..) (rD.mono (ext_sub lD.off))
  have lC₂ : Loose Φ ⟨e, st'⟩ (ext b' D (listO ys nn)) h' Ca := ⟨by rw [ext_ne (Ne.symm hDC)]; exact lC.off, lC.np, lC.nd, lC.nf, lC.there⟩
  refine wpAny_assign_Name (store (Post := fun σ' => σ' = ⟨(y, .list acc) :: e, st'⟩) O (.inl hy) rfl _ { s with heap := h', toks := tk' } (.ref D) _ C₂ rD' fun σ₃ b₃ h₃ t₃ hP₃ C₃ X₃ => ?_)
  subst hP₃
  obtain ⟨oC, esC, epC, eC, rC⟩ := nsC
  have eC₃ := (X₃.keep Ca oC eC lC.np lC.nd).2 lC.nf
  refine ⟨m, ⟨oC, esC, epC, eC₃, rC⟩, fun h'' sb => ?_⟩
  have lC₃ := lC₂.ext X₃
  have hk : ∀ a o, a ∉ [Ca] → h₃.get? a = some o → h''.get? a = some o := fun a o hn e => SameBut.other sb a o (fun z => hn (z ▸ .head _)) e
  have lo' : ∀ a ∈ [Ca], Loose Φ ⟨(y, .list acc) :: e, st'⟩ b₃ h₃ a := fun a ha => by rw [List.mem_singleton.mp ha]; exact lC₃
  have sh : Sub b₃ h''.get? := fun a o e => hk a o (fun z => by rw [(lo' a z).off] at e; cases e) (C₃.sub a o e)
  have C₄ := C₃.wr lo' hk (.refl b₃) sh fun _ _ e => .inl e
  have X₄ := (X₂.trans X₃).wr (fun a ha => by rw [List.mem_singleton.mp ha]; exact fC) hk (.refl b₃) fun _ _ e => .inl e
  exact k .next _ b₃ h'' t₃ .next (fin acc st' hI) C₄ X₄ trivial
end
end Mine
end
section
open PySem PySem.W PySem.Spec PySem.Calls PyProof.Rows
namespace Mine
section
variable {Φ : Fx} {E : Value → Shared → Prop} {σ : Sy} {n : Nat}
/-! calls of builtins -/
/-- what a value says as a list -/
inductive IsLi (σ : Sy) : PV → List PV → Prop
  | fix {qs} : IsLi σ (.list qs) qs
  | var {a qs} : getM a σ.st = some (.list qs) → IsLi σ (.ref a) qs
theorem IsLi.get {p : PV} {qs : List PV} {b : Bs} {h : Heap} {v : Value} (d : IsLi σ p qs) (C : Cx Φ σ b h) (r : Rep Φ.w.params b p v) : ∃ a vs m, v = .ref a ∧ h.get? a = some (listO vs m) ∧ Reps Φ.w.params b qs vs := by
  cases d with
  | fix => obtain ⟨a, vs, m, rfl, g, r⟩ := r.listI; exact ⟨a, vs, m, rfl, C.sub _ _ g, r⟩
  | var g =>
    obtain rfl := r.refI
    obtain ⟨o, ho, vs, m, rfl, r⟩ := C.at g
    exact ⟨_, vs, m, rfl, ho, r⟩
theorem k_len {p : PV} {qs : List PV} {Post : PV → Sy → Prop} (d : IsLi σ p qs) (hl : qs.length < 1000000) (q : Post (.int qs.length) σ) : CallT Φ E (.builtin "len") [p] σ Post := fun b s vs Q C rs k => by
  obtain ⟨v, vs', rfl, r, rn⟩ := rs.cons_inv
  obtain rfl := rn.nil_inv
  obtain ⟨a, ws, m, rfl, g, rw'⟩ := d.get C r
  refine call_len_list (items := ws.toArray) ⟨_, g, rfl, m, rfl⟩ (by rw [List.size_toArray, rw'.length]; omega) ?_
  rw [List.size_toArray, rw'.length]
  exact k (.int qs.length) σ b s.heap _ _ q C .refl Rep.mkInt
theorem k_len_tup {qs : List PV} {Post : PV → Sy → Prop} (hl : qs.length < 1000000) (q : Post (.int qs.length) σ) : CallT Φ E (.builtin "len") [.tup qs] σ Post := fun b s vs Q C rs k => by
  obtain ⟨v, vs', rfl, r, rn⟩ := rs.cons_inv
  obtain rfl := rn.nil_inv
  obtain ⟨a, ws, m, rfl, g, rw'⟩ := r.tupI
  refine PyProof.Rows.len_tuple (items := ws.toArray) ⟨_, C.sub _ _ g, rfl, m, rfl⟩ (by rw [List.size_toArray, rw'.length]; omega) ?_
  rw [List.size_toArray, rw'.length]
  exact k (.int qs.length) σ b s.heap _ _ q C .refl Rep.mkInt
/-- the list that was handed in -/
theorem k_len_in {l : Addr} {ws : List Value} {Post : PV → Sy → Prop} (hL : Φ.b₀.IsList l ws.toArray) (hl : ws.length < 1000000) (q : Post (.int ws.length) σ) : CallT Φ E (.builtin "len") [.ref l] σ Post := fun b s vs Q C rs k => by
  obtain ⟨v, vs', rfl, r, rn⟩ := rs.cons_inv
  obtain rfl := rn.nil_inv
  obtain rfl := r.refI
  refine call_len_list (items := ws.toArray) (hL.at fun o e => C.old _ _ e) (by rw [List.size_toArray]; omega) ?_
  rw [List.size_toArray]
  exact k (.int ws.length) σ b s.heap _ _ q C .refl Rep.mkInt
theorem intsAre_get : ∀ {vs : List Value} {ns : List Int} {i : Nat} {z : Int}, IntsAre vs ns → ns[i]? = some z → ∃ t, vs[i]? = some (.int z t)
  | _, _, i, z, .nil, h => by simp at h
  | _, _, i, z, .cons a t r, h => by
    cases i with
    | zero => simp at h; subst h; exact ⟨t, rfl⟩
    | succ i => simp at h; obtain ⟨t, e⟩ := intsAre_get r h; exact ⟨t, by simpa using e⟩
theorem s_in {value slice : Expr} {l : Addr} {ws : List Value} {ns : List Int} {i : Nat} {z : Int} {Post : PV → Sy → Prop} (hL : Φ.b₀.IsList l ws.toArray) (hI : IntsAre ws ns) (hx : ns[i]? = some z) (hi : i < 1000000) (q : Post (.int z) σ) (hs : PlainSlice slice := by intro _ _; rfl) :
    SubT Φ E value slice (.ref l) (.int i) σ Post := fun b s v u Q C hv hu k => by
  obtain rfl := hv.refI
  obtain ⟨t, rfl⟩ := hu.intI
  obtain ⟨t', hx'⟩ := intsAre_get hI hx
  have hL' : s.heap.IsList l ws.toArray := hL.at fun o e => C.old _ _ e
  exact tail_any hL'.typeIs slot_list_getitem.lookup (wpAny_getItem_list hL' (by omega) (by omega) (x := .int z t') (by simpa using hx') (k (.int z) σ b s.heap s.toks _ q C .refl Rep.mkInt)) (hs _ _)
theorem k_int {i : Int} {Post : PV → Sy → Prop} (q : Post (.int i) σ) : CallT Φ E (.type "int") [.int i] σ Post := fun b s vs Q C rs k => by
  obtain ⟨v, vs', rfl, r, rn⟩ := rs.cons_inv
  obtain rfl := rn.nil_inv
  obtain ⟨t, rfl⟩ := r.intI
  exact call_int_int (k (.int i) σ b s.heap s.toks _ q C .refl Rep.mkInt)
theorem k_int_bool {x : Bool} {Post : PV → Sy → Prop} (q : Post (.int (if x then 1 else 0)) σ) : CallT Φ E (.type "int") [.bool x] σ Post := fun b s vs Q C rs k => by
  obtain ⟨v, vs', rfl, r, rn⟩ := rs.cons_inv
  obtain rfl := rn.nil_inv
  obtain rfl := r.boolI
  exact call_int_bool (k _ σ b s.heap _ _ q C .refl Rep.mkInt)
theorem k_max {i j : Int} {Post : PV → Sy → Prop} (O : Φ.Ok n) (q : Post (.int (if j > i then j else i)) σ) : CallT Φ E (.builtin "max") [.int i, .int j] σ Post := fun b s vs Q C rs k => by
  obtain ⟨v, vs', rfl, r, rn⟩ := rs.cons_inv
  obtain ⟨v', vs', rfl, r', rn⟩ := rn.cons_inv
  obtain rfl := rn.nil_inv
  obtain ⟨t, rfl⟩ := r.intI
  obtain ⟨t', rfl⟩ := r'.intI
  refine max_two_ints O.hh fun h' tk hk => ?_
  have := k _ σ b h' tk (if j > i then .int j t' else .int i t) q (C.keeps hk) (Ext.keeps hk) (by split <;> exact Rep.mkInt)
  exact this
theorem k_min {i j : Int} {Post : PV → Sy → Prop} (O : Φ.Ok n) (q : Post (.int (if j < i then j else i)) σ) : CallT Φ E (.builtin "min") [.int i, .int j] σ Post := fun b s vs Q C rs k => by
  obtain ⟨v, vs', rfl, r, rn⟩ := rs.cons_inv
  obtain ⟨v', vs', rfl, r', rn⟩ := rn.cons_inv
  obtain rfl := rn.nil_inv
  obtain ⟨t, rfl⟩ := r.intI
  obtain ⟨t', rfl⟩ := r'.intI
  refine min_two_ints O.hh fun h' tk hk => ?_
  have := k _ σ b h' tk (if j < i then .int j t' else .int i t) q (C.keeps hk) (Ext.keeps hk) (by split <;> exact Rep.mkInt)
  exact this
theorem k_tuple {p : PV} {qs : List PV} {Post : PV → Sy → Prop} (d : IsLi σ p qs) (hl : qs.length ≤ sizeLine) (q : Post (.tup qs) σ) : CallT Φ E (.type "tuple") [p] σ Post := fun b s vs Q C rs k => by
  obtain ⟨v, vs', rfl, r, rn⟩ := rs.cons_inv
  obtain rfl := rn.nil_inv
  obtain ⟨a, ws, m, rfl, g, rw'⟩ := d.get C r
  refine call_tuple_list (items := ws.toArray) ⟨_, g, rfl, m, rfl⟩ (fun h' hk => ?_) (by rw [List.size_toArray, rw'.length]; exact hl)
  have C' := C.keeps hk
  obtain ⟨C₂, X₂⟩ := C'.push (tupO ws 0) rfl
  exact k (.tup qs) σ _ _ s.toks _ q C₂ ((Ext.keeps hk).trans X₂) (Rep.mkTup (ext_at ..) (rw'.mono X₂.sub))
theorem reps_strs {P : Params} {b : Bs} : ∀ {ks : List Str} {vs : List Value}, StrsAre vs ks → Reps P b (ks.map .str) vs
  | _, _, .nil => .nil
  | _, _, .cons k t r => .cons Rep.mkStr (reps_strs r)
theorem k_sorted {p : PV} {kvs : List (Str × PV)} {S : List Str} {Post : PV → Sy → Prop} (O : Φ.Ok n) (d : IsD σ p kvs) (hn : (kvs.map (·.1)).Nodup) (hl : kvs.length < 64)
    (tr : ∀ x ∈ S, ∀ y ∈ S, ∀ z ∈ S, ltCps y.cps.toList x.cps.toList = false → ltCps z.cps.toList y.cps.toList = false → ltCps z.cps.toList x.cps.toList = false)
    (an : ∀ x ∈ S, ∀ y ∈ S, ltCps y.cps.toList x.cps.toList = false → ltCps x.cps.toList y.cps.toList = false → x = y) (hm : ∀ x ∈ kvs.map (·.1), x ∈ S) (hs : sortedS (kvs.map (·.1)) = true)
    (q : Post (.list ((kvs.map (·.1)).map .str)) σ) : CallT Φ E (.builtin "sorted") [p] σ Post := fun b s vs Q C rs k => by
  obtain ⟨v, vs', rfl, r, rn⟩ := rs.cons_inv
  obtain rfl := rn.nil_inv
  obtain ⟨a, es, m, rfl, z, g, re⟩ := d.get C r
  obtain ⟨l, hl1, hl2⟩ := relV_of (prog := Φ.prog) re
  have hlen : l.length = kvs.length := by have := congrArg List.length hl1.keys; rw [List.length_map, List.length_map] at this; exact this
  refine sorted_dict (kvs := l) (ep := m) (by simpa using z) O.hh ⟨_, es.toArray, g, ⟨rfl, rfl, rfl⟩, rfl, fun e he => ?_, hl2, by rw [hl1.keys]; exact hn⟩ (by rw [hlen]; exact hl) fun D h' tk out ss e hS hp hso fD hk gD => ?_
  · obtain ⟨k', t', hk, hh⟩ := allStr re e (List.mem_toArray.mp he)
    exact ⟨k', by rw [hk]; exact strKind_is Φ.prog Φ.w k' t', hh⟩
  · rw [hl1.keys] at hp
    have : ss = kvs.map (·.1) := sorted_uniq tr an hm hp hs hso
    subst this
    have C' := C.keeps hk
    obtain ⟨C₂, X₂⟩ := C'.freezeL (Ext.keeps (σ := σ) hk) (.fresh C fD ⟨_, gD⟩) (ys := out) (nn := e) gD fD
    exact k _ σ _ h' tk _ q C₂ X₂ (Rep.mkList (ext_at ..) ((reps_strs hS)))
/-! methods of lists -/
theorem m_list {p : PV} {qs : List PV} {name : Str} {id : String} (d : IsLi σ p qs) (slot : Slot "list" name id) (hty : typeOf (.builtin id) = pure (.type "method_descriptor")) : MethT Φ E p name (.builtin id) σ := fun b s v pl Q C r q => by
  obtain ⟨a, ws, m, rfl, g, rw'⟩ := d.get C r
  exact getMethod_builtin ⟨_, g, rfl⟩ PySem.F.plainAttrs_list slot hty (fun c e => by cases e; exact ⟨_, g, rfl⟩) q
theorem k_append {a : Addr} {qs : List PV} {p : PV} {Post : PV → Sy → Prop} (hg : getM a σ.st = some (.list qs)) (hl : qs.length ≤ sizeLine) (q : Post .none ⟨σ.env, setM a (.list (qs ++ [p])) σ.st⟩) : CallT Φ E (.builtin "list.append") [.ref a, p] σ Post := fun b s vs Q C rs k => by
  obtain ⟨v, vs', rfl, r, rn⟩ := rs.cons_inv
  obtain ⟨x, vs', rfl, rx, rn⟩ := rn.cons_inv
  obtain rfl := rn.nil_inv
  obtain rfl := r.refI
  obtain ⟨o, ho, ws, m, rfl, rw'⟩ := C.at hg
  refine wpAny_list_append_plain (items := ws.toArray) ⟨m, ho⟩ (fun h' hpl hs => ?_) (by rw [List.size_toArray, rw'.length]; exact hl)
  obtain ⟨n', g'⟩ := hpl
  obtain ⟨C₂, X₂⟩ := C.upd hg (SameBut.other hs) g' (mo' := .list (qs ++ [p])) ⟨ws ++ [x], n', by simp, rw'.append (.cons rx .nil)⟩
  exact k .none _ b h' s.toks _ q C₂ X₂ Rep.mkNone
theorem k_extend {a : Addr} {qs rs : List PV} {Post : PV → Sy → Prop} (hg : getM a σ.st = some (.list qs)) (hl : qs.length + rs.length ≤ 1000000) (q : Post .none ⟨σ.env, setM a (.list (qs ++ rs)) σ.st⟩) : CallT Φ E (.builtin "list.extend") [.ref a, .list rs] σ Post := fun b s vs Q C hrs k => by
  obtain ⟨v, vs', rfl, r, rn⟩ := hrs.cons_inv
  obtain ⟨x, vs', rfl, rx, rn⟩ := rn.cons_inv
  obtain rfl := rn.nil_inv
  obtain rfl := r.refI
  obtain ⟨o, ho, ws, m, rfl, rw'⟩ := C.at hg
  obtain ⟨c, us, m', rfl, gc, ru⟩ := rx.listI
  have e1 : ws.toArray.size = qs.length := by rw [List.size_toArray, rw'.length]
  have e2 : us.toArray.size = rs.length := by rw [List.size_toArray, ru.length]
  refine call_meets PySem.F.slot_list_extend ⟨_, ho, rfl⟩ PySem.F.entry_list_extend (PySem.F.args_list_extend_2 _ _) (AutoSeq1.list_extend_list_list_0 a ws.toArray m c us.toArray m' ?_ (by rw [e1, sizeLine_eq]; omega) (by rw [e1, e2, sizeLine_eq]; omega)) ⟨ho, C.sub _ _ gc, ?_⟩
  · unfold Builtin.List.listTooLong
    simp only [Bool.and_eq_true, decide_eq_true_eq, not_and]
    intro _
    rw [e1, e2, sizeLine_eq]
    omega
  · obtain ⟨C₂, X₂⟩ := C.updList (f := fun x => x ++ us.toArray) (qs := qs ++ rs) hg ho (by simpa using rw'.append ru)
    exact k .none _ b _ s.toks _ q C₂ X₂ Rep.mkNone
theorem Reps.take {P : Params} {b : Bs} : ∀ {ps : List PV} {vs : List Value}, Reps P b ps vs → ∀ i, Reps P b (ps.take i) (vs.take i)
  | [], _, r, i => by obtain rfl := r.nil_inv; simpa using Reps.nil
  | q :: ps, _, r, i => by
    obtain ⟨u, vs, rfl, r1, r2⟩ := r.cons_inv
    cases i with
    | zero => exact .nil
    | succ i => exact .cons r1 (Reps.take r2 i)
theorem Reps.drop {P : Params} {b : Bs} : ∀ {ps : List PV} {vs : List Value}, Reps P b ps vs → ∀ i, Reps P b (ps.drop i) (vs.drop i)
  | [], _, r, i => by obtain rfl := r.nil_inv; simpa using Reps.nil
  | q :: ps, _, r, i => by
    obtain ⟨u, vs, rfl, r1, r2⟩ := r.cons_inv
    cases i with
    | zero => exact .cons r1 r2
    | succ i => exact Reps.drop r2 i
theorem k_insert {a : Addr} {qs : List PV} {i : Nat} {p : PV} {Post : PV → Sy → Prop} (hg : getM a σ.st = some (.list qs)) (hl : qs.length ≤ 1000000) (hi : i ≤ qs.length) (q : Post .none ⟨σ.env, setM a (.list (qs.take i ++ p :: qs.drop i)) σ.st⟩) : CallT Φ E (.builtin "list.insert") [.ref a, .int i, p] σ Post := fun b s vs Q C hrs k => by
  obtain ⟨v, vs', rfl, r, rn⟩ := hrs.cons_inv
  obtain ⟨w, vs', rfl, rw_, rn⟩ := rn.cons_inv
  obtain ⟨x, vs', rfl, rx, rn⟩ := rn.cons_inv
  obtain rfl := rn.nil_inv
  obtain rfl := r.refI
  obtain ⟨t, rfl⟩ := rw_.intI
  obtain ⟨o, ho, ws, m, rfl, rw'⟩ := C.at hg
  have e1 : ws.toArray.size = qs.length := by rw [List.size_toArray, rw'.length]
  obtain ⟨z, hz⟩ : ∃ z : Int, z = (i : Int) := ⟨_, rfl⟩
  rw [← hz]
  refine call_meets PySem.F.slot_list_insert ⟨_, ho, rfl⟩ PySem.F.entry_list_insert (PySem.F.args_list_insert_3 _ _ _) (AutoListH.list_insert_list_int_val_1 a ws.toArray m z t x ?_ (by rw [e1, sizeLine_eq]; omega)) ⟨ho, ?_⟩
  · rw [fitsIndex_of (by omega) (by omega)]; decide
  · obtain ⟨C₂, X₂⟩ := C.updList (f := fun xs => have k := if z < 0 then (z + ((xs.size : Nat) : Int)).toNat else min z.toNat xs.size; (xs.extract 0 k).push x ++ xs.extract k) (qs := qs.take i ++ p :: qs.drop i) hg ho (by
      have hk : (if z < 0 then (z + ((ws.toArray.size : Nat) : Int)).toNat else min z.toNat ws.toArray.size) = i := by
        rw [if_neg (by omega), e1]; omega
      dsimp only
      rw [hk]
      have hi' : i ≤ ws.length := by rw [rw'.length]; exact hi
      have : ((ws.toArray.extract 0 i).push x ++ ws.toArray.extract i).toList = ws.take i ++ x :: ws.drop i := by
        simp only [Array.toList_append, Array.toList_push, Array.toList_extract, List.extract_eq_drop_take, List.size_toArray, List.drop_zero, Nat.sub_zero, List.append_assoc, List.singleton_append]
        rw [List.take_of_length_le (l := List.drop i ws) (by simp)]
      rw [this]
      exact (Reps.take rw' i).append (.cons rx (Reps.drop rw' i)))
    exact k .none _ b _ s.toks _ q C₂ X₂ Rep.mkNone
/-! comparisons of lists with an empty one -/
theorem c_ne_nil {p : PV} {qs : List PV} {x : Bool} (O : Φ.Ok n) (d : IsLi σ p qs) (e : (!qs.isEmpty) = x) : CmpT Φ E .NotEq p (.list []) σ x := fun b s v u Q C hv hu k => by
  obtain ⟨a, ws, m, rfl, g, rw'⟩ := d.get C hv
  obtain ⟨c, us, m', rfl, gc, ru⟩ := hu.listI
  obtain rfl := ru.nil_inv
  have hu' : Φ.A.units < cLine := by have := O.units; omega
  cases qs with
  | nil =>
    obtain rfl := rw'.nil_inv
    refine richCompare_meets_room (op := .NotEq) ⟨_, g, rfl⟩ ⟨_, C.sub _ _ gc, rfl⟩ PySem.F.slot_list_ne PySem.F.entry_list_ne (PySem.F.args_list_ne_2 _ _) (SeqAt.list_neAt a c #[] #[] m m' none none #[] #[] rfl fun _ => true)
      ⟨g, C.sub _ _ gc, (fun j h1 _ => absurd h1 (Nat.not_lt_zero _)), show Value.bool _ ≠ Value.notImplemented ∧ _ from ⟨(fun x => nomatch x), ?_⟩⟩ hu'
    have := k s.toks
    rw [← e] at this
    exact this
  | cons q qs =>
    refine richCompare_meets_room (op := .NotEq) ⟨_, g, rfl⟩ ⟨_, C.sub _ _ gc, rfl⟩ PySem.F.slot_list_ne PySem.F.entry_list_ne (PySem.F.args_list_ne_2 _ _) (SeqAt.list_ne_lengthsAt a c ws.toArray #[] m m' none none #[] #[] (by
        have := rw'.length
        simp only [List.size_toArray, this, List.length_cons]
        rfl))
      ⟨g, C.sub _ _ gc, show Value.bool _ ≠ Value.notImplemented ∧ _ from ⟨(fun x => nomatch x), ?_⟩⟩ hu'
    have := k s.toks
    rw [← e] at this
    exact this
theorem c_in_tup {k : Str} {ks : List Str} {x : Bool} (e : ks.any (· == k) = x) : CmpT Φ E .In (.str k) (.tup (ks.map .str)) σ x := fun b s v u Q C hv hu q => by
  obtain ⟨t, rfl⟩ := hv.strI
  obtain ⟨a, vs, m, rfl, g, r⟩ := hu.tupI
  exact in_tuple_strs (items := vs.toArray) ⟨_, C.sub _ _ g, rfl, m, rfl⟩ (by simpa using strsAre_of r) (by rw [e]; exact q _)
theorem b_floordiv {i j : Int} {Post : PV → Sy → Prop} (hj : j ≠ 0) (hs : j.natAbs < 1073741824) (q : Post (.int (i.fdiv j)) σ) : BinT Φ E .FloorDiv (.int i) (.int j) σ Post := fun b s v u Q C hv hu k => by
  obtain ⟨t, rfl⟩ := hv.intI; obtain ⟨t', rfl⟩ := hu.intI
  exact floordiv_int hj (k _ σ b s.heap _ _ q C .refl Rep.mkInt) (.inl (PyProof.noPylong_small hs))
end
end Mine
end
section
open PySem PySem.W PySem.Spec PySem.Calls PyProof.Rows
namespace Mine
section
variable {Φ : Fx} {E : Value → Shared → Prop} {σ : Sy} {n : Nat}
/-! objects made -/
theorem Lv.under {A : Around} {outer : List Env} (l : Lv A outer (n + 1)) (C : Addr) (vals : List Value) : Lv (A.under (.builtin "type.__call__" ⟨.ref C :: vals, []⟩)) outer n := by
  have d : (A.under (.builtin "type.__call__" ⟨.ref C :: vals, []⟩)).depth = A.depth + 1 := rfl
  have u : (A.under (.builtin "type.__call__" ⟨.ref C :: vals, []⟩)).units = A.units + 1 := rfl
  have f : (A.under (.builtin "type.__call__" ⟨.ref C :: vals, []⟩)).frames = A.frames := rfl
  refine ⟨l.hh, f.trans l.fr, ?_, ?_⟩
  · have := l.depth; rw [d]; omega
  · have := l.units; rw [u]; omega
theorem k_make {K : Frag} {C fI : Addr} {ps : List PV} {st rest : List (Addr × MO)} {Mid : Addr → List (Addr × MO) → Prop} {Post : PV → Sy → Prop} (O : Φ.Ok (n + 1)) (tp : Tp Φ.b₀ K) (hm : makesIn K C = true)
    (hi : findIn K (.ref C) "__init__" = some (some (.ref fI))) (hf : typeIn K (.ref fI) = some (.type "function")) (hp : σ.st.Perm (st ++ rest))
    (F : ∀ dx, FnT Φ.prog Φ.w Φ.b₀ n (.ref fI) (.inst C dx :: ps) ((dx, .dict []) :: st) fun r st' => r = .none ∧ Mid dx st')
    (q : ∀ dx st', Mid dx st' → Post (.inst C dx) ⟨σ.env, st' ++ rest⟩) : CallT Φ E (.ref C) ps σ Post := fun b s vs Q X rs k => by
  obtain ⟨h, g, d, t, os⟩ := s
  refine wpAny_call (make_core (makes_of (X.kin tp) hm) (looks_findIn (X.kin tp) hi) (fun self => bind_fn (X.kin tp) self hf) (.inl rfl) ?_)
  obtain ⟨X₁, Y₁⟩ := X.new (dictOf [] 0) rfl (mo := .dict []) ⟨[], 0, rfl, .nil⟩
  obtain ⟨X₂, Y₂⟩ := X₁.push (instObj C h.objs.size) rfl
  have hp' : ((h.objs.size, MO.dict []) :: σ.st).Perm (((h.objs.size, MO.dict []) :: st) ++ rest) := hp.cons _
  have sz : (h.push (dictOf [] 0)).objs.size = h.objs.size + 1 := Heap.size_push ..
  have hx : ext b (h.push (dictOf [] 0)).objs.size (instObj C h.objs.size) (h.objs.size + 1) = some (instObj C h.objs.size) := by rw [← sz]; exact ext_at ..
  refine F h.objs.size _ Φ.outer _ _ (.ref (h.objs.size + 1) :: vs) _ (O.lv.under C vs) (X₂.hx hp') (.cons (Rep.mkInst hx) (rs.mono (Y₁.sub.trans Y₂.sub))) fun r st' b' h' tk' a p H Xh ra => ?_
  obtain ⟨rfl, hMid⟩ := p
  obtain rfl := ra.noneI
  obtain ⟨X₃, Y₃⟩ := X₂.back hp' H Xh
  exact ⟨rfl, k (.inst C h.objs.size) ⟨σ.env, st' ++ rest⟩ b' h' tk' (.ref (h.objs.size + 1)) (q _ _ hMid) X₃ ((Y₁.trans Y₂).trans Y₃) (Rep.mkInst (Xh.sub _ _ hx))⟩
/-! dict displays -/
noncomputable def RelP (P : Params) (b : Bs) : List (Str × PV) → List (Value × Value) → Prop
  | [], l => l = []
  | (k, p) :: r, l => ∃ t v l', l = (.str k t, v) :: l' ∧ Rep P b p v ∧ RelP P b r l'
theorem RelP.mono {P : Params} {b b' : Bs} (h : Sub b b') : ∀ {m : List (Str × PV)} {l : List (Value × Value)}, RelP P b m l → RelP P b' m l
  | [], _, r => r
  | (_, _) :: _, _, ⟨t, v, l', e, r1, r2⟩ => ⟨t, v, l', e, r1.mono h, RelP.mono h r2⟩
noncomputable abbrev PairsT (Φ : Fx) (E : Value → Shared → Prop) (ps : List (Sem Value × Sem Value)) (σ : Sy) (Post : List (Str × PV) → Sy → Prop) : Prop := T Φ E (evalPairs ps) (fun b l m => RelP Φ.w.params b m l) σ Post
theorem p_nil {Post : List (Str × PV) → Sy → Prop} (q : Post [] σ) : PairsT Φ E [] σ Post := T.mk fun b s Q C k => evalPairs_nil (k [] σ b s.heap s.toks [] q C .refl rfl)
theorem p_cons {k v : Expr} {pos : Pos} {rest : List (Sem Value × Sem Value)} {Post : List (Str × PV) → Sy → Prop} (h : Ev Φ E k σ fun q σ₁ => ∃ x, q = .str x ∧ Ev Φ E v σ₁ fun p σ₂ => PairsT Φ E rest σ₂ fun l σ₃ => Post ((x, p) :: l) σ₃) :
    PairsT Φ E ((eval k Φ.env, do let x ← eval v Φ.env; standAt pos; pure x) :: rest) σ Post := T.mk fun b s Q C kk =>
  evalPairs_cons (h.run b s _ C fun q σ₁ b₁ h₁ t₁ u hP C₁ X₁ r₁ => by
    obtain ⟨x, rfl, hP⟩ := hP
    obtain ⟨t, rfl⟩ := r₁.strI
    refine wpAny_bind (hP.run b₁ _ _ C₁ fun p σ₂ b₂ h₂ t₂ v hP₂ C₂ X₂ r₂ => wpAny_bind (wpAny_standAt (wpAny_pure ?_)))
    exact hP₂.run b₂ _ _ C₂ fun l σ₃ b₃ h₃ t₃ a hP₃ C₃ X₃ r₃ => kk _ σ₃ b₃ h₃ t₃ _ hP₃ C₃ ((X₁.trans X₂).trans X₃) ⟨t, v, a, rfl, r₂.mono X₃.sub, r₃⟩)
theorem relP_carries {prog : Program} {w : World} {b : Bs} : ∀ {m : List (Str × PV)} {l : List (Value × Value)}, RelP w.params b m l → ∃ kvs : List (Str × Value), Carries (PySem.strKind prog w) l kvs ∧ RelV w.params b m kvs
  | [], _, r => by rw [RelP] at r; subst r; exact ⟨[], trivial, rfl⟩
  | (k, p) :: m, _, ⟨t, v, l', e, r1, r2⟩ => by
    subst e
    obtain ⟨kvs, h1, h2⟩ := relP_carries (prog := prog) r2
    exact ⟨(k, v) :: kvs, ⟨strKind_is prog w k t, rfl, h1⟩, ⟨v, kvs, rfl, r1, h2⟩⟩
theorem relV_append {P : Params} {b : Bs} : ∀ {m : List (Str × PV)} {l : List (Str × Value)} {m' : List (Str × PV)} {l' : List (Str × Value)}, RelV P b m l → RelV P b m' l' → RelV P b (m ++ m') (l ++ l')
  | [], _, _, _, h, h' => by rw [RelV] at h; subst h; exact h'
  | (k, p) :: m, _, _, _, h, h' => by
    rw [RelV] at h; obtain ⟨v, l', rfl, h1, h2⟩ := h
    exact ⟨v, _, rfl, h1, relV_append h2 h'⟩
theorem stored_new {l : List (Str × Value)} {k : Str} {v : Value} (h : k ∉ l.map (·.1)) : stored l k v = l ++ [(k, v)] := by
  unfold stored
  rw [if_neg]
  intro z
  rw [List.any_eq_true] at z
  obtain ⟨q, hq, e⟩ := z
  rw [decide_eq_true_eq] at e
  exact h (e ▸ List.mem_map_of_mem hq)
theorem merged_new : ∀ {l acc : List (Str × Value)}, ((acc ++ l).map (·.1)).Nodup → merged acc l = acc ++ l
  | [], acc, _ => by simp [merged]
  | (k, v) :: l, acc, h => by
    show merged (stored acc k v) l = _
    have hk : k ∉ acc.map (·.1) := by
      rw [List.map_append, List.nodup_append] at h
      intro z
      exact h.2.2 _ z k (by simp) rfl
    rw [stored_new hk, merged_new (by simpa using h)]
    simp
theorem e_dictD {keys : List (Option Expr)} {values : List Expr} {pos : Pos} {pairs : List (Sem Value × Sem Value)} {Post : PV → Sy → Prop}
    (hshape : (evalEachOpt keys Φ.env).zip ((evalEach values Φ.env).map fun v => do let x ← v; standAt pos; pure x) = pairs.map fun p => (some p.1, p.2)) (h0 : pairs ≠ []) (hlen : pairs.length ≤ 15)
    (h : ∀ D, PairsT Φ E pairs ⟨σ.env, (D, .dict []) :: σ.st⟩ fun l σ' => getM D σ'.st = some (.dict []) ∧ (l.map (·.1)).Nodup ∧ Post (.ref D) ⟨σ'.env, setM D (.dict l) σ'.st⟩) : Ev Φ E (.Dict keys values pos) σ Post := T.mk fun b s Q C k => by
  obtain ⟨C₁, X₁⟩ := C.new (dictOf [] 0) rfl (mo := .dict []) ⟨[], 0, rfl, .nil⟩
  refine wpAny_Dict_pairs (knd := PySem.strKind Φ.prog Φ.w) hshape h0 hlen ((h s.heap.objs.size).run b _ _ C₁ fun l σ' b' h' tk' a hP C' X' r => ?_)
  obtain ⟨hg, hn, hP⟩ := hP
  obtain ⟨kvs, hc, hv⟩ := relP_carries (prog := Φ.prog) r
  obtain ⟨o, ho, es, m, rfl, re⟩ := C'.at hg
  obtain rfl := re.nil_inv
  refine ⟨kvs, hc, ⟨_, #[], m, ho, ⟨rfl, rfl, rfl⟩, rfl, fun e he => by simp at he, .nil, .nil⟩, fun h'' hd hs => ?_⟩
  rw [merged_new (by rw [List.nil_append, hv.keys]; exact hn), List.nil_append] at hd
  obtain ⟨o', es', m', go', ⟨e1, e2, e3⟩, e4, hk', hp', _⟩ := hd
  obtain ⟨oc, od, oda, osl⟩ := o'
  dsimp only at e1 e2 e3 e4
  subst e1 e2 e3 e4
  obtain ⟨es'⟩ := es'
  have re' := repE_of hv hp' (fun e he => hk' e (List.mem_toArray.mpr he))
  obtain ⟨C₄, X₄⟩ := C'.upd hg (SameBut.other hs) go' (mo' := .dict l) ⟨es', m', rfl, re'⟩
  exact k (.ref _) _ b' h'' _ _ hP C₄ ((X₁.trans X').trans X₄) Rep.mkRef
end
end Mine
end
section
open PySem PySem.W PySem.Spec PySem.Calls PyProof.Rows
namespace Mine
/-! calls that read, or turn a part of, the store -/
theorem split_mem {α : Type} {q : α} : ∀ {l : List α}, q ∈ l → ∃ r, l.Perm (q :: r)
  | [], h => nomatch h
  | x :: l, h => by
    rcases List.mem_cons.mp h with rfl | h
    · exact ⟨l, .refl _⟩
    · obtain ⟨r, p⟩ := split_mem h
      exact ⟨x :: r, (p.cons x).trans (.swap _ _ _)⟩
theorem split_sub : ∀ {st l : List (Addr × MO)}, (∀ q ∈ st, q ∈ l) → (st.map (·.1)).Nodup → ∃ r, l.Perm (st ++ r)
  | [], l, _, _ => ⟨l, .refl _⟩
  | q :: st, l, h, n => by
    rw [List.map_cons, List.nodup_cons] at n
    obtain ⟨r, p⟩ := split_mem (h q (.head _))
    have h' : ∀ x ∈ st, x ∈ r := fun x hx => by
      rcases List.mem_cons.mp (p.mem_iff.mp (h x (.tail _ hx))) with e | e
      · subst e; exact absurd (List.mem_map_of_mem (f := (·.1)) hx) n.1
      · exact e
    obtain ⟨r', p'⟩ := split_sub h' n.2
    exact ⟨r', p.trans (p'.cons q)⟩
noncomputable def setAll : List (Addr × MO) → List (Addr × MO) → List (Addr × MO)
  | [], l => l
  | (a, m) :: st, l => setAll st (setM a m l)
theorem getM_of {a : Addr} {mo : MO} : ∀ {l : List (Addr × MO)}, (l.map (·.1)).Nodup → (a, mo) ∈ l → getM a l = some mo
  | [], _, h => nomatch h
  | (c, x) :: r, n, h => by
    rw [List.map_cons, List.nodup_cons] at n
    rw [getM]
    rcases List.mem_cons.mp h with e | h
    · cases e; rw [if_pos rfl]
    · rw [if_neg (fun z : c = a => n.1 (z ▸ List.mem_map_of_mem (f := (·.1)) h))]
      exact getM_of n.2 h
theorem setM_at {a : Addr} {mo : MO} : ∀ {l : List (Addr × MO)}, a ∈ l.map (·.1) → (a, mo) ∈ setM a mo l
  | [], h => nomatch h
  | (c, x) :: r, h => by
    rw [setM]
    by_cases e : c = a
    · rw [if_pos e, e]; exact .head _
    · rw [if_neg e]
      rcases List.mem_cons.mp h with z | z
      · exact absurd z.symm e
      · exact .tail _ (setM_at z)
theorem setM_other {a : Addr} {mo : MO} {q : Addr × MO} : ∀ {l : List (Addr × MO)}, q ∈ l → q.1 ≠ a → q ∈ setM a mo l
  | [], h, _ => nomatch h
  | (c, x) :: r, h, ne => by
    rw [setM]
    by_cases e : c = a
    · rw [if_pos e]
      rcases List.mem_cons.mp h with z | z
      · subst z; exact absurd e ne
      · exact .tail _ z
    · rw [if_neg e]
      rcases List.mem_cons.mp h with z | z
      · subst z; exact .head _
      · exact .tail _ (setM_other z ne)
theorem setAll_keys : ∀ (st l : List (Addr × MO)), (setAll st l).map (·.1) = l.map (·.1)
  | [], _ => rfl
  | (a, m) :: st, l => by rw [setAll, setAll_keys st, setM_keys]
theorem setAll_mem : ∀ {st l : List (Addr × MO)} {q : Addr × MO}, (l.map (·.1)).Nodup → (st.map (·.1)).Nodup → q ∈ setAll st l → q ∈ st ∨ (q ∈ l ∧ q.1 ∉ st.map (·.1))
  | [], _, _, _, _, h => .inr ⟨h, fun z => nomatch z⟩
  | (a, m) :: st, l, q, n, ns, h => by
    rw [List.map_cons, List.nodup_cons] at ns
    rw [setAll] at h
    rcases setAll_mem (by rw [setM_keys]; exact n) ns.2 h with z | ⟨z, z'⟩
    · exact .inl (.tail _ z)
    · rcases setM_mem n z with e | ⟨e, e'⟩
      · exact .inl (e ▸ .head _)
      · refine .inr ⟨e, fun y => ?_⟩
        rcases List.mem_cons.mp y with y | y
        · exact e' y
        · exact z' y
section
variable {Φ : Fx} {E : Value → Shared → Prop} {σ : Sy} {n : Nat}
theorem T.nd {α β : Type} {m : Sem α} {R : Bs → α → β → Prop} {Post : β → Sy → Prop} (h : (σ.st.map (·.1)).Nodup → T Φ E m R σ Post) : T Φ E m R σ Post := T.mk fun b s Q C k => (h C.nd).run b s Q C k
theorem CallT.nd {f : Value} {ps : List PV} {Post : PV → Sy → Prop} (h : (σ.st.map (·.1)).Nodup → CallT Φ E f ps σ Post) : CallT Φ E f ps σ Post := fun b s vs Q C r k => h C.nd b s vs Q C r k
theorem Cx.permute {e : List (Str × PV)} {st st' : List (Addr × MO)} {b : Bs} {h : Heap} (C : Cx Φ ⟨e, st⟩ b h) (hm : ∀ q ∈ st', q ∈ st) (n : (st'.map (·.1)).Nodup) : Cx Φ ⟨e, st'⟩ b h :=
  ⟨C.sub, C.low, C.ns, C.cells, C.Lb, fun q hq => C.st q (hm q hq), n, C.ff, C.glob⟩
theorem Ext.permute {e : List (Str × PV)} {st st' : List (Addr × MO)} {b : Bs} {h : Heap} (hm : ∀ q ∈ st', q ∈ st) : Ext Φ ⟨e, st⟩ ⟨e, st'⟩ b b h h :=
  ⟨.refl _, fun _ _ e => .inl e, fun a o e _ _ => ⟨⟨o.slots, e⟩, fun _ => e⟩, fun a e => .inl (by
    obtain ⟨q, hq, z⟩ := List.mem_map.mp e
    exact z ▸ List.mem_map_of_mem (hm q hq)), fun _ o e => ⟨o, e⟩⟩
/-- a call that turns a part of the store -/
theorem callT_set {f : Value} {ps : List PV} {st : List (Addr × MO)} {P : PV → List (Addr × MO) → Prop} {Post : PV → Sy → Prop} (O : Φ.Ok n) (F : FnT Φ.prog Φ.w Φ.b₀ n f ps st fun r st' => st'.map (·.1) = st.map (·.1) ∧ P r st') (hs : ∀ q ∈ st, q ∈ σ.st) (hn : (st.map (·.1)).Nodup)
    (q : ∀ r st', P r st' → st'.map (·.1) = st.map (·.1) → Post r ⟨σ.env, setAll st' σ.st⟩) : CallT Φ E f ps σ Post := fun b s vs Q C rs k => by
  obtain ⟨rest, hp⟩ := split_sub hs hn
  refine callT_of (Post' := fun r σ' => ∃ st', (st'.map (·.1) = st.map (·.1) ∧ P r st') ∧ σ' = ⟨σ.env, st' ++ rest⟩) O F hp (fun r st' h => ⟨st', h, rfl⟩) b s vs Q C rs fun r σ' b' h' tk' a p C' X ra => ?_
  obtain ⟨st', ⟨hk, hP⟩, rfl⟩ := p
  have mem : ∀ q ∈ setAll st' σ.st, q ∈ st' ++ rest := fun q hq => by
    rcases setAll_mem C.nd (by rw [hk]; exact hn) hq with z | ⟨z, z'⟩
    · exact List.mem_append_left _ z
    · rcases List.mem_append.mp (hp.mem_iff.mp z) with y | y
      · exact absurd (List.mem_map_of_mem y) (by rw [← hk]; exact z')
      · exact List.mem_append_right _ y
  refine k r ⟨σ.env, setAll st' σ.st⟩ b' h' tk' a (q r st' hP hk) (C'.permute mem ?_) (X.trans (.permute mem)) ra
  rw [setAll_keys]; exact C.nd
theorem setAll_same : ∀ {st l : List (Addr × MO)}, (l.map (·.1)).Nodup → (∀ q ∈ st, q ∈ l) → setAll st l = l
  | [], _, _, _ => rfl
  | (a, m) :: st, l, n, h => by
    have e : ∀ {l : List (Addr × MO)}, (l.map (·.1)).Nodup → (a, m) ∈ l → setM a m l = l := by
      intro l
      induction l with
      | nil => intro _ h; cases h
      | cons q l ih =>
        obtain ⟨c, x⟩ := q
        intro n h
        rw [List.map_cons, List.nodup_cons] at n
        rw [setM]
        rcases List.mem_cons.mp h with z | z
        · cases z; rw [if_pos rfl]
        · rw [if_neg (fun y : c = a => n.1 (y ▸ List.mem_map_of_mem (f := (·.1)) z)), ih n.2 z]
    rw [setAll, e n (h _ (.head _))]
    exact setAll_same n fun q hq => h q (.tail _ hq)
/-- a call that leaves its part of the store as it was -/
theorem callT_ro {f : Value} {ps : List PV} {st : List (Addr × MO)} {P : PV → Prop} {Post : PV → Sy → Prop} (O : Φ.Ok n) (F : FnT Φ.prog Φ.w Φ.b₀ n f ps st fun r st' => st' = st ∧ P r) (hs : ∀ q ∈ st, q ∈ σ.st) (hn : (st.map (·.1)).Nodup)
    (q : ∀ r, P r → Post r σ) : CallT Φ E f ps σ Post :=
  CallT.nd fun nd => callT_set (P := fun r st' => st' = st ∧ P r) O (F.mono (Nat.le_refl _) fun r st' h => ⟨by rw [h.1], h⟩) hs hn fun r st' h _ => by
    obtain ⟨rfl, h⟩ := h
    rw [setAll_same nd hs]
    exact q r h
end
end Mine
end
section
open PySem PySem.W PySem.Spec PySem.Calls PyProof.Rows
namespace Mine
section
variable {Φ : Fx} {E : Value → Shared → Prop} {σ : Sy} {n : Nat}
noncomputable def WhilePost (Inv : Nat → Sy → Prop) (m : Nat) (Post : PF → Sy → Prop) : PF → Sy → Prop
  | .next, σ => ∃ m', m' < m ∧ Inv m' σ
  | .cont, σ => ∃ m', m' < m ∧ Inv m' σ
  | .brk, σ => Post .next σ
  | .ret p, σ => Post (.ret p) σ
theorem x_while {test : Expr} {body : List Stmt} {pos : Pos} {Post : PF → Sy → Prop} (Inv : Nat → Sy → Prop) (m : Nat) (h0 : Inv m σ)
    (turn : ∀ (E' : Value → Shared → Prop) m σ', Inv m σ' → Te Φ E' test σ' fun c σ'' => (c = true → Exs Φ E' body σ'' (WhilePost Inv m Post)) ∧ (c = false → Post .next σ'')) : Ex Φ E (.While test body [] pos) σ Post := by
  refine T.mk fun b s Q C k => ?_
  refine wpAny_While (codeAny_whileLoop (fun i s' => ∃ σ' b' h' tk', s' = { s with heap := h', toks := tk' } ∧ Inv i σ' ∧ Cx Φ σ' b' h' ∧ Ext Φ σ σ' b b' s.heap h') ?_ m ⟨σ, b, s.heap, s.toks, rfl, h0, C, .refl⟩)
  rintro i s' ⟨σ', b', h', tk', rfl, hI, C', X'⟩
  refine (turn _ i σ' hI).run b' _ _ C' fun c σ₁ b₁ h₁ t₁ v hP C₁ X₁ r₁ => ?_
  cases r₁
  cases c with
  | false =>
    simp only [Bool.false_eq_true, if_false]
    exact wpAny_execs_nil (k .next σ₁ b₁ h₁ t₁ .next (hP.2 rfl) C₁ (X'.trans X₁) trivial)
  | true =>
    simp only [if_true]
    refine (hP.1 rfl).run b₁ _ _ C₁ fun pf σ₂ b₂ h₂ t₂ fl hP₂ C₂ X₂ r₂ => ?_
    have X := (X'.trans X₁).trans X₂
    cases pf <;> cases fl <;> first | exact False.elim r₂ | skip
    · obtain ⟨m', hm, hI'⟩ := hP₂; exact ⟨m', hm, σ₂, b₂, h₂, t₂, rfl, hI', C₂, X⟩
    · exact k .next σ₂ b₂ h₂ t₂ .next hP₂ C₂ X trivial
    · obtain ⟨m', hm, hI'⟩ := hP₂; exact ⟨m', hm, σ₂, b₂, h₂, t₂, rfl, hI', C₂, X⟩
    · exact k (.ret _) σ₂ b₂ h₂ t₂ (.ret _) hP₂ C₂ X r₂
theorem xs_weak {body : List Stmt} {σ' : Sy} {Post : PF → Sy → Prop} (w : Weak σ' σ) (h : Exs Φ E body σ' Post) : Exs Φ E body σ Post := T.weak w h
end
end Mine
end
section
open PySem PySem.W PySem.Spec PySem.Calls PyProof.Rows
namespace Mine
section
variable {Φ : Fx} {E : Value → Shared → Prop} {σ : Sy} {n : Nat} {value slice : Expr} {Post : PV → Sy → Prop}
theorem s_tup0 {p : PV} {r : List PV} (q : Post p σ) (hl : r.length < 10000 := by simp) (hs : PlainSlice slice := by intro _ _; rfl) : SubT Φ E value slice (.tup (p :: r)) (.int 0) σ Post := s_tup (i := 0) rfl (by simp; omega) q hs
theorem s_tup1 {p p1 : PV} {r : List PV} (q : Post p1 σ) (hl : r.length < 10000 := by simp) (hs : PlainSlice slice := by intro _ _; rfl) : SubT Φ E value slice (.tup (p :: p1 :: r)) (.int 1) σ Post := s_tup (i := 1) rfl (by simp; omega) q hs
theorem s_tup2 {p p1 p2 : PV} {r : List PV} (q : Post p2 σ) (hl : r.length < 10000 := by simp) (hs : PlainSlice slice := by intro _ _; rfl) : SubT Φ E value slice (.tup (p :: p1 :: p2 :: r)) (.int 2) σ Post := s_tup (i := 2) rfl (by simp; omega) q hs
theorem t_val {e : Expr} {Post : Bool → Sy → Prop} {x : Bool} (h : Ev Φ E e σ fun p σ₁ => p = .bool x ∧ Post x σ₁)
    (he : isTrue e Φ.env (eval e Φ.env) = (do let v ← eval e Φ.env; standAt e.pos; holding [v] (truthy v)) := by rfl) : Te Φ E e σ Post := t_bool (T.mono h fun _ _ h => ⟨x, h⟩) he
end
end Mine
end
section
open PySem PySem.W PySem.Spec PySem.Calls PyProof.Rows
namespace Mine
section
variable {Φ : Fx} {E : Value → Shared → Prop} {σ : Sy} {n : Nat}
/-- a dict display of one, two, three, four pairs -/
theorem e_dict1 {k1 v1 : Expr} {pos : Pos} {Post : PV → Sy → Prop} (h : ∀ D, PairsT Φ E [(eval k1 Φ.env, do let x ← eval v1 Φ.env; standAt pos; pure x)] ⟨σ.env, (D, .dict []) :: σ.st⟩ fun l σ' => getM D σ'.st = some (.dict []) ∧ (l.map (·.1)).Nodup ∧ Post (.ref D) ⟨σ'.env, setM D (.dict l) σ'.st⟩) :
    Ev Φ E (.Dict [some k1] [v1] pos) σ Post := e_dictD (by with_unfolding_all rfl) (by simp) (by simp) h
theorem e_dict2 {k1 v1 k2 v2 : Expr} {pos : Pos} {Post : PV → Sy → Prop} (h : ∀ D, PairsT Φ E [(eval k1 Φ.env, do let x ← eval v1 Φ.env; standAt pos; pure x), (eval k2 Φ.env, do let x ← eval v2 Φ.env; standAt pos; pure x)] ⟨σ.env, (D, .dict []) :: σ.st⟩ fun l σ' => getM D σ'.st = some (.dict []) ∧ (l.map (·.1)).Nodup ∧ Post (.ref D) ⟨σ'.env, setM D (.dict l) σ'.st⟩) :
    Ev Φ E (.Dict [some k1, some k2] [v1, v2] pos) σ Post := e_dictD (by with_unfolding_all rfl) (by simp) (by simp) h
theorem e_dict3 {k1 v1 k2 v2 k3 v3 : Expr} {pos : Pos} {Post : PV → Sy → Prop} (h : ∀ D, PairsT Φ E [(eval k1 Φ.env, do let x ← eval v1 Φ.env; standAt pos; pure x), (eval k2 Φ.env, do let x ← eval v2 Φ.env; standAt pos; pure x), (eval k3 Φ.env, do let x ← eval v3 Φ.env; standAt pos; pure x)] ⟨σ.env, (D, .dict []) :: σ.st⟩ fun l σ' => getM D σ'.st = some (.dict []) ∧ (l.map (·.1)).Nodup ∧ Post (.ref D) ⟨σ'.env, setM D (.dict l) σ'.st⟩) :
    Ev Φ E (.Dict [some k1, some k2, some k3] [v1, v2, v3] pos) σ Post := e_dictD (by with_unfolding_all rfl) (by simp) (by simp) h
theorem e_dict4 {k1 v1 k2 v2 k3 v3 k4 v4 : Expr} {pos : Pos} {Post : PV → Sy → Prop} (h : ∀ D, PairsT Φ E [(eval k1 Φ.env, do let x ← eval v1 Φ.env; standAt pos; pure x), (eval k2 Φ.env, do let x ← eval v2 Φ.env; standAt pos; pure x), (eval k3 Φ.env, do let x ← eval v3 Φ.env; standAt pos; pure x), (eval k4 Φ.env, do let x ← eval v4 Φ.env; standAt pos; pure x)] ⟨σ.env, (D, .dict []) :: σ.st⟩ fun l σ' => getM D σ'.st = some (.dict []) ∧ (l.map (·.1)).Nodup ∧ Post (.ref D) ⟨σ'.env, setM D (.dict l) σ'.st⟩) :
    Ev Φ E (.Dict [some k1, some k2, some k3, some k4] [v1, v2, v3, v4] pos) σ Post := e_dictD (by with_unfolding_all rfl) (by simp) (by simp) h
theorem thn_ret {rest : List Stmt} {Post : PF → Sy → Prop} {p : PV} (h : Post (.ret p) σ) : Thn Φ E rest Post (.ret p) σ := h
/-- a name of the top -/
theorem e_glob {K : Frag} {x : Str} {pos : Pos} {a : Addr} {Post : PV → Sy → Prop} (O : Φ.Ok n) (tp : Tp Φ.b₀ K) (e : nsIn K mainGlobals x = some (some (.ref a))) (hx : Φ.env.kindOf x = some .globalImplicit) (q : Post (.ref a) σ) (hd : (x == ("__debug__" : Str)) = false := by decide) :
    Ev Φ E (.Name x pos) σ Post := T.mk fun b s Q C k => name_g O tp C e hx (k (.ref a) σ b s.heap s.toks _ q C .refl Rep.mkRef) hd
/-- a store in which less is said -/
theorem e_drop {e : Expr} {Post : PV → Sy → Prop} (h : Ev Φ E e σ fun p σ₁ => ∃ a, Post p ⟨σ₁.env, delM a σ₁.st⟩) : Ev Φ E e σ Post := T.mk fun b s Q C k =>
  h.run b s _ C fun p σ₁ b₁ h₁ t₁ v hP C₁ X₁ r₁ => by
    obtain ⟨a, hP⟩ := hP
    have sub : ∀ q ∈ delM a σ₁.st, q ∈ σ₁.st := fun q hq => (delM_mem C₁.nd hq).1
    exact k p _ b₁ h₁ t₁ v hP (C₁.permute sub (List.Sublist.nodup delM_sub C₁.nd)) (X₁.trans (Ext.permute sub)) r₁
end
end Mine
end
section
open PySem PySem.W PySem.Spec PySem.Calls PyProof.Rows
namespace Mine
section
variable {Φ : Fx} {E : Value → Shared → Prop} {σ : Sy} {n : Nat}
theorem e_neg {x : Expr} {pos : Pos} {Post : PV → Sy → Prop} (h : Ev Φ E x σ fun p σ₁ => ∃ i, p = .int i ∧ Post (.int (-i)) σ₁) : Ev Φ E (.UnaryOp .USub x pos) σ Post :=
  T.mk fun b s Q C k => wpAny_UnaryOp (h.run b s _ C fun p σ₁ b₁ h₁ t₁ v hP C₁ X₁ r₁ => by
    obtain ⟨i, rfl, hc⟩ := hP
    obtain ⟨t, rfl⟩ := r₁.intI
    exact neg_int (k _ σ₁ b₁ h₁ _ _ hc C₁ X₁ Rep.mkInt))
theorem T.drop {α β : Type} {m : Sem α} {R : Bs → α → β → Prop} {Post : β → Sy → Prop} {e : List (Str × PV)} {st : List (Addr × MO)} (a : Addr) (h : T Φ E m R ⟨e, delM a st⟩ Post) : T Φ E m R ⟨e, st⟩ Post := T.mk fun b s Q C k => by
  have sub : ∀ q ∈ delM a st, q ∈ st := fun q hq => (delM_mem C.nd hq).1
  exact h.run b s Q (C.permute sub (List.Sublist.nodup delM_sub C.nd)) fun β σ₂ b₂ h₂ t₂ x p C₂ X₂ r => k β σ₂ b₂ h₂ t₂ x p C₂ ((Ext.permute sub).trans X₂) r
/-- the store of a state has no address twice -/
theorem e_nd {e : Expr} {Post : PV → Sy → Prop} (h : Ev Φ E e σ fun p σ₁ => (σ₁.st.map (·.1)).Nodup → Post p σ₁) : Ev Φ E e σ Post := T.mk fun b s Q C k =>
  h.run b s _ C fun p σ₁ b₁ h₁ t₁ v hP C₁ X₁ r₁ => k p σ₁ b₁ h₁ t₁ v (hP C₁.nd) C₁ X₁ r₁
end
end Mine
end
section
open PySem PySem.W PySem.Spec PySem.Calls PyProof.Rows
namespace Mine
/-! triples with an end by an exception -/
noncomputable def Exc (C : Addr) (x : Value) : Obj → Prop := fun o => o.cls = .ref C ∧ ∃ vs, o.data = .fields vs ∧ vs[1]? = some x
noncomputable def Tb (x : Value) : Obj → Prop := fun o => ∃ vs, o.data = .fields vs ∧ vs[3]? = some x
theorem funFrames {h : Heap} {b : Bs} : ∀ {outer : List Env}, FF h b outer → h.FunFrames {} outer
  | [], _ => trivial
  | env :: _, f => by
    obtain ⟨hk, L, o, hf, _, e, hd⟩ := f env (.head _)
    exact ⟨hk, ⟨L, o, hf, rfl, e, hd⟩, funFrames fun en he => f en (.tail _ he)⟩
section
variable {M : Model} {A : Around} {E : Value → Shared → Prop} {s : Shared} {w : World} {b₀ : Heap} {outer : List Env} {b : Bs}
theorem note_entry {env : Env} {L e C : Addr} {x head : Value} {hadNext : Bool} {more : List (Addr × MO)} {Q : Unit → Shared → Prop} (hfr : A.frames = some (env :: outer)) (hf : env.frame = some L)
    (H : Hx w b₀ (env :: outer) ((e, .raw (Exc C x)) :: more) b s.heap)
    (k : ∀ h' T, Hx w b₀ (env :: outer) ((T, .raw (Tb (rawInt L))) :: (e, .raw (Exc C (.ref T))) :: more) b h' → Xh (env :: outer) ((e, .raw (Exc C x)) :: more) ((T, .raw (Tb (rawInt L))) :: (e, .raw (Exc C (.ref T))) :: more) b b s.heap h' → Q () { s with heap := h' }) :
    wpAny M A (do let a ← frameOf env; let pl ← entryPlaceOf L hadNext; let b ← EntryCells.newEntry head a .none (rawInt L) .none pl; setField (.ref e) 1 b) Q E s := by
  obtain ⟨⟨oe, he, hcls, vs, hd, h1⟩, hbe, hes, hef⟩ := H.st _ (.head _)
  have hl := funFrames H.ff
  have frOf : ∀ a, a ∈ (env :: outer).filterMap (·.frame) → fr (env :: outer) a := fun a hm => by
    obtain ⟨en, hen, hfe⟩ := List.mem_filterMap.mp hm
    exact ⟨en, hen, hfe⟩
  refine wpAny_bind (wpAny_frameOf_fun hfr hl hf fun h₁ hs₁ => ?_)
  refine wpAny_bind (wpAny_entryPlaceOf fun pl hpl => ?_)
  unfold EntryCells.newEntry newFields
  refine wpAny_bind (wpAny_newObj_type ?_ (hpl.sizeOk5 _ _ _ _ _))
  have same₁ : ∀ a, ¬ fr (env :: outer) a → h₁.get? a = s.heap.get? a := fun a hn => hs₁.2.1 a fun hm => hn (frOf a hm)
  have he₁ : h₁.get? e = some oe := (same₁ e hef).trans he
  have hTe : h₁.objs.size ≠ e := Nat.ne_of_gt (Heap.lt_size he₁)
  generalize hoT : ({ cls := .type "traceback", dict := none, data := .fields ([head, .ref L, .none, rawInt L, .none] ++ (if pl.isEmpty then List.replicate 6 Value.none else pl)).toArray } : Obj) = oT
  have hdT : Tb (rawInt L) oT := by subst hoT; exact ⟨_, rfl, by simp⟩
  have fT : oT.isFreed = false := by subst hoT; rfl
  have he₂ := Heap.get?_push_of_some (h := h₁) oT he₁
  refine wpAny_setField he₂ hd (Array.getElem?_eq_some_iff.mp h1).1 ?_
  have hd₃ := Obj.data_mapFields hd (·.setIfInBounds 1 (Value.ref h₁.objs.size))
  have he₃ := Heap.get?_update_self (Obj.mapFields (·.setIfInBounds 1 (Value.ref h₁.objs.size))) he₂ (Obj.isFreed_of_fields hd₃)
  have hT₃ := (Heap.get?_update_other (h₁.push oT) (Obj.mapFields (·.setIfInBounds 1 (Value.ref h₁.objs.size))) (Ne.symm hTe)).trans (Heap.get?_push_size h₁ fT)
  have keep : ∀ a o, a ≠ e → h₁.get? a = some o → ((h₁.push oT).update e (Obj.mapFields (·.setIfInBounds 1 (Value.ref h₁.objs.size)))).get? a = some o := fun a o hae ha => by
    rw [Heap.get?_update_other _ _ (Ne.symm hae)]
    exact Heap.get?_push_of_some _ ha
  have fresh : s.heap.get? h₁.objs.size = none := by rw [hs₁.1]; exact Heap.get?_none_of_le (Nat.le_refl _)
  have bfresh : b h₁.objs.size = none := by
    cases z : b h₁.objs.size with
    | none => rfl
    | some o => have := H.sub _ _ z; rw [fresh] at this; cases this
  have efree : ∀ a o, s.heap.get? a = some o → ∃ sl, h₁.get? a = some { o with slots := sl } := hs₁.2.2
  have frNe : ∀ a, fr (env :: outer) a → a ≠ e := fun a ha q => hef (q ▸ ha)
  have ndM : e ∉ more.map (·.1) := by have := H.nd; rw [List.map_cons, List.nodup_cons] at this; exact this.1
  refine k _ h₁.objs.size ⟨fun a o ha => ?_, H.low, fun q hq => ?_, ?_, fun en hen => ?_, H.glob⟩ ⟨.refl b, fun a o ha => .inl ha, fun a o ha hn => ?_, fun a ha => ?_, fun a o ha => ?_⟩
  · have nf : ¬ fr (env :: outer) a := fun ⟨en, hen, hfe⟩ => by
      obtain ⟨_, L', _, hf', hb', _⟩ := H.ff en hen
      rw [hfe] at hf'; cases hf'; rw [ha] at hb'; cases hb'
    exact keep a o (fun q => by rw [q, hbe] at ha; cases ha) ((same₁ a nf).trans (H.sub _ _ ha))
  · rcases List.mem_cons.mp hq with rfl | hq
    · refine ⟨⟨oT, hT₃, hdT⟩, bfresh, fun q => ?_, fun ⟨en, hen, hfe⟩ => ?_⟩
      · obtain ⟨o, eo⟩ := H.glob
        have := Heap.lt_size (H.sub _ _ (H.low _ _ eo))
        have q' : h₁.objs.size = sysModules := q
        rw [hs₁.1] at q'
        rw [q'] at this
        exact absurd this (by decide)
      · obtain ⟨_, L', o, hf', _, e', _⟩ := H.ff en hen
        rw [hfe] at hf'; cases hf'; rw [fresh] at e'; cases e'
    · rcases List.mem_cons.mp hq with rfl | hq
      · refine ⟨⟨_, he₃, ?_, _, hd₃, ?_⟩, hbe, hes, hef⟩
        · exact (Obj.cls_mapFields _ _).trans hcls
        · simp [(Array.getElem?_eq_some_iff.mp h1).1]
      · obtain ⟨⟨o, e', r⟩, nb, z, f⟩ := H.st q (.tail _ hq)
        exact ⟨⟨o, keep _ _ (fun y => ndM (y ▸ List.mem_map_of_mem hq)) ((same₁ _ f).trans e'), r⟩, nb, z, f⟩
  · rw [List.map_cons, List.nodup_cons]
    refine ⟨fun hm => ?_, H.nd⟩
    have hm' : h₁.objs.size ∈ ((e, MO.raw (Exc C x)) :: more).map (·.1) := hm
    obtain ⟨q, hq, e'⟩ := List.mem_map.mp hm'
    obtain ⟨⟨o, e'', _⟩, _⟩ := H.st q hq
    rw [e', fresh] at e''; cases e''
  · obtain ⟨hk, L', o, hf', nb, e', hd'⟩ := H.ff en hen
    obtain ⟨sl, e₂⟩ := efree _ _ e'
    exact ⟨hk, L', _, hf', nb, keep _ _ (frNe _ ⟨en, hen, hf'⟩) e₂, hd'⟩
  · have hae : a ≠ e := fun q => hn (by rw [q]; exact .head _)
    obtain ⟨sl, e₂⟩ := efree _ _ ha
    exact ⟨⟨sl, keep _ _ hae e₂⟩, fun nf => keep _ _ hae ((same₁ _ nf).trans ha)⟩
  · have ha' : a = h₁.objs.size ∨ a ∈ ((e, MO.raw (Exc C x)) :: more).map (·.1) := by
      rcases List.mem_cons.mp ha with q | q
      · exact .inl q
      · exact .inr q
    rcases ha' with rfl | q
    · exact .inr fresh
    · exact .inl q
  · by_cases q : a = e
    · subst q; exact ⟨_, he₃⟩
    · obtain ⟨sl, e₂⟩ := efree _ _ ha
      exact ⟨_, keep _ _ q e₂⟩
/-- a field of one object of the store is set -/
theorem set_raw {a : Addr} {R R' : Obj → Prop} {pre more : List (Addr × MO)} {f : Obj → Obj} (H : Hx w b₀ outer (pre ++ (a, .raw R) :: more) b s.heap) (hR : ∀ o, R o → R' (f o) ∧ (f o).isFreed = false) :
    Hx w b₀ outer (pre ++ (a, .raw R') :: more) b (s.heap.update a f) ∧ Xh outer (pre ++ (a, .raw R) :: more) (pre ++ (a, .raw R') :: more) b b s.heap (s.heap.update a f) := by
  obtain ⟨⟨o, ho, hr⟩, hb, hs, hf⟩ := H.st (a, .raw R) (by simp)
  have hself := Heap.get?_update_self f ho (hR o hr).2
  have other : ∀ c, c ≠ a → (s.heap.update a f).get? c = s.heap.get? c := fun c hc => Heap.get?_update_other _ _ (Ne.symm hc)
  have nd := H.nd
  rw [List.map_append, List.map_cons] at nd
  have nd' : a ∉ pre.map (·.1) ∧ a ∉ more.map (·.1) := by
    rw [List.nodup_append, List.nodup_cons] at nd
    exact ⟨fun q => nd.2.2 _ q _ (.head _) rfl, nd.2.1.1⟩
  have names : (pre ++ (a, MO.raw R') :: more).map (·.1) = (pre ++ (a, MO.raw R) :: more).map (·.1) := by rw [List.map_append, List.map_append]; rfl
  refine ⟨⟨fun c o' hc => ?_, H.low, fun q hq => ?_, ?_, fun en hen => ?_, H.glob⟩, ⟨.refl b, fun c o' hc => .inl hc, fun c o' hc hn => ?_, fun c hc => .inl (names ▸ hc), fun c o' hc => ?_⟩⟩
  · rw [other c fun q => by rw [q, hb] at hc; cases hc]; exact H.sub _ _ hc
  · by_cases hqa : q.1 = a
    · have : q = (a, .raw R') := by
        rcases List.mem_append.mp hq with y | y
        · exact absurd (hqa ▸ List.mem_map_of_mem y) nd'.1
        · rcases List.mem_cons.mp y with rfl | y
          · rfl
          · exact absurd (hqa ▸ List.mem_map_of_mem y) nd'.2
      subst this
      exact ⟨⟨_, hself, (hR o hr).1⟩, hb, hs, hf⟩
    · have : q ∈ pre ++ (a, MO.raw R) :: more := by
        rcases List.mem_append.mp hq with y | y
        · exact List.mem_append_left _ y
        · rcases List.mem_cons.mp y with rfl | y
          · exact absurd rfl hqa
          · exact List.mem_append_right _ (.tail _ y)
      obtain ⟨⟨o', e', r⟩, nb, z, f'⟩ := H.st q this
      exact ⟨⟨o', (other _ hqa).trans e', r⟩, nb, z, f'⟩
  · rw [names]; exact H.nd
  · obtain ⟨hk, L', o', hf', nb, e', hd'⟩ := H.ff en hen
    exact ⟨hk, L', o', hf', nb, (other _ fun q => hf ⟨en, hen, q ▸ hf'⟩).trans e', hd'⟩
  · have hca : c ≠ a := fun q => hn (by rw [q, List.map_append]; exact List.mem_append_right _ (.head _))
    have := (other c hca).trans hc
    exact ⟨⟨o'.slots, this⟩, fun _ => this⟩
  · by_cases q : c = a
    · subst q; exact ⟨_, hself⟩
    · exact ⟨o', (other c q).trans hc⟩
theorem Xh.trans' {st st₁ st₂ : List (Addr × MO)} {b b₁ b₂ : Bs} {h h₁ h₂ : Heap} (x : Xh outer st st₁ b b₁ h h₁) (y : Xh outer st₁ st₂ b₁ b₂ h₁ h₂) : Xh outer st st₂ b b₂ h h₂ := by
  have old : ∀ a, h₁.get? a = none → h.get? a = none := fun a e => by
    cases q : h.get? a with
    | none => rfl
    | some o => obtain ⟨o', e'⟩ := x.there a o q; rw [e] at e'; cases e'
  refine ⟨x.sub.trans y.sub, fun a o e => ?_, fun a o e hd => ?_, fun a e => ?_, fun a o e => ?_⟩
  · rcases y.new a o e with e | e | e
    · exact x.new a o e
    · exact .inr (.inl (old a e))
    · rcases x.dom a e with e | e
      · exact .inr (.inr e)
      · exact .inr (.inl e)
  · obtain ⟨⟨sl, e1⟩, e2⟩ := x.keep a o e hd
    have hd' : a ∉ st₁.map (·.1) := fun q => by
      rcases x.dom a q with q | q
      · exact hd q
      · rw [e] at q; cases q
    obtain ⟨⟨sl', e3⟩, _⟩ := y.keep a _ e1 hd'
    refine ⟨⟨sl', e3⟩, fun hc => ?_⟩
    have := e2 hc
    exact (y.keep a _ this hd').2 hc
  · rcases y.dom a e with e | e
    · exact x.dom a e
    · exact .inr (old a e)
  · obtain ⟨o', e'⟩ := x.there a o e
    exact y.there a o' e'
/-- an exception without a place: its frame is noted -/
theorem note_first {env : Env} {L e C : Addr} {more : List (Addr × MO)} {Q : Unit → Shared → Prop} (hfr : A.frames = some (env :: outer)) (hf : env.frame = some L)
    (H : Hx w b₀ (env :: outer) ((e, .raw (Exc C .none)) :: more) b s.heap)
    (k : ∀ h' T, Hx w b₀ (env :: outer) ((T, .raw (Tb (rawInt L))) :: (e, .raw (Exc C (.ref T))) :: more) b h' → Xh (env :: outer) ((e, .raw (Exc C .none)) :: more) ((T, .raw (Tb (rawInt L))) :: (e, .raw (Exc C (.ref T))) :: more) b b s.heap h' → Q () { s with heap := h' }) :
    wpAny M A (noteFrame (.ref e) env) Q E s := by
  obtain ⟨⟨oe, he, hcls, vs, hd, h1⟩, _⟩ := H.st _ (.head _)
  unfold noteFrame
  simp only [hf]
  refine wpAny_bind (wpAny_field he hd h1 ?_)
  rw [if_neg (by decide)]
  exact note_entry hfr hf H k
/-- an exception that came up from a call -/
theorem note_next {env : Env} {L e C T : Addr} {more : List (Addr × MO)} {Q : Unit → Shared → Prop} (hfr : A.frames = some (env :: outer)) (hf : env.frame = some L)
    (H : Hx w b₀ (env :: outer) ((e, .raw (Exc C (.ref T))) :: (T, .raw (Tb .none)) :: more) b s.heap)
    (k : ∀ h' T', Hx w b₀ (env :: outer) ((T', .raw (Tb (rawInt L))) :: (e, .raw (Exc C (.ref T'))) :: (T, .raw (Tb .none)) :: more) b h' → Xh (env :: outer) ((e, .raw (Exc C (.ref T))) :: (T, .raw (Tb .none)) :: more) ((T', .raw (Tb (rawInt L))) :: (e, .raw (Exc C (.ref T'))) :: (T, .raw (Tb .none)) :: more) b b s.heap h' → Q () { s with heap := h' }) :
    wpAny M A (noteFrame (.ref e) env) Q E s := by
  obtain ⟨⟨oe, he, hcls, vs, hd, h1⟩, _⟩ := H.st _ (.head _)
  obtain ⟨⟨oT, hT, ts, hdT, h3⟩, _⟩ := H.st _ (.tail _ (.head _))
  unfold noteFrame
  simp only [hf]
  refine wpAny_bind (wpAny_field he hd h1 ?_)
  rw [if_pos (show (Value.ref T != Value.none) = true from by simp)]
  refine wpAny_bind (wpAny_field hT hdT h3 ?_)
  rw [if_neg (show ¬ ((Value.none == rawInt L) = true) from by simp [rawInt])]
  refine wpAny_bind (wpAny_setField hT hdT (Array.getElem?_eq_some_iff.mp h3).1 ?_)
  obtain ⟨H', X'⟩ := set_raw (R' := Tb .none) (pre := [(e, .raw (Exc C (.ref T)))]) (f := Obj.mapFields (·.setIfInBounds 3 Value.none)) H fun o ⟨ws, hd', h3'⟩ =>
    ⟨⟨_, Obj.data_mapFields hd' _, by simp [(Array.getElem?_eq_some_iff.mp h3').1]⟩, Obj.isFreed_of_fields (Obj.data_mapFields hd' _)⟩
  exact note_entry (s := { s with heap := s.heap.update T (Obj.mapFields (·.setIfInBounds 3 Value.none)) }) hfr hf H' fun h' T' H₂ X₂ => k h' T' H₂ (X'.trans' X₂)
/-- it is noted already -/
theorem note_here {env : Env} {L e C T : Addr} {more : List (Addr × MO)} {Q : Unit → Shared → Prop} (hf : env.frame = some L)
    (H : Hx w b₀ outer ((T, .raw (Tb (rawInt L))) :: (e, .raw (Exc C (.ref T))) :: more) b s.heap) (k : Q () s) : wpAny M A (noteFrame (.ref e) env) Q E s := by
  obtain ⟨⟨oT, hT, ts, hdT, h3⟩, _⟩ := H.st _ (.head _)
  obtain ⟨⟨oe, he, hcls, vs, hd, h1⟩, _⟩ := H.st _ (.tail _ (.head _))
  exact wpAny_noteFrame_inFlight hf he hd h1 hT hdT h3 k
theorem set_flight {e C T : Addr} {x : Value} {to : Option Addr} {more : List (Addr × MO)} {Q : Unit → Shared → Prop}
    (H : Hx w b₀ outer ((T, .raw (Tb x)) :: (e, .raw (Exc C (.ref T))) :: more) b s.heap)
    (k : ∀ h', Hx w b₀ outer ((T, .raw (Tb (to.elim .none fun f => rawInt f))) :: (e, .raw (Exc C (.ref T))) :: more) b h' → Xh outer ((T, .raw (Tb x)) :: (e, .raw (Exc C (.ref T))) :: more) ((T, .raw (Tb (to.elim .none fun f => rawInt f))) :: (e, .raw (Exc C (.ref T))) :: more) b b s.heap h' → Q () { s with heap := h' }) :
    wpAny M A (setFlight (.ref e) to) Q E s := by
  obtain ⟨⟨oT, hT, ts, hdT, h3⟩, _⟩ := H.st _ (.head _)
  obtain ⟨⟨oe, he, hcls, vs, hd, h1⟩, _⟩ := H.st _ (.tail _ (.head _))
  unfold setFlight
  refine wpAny_bind (wpAny_field he hd h1 ?_)
  rw [if_pos (show (Value.ref T != Value.none) = true from by simp)]
  obtain ⟨H', X'⟩ := set_raw (R' := Tb (to.elim .none fun f => rawInt f)) (pre := []) (f := Obj.mapFields (·.setIfInBounds 3 (to.elim .none fun f => rawInt f))) H fun o ⟨ws, hd', h3'⟩ =>
    ⟨⟨_, Obj.data_mapFields hd' _, by simp [(Array.getElem?_eq_some_iff.mp h3').1]⟩, Obj.isFreed_of_fields (Obj.data_mapFields hd' _)⟩
  exact wpAny_setField hT hdT (Array.getElem?_eq_some_iff.mp h3).1 (k _ H' X')
end
/-! the triples -/
structure TX {α β : Type} (Φ : Fx) (m : Sem α) (R : Bs → α → β → Prop) (σ : Sy) (Post : β → Sy → Prop) (PX : PV → Sy → Prop) : Prop where
  run : ∀ (b : Bs) (s : Shared) (Q : α → Shared → Prop) (E : Value → Shared → Prop), Cx Φ σ b s.heap →
    (∀ β σ' b' h' tk' a, Post β σ' → Cx Φ σ' b' h' → Ext Φ σ σ' b b' s.heap h' → R b' a β → Q a { s with heap := h', toks := tk' }) →
    (∀ p σ' b' h' tk' v, PX p σ' → Cx Φ σ' b' h' → Ext Φ σ σ' b b' s.heap h' → Rep Φ.w.params b' p v → E v { s with heap := h', toks := tk' }) →
    wpAny (model Φ.prog Φ.w) Φ.A m Q E s
noncomputable abbrev ExX (Φ : Fx) (st : Stmt) (σ : Sy) (Post : PF → Sy → Prop) (PX : PV → Sy → Prop) : Prop := TX Φ (exec st Φ.env) (RF Φ) σ Post PX
noncomputable abbrev ExsX (Φ : Fx) (st : List Stmt) (σ : Sy) (Post : PF → Sy → Prop) (PX : PV → Sy → Prop) : Prop := TX Φ (execs st Φ.env) (RF Φ) σ Post PX
section
variable {Φ : Fx} {σ : Sy} {n : Nat}
theorem TX.of {α β : Type} {m : Sem α} {R : Bs → α → β → Prop} {Post : β → Sy → Prop} {PX : PV → Sy → Prop} (h : ∀ E, T Φ E m R σ Post) : TX Φ m R σ Post PX :=
  TX.mk fun b s Q E C k _ => (h E).run b s Q C k
noncomputable def ThnX (Φ : Fx) (rest : List Stmt) (Post : PF → Sy → Prop) (PX : PV → Sy → Prop) : PF → Sy → Prop
  | .next, σ => ExsX Φ rest σ Post PX
  | f, σ => Post f σ
theorem xx_cons {st : Stmt} {rest : List Stmt} {Post : PF → Sy → Prop} {PX : PV → Sy → Prop} (h : ExX Φ st σ (ThnX Φ rest Post PX) PX) : ExsX Φ (st :: rest) σ Post PX :=
  TX.mk fun b s Q E C k kx => wpAny_execs_cons (h.run b s _ _ C (fun f σ₁ b₁ h₁ t₁ fl hP C₁ X₁ r₁ => by
    cases f <;> cases fl <;> first | exact False.elim r₁ | skip
    · exact hP.run b₁ _ Q E C₁ (fun f σ₂ b₂ h₂ t₂ fl hP₂ C₂ X₂ r₂ => k f σ₂ b₂ h₂ t₂ fl hP₂ C₂ (X₁.trans X₂) r₂) fun f σ₂ b₂ h₂ t₂ v hP₂ C₂ X₂ r₂ => kx f σ₂ b₂ h₂ t₂ v hP₂ C₂ (X₁.trans X₂) r₂
    · exact k _ σ₁ b₁ h₁ t₁ _ hP C₁ X₁ r₁
    · exact k _ σ₁ b₁ h₁ t₁ _ hP C₁ X₁ r₁
    · exact k _ σ₁ b₁ h₁ t₁ _ hP C₁ X₁ r₁) kx)
theorem xx_nil {Post : PF → Sy → Prop} {PX : PV → Sy → Prop} (q : Post .next σ) : ExsX Φ [] σ Post PX := TX.of fun _ => xs_nil q
theorem xx_of {st : Stmt} {rest : List Stmt} {Post : PF → Sy → Prop} {PX : PV → Sy → Prop} (h : ∀ E, Ex Φ E st σ (ThnX Φ rest Post PX)) : ExsX Φ (st :: rest) σ Post PX :=
  xx_cons (TX.of h)
theorem xx_if {test : Expr} {body orelse : List Stmt} {pos : Pos} {Post : PF → Sy → Prop} {PX : PV → Sy → Prop} (h : ∀ E, Te Φ E test σ fun c σ₁ => (c = true → ExsX Φ body σ₁ Post PX) ∧ (c = false → ExsX Φ orelse σ₁ Post PX)) : ExX Φ (.If test body orelse pos) σ Post PX :=
  TX.mk fun b s Q E C k kx => wpAny_If ((h E).run b s _ C fun c σ₁ b₁ h₁ t₁ v hP C₁ X₁ r₁ => by
    cases r₁
    cases c with
    | true => exact (hP.1 rfl).run b₁ _ Q E C₁ (fun f σ₂ b₂ h₂ t₂ fl hP₂ C₂ X₂ r₂ => k f σ₂ b₂ h₂ t₂ fl hP₂ C₂ (X₁.trans X₂) r₂) fun f σ₂ b₂ h₂ t₂ v hP₂ C₂ X₂ r₂ => kx f σ₂ b₂ h₂ t₂ v hP₂ C₂ (X₁.trans X₂) r₂
    | false => exact (hP.2 rfl).run b₁ _ Q E C₁ (fun f σ₂ b₂ h₂ t₂ fl hP₂ C₂ X₂ r₂ => k f σ₂ b₂ h₂ t₂ fl hP₂ C₂ (X₁.trans X₂) r₂) fun f σ₂ b₂ h₂ t₂ v hP₂ C₂ X₂ r₂ => kx f σ₂ b₂ h₂ t₂ v hP₂ C₂ (X₁.trans X₂) r₂)
end
end Mine
end
section
open PySem PySem.W PySem.Spec PySem.Calls PyProof.Rows
namespace Mine
noncomputable def DoneX (C L : Addr) (PostX : List (Addr × MO) → Prop) (p : PV) (σ : Sy) : Prop :=
  ∃ e T st', p = .ref e ∧ PostX st' ∧ (∀ q ∈ (T, MO.raw (Tb (rawInt L))) :: (e, MO.raw (Exc C (.ref T))) :: st', q ∈ σ.st) ∧ (((T, MO.raw (Tb (rawInt L))) :: (e, MO.raw (Exc C (.ref T))) :: st').map (·.1)).Nodup
noncomputable def FnTX (prog : Program) (w : World) (b₀ : Heap) (n : Nat) (f : Value) (ps : List PV) (st : List (Addr × MO)) (Post : PV → List (Addr × MO) → Prop) (C : Addr) (PostX : List (Addr × MO) → Prop) : Prop :=
  ∀ (A : Around) (outer : List Env) (b : Bs) (s : Shared) (vs : List Value) (R : Result → Shared → Prop), Lv A outer n → Hx w b₀ outer st b s.heap → Reps w.params b ps vs →
    (∀ r st' b' h' tk' a, Post r st' → Hx w b₀ outer st' b' h' → Xh outer st st' b b' s.heap h' → Rep w.params b' r a → R (.ok (.ret a)) { s with heap := h', toks := tk' }) →
    (∀ e T st' b' h' tk', PostX st' → Hx w b₀ outer ((T, .raw (Tb .none)) :: (e, .raw (Exc C (.ref T))) :: st') b' h' → Xh outer st ((T, .raw (Tb .none)) :: (e, .raw (Exc C (.ref T))) :: st') b b' s.heap h' →
      R (.error (.ref e)) { s with heap := h', toks := tk' }) →
    codeAny (model prog w) A (.call f ⟨vs, []⟩) R s
section
variable {prog : Program} {w : World} {b₀ : Heap} {K : Frag} {n : Nat}
set_option maxHeartbeats 1000000 in
theorem FnTX.mk {C : Addr} {f : Addr} {name qual : Str} {params : Arguments} {body : List Stmt} {scope : Scope} {dV kV doc pm cdv ct oc : Value} {an od : Option Addr} {osl : Array (Option Value)} {ps : List PV} {env₀ : List (Str × PV)} {st : List (Addr × MO)} {Post : PV → List (Addr × MO) → Prop} {PostX : List (Addr × MO) → Prop}
    (tp : Tp b₀ K) (ho : K.lookup f = some ⟨oc, od, .func (fnX name qual params body scope [] dV kV doc pm an cdv ct), osl⟩) (hcd : codeIn K cdv qual = true)
    (hbind : ∀ (s : Shared) (b : Bs) (vs : List Value), K.In s.heap → Sub b s.heap.get? → Sub b₀.get? b → Reps w.params b ps vs → ∃ binds, BindsTo s (fnX name qual params body scope [] dV kV doc pm an cdv ct) ⟨vs, []⟩ binds ∧ RepB w.params b env₀ binds)
    (hnd : (env₀.map (·.1)).Nodup)
    (hkind : ∀ m, ∀ x ∈ env₀, scope.names.lookup x.1 = some .local ∨ (scope.names.lookup x.1 = some .cell ∧ ((cellsFrom m scope.names []).lookup x.1).isSome = true))
    (hcn : ∀ m, ((cellsFrom m scope.names []).map (·.1)).Nodup)
    (hbody : ∀ (A : Around) (outer : List Env) (L : Addr), (fxOf prog w b₀ A outer (envX qual scope L f cdv (cellsFrom (L + 1) scope.names []))).Ok n →
      ExsX (fxOf prog w b₀ A outer (envX qual scope L f cdv (cellsFrom (L + 1) scope.names []))) body ⟨env₀, st⟩ (Done Post) (DoneX C L PostX))
    (hco : scope.isCoroutine = false := by rfl) (hgen : scope.isGenerator = false := by rfl) (hk : scope.kind = .function := by rfl) :
    FnTX prog w b₀ (n + 1) (.ref f) ps st Post C PostX := by
  intro A outer b s vs R lv H rs q qx
  have X : K.In s.heap := fun a o e => H.sub _ _ (H.low _ _ (tp.kin a o e))
  obtain ⟨p, loose, mg, mb, t⟩ := tp.top
  have hlim : s.heap.NoLimit := t.nolimit.keeps fun a o e => H.sub _ _ (H.low _ _ e)
  obtain ⟨binds, hbt, rb⟩ := hbind s b vs X H.sub H.low rs
  have names := rb.names
  refine codeAny_call_function (by have := lv.depth; omega) (X _ _ ho) rfl hco hgen rfl (codeRec_of X hcd) (hbt _ _ _ _ ?_)
  have hkb : ∀ m, ∀ x ∈ binds, scope.names.lookup x.1 = some .local ∨ (scope.names.lookup x.1 = some .cell ∧ ((cellsFrom m scope.names []).lookup x.1).isSome = true) := fun m x hx => by
    have : x.1 ∈ env₀.map (·.1) := names ▸ List.mem_map_of_mem hx
    obtain ⟨y, hy, e⟩ := List.mem_map.mp this
    rw [← e]; exact hkind m y hy
  refine wpAny_newFunctionEnv_cells hk (hkb _) fun env' he s' x => ?_
  subst he
  refine ⟨hlim.keeps x.toInCall.keep, codeAny_func ?_⟩
  obtain ⟨h₁, tk, rfl, _⟩ := x.done
  have keep := x.toInCall.keep
  have env_is : newEnv scope s.heap.objs.size mainGlobals (cellsFrom (s.heap.objs.size + 1) scope.names []) (qual ++ ".<locals>.") (some f) cdv none builtinsNs = envX qual scope s.heap.objs.size f cdv (cellsFrom (s.heap.objs.size + 1) scope.names []) := rfl
  generalize hEnv : envX qual scope s.heap.objs.size f cdv (cellsFrom (s.heap.objs.size + 1) scope.names []) = env at env_is
  have e1 : env.locals = s.heap.objs.size := by rw [← hEnv]
  have e2 : env.cells = cellsFrom (s.heap.objs.size + 1) scope.names [] := by rw [← hEnv]
  have e3 : env.scope = scope := by rw [← hEnv]
  have e4 : env.frame = some s.heap.objs.size := by rw [← hEnv]
  have x' : InCallC s env.locals (bindL env.kindOf binds fun _ => none) env.cells (bindC env.kindOf binds fun _ => none) { s with heap := h₁, toks := tk } := by rw [← env_is]; exact x
  have freshL : s.heap.get? env.locals = none := by rw [e1]; exact fresh_size _
  have freshC : ∀ y c, (y, c) ∈ env.cells → s.heap.get? c = none := fun y c hy => Heap.get?_none_of_le (Nat.le_of_lt (Nat.lt_of_le_of_lt x'.toInCall.fresh (x'.above y c hy)))
  have bnone : ∀ a, s.heap.get? a = none → b a = none := fun a e => by
    cases z : b a with
    | none => rfl
    | some o => have := H.sub _ _ z; rw [e] at this; cases this
  obtain ⟨oL, esL, epL, gL, dL, _⟩ := x'.toInCall.ns
  have npriv : ∀ a o, s.heap.get? a = some o → ¬ priv env a := fun a o e hp => by
    rcases hp with z | ⟨y, hy⟩
    · rw [z, freshL] at e; cases e
    · rw [freshC y a hy] at e; cases e
  have Cc : Cx (fxOf prog w b₀ A outer env) ⟨env₀, st⟩ b h₁ := by
    refine ⟨fun a o e => keep _ _ (H.sub _ _ e), H.low, ⟨_, x'.toInCall.ns, fun y pv e => ?_⟩, fun y c hy => ⟨⟨_, x'.cell y c ?_⟩, bnone _ (freshC y c hy)⟩, bnone _ freshL, fun q' hq => ?_, H.nd, fun en he => ?_, H.glob⟩
    · obtain ⟨v, hv, rv⟩ := rb.look e
      have mem := Mine.mem_of_lookup e
      have nd' : (binds.map (·.1)).Nodup := names ▸ hnd
      have kd : env.kindOf y = scope.names.lookup y := by unfold Env.kindOf; rw [e3]
      rcases hkind (s.heap.objs.size + 1) (y, pv) mem with hl | ⟨hc, hs⟩
      · exact .inl ⟨kd.trans hl, v, bindL_on (kd.trans hl) nd' hv, rv⟩
      · obtain ⟨c, hc'⟩ := Option.isSome_iff_exists.mp hs
        have hcc : env.cells.lookup y = some c := by rw [e2]; exact hc'
        refine .inr ⟨.inl (kd.trans hc), c, v, hcc, ?_, rv⟩
        have := x'.cell y c hcc
        rw [bindC_on (by rw [kd, hc]; decide) nd' hv] at this
        exact this
    · rw [e2] at hy ⊢
      exact lookup_of_mem_nodup (hcn _) hy
    · obtain ⟨⟨o, e, r⟩, nb, z, hf⟩ := H.st q' hq
      refine ⟨⟨o, keep _ _ e, r⟩, nb, npriv _ o e, z, fun hf' => ?_⟩
      obtain ⟨en, hen, hfr⟩ := hf'
      rcases List.mem_cons.mp hen with rfl | hen
      · rw [e4] at hfr
        rw [← Option.some.inj hfr, fresh_size] at e; cases e
      · exact hf ⟨en, hen, hfr⟩
    · rcases List.mem_cons.mp he with rfl | he
      · refine ⟨by rw [e3, hk]; decide, _, oL, by rw [e4, ← e1], bnone _ freshL, gL, fun vs e => by rw [dL] at e; cases e⟩
      · obtain ⟨k, L', o, hf, nb, e, d⟩ := H.ff en he
        exact ⟨k, L', o, hf, nb, keep _ _ e, d⟩
  have ok : (fxOf prog w b₀ A outer env).Ok n := by
    refine ⟨by rw [← hk]; exact congrArg _ e3, by show env.globals = _; rw [← hEnv], by show env.builtins = _; rw [← hEnv], lv.hh, Around.frames_deeper lv.fr, ?_, ?_, ?_⟩
    · have := lv.depth; show A.depth + 1 + 4 * n < recursionLimit; omega
    · have := lv.units; show A.units + 3 + 200 + 32 * n < cLine; omega
    · have := x'.apart
      show (env.cells.map (·.2)).Nodup
      rw [List.nodup_iff_pairwise_ne, List.pairwise_map]
      exact this
  have hb := hbody A outer s.heap.objs.size (by rw [hEnv]; exact ok)
  rw [hEnv] at hb
  show wpAny (model prog w) (A.deeper (newEnv scope s.heap.objs.size mainGlobals (cellsFrom (s.heap.objs.size + 1) scope.names []) (qual ++ ".<locals>.") (some f) cdv none builtinsNs)) (execs body (newEnv scope s.heap.objs.size mainGlobals (cellsFrom (s.heap.objs.size + 1) scope.names []) (qual ++ ".<locals>.") (some f) cdv none builtinsNs)) _ _ _
  rw [env_is]
  have old : ∀ a, h₁.get? a = none → s.heap.get? a = none := fun a e => by
    cases z : s.heap.get? a with
    | none => rfl
    | some o => have := keep _ _ z; rw [show h₁.get? a = none from e] at this; cases this
  have goes : ∀ (st' : List (Addr × MO)) (σ' : Sy) (b' : Bs) (h' : Heap), (∀ q ∈ st', q ∈ σ'.st) → (st'.map (·.1)).Nodup → Cx (fxOf prog w b₀ A outer env) σ' b' h' → Ext (fxOf prog w b₀ A outer env) ⟨env₀, st⟩ σ' b b' h₁ h' →
      Hx w b₀ outer st' b' h' ∧ Xh outer st st' b b' s.heap h' := fun st' σ' b' h' hin hnd' C' X' => by
    refine ⟨⟨C'.sub, C'.low, fun q' hq => by
      obtain ⟨e, nb, _, z, hf⟩ := C'.st q' (hin q' hq)
      exact ⟨e, nb, z, fun ⟨en, hen, hfr⟩ => hf ⟨en, List.mem_cons_of_mem _ hen, hfr⟩⟩, hnd', fun en he => C'.ff en (List.mem_cons_of_mem _ he), H.glob⟩, ?_⟩
    refine ⟨X'.sub, fun a o e => ?_, fun a o e hn => ?_, fun a ha => ?_, fun a o e => X'.there a o (keep _ _ e)⟩
    · rcases X'.new a o e with z | z | z
      · exact .inl z
      · exact .inr (.inl (old a z))
      · exact .inr (.inr z)
    · obtain ⟨k1, k2⟩ := X'.keep a o (keep _ _ e) (npriv a o e) hn
      refine ⟨k1, fun hf => k2 fun ⟨en, hen, hfr⟩ => ?_⟩
      rcases List.mem_cons.mp hen with rfl | hen
      · rw [e4] at hfr
        rw [← Option.some.inj hfr, fresh_size] at e; cases e
      · exact hf ⟨en, hen, hfr⟩
    · obtain ⟨q', hq, rfl⟩ := List.mem_map.mp ha
      rcases X'.dom q'.1 (List.mem_map_of_mem (hin q' hq)) with z | z
      · exact .inl z
      · exact .inr (old _ z)
  refine hb.run b _ _ _ Cc (fun pf σ' b' h' tk' fl hd C' X' rf => ?_) fun p σ' b' h' tk' v hd C' X' rf => ?_
  · obtain ⟨st', hP, hin, hnd'⟩ := hd
    obtain ⟨H', Xh'⟩ := goes st' σ' b' h' hin hnd' C' X'
    have rr : ∀ (fl : Flow) (pf : PF), RF (fxOf prog w b₀ A outer env) b' fl pf → Rep w.params b' (retOf pf) (match fl with | .ret v => v | _ => .none) := by
      intro fl pf rf
      cases fl <;> cases pf <;> first | exact rf | exact Rep.mkNone | exact False.elim rf
    exact q (retOf pf) st' b' h' tk' _ hP H' Xh' (rr fl pf rf)
  · obtain ⟨e, T, st', rfl, hP, hin, hnd'⟩ := hd
    obtain rfl := rf.refI
    obtain ⟨H', Xh'⟩ := goes _ σ' b' h' hin hnd' C' X'
    unfold leaving
    refine wpAny_bind (note_here (s := { s with heap := h', toks := tk' }) (L := s.heap.objs.size) e4 H' ?_)
    exact set_flight (s := { s with heap := h', toks := tk' }) (to := none) H' fun h'' H'' X'' => qx e T st' b' h'' tk' hP H'' (Xh'.trans' X'')
end
end Mine
end
section
open PySem PySem.W PySem.Spec PySem.Calls PyProof.Rows
namespace Mine
/-! a loop that an exception leaves -/
noncomputable def NewX (C : Addr) (PM : List (Addr × MO) → Prop) (p : PV) (σ : Sy) : Prop := ∃ e more, p = .ref e ∧ σ.st = (e, MO.raw (Exc C .none)) :: more ∧ PM more
noncomputable def OutX (C L : Addr) (PM : List (Addr × MO) → Prop) (p : PV) (σ : Sy) : Prop := ∃ e T more, p = .ref e ∧ σ.st = (T, MO.raw (Tb (rawInt L))) :: (e, MO.raw (Exc C (.ref T))) :: more ∧ PM more ∧ (σ.st.map (·.1)).Nodup
section
variable {Φ : Fx} {σ : Sy} {n : Nat}
theorem Cx.all {b : Bs} {h : Heap} (C : Cx Φ σ b h) : Hx Φ.w Φ.b₀ Φ.outer σ.st b h := C.hx (rest := []) (by rw [List.append_nil])
theorem Cx.backAll {st' : List (Addr × MO)} {b b' : Bs} {h h' : Heap} (C : Cx Φ σ b h) (H : Hx Φ.w Φ.b₀ Φ.outer st' b' h') (X : Xh Φ.outer σ.st st' b b' h h') : Cx Φ ⟨σ.env, st'⟩ b' h' ∧ Ext Φ σ ⟨σ.env, st'⟩ b b' h h' := by
  have := C.back (st := σ.st) (rest := []) (by rw [List.append_nil]) H X
  rw [List.append_nil] at this
  exact this
theorem noted_back {C L : Addr} {outer : List Env} {PM : List (Addr × MO) → Prop} {E : Value → Shared → Prop} {b : Bs} {s : Shared} {v : Value} {p : PV} (O : Φ.Ok n) (ho : Φ.outer = Φ.env :: outer) (hf : Φ.env.frame = some L)
    (hp : NewX C PM p σ) (Cc : Cx Φ σ b s.heap) (r : Rep Φ.w.params b p v)
    (kx : ∀ p σ' b' h' tk' v, OutX C L PM p σ' → Cx Φ σ' b' h' → Ext Φ σ σ' b b' s.heap h' → Rep Φ.w.params b' p v → E v { s with heap := h', toks := tk' }) :
    notedBy (model Φ.prog Φ.w) Φ.A Φ.env (fun e s' => cameBackBy (model Φ.prog Φ.w) Φ.A Φ.env E e s') v s := by
  obtain ⟨e, more, rfl, hst, hm⟩ := hp
  obtain rfl := r.refI
  have H := Cc.all
  rw [hst, ho] at H
  refine note_first (w := Φ.w) (b₀ := Φ.b₀) (b := b) (outer := outer) (C := C) (by rw [O.fr, ho]) hf H fun h₁ T H₁ X₁ => ?_
  obtain ⟨⟨oe, he, hcls, vs, hd, h1⟩, _⟩ := H₁.st _ (.tail _ (.head _))
  show wpAny _ _ _ _ _ _
  refine wpAny_bind (wpAny_field (s := { s with heap := h₁ }) he hd h1 ?_)
  rw [if_neg (show ¬ ((Value.ref T == Value.none) = true) from by simp)]
  rw [hf]
  refine set_flight (s := { s with heap := h₁ }) (to := some L) H₁ fun h₂ H₂ X₂ => ?_
  have X := X₁.trans' X₂
  rw [← ho] at H₂ X
  obtain ⟨C₂, E₂⟩ := Cc.backAll H₂ (by rw [hst]; exact X)
  exact kx (.ref e) _ b h₂ s.toks (.ref e) ⟨e, T, more, rfl, rfl, hm, C₂.nd⟩ C₂ E₂ Rep.mkRef
theorem xx_while {test : Expr} {body : List Stmt} {pos : Pos} {C L : Addr} {outer : List Env} {PM : List (Addr × MO) → Prop} {Post : PF → Sy → Prop} (O : Φ.Ok n) (ho : Φ.outer = Φ.env :: outer) (hf : Φ.env.frame = some L)
    (Inv : Nat → Sy → Prop) (m : Nat) (h0 : Inv m σ)
    (turn : ∀ m σ', Inv m σ' → ∀ (E' : Value → Shared → Prop), Te Φ E' test σ' fun c σ'' => (c = true → ExsX Φ body σ'' (WhilePost Inv m Post) (NewX C PM)) ∧ (c = false → Post .next σ'')) : ExX Φ (.While test body [] pos) σ Post (OutX C L PM) := by
  refine TX.mk fun b s Q E C k kx => ?_
  refine wpAny_While (codeAny_whileLoop (fun i s' => ∃ σ' b' h' tk', s' = { s with heap := h', toks := tk' } ∧ Inv i σ' ∧ Cx Φ σ' b' h' ∧ Ext Φ σ σ' b b' s.heap h') ?_ m ⟨σ, b, s.heap, s.toks, rfl, h0, C, .refl⟩)
  rintro i s' ⟨σ', b', h', tk', rfl, hI, C', X'⟩
  refine (turn i σ' hI _).run b' _ _ C' fun c σ₁ b₁ h₁ t₁ v hP C₁ X₁ r₁ => ?_
  cases r₁
  cases c with
  | false =>
    simp only [Bool.false_eq_true, if_false]
    exact wpAny_execs_nil (k .next σ₁ b₁ h₁ t₁ .next (hP.2 rfl) C₁ (X'.trans X₁) trivial)
  | true =>
    simp only [if_true]
    refine (hP.1 rfl).run b₁ _ _ _ C₁ (fun pf σ₂ b₂ h₂ t₂ fl hP₂ C₂ X₂ r₂ => ?_) fun p σ₂ b₂ h₂ t₂ v hP₂ C₂ X₂ r₂ => ?_
    · have X := (X'.trans X₁).trans X₂
      cases pf <;> cases fl <;> first | exact False.elim r₂ | skip
      · obtain ⟨m', hm, hI'⟩ := hP₂; exact ⟨m', hm, σ₂, b₂, h₂, t₂, rfl, hI', C₂, X⟩
      · exact k .next σ₂ b₂ h₂ t₂ .next hP₂ C₂ X trivial
      · obtain ⟨m', hm, hI'⟩ := hP₂; exact ⟨m', hm, σ₂, b₂, h₂, t₂, rfl, hI', C₂, X⟩
      · exact k (.ret _) σ₂ b₂ h₂ t₂ (.ret _) hP₂ C₂ X r₂
    · exact noted_back (s := { s with heap := h₂, toks := t₂ }) O ho hf hP₂ C₂ r₂ fun p σ₃ b₃ h₃ t₃ v hP₃ C₃ X₃ r₃ => kx p σ₃ b₃ h₃ t₃ v hP₃ C₃ (((X'.trans X₁).trans X₂).trans X₃) r₃
end
end Mine
end
section
open PySem PySem.W PySem.Spec PySem.Calls PyProof.Rows
namespace Mine
set_option maxRecDepth 100000
/-! exceptions of the text: the parts of their making -/
/-- an exception object, its dict and a place for its traceback -/
noncomputable def ExI (C : Addr) (od : Option Addr) : Obj → Prop := fun o => o.cls = .ref C ∧ o.dict = od ∧ ∃ t vs, o.data = .fields vs ∧ vs[0]? = some (.ref t) ∧ vs[1]? = some .none
theorem ExI.exc {C : Addr} {od : Option Addr} {o : Obj} (h : ExI C od o) : Exc C .none o := by
  obtain ⟨h1, _, t, vs, h2, _, h3⟩ := h
  exact ⟨h1, vs, h2, h3⟩
section
variable {M : Model} {A : Around} {E : Value → Shared → Prop} {h : Heap} {g : Array GenState} {d : Drawn} {t : Nat} {os : OsState}
variable {nm q : Str} {C N : Addr} {bs bm bmB : List Value} {hdct : Bool} {sn : List Str} {sub : List Value} {ab : Bool} {col : Option Bool} {dd : Option Addr} {k0 k1 k2 k3 k5 : Option Value} {B newId initId : String}
theorem exc_check_init (F : ExcBaseFacts B newId initId bmB) (hcB : (Value.ref C :: bm).contains (.type B) = true) {e : Addr} {oe : Obj} {rest : List Value} {Q : Unit → Shared → Prop}
    (hC : h.get? C = some (excClassObj nm q C N bs bm hdct sn sub ab col dd k0 k1 k2 k3 k5 newId)) (he : h.get? e = some oe) (hcls : oe.cls = .ref C) (hq : Q () ⟨h, g, d, t, os⟩) :
    wpAny M A (checkBuiltinCall initId ⟨.ref e :: rest, []⟩) Q E ⟨h, g, d, t, os⟩ := by
  have hshort := F.noStar
  simp only [checkBuiltinCall, F.initKind, F.initSplit, F.initRow]
  repeat (first | (with_reducible refine wpAny_loadPart_at he ?_; rw [hcls]) | with_reducible refine wpAny_loadPart_at hC ?_ | (with_reducible refine wpAny_isSubtype_exc hC ?_; rw [hcB]) | wp_step)
  refine wpAny_onRaise ?_
  rw [show ∀ (a b : String) (n : Nat), Bind.check ⟨.positional, "*", B, .self, [⟨"args", .varPos, false⟩]⟩ a b n (List.map (fun x => x.fst) ({ pos := Value.ref e :: rest } : Args).kw) = pure () from
    fun a b n => check_star_args _ _ _ _ _ _]
  exact wpAny_pure hq
end
section
variable {prog : Program} {w : World} {A : Around} {E : Value → Shared → Prop} {s : Shared} {K : Frag}
variable {nm q : Str} {C N : Addr} {bs bm bmB : List Value} {hdct : Bool} {sn : List Str} {sub : List Value} {ab : Bool} {col : Option Bool} {dd : Option Addr} {k0 k1 k2 k3 k5 : Option Value} {B newId initId : String}
theorem exc_init (F : ExcBaseFacts B newId initId bmB) (hcB : (Value.ref C :: bm).contains (.type B) = true) {e t0 : Addr} {oe : Obj} {vs : Array Value} {rest : List Value} {Q : Value → Shared → Prop}
    (hC : s.heap.get? C = some (excClassObj nm q C N bs bm hdct sn sub ab col dd k0 k1 k2 k3 k5 newId)) (he : s.heap.get? e = some oe) (hcls : oe.cls = .ref C) (hd : oe.data = .fields vs) (h0 : vs[0]? = some (.ref t0))
    (h : Q .none { s with heap := (s.heap.push { cls := .type "tuple", data := .seq rest.toArray }).update e (Obj.mapFields (·.setIfInBounds 0 (.ref s.heap.objs.size))) }) (hrest : rest.length ≤ sizeLine := by size_fits) :
    wpAny (model prog w) A (call (.builtin initId) (.ref e :: rest)) Q E s := by
  obtain ⟨hp, g, d, tk, os⟩ := s
  refine wpAny_call (codeAny_call_builtin F.init.plain F.initEntry (exc_check_init F hcB hC he hcls ?_))
  unfold Builtin.«BaseException.__init__»
  dsimp only
  rw [if_neg (by simp)]
  unfold newTuple Builtin.BaseException.bexcPut
  have hsz : 0 < vs.size := (Array.getElem?_eq_some_iff.mp h0).1
  have he₁ := Heap.get?_push_of_some (h := hp) { cls := .type "tuple", data := .seq rest.toArray } he
  refine wpAny_bind (wpAny_newObj_type (wpAny_bind (wpAny_bind (wpAny_field he₁ hd h0 (wpAny_bind (wpAny_setField he₁ hd hsz ?_))))) (by show rest.toArray.size ≤ sizeLine; rw [List.size_toArray]; exact hrest))
  exact wpAny_letGo (wpAny_pure h)
theorem method_typeK {T : String} {name : Str} {v : Value} {pl : Sem Bool} {Q : Value × List Value → Shared → Prop} (X : K.In s.heap) (ht : typeOf (.type T) = pure (.type "type")) (hs : Manifest.isStub T = false)
    (e : findCls K (.type T) (.type "type") name = some (.val v)) (hh : handedIn v = true) (h : Q (v, []) { s with toks := s.toks + 1 }) : wpAny (model prog w) A (getMethod (.type T) name pl) Q E s := by
  have hstub : opaqueClassAbove (.type T) = pure none := by unfold opaqueClassAbove; dsimp only; rw [hs]; rfl
  have L0 : Looks (model prog w) s.heap (typeOf (.type T)) (.type "type") := Looks.of_pure ht
  have hg : findIn K (.type "type") "__getattribute__" = some (some (.builtin "type.__getattribute__")) := type_tga
  unfold getMethod specialOf
  refine wpAny_bind (wpAny_bind (L0.here ((looks_findIn X hg).here ?_)))
  dsimp only
  rw [if_pos canon_tga]
  refine wpAny_bind (wpAny_mono (Q := fun v => Q (v, [])) (E := E) ?_ (fun _ _ z => wpAny_pure z) fun _ _ z => z)
  have LO : Looks (model prog w) s.heap (opaqueClassAbove (.type T)) none := Looks.of_pure hstub
  refine cls_open X LO L0 hg (looks_hook X (r := none) (by rfl)) (by show subIn K _ _ = _; rfl) e
    (wpAny_pure (by show wpAny _ _ (handedOut v) _ _ _; rw [handedOut_of hh]; exact wpAny_pure h))
end
end Mine
end
section
open PySem PySem.W PySem.Spec PySem.Calls PyProof.Rows PySem.Builtin.ObjectAttr
namespace Mine
set_option maxRecDepth 100000
/-! fields of an exception of the text -/
theorem refuse_exc (self : Value) : refuseLoop self "__setattr__" [.type "Exception", .type "BaseException", .type "object"] = pure () := by kernel_rfl
section
variable {prog : Program} {w : World} {A : Around} {K : Frag} {C x : Addr} {s : Shared} {R : Result → Shared → Prop}
theorem osa_openE {ox : Obj} {od : Option Obj} {name : Str} {tk : Tok} {v : Value} {r : Option Value} {cd : ClassData} (X : K.In s.heap) (I : InstAt s.heap x ox C od) (hc : clsIn K C = some cd) (ne : cd.mro.isEmpty = false) (hin : cd.mro.contains (.type "object") = true) (hrf : refuseLoop (.ref x) "__setattr__" cd.mro = pure ()) (ht : takerIn K C name = some r)
    (h : ∀ b, wpAny (model prog w) A.in1 (match r with | some a => setByDescriptor a (.ref x) v | none => storeInOwnDict (.ref x) (.ref C) (.str name tk) name v b)
      (fun fin s' => match fin with | .done f => R (.ok f) s' | .again c' => c'.quiet = true ∧ codeAny (model prog w) A c' R s') (fun e s' => R (.error e) s') s) :
    codeAny (model prog w) A (.call (.builtin "object.__setattr__") ⟨[.ref x, .str name tk, v], []⟩) R s := by
  have SF := PySem.F.store_object
  have sub : Looks (model prog w) s.heap (isInstance (.ref x) (.type "object")) true := I.type.andThen (looks_mroIn X (by unfold mroIn; rw [hc, Option.bind_some, if_neg (by rw [ne]; decide), hin]))
  refine codeAny_call_builtin SF.slot.plain SF.entry (@check_slot (model prog w) _ _ s "object.__setattr__" "object" "__setattr__" (.ref x) [.str name tk, v] [] _ SF.kind SF.split sub (SF.args (.ref x) (.str name tk) v) ?_)
  obtain ⟨attr, ha, hr⟩ := Option.bind_eq_some_iff.mp ht
  have hm : Looks (model prog w) s.heap (mroOf (.ref C)) cd.mro := (looks_clsIn X hc).andThen .now
  have L3 : Looks (model prog w) s.heap (storeTaker? attr) r := by
    cases attr with
    | none => cases hr; exact .now
    | some a =>
      obtain ⟨b, hb, rfl⟩ := Option.map_eq_some_iff.mp hr
      refine (looks_takesIn X hb).andThen ?_
      cases b <;> exact .now
  rw [osa_eq, refuse_eq]
  refine wpAny_bind (wpAny_bind (I.type.here (wpAny_bind (hm.here ?_))))
  rw [hrf]
  refine wpAny_pure (wpAny_bind (I.type.here (wpAny_bind ((looks_findIn X ha).here (wpAny_bind (L3.here ?_))))))
  exact h _
end
section
variable {Φ : Fx} {E : Value → Shared → Prop} {σ : Sy} {n : Nat}
theorem store_in {A : Around} {b : Bs} {s : Shared} {dx : Addr} {attr : Str} {tk : Tok} {v : Value} {p : PV} {kvs : List (Str × PV)} {Q : Fin → Shared → Prop} (C₂ : Cx Φ σ b s.heap) (hg : getM dx σ.st = some (.dict kvs)) (hl : kvs.length ≤ 900) (rv : Rep Φ.w.params b p v)
    (k : ∀ h' tk', Cx Φ ⟨σ.env, setM dx (.dict (setK attr p kvs)) σ.st⟩ b h' → Ext Φ σ ⟨σ.env, setM dx (.dict (setK attr p kvs)) σ.st⟩ b b s.heap h' → Q (.done (.ret .none)) { s with heap := h', toks := tk' }) :
    wpAny (model Φ.prog Φ.w) A (storeInDict dx (.str attr tk) attr v) Q E s := by
  obtain ⟨h₂, gg, dd, t₂, os⟩ := s
  obtain ⟨ob, go, es, m, rfl, re⟩ := C₂.at hg
  have re' := RepE.put (k := attr) (t := t₂) rv re
  have hl' : (putL attr (PyData.keyHash Φ.w.params attr) (.str attr t₂) v es).length ≤ 1000 := by
    rw [re'.length]; have := setK_length attr p kvs; omega
  have e := putName_dict attr (PyData.keyHash Φ.w.params attr) (.str attr t₂) v es m
  have go' : (h₂.update dx (Obj.putName attr (PyData.keyHash Φ.w.params attr) (.str attr t₂) v)).get? dx = some (dictOf (putL attr (PyData.keyHash Φ.w.params attr) (.str attr t₂) v es) (putN attr es m)) := by
    rw [← e]; exact Heap.get?_update_self _ go (by rw [e]; rfl)
  obtain ⟨C₄, X₄⟩ := C₂.upd hg (SameBut.other (Heap.SameBut.update ..)) go' (mo' := .dict (setK attr p kvs)) ⟨_, _, rfl, re'⟩
  unfold storeInDict
  refine wpAny_bind (wpAny_pure (wpAny_bind ?_))
  unfold nsSet
  refine wpAny_bind (wpAny_bind (wpAny_askSetting (wpAny_pure (wpAny_bind (wpAny_mkText (wpAny_bind (wpAny_loadPart go ?_)))))))
  have no : (!(es.toArray.any (·.key.isStr attr)) && es.toArray.any (·.refKey)) = false := by
    have : es.any (·.refKey) = false := by
      rw [List.any_eq_false]; intro e he; obtain ⟨n, t, h, _⟩ := allStr re e he; simp [DictEntry.refKey, h]
    rw [← Array.any_toList, ← Array.any_toList]
    show (!(es.any _) && es.any _) = false
    rw [this, Bool.and_false]
  dsimp only
  rw [aRefKeyMayBeTheName_at, no]
  refine wpAny_updatePart go ?_
  refine wpAny_bind (wpAny_lookBehind go' (pastItsLine_dict (by rw [List.size_toArray, sizeLine_eq]; omega)) ?_)
  exact wpAny_pure (k _ _ C₄ X₄)
/-- what the text says of an exception class of its own -/
structure ExK (K : Frag) (C : Addr) (bm : List Value) : Prop where
  cls : ∃ nm q N bs sn sub ab col dd k0 k1 k2 k3 k5, K.lookup C = some (excClassObj nm q C N bs bm true sn sub ab col dd k0 k1 k2 k3 k5 "Exception.__new__")
  hB : (Value.ref C :: bm).contains (.type "Exception") = true
  hBB : (Value.ref C :: bm).contains (.type "BaseException") = true
  hA : (Value.ref C :: bm).contains (.type "AttributeError") = false
  hN : (Value.ref C :: bm).contains (.type "NameError") = false
  hO : (Value.ref C :: bm).contains (.type "object") = true
  ref : ∀ self : Value, refuseLoop self "__setattr__" (.ref C :: bm) = pure ()
  sa : findIn K (.ref C) "__setattr__" = some (some (.builtin "object.__setattr__"))
theorem ExK.mro {K : Frag} {C : Addr} {bm : List Value} (k : ExK K C bm) : ∃ cd, clsIn K C = some cd ∧ cd.mro = .ref C :: bm ∧ cd.hasDict = true := by
  obtain ⟨nm, q, N, bs, sn, sub, ab, col, dd, k0, k1, k2, k3, k5, e⟩ := k.cls
  unfold clsIn
  rw [e]
  exact ⟨_, rfl, rfl, rfl⟩
theorem x_setexc {K : Frag} {C : Addr} {bm : List Value} {o : Expr} {attr : Str} {pos' pos : Pos} {value : Expr} {Post : PF → Sy → Prop} (tp : Tp Φ.b₀ K) (kx : ExK K C bm) (ht : takerIn K C attr = some none)
    (h : Ev Φ E value σ fun p σ₁ => Ev Φ E o σ₁ fun d σ₂ => ∃ e, d = .ref e ∧
      ((getM e σ₂.st = some (.raw (ExI C none)) ∧ ∀ dx, dx ≠ e → Post .next ⟨σ₂.env, (dx, .dict (setK attr p [])) :: setM e (.raw (ExI C (some dx))) σ₂.st⟩) ∨
       (∃ dx kvs, getM e σ₂.st = some (.raw (ExI C (some dx))) ∧ getM dx σ₂.st = some (.dict kvs) ∧ kvs.length ≤ 900 ∧ Post .next ⟨σ₂.env, setM dx (.dict (setK attr p kvs)) σ₂.st⟩)))
    (hs : swapsWith value (some (.Attribute o attr pos')) pos.line Φ.env = pure false := by rfl) : Ex Φ E (.Assign [.Attribute o attr pos'] value pos) σ Post :=
  T.mk fun b s Q Cc k => plainObj_wpAny_Assign_Attribute (h.run b s _ Cc fun p σ₁ b₁ h₁ t₁ v hP C₁ X₁ r₁ => hP.run b₁ _ _ C₁ fun d σ₂ b₂ h₂ t₂ dv hP₂ C₂ X₂ r₂ => by
    obtain ⟨e, rfl, hP⟩ := hP₂
    obtain rfl := r₂.refI
    have X := C₂.kin tp
    have rv := r₁.mono X₂.sub
    obtain ⟨cd, hc, hm, hd⟩ := kx.mro
    rcases hP with ⟨hg, hP⟩ | ⟨dx, kvs, hg, hgd, hl, hP⟩
    · obtain ⟨oe, he, hcls, hod, t0, vs, hda, hv0, hv1⟩ := C₂.at hg
      obtain ⟨oc, odi, oda, osl⟩ := oe
      dsimp only at hcls hod hda
      subst hcls hod hda
      have I : InstAt h₂ e ⟨.ref _, none, .fields vs, osl⟩ _ none := ⟨he, rfl, rfl, trivial⟩
      refine set_plain X I kx.sa (osa_openE (s := { s with heap := h₂, toks := t₂ + 1 }) X I hc (by rw [hm]; rfl) (by rw [hm]; exact kx.hO) (by rw [hm]; exact kx.ref _) ht fun bb => ?_)
      refine wpAny_bind (wpAny_pure (wpAny_bind (wpAny_bind (wpAny_loadPart he (wpAny_bind ((looks_clsIn X hc).here ?_))))))
      rw [hd]
      obtain ⟨C₃, X₃⟩ := C₂.new (dictOf [] 0) rfl (mo := .dict []) ⟨[], 0, rfl, .nil⟩
      have hne : h₂.objs.size ≠ e := Nat.ne_of_gt (Heap.lt_size he)
      have hP := hP h₂.objs.size hne
      have hg' : getM e ((h₂.objs.size, MO.dict []) :: σ₂.st) = some (.raw (ExI C none)) := by simp only [getM, if_neg hne]; exact hg
      have hset : setM e (.raw (ExI C (some h₂.objs.size))) ((h₂.objs.size, MO.dict []) :: σ₂.st) = (h₂.objs.size, .dict []) :: setM e (.raw (ExI C (some h₂.objs.size))) σ₂.st := by simp [setM, hne]
      have he' : (h₂.push (dictOf [] 0)).get? e = some ⟨.ref _, none, .fields vs, osl⟩ := Heap.get?_push_of_some _ he
      have he'' := Heap.get?_update_self (fun o : Obj => { o with dict := some h₂.objs.size }) he' rfl
      obtain ⟨C₄, X₄⟩ := C₃.upd hg' (SameBut.other (Heap.SameBut.update ..)) he'' (mo' := .raw (ExI _ (some h₂.objs.size))) ⟨rfl, rfl, t0, vs, rfl, hv0, hv1⟩
      refine wpAny_bind (wpAny_alloc (wpAny_bind (wpAny_update he' ?_)))
      refine wpAny_pure (a := some h₂.objs.size) ?_
      refine store_in (s := { s with heap := (h₂.push (dictOf [] 0)).update e (fun o : Obj => { o with dict := some h₂.objs.size }), toks := t₂ + 1 }) (kvs := []) C₄ ?_ (by simp) rv fun h' tk' C₅ X₅ => ?_
      · show getM _ (setM e _ ((_, _) :: σ₂.st)) = _
        rw [hset]; simp [getM]
      · refine k .next _ b₂ h' tk' .next ?_ C₅ ((((X₁.trans X₂).trans X₃).trans X₄).trans X₅) trivial
        show Post .next ⟨σ₂.env, setM _ _ (setM e _ ((_, _) :: σ₂.st))⟩
        rw [hset]; simpa [setM] using hP
    · obtain ⟨oe, he, hcls, hod, t0, vs, hda, hv0, hv1⟩ := C₂.at hg
      obtain ⟨oc, odi, oda, osl⟩ := oe
      dsimp only at hcls hod hda
      subst hcls hod hda
      obtain ⟨oD, hoD, _⟩ := C₂.at hgd
      have I : InstAt h₂ e ⟨.ref _, some dx, .fields vs, osl⟩ _ (some oD) := ⟨he, rfl, rfl, hoD⟩
      refine set_plain X I kx.sa (osa_openE (s := { s with heap := h₂, toks := t₂ + 1 }) X I hc (by rw [hm]; rfl) (by rw [hm]; exact kx.hO) (by rw [hm]; exact kx.ref _) ht fun bb => ?_)
      refine wpAny_bind (wpAny_pure (wpAny_bind (wpAny_bind (wpAny_loadPart he (wpAny_bind ((looks_clsIn X hc).here ?_))))))
      rw [hd]
      refine wpAny_pure (a := some dx) ?_
      exact store_in (s := { s with heap := h₂, toks := t₂ + 1 }) C₂ hgd hl rv fun h' tk' C₅ X₅ => k .next _ b₂ h' tk' .next hP C₅ ((X₁.trans X₂).trans X₅) trivial) hs
end
end Mine
end
section
open PySem PySem.W PySem.Spec PySem.Calls PyProof.Rows
namespace Mine
set_option maxRecDepth 100000
section
variable {Φ : Fx} {E : Value → Shared → Prop} {σ : Sy} {n : Nat}
/-- a method asked of a built-in class by its name -/
theorem e_methC {K : Frag} {x name : Str} {Tn : String} {f : Value} {p apos pos : Pos} {e : Expr} {rest : List Expr} {Post : PV → Sy → Prop} (O : Φ.Ok n) (tp : Tp Φ.b₀ K)
    (hg : nsIn K mainGlobals x = some none) (hv : bootBuiltins x = some (.type Tn)) (hn : x ≠ "__name__") (hx : Φ.env.kindOf x = some .globalImplicit) (ht : typeOf (.type Tn) = pure (.type "type")) (hst : Manifest.isStub Tn = false)
    (fc : findCls K (.type Tn) (.type "type") name = some (.val f)) (hh : handedIn f = true) (kp : KeepsOk K f) (h : Evs Φ E (e :: rest) σ fun ps σ₂ => CallT Φ E f ps σ₂ Post)
    (hd : (x == ("__debug__" : Str)) = false := by decide)
    (hbase : attributeBase (.Name x p) name Φ.env (eval (.Name x p) Φ.env) = eval (.Name x p) Φ.env := by with_unfolding_all rfl)
    (hform : methodCallForm ((e :: rest).length + 0) (backTo pos (starEach (e :: rest) Φ.env)) [] = true := by rfl) (hline : (apos.endLine == pos.line) = true := by rfl)
    (he : starEach (e :: rest) Φ.env = (false, eval e Φ.env) :: starEach rest Φ.env := by rfl) (hplain : (backTo pos (starEach rest Φ.env)).any (·.1) = false := by rfl) :
    Ev Φ E (.Call (.Attribute (.Name x p) name apos) (e :: rest) [] pos) σ Post := T.mk fun b s Q C k => by
  show wpAny _ _ (eval (.Call (.Attribute (.Name x p) name apos) (e :: rest) [] pos) Φ.env) _ _ _
  rw [arm_eval_Call, hbase]
  refine wpAny_bind (name_b O tp C hg hv hn hx (wpAny_bind (wpAny_standAt ?_)) hd)
  show wpAny _ _ (methodCall (.Name x p) name apos pos Φ.env (.type Tn) ((e :: rest).length + 0) (backTo pos (starEach (e :: rest) Φ.env)) []) _ _ _
  unfold methodCall
  rw [hform]
  refine wpAny_bind (wpAny_holding ?_)
  show wpAny _ _ (getMethod (.type Tn) name _) _ _ _
  refine method_typeK (C.kin tp) ht hst fc hh ?_
  have hpos : methodCallPos true (.Name x p) Φ.env apos pos = pure pos := by unfold methodCallPos; simp [hline]
  refine wpAny_bind (wpAny_of_eq hpos ?_)
  show wpAny _ _ (callWith pos f [] (backTo pos (starEach (e :: rest) Φ.env)) []) _ _ _
  refine callWith_of (P := K.In) (by rw [he]; show ((false || (backTo pos (starEach rest Φ.env)).any (·.1)) || false) = false; rw [hplain]; rfl) (fun h X => kp _ h X) ?_
  have h' := h pos
  rw [he] at h' ⊢
  refine evalArgs_plain (h'.run b { s with toks := s.toks + 1 } _ C fun ps σ₂ b₂ h₂ t₂ vs hP₂ C₂ X₂ r₂ => ⟨C₂.kin tp, ?_⟩)
  exact hP₂ b₂ _ vs _ C₂ r₂ fun r σ₃ b₃ h₃ t₃ a hP₃ C₃ X₃ r₃ => k r σ₃ b₃ h₃ t₃ a hP₃ C₃ (X₂.trans X₃) r₃
theorem k_excinit {K : Frag} {C e : Addr} {bm : List Value} {od : Option Addr} {m : PV} {Post : PV → Sy → Prop} (tp : Tp Φ.b₀ K) (kx : ExK K C bm) (hg : getM e σ.st = some (.raw (ExI C od))) (q : Post .none ⟨σ.env, setM e (.raw (ExI C od)) σ.st⟩) :
    CallT Φ E (.builtin "Exception.__init__") [.ref e, m] σ Post := fun b s vs Q Cc rs k => by
  obtain ⟨v, vs, rfl, r1, rs2⟩ := rs.cons_inv
  obtain rfl := r1.refI
  clear r1
  have hl : vs.length = 1 := rs2.length
  obtain ⟨oe, he, hcls, hod, t0, ws, hda, hv0, hv1⟩ := Cc.at hg
  obtain ⟨nm, q', N, bs, sn, sub, ab, col, dd, k0, k1, k2, k3, k5, eC⟩ := kx.cls
  obtain ⟨C₁, X₁⟩ := Cc.push { cls := .type "tuple", data := .seq vs.toArray } rfl
  have he₁ := Heap.get?_push_of_some (h := s.heap) { cls := .type "tuple", data := .seq vs.toArray } he
  have hd₂ := Obj.data_mapFields hda (·.setIfInBounds 0 (Value.ref s.heap.objs.size))
  have he₂ := Heap.get?_update_self (Obj.mapFields (·.setIfInBounds 0 (Value.ref s.heap.objs.size))) he₁ (Obj.isFreed_of_fields hd₂)
  obtain ⟨C₂, X₂⟩ := C₁.upd hg (SameBut.other (Heap.SameBut.update ..)) he₂ (mo' := .raw (ExI C od)) ⟨(Obj.cls_mapFields _ _).trans hcls, (by
      obtain ⟨oc, odi, oda, osl⟩ := oe
      dsimp only at hda hod
      subst hda hod
      rfl), s.heap.objs.size, _, hd₂, by simp [(Array.getElem?_eq_some_iff.mp hv0).1], by simpa using hv1⟩
  refine exc_init PySem.F.excBase_Exception kx.hB (Cc.kin tp _ _ eC) he hcls hda hv0 ?_ (by rw [hl, sizeLine_eq]; omega)
  exact k .none _ _ _ s.toks .none q C₂ (X₁.trans X₂) Rep.mkNone
end
end Mine
end
section
open PySem PySem.W PySem.Spec PySem.Calls PyProof.Rows
namespace Mine
set_option maxRecDepth 100000
section
variable {M : Model} {A : Around} {E : Value → Shared → Prop} {env : Env}
variable {nm q : Str} {C N : Addr} {bs bm : List Value} {hdct : Bool} {sn : List Str} {sub : List Value} {ab : Bool} {col : Option Bool} {dd : Option Addr} {k0 k1 k2 k3 k5 : Option Value} {newId : String}
theorem raise_made {s : Shared} {x : Sem Value} {Q : Flow → Shared → Prop} (hcB : (Value.ref C :: bm).contains (.type "BaseException") = true) (hh : A.handled = none)
    (h : wpAny M A x (fun v s₁ => ∃ e od vs sl, v = .ref e ∧ s₁.heap.get? C = some (excClassObj nm q C N bs bm hdct sn sub ab col dd k0 k1 k2 k3 k5 newId) ∧
      s₁.heap.get? e = some ⟨.ref C, od, .fields vs, sl⟩ ∧ vs[1]? = some .none ∧ E (.ref e) s₁) E s) :
    wpAny M A (raiseStmt env (some x) none) Q E s := by
  unfold raiseStmt
  refine wpAny_bind (wpAny_mono h (fun v s₁ h₁ => ?_) fun _ _ x => x)
  obtain ⟨e, od, vs, sl, rfl, hC, he, h1, hE⟩ := h₁
  obtain ⟨hp, g, d, tk, os⟩ := s₁
  have hd : (⟨.ref C, od, .fields vs, sl⟩ : Obj).data = .fields vs := rfl
  repeat (first | with_reducible refine wpAny_loadPart_at he ?_ | with_reducible refine wpAny_loadPart_at hC ?_ | (with_reducible refine wpAny_isSubtype_exc hC ?_; rw [hcB]) | with_reducible refine wpAny_field he hd h1 ?_ | wp_step)
  exact wpAny_raiseNew_none hh hE
end
section
variable {Φ : Fx} {E : Value → Shared → Prop} {σ : Sy} {n : Nat}
theorem Cx.adopt {b : Bs} {h h' : Heap} {e : Addr} {o : Obj} {mo : MO} (C : Cx Φ σ b h) (hk : ∀ a x, h.get? a = some x → h'.get? a = some x) (hn : h.get? e = none) (hz : h.objs.size ≤ e) (he : h'.get? e = some o) (r : MRep Φ.w.params b mo o) :
    Cx Φ ⟨σ.env, (e, mo) :: σ.st⟩ b h' ∧ Ext Φ σ ⟨σ.env, (e, mo) :: σ.st⟩ b b h h' := by
  have C' := C.keeps hk
  have E' : Ext Φ σ σ b b h h' := Ext.keeps hk
  have bn : b e = none := by
    cases z : b e with
    | none => rfl
    | some o => have := C.sub _ _ z; rw [hn] at this; cases this
  refine ⟨⟨C'.sub, C'.low, C'.ns, C'.cells, C'.Lb, fun q hq => ?_, ?_, C'.ff, C.glob⟩, ⟨E'.sub, E'.new, E'.keep, fun a e => ?_, E'.there⟩⟩
  · rcases List.mem_cons.mp hq with rfl | hq
    · refine ⟨⟨o, he, r⟩, bn, fun hp => ?_, fun z => ?_, fun hf => ?_⟩
      · obtain ⟨o', e⟩ := C.notpriv hp
        rw [hn] at e; cases e
      · obtain ⟨o, eg⟩ := C.glob
        have l := get_lt (C.sub _ _ (C.low _ _ eg))
        have z' : e = sysModules := z
        rw [z'] at hz
        exact absurd (Nat.lt_of_lt_of_le l hz) (by decide)
      · obtain ⟨_, o', e, _⟩ := C.ff.there hf
        rw [hn] at e; cases e
    · exact C'.st q hq
  · rw [List.map_cons, List.nodup_cons]
    refine ⟨fun hm => ?_, C.nd⟩
    obtain ⟨q, hq, e⟩ := List.mem_map.mp hm
    obtain ⟨⟨o', e', _⟩, _⟩ := C.st q hq
    rw [e] at e'
    rw [hn] at e'; cases e'
  · rcases List.mem_cons.mp (show a ∈ _ :: σ.st.map (·.1) from e) with rfl | e
    · exact .inr hn
    · exact .inl e
/-- an exception of the text is made -/
theorem k_exc {K : Frag} {C fI : Addr} {bm : List Value} {ps : List PV} {Mid : Addr → List (Addr × MO) → Prop} {Post : PV → Sy → Prop} (O : Φ.Ok (n + 1)) (tp : Tp Φ.b₀ K) (kx : ExK K C bm)
    (hi : findIn K (.ref C) "__init__" = some (some (.ref fI))) (hf : typeIn K (.ref fI) = some (.type "function")) (hlen : ps.length ≤ 15)
    (F : ∀ e, FnT Φ.prog Φ.w Φ.b₀ n (.ref fI) (.ref e :: ps) [(e, .raw (ExI C none))] fun r st' => r = .none ∧ Mid e st')
    (q : ∀ e st', Mid e st' → Post (.ref e) ⟨σ.env, st' ++ σ.st⟩) : CallT Φ E (.ref C) ps σ Post := fun b s vs Q X rs k => by
  obtain ⟨h, g, d, t, os⟩ := s
  obtain ⟨nm, q', N, bs, sn, sub, ab, col, dd, k0, k1, k2, k3, k5, eC⟩ := kx.cls
  have hl : vs.length = ps.length := rs.length
  refine exc_call PySem.F.excBase_Exception kx.hB kx.hA kx.hN (X.kin tp) hi hf (X.kin tp _ _ eC) (fun h' e hm hz => ?_) (by rw [hl, sizeLine_eq]; omega)
  obtain ⟨ta, he, _, _⟩ := hm.there
  obtain ⟨X₁, Y₁⟩ := X.adopt hm.keeps hm.new hz he (mo := .raw (ExI C none)) ⟨rfl, rfl, ta, _, rfl, rfl, rfl⟩
  refine wpAny_call ?_
  refine F e _ Φ.outer _ _ (.ref e :: vs) _ (O.lv.under C vs) (X₁.hx (st := [(e, .raw (ExI C none))]) (rest := σ.st) (.refl _)) (.cons Rep.mkRef rs) fun r st' b' h'' tk' a p H Xh ra => ?_
  obtain ⟨rfl, hMid⟩ := p
  obtain rfl := ra.noneI
  obtain ⟨X₃, Y₃⟩ := X₁.back (st := [(e, .raw (ExI C none))]) (rest := σ.st) (.refl _) H Xh
  exact ⟨rfl, k (.ref e) ⟨σ.env, st' ++ σ.st⟩ b' h'' tk' (.ref e) (q _ _ hMid) X₃ (Y₁.trans Y₃) Rep.mkRef⟩
theorem Cx.weak_exc {b : Bs} {h : Heap} {e C : Addr} {od : Option Addr} {more : List (Addr × MO)} (Cc : Cx Φ σ b h) (hst : σ.st = (e, .raw (ExI C od)) :: more) :
    Cx Φ ⟨σ.env, (e, .raw (Exc C .none)) :: more⟩ b h ∧ Ext Φ σ ⟨σ.env, (e, .raw (Exc C .none)) :: more⟩ b b h h := by
  refine ⟨⟨Cc.sub, Cc.low, Cc.ns, Cc.cells, Cc.Lb, fun q hq => ?_, ?_, Cc.ff, Cc.glob⟩, ⟨.refl b, fun _ _ z => .inl z, fun a o z _ _ => ⟨⟨o.slots, z⟩, fun _ => z⟩, fun a ha => .inl ?_, fun a o z => ⟨o, z⟩⟩⟩
  · rcases List.mem_cons.mp hq with rfl | hq
    · obtain ⟨⟨o, e1, r⟩, rest⟩ := Cc.st _ (by rw [hst]; exact .head _)
      exact ⟨⟨o, e1, r.exc⟩, rest⟩
    · exact Cc.st q (by rw [hst]; exact .tail _ hq)
  · have := Cc.nd; rw [hst] at this; exact this
  · show a ∈ σ.st.map (·.1)
    rw [hst]; exact ha
theorem x_raise {K : Frag} {C : Addr} {bm : List Value} {x : Str} {np cpos pos : Pos} {arg : Expr} {PM : List (Addr × MO) → Prop} {Post : PF → Sy → Prop} (O : Φ.Ok n) (tp : Tp Φ.b₀ K) (kx : ExK K C bm)
    (h : ∀ E, Ev Φ E (.Call (.Name x np) [arg] [] cpos) σ fun p σ₁ => ∃ e dx more, p = .ref e ∧ σ₁.st = (e, .raw (ExI C (some dx))) :: more ∧ PM more) : ExX Φ (.Raise (some (.Call (.Name x np) [arg] [] cpos)) none pos) σ Post (NewX C PM) := by
  refine TX.mk fun b s Q E Cc k kx' => ?_
  obtain ⟨nm, q', N, bs, sn, sub, ab, col, dd, k0, k1, k2, k3, k5, eC⟩ := kx.cls
  rw [arm_exec_Raise]
  refine wpAny_bind (wpAny_standAt (raise_made (C := C) (nm := nm) (q := q') (N := N) (bs := bs) (bm := bm) (hdct := true) (sn := sn) (sub := sub) (ab := ab) (col := col) (dd := dd) (k0 := k0) (k1 := k1) (k2 := k2) (k3 := k3) (k5 := k5) (newId := "Exception.__new__") kx.hBB O.hh ?_))
  refine wpAny_bind ((h E).run b s _ Cc fun p σ₁ b₁ h₁ t₁ v hP C₁ X₁ r₁ => wpAny_bind (wpAny_standAt (wpAny_pure ?_)))
  obtain ⟨e, dx, more, rfl, hst, hm⟩ := hP
  obtain rfl := r₁.refI
  have hg : getM e σ₁.st = some (.raw (ExI C (some dx))) := by rw [hst]; simp [getM]
  obtain ⟨oe, he, hcls, hod, t0, vs, hda, hv0, hv1⟩ := C₁.at hg
  obtain ⟨oc, odi, oda, osl⟩ := oe
  dsimp only at hcls hod hda
  subst hcls hod hda
  refine ⟨e, _, vs, osl, rfl, C₁.kin tp _ _ eC, he, hv1, ?_⟩
  obtain ⟨C₂, X₂⟩ := C₁.weak_exc hst
  exact kx' (.ref e) _ b₁ h₁ t₁ (.ref e) ⟨e, more, rfl, rfl, hm⟩ C₂ (X₁.trans X₂) Rep.mkRef
end
end Mine
end
section
open PySem PySem.W PySem.Spec PySem.Calls PyProof.Rows
namespace Mine
set_option maxRecDepth 100000
/-! a call that may raise, and what catches it -/
noncomputable def UpX (C : Addr) (PM : List (Addr × MO) → Prop) (p : PV) (σ : Sy) : Prop := ∃ e T more, p = .ref e ∧ σ.st = (T, MO.raw (Tb .none)) :: (e, MO.raw (Exc C (.ref T))) :: more ∧ PM more
section
variable {Φ : Fx} {σ : Sy} {n : Nat}
noncomputable abbrev CallTX (Φ : Fx) (f : Value) (ps : List PV) (σ : Sy) (Post : PV → Sy → Prop) (PX : PV → Sy → Prop) : Prop :=
  ∀ (b : Bs) (s : Shared) (vs : List Value) (Q : Value → Shared → Prop) (E : Value → Shared → Prop), Cx Φ σ b s.heap → Reps Φ.w.params b ps vs →
    (∀ r σ' b' h' tk' a, Post r σ' → Cx Φ σ' b' h' → Ext Φ σ σ' b b' s.heap h' → Rep Φ.w.params b' r a → Q a { s with heap := h', toks := tk' }) →
    (∀ p σ' b' h' tk' v, PX p σ' → Cx Φ σ' b' h' → Ext Φ σ σ' b b' s.heap h' → Rep Φ.w.params b' p v → E v { s with heap := h', toks := tk' }) → wpAny (model Φ.prog Φ.w) Φ.A (call f vs) Q E s
theorem callTX_all {f : Value} {ps : List PV} {Post : PV → List (Addr × MO) → Prop} {C : Addr} {PostX : List (Addr × MO) → Prop} {Post' : PV → Sy → Prop} (O : Φ.Ok n) (F : FnTX Φ.prog Φ.w Φ.b₀ n f ps σ.st Post C PostX)
    (q : ∀ r st', Post r st' → Post' r ⟨σ.env, st'⟩) : CallTX Φ f ps σ Post' (UpX C PostX) := fun b s vs Q E C rs k kx =>
  wpAny_call (F Φ.A Φ.outer b s vs _ O.lv C.all rs (fun r st' b' h' tk' a p H X ra => by
    obtain ⟨C', X'⟩ := C.backAll H X
    exact k r _ b' h' tk' a (q r st' p) C' X' ra) fun e T st' b' h' tk' p H X => by
    obtain ⟨C', X'⟩ := C.backAll H X
    exact kx (.ref e) _ b' h' tk' (.ref e) ⟨e, T, st', rfl, rfl, p⟩ C' X' Rep.mkRef)
theorem e_callX {K : Frag} {x : Str} {f : Value} {p pos : Pos} {e : Expr} {rest : List Expr} {Post : PV → Sy → Prop} {PX : PV → Sy → Prop} (tp : Tp Φ.b₀ K) (cl : Callee Φ K x f) (h : ∀ E, Evs Φ E (e :: rest) σ fun ps σ₁ => CallTX Φ f ps σ₁ Post PX)
    (he : starEach (e :: rest) Φ.env = (false, eval e Φ.env) :: starEach rest Φ.env := by rfl) (hplain : (backTo pos (starEach rest Φ.env)).any (·.1) = false := by rfl) : TX Φ (eval (.Call (.Name x p) (e :: rest) [] pos) Φ.env) (RV Φ) σ Post PX :=
  TX.mk fun b s Q E C k kx => wpAny_Call_ofName (cl.2 E σ p b s _ C (by
    show wpAny _ _ (callWith pos f [] (backTo pos (starEach (e :: rest) Φ.env)) []) _ _ _
    refine callWith_of (P := K.In) (by rw [he]; show ((false || (backTo pos (starEach rest Φ.env)).any (·.1)) || false) = false; rw [hplain]; rfl) (fun h X => cl.1 _ h X) ?_
    have h' := h E pos
    rw [he] at h' ⊢
    refine evalArgs_plain (h'.run b s _ C fun ps σ₁ b₁ h₁ t₁ vs hP C₁ X₁ r₁ => ⟨C₁.kin tp, ?_⟩)
    exact hP b₁ _ vs _ _ C₁ r₁ (fun r σ₂ b₂ h₂ t₂ a hP₂ C₂ X₂ r₂ => k r σ₂ b₂ h₂ t₂ a hP₂ C₂ (X₁.trans X₂) r₂) fun p σ₂ b₂ h₂ t₂ v hP₂ C₂ X₂ r₂ => kx p σ₂ b₂ h₂ t₂ v hP₂ C₂ (X₁.trans X₂) r₂))
theorem x_retX {e : Expr} {pos : Pos} {Post : PF → Sy → Prop} {PX : PV → Sy → Prop} (h : TX Φ (eval e Φ.env) (RV Φ) σ (fun p σ₁ => Post (.ret p) σ₁) PX) : ExX Φ (.Return (some e) pos) σ Post PX :=
  TX.mk fun b s Q E C k kx => wpAny_Return_some (h.run b s _ _ C (fun p σ₁ b₁ h₁ t₁ v hP C₁ X₁ r₁ => k (.ret p) σ₁ b₁ h₁ t₁ (.ret v) hP C₁ X₁ r₁) kx)
end
end Mine
end
section
open PySem PySem.W PySem.Spec PySem.Calls PyProof.Rows
namespace Mine
set_option maxRecDepth 100000
theorem Hx.perm {w : World} {b₀ : Heap} {outer : List Env} {st st' : List (Addr × MO)} {b : Bs} {h : Heap} (H : Hx w b₀ outer st b h) (p : st.Perm st') : Hx w b₀ outer st' b h :=
  ⟨H.sub, H.low, fun q hq => H.st q (p.mem_iff.mpr hq), (p.map _).nodup_iff.mp H.nd, H.ff, H.glob⟩
theorem Xh.permL {outer : List Env} {st st₂ st' : List (Addr × MO)} {b b' : Bs} {h h' : Heap} (X : Xh outer st st' b b' h h') (p : st.Perm st₂) : Xh outer st₂ st' b b' h h' :=
  have e : ∀ a, a ∈ st.map (·.1) ↔ a ∈ st₂.map (·.1) := fun a => (p.map _).mem_iff
  ⟨X.sub, fun a o q => (X.new a o q).imp id (Or.imp id (e a).mp), fun a o q hn => X.keep a o q fun z => hn ((e a).mp z), fun a q => (X.dom a q).imp (e a).mp id, X.there⟩
section
variable {Φ : Fx} {σ : Sy} {n : Nat}
theorem Cx.at_ {b : Bs} {h : Heap} {A : Around} (C : Cx Φ σ b h) : Cx { Φ with A := A } σ b h := ⟨C.sub, C.low, C.ns, C.cells, C.Lb, C.st, C.nd, C.ff, C.glob⟩
/-- try: a suite; except X: return a text -/
theorem x_try {K : Frag} {C L : Addr} {outer : List Env} {bm : List Value} {x : Str} {txt : Str} {kd : Nat} {np cpos rpos hpos pos : Pos} {body : List Stmt} {PM : List (Addr × MO) → Prop} {Post : PF → Sy → Prop} {E : Value → Shared → Prop}
    (O : Φ.Ok n) (tp : Tp Φ.b₀ K) (kx : ExK K C bm) (hbb : bm.contains (.type "BaseException") = true) (hg : nsIn K mainGlobals x = some (some (.ref C))) (hx : Φ.env.kindOf x = some .globalImplicit) (ho : Φ.outer = Φ.env :: outer) (hf : Φ.env.frame = some L)
    (hb : ExsX Φ body σ (fun f σ' => f ≠ .next ∧ Post f σ') (UpX C PM)) (hq : ∀ env pre st, PM st → Post (.ret (.str txt)) ⟨env, pre ++ st⟩) (hd : (x == ("__debug__" : Str)) = false := by decide) :
    Ex Φ E (.Try body [.ExceptHandler (some (.Name x np)) none [.Return (some (.Constant (.str txt) kd cpos)) rpos] hpos] [] [] pos) σ Post := by
  refine T.mk fun b s Q Cc k => ?_
  refine wpAny_Try_except (hb.run b s _ _ Cc (fun f σ₁ b₁ h₁ t₁ fl hP C₁ X₁ r₁ => ?_) fun p σ₁ b₁ h₁ t₁ v hP C₁ X₁ r₁ => ?_)
  · obtain ⟨hne, hP⟩ := hP
    cases f <;> cases fl <;> first | exact False.elim r₁ | exact absurd rfl hne | exact k _ σ₁ b₁ h₁ t₁ _ hP C₁ X₁ r₁
  · obtain ⟨e, T, more, rfl, hst, hm⟩ := hP
    obtain rfl := r₁.refI
    obtain ⟨nm, q', N, bs, sn, sub, ab, col, dd, k0, k1, k2, k3, k5, eC⟩ := kx.cls
    have H := C₁.all
    rw [hst, ho] at H
    have H' : Hx Φ.w Φ.b₀ (Φ.env :: outer) ((e, .raw (Exc C (.ref T))) :: (T, .raw (Tb .none)) :: more) b₁ h₁ := H.perm (.swap ..)
    refine note_next (s := { s with heap := h₁, toks := t₁ }) (w := Φ.w) (b₀ := Φ.b₀) (b := b₁) (outer := outer) (C := C) (by rw [O.fr, ho]) hf H' fun h₂ T' H₂ X₂ => ?_
    refine set_flight (s := { s with heap := h₂, toks := t₁ }) (to := none) H₂ fun h₃ H₃ X₃ => ?_
    refine wpAny_handleBy_cons (codeAny_handlers_test ?_) (by intro q; cases q)
    have X23 := (X₂.permL (.swap ..)).trans' X₃
    rw [← ho] at H₃ X23
    obtain ⟨C₃, E₃⟩ := C₁.backAll H₃ (by rw [hst]; exact X23)
    obtain ⟨p, loose, mg, mb, t⟩ := tp.top
    refine Name_function_global O.kind hx (loadGlobal_global (by rw [O.glob]; exact t.g.keeps C₃.old) (mg_of tp.kin t.g hg) ?_) hd
    obtain ⟨⟨oe, he, hcls, _⟩, _⟩ := H₃.st _ (.tail _ (.head _))
    refine wpAny_excMatches_sub_self (C₃.kin tp _ _ eC) he hcls hbb ?_
    refine codeAny_handlers_suite ?_
    refine set_flight (s := { s with heap := h₃, toks := t₁ }) (to := none) H₃ fun h₄ H₄ X₄ => ?_
    obtain ⟨C₄, E₄⟩ := C₁.backAll H₄ (by rw [hst]; exact X23.trans' (by exact X₄))
    have run := xs_cons (Φ := { Φ with A := Φ.A.mark (some (.ref e)) }) (E := notedBy (model Φ.prog Φ.w) (Φ.A.mark (some (.ref e))) Φ.env (cameBackBy (model Φ.prog Φ.w) Φ.A Φ.env E)) (rest := []) (Post := Post) (x_ret (pos := rpos) (Post := Thn { Φ with A := Φ.A.mark (some (.ref e)) } (notedBy (model Φ.prog Φ.w) (Φ.A.mark (some (.ref e))) Φ.env (cameBackBy (model Φ.prog Φ.w) Φ.A Φ.env E)) [] Post) (e_str (kk := kd) (x := txt) (pos := cpos) (Post := fun p σ => Post (.ret p) σ) (hq σ₁.env [(T', .raw (Tb .none)), (e, .raw (Exc C (.ref T'))), (T, .raw (Tb .none))] more hm)))
    exact run.run b₁ { s with heap := h₄, toks := t₁ } _ (C₄.at_) fun f σ₅ b₅ h₅ t₅ fl hP C₅ X₅ r₅ => k f σ₅ b₅ h₅ t₅ fl hP ⟨C₅.sub, C₅.low, C₅.ns, C₅.cells, C₅.Lb, C₅.st, C₅.nd, C₅.ff, C₅.glob⟩ ((X₁.trans E₄).trans ⟨X₅.sub, X₅.new, X₅.keep, X₅.dom, X₅.there⟩) r₅
end
end Mine
end
section
open PySem PySem.W PySem.Spec PySem.Calls PyProof.Rows
namespace Mine
/-! the program's functions, by their places -/
noncomputable abbrev mainB : List Stmt := PySem.Challenge.pw_on0016_01.main.body
noncomputable def atN : List Stmt → Nat → Stmt
  | [], _ => .Pass ⟨0, 0, 0, 0⟩
  | s :: _, 0 => s
  | _ :: l, n + 1 => atN l n
noncomputable def stB : Stmt → List Stmt
  | .FunctionDef _ _ body _ _ _ _ _ _ _ => body
  | .ClassDef _ _ _ body _ _ _ _ _ _ _ => body
  | _ => []
noncomputable def stP : Stmt → Arguments
  | .FunctionDef _ args _ _ _ _ _ _ _ _ => args
  | _ => default
noncomputable def stS : Stmt → Scope
  | .FunctionDef _ _ _ _ _ _ scope _ _ _ => scope
  | _ => default
/-- a def of the top, as the heap holds it -/
noncomputable def KFn (K : Frag) (f : Addr) (name qual : Str) (st : Stmt) : Prop :=
  ∃ oc od doc pm an cdv ct osl, K.lookup f = some ⟨oc, od, .func (fnX name qual (stP st) (stB st) (stS st) [] .none .none doc pm an cdv ct), osl⟩ ∧ codeIn K cdv qual = true
section
variable {prog : Program} {w : World} {b₀ : Heap} {K : Frag} {n : Nat}
theorem zip_sub : ∀ {xs : List Str} {ps : List PV}, ((xs.zip ps).map (·.1)).Sublist xs
  | [], _ => by simp
  | _ :: _, [] => by simp
  | x :: xs, p :: ps => by rw [List.zip_cons_cons, List.map_cons]; exact zip_sub.cons_cons x
theorem len1 {α : Type} {l : List α} (h : l.length = 1) : ∃ a, l = [a] := List.length_eq_one_iff.mp h
theorem len2 {α : Type} {l : List α} (h : l.length = 2) : ∃ a b, l = [a, b] := match l, h with | [a, b], _ => ⟨a, b, rfl⟩
theorem len3 {α : Type} {l : List α} (h : l.length = 3) : ∃ a b c, l = [a, b, c] := match l, h with | [a, b, c], _ => ⟨a, b, c, rfl⟩
theorem len4 {α : Type} {l : List α} (h : l.length = 4) : ∃ a b c d, l = [a, b, c, d] := match l, h with | [a, b, c, d], _ => ⟨a, b, c, d, rfl⟩
theorem len5 {α : Type} {l : List α} (h : l.length = 5) : ∃ a b c d e, l = [a, b, c, d, e] := match l, h with | [a, b, c, d, e], _ => ⟨a, b, c, d, e, rfl⟩
theorem KFn.mk {f : Addr} {name qual : Str} {st : Stmt} {ps : List PV} {env₀ : List (Str × PV)} {S : List (Addr × MO)} {Post : PV → List (Addr × MO) → Prop}
    (k : KFn K f name qual st) (tp : Tp b₀ K) (xs : List Str) (he : env₀ = xs.zip ps)
    (hbind : ∀ doc pm an cdv ct (vs : List Value), vs.length = ps.length → bindArgs (fnX name qual (stP st) (stB st) (stS st) [] .none .none doc pm an cdv ct) ⟨vs, []⟩ = pure (xs.zip vs))
    (hnd : xs.Nodup)
    (hkind : ∀ m, ∀ x ∈ xs, (stS st).names.lookup x = some .local ∨ ((stS st).names.lookup x = some .cell ∧ ((cellsFrom m (stS st).names []).lookup x).isSome = true))
    (hcn : ∀ m, ((cellsFrom m (stS st).names []).map (·.1)).Nodup)
    (hbody : ∀ (A : Around) (outer : List Env) (L : Addr) (cdv : Value) (E : Value → Shared → Prop), (fxOf prog w b₀ A outer (envX qual (stS st) L f cdv (cellsFrom (L + 1) (stS st).names []))).Ok n →
      Exs (fxOf prog w b₀ A outer (envX qual (stS st) L f cdv (cellsFrom (L + 1) (stS st).names []))) E (stB st) ⟨env₀, S⟩ (Done Post))
    (hco : (stS st).isCoroutine = false) (hgen : (stS st).isGenerator = false) (hk : (stS st).kind = .function) :
    FnT prog w b₀ (n + 1) (.ref f) ps S Post := by
  obtain ⟨oc, od, doc, pm, an, cdv, ct, osl, ho, hc⟩ := k
  subst he
  exact FnT.mk tp ho hc (fun s b vs _ _ _ rs => binds_plain rs (hbind doc pm an cdv ct vs rs.length) s) (zip_sub.nodup hnd) (fun m x hx => hkind m x.1 (zip_sub.subset (List.mem_map_of_mem hx))) hcn (fun A outer L E => hbody A outer L cdv E) hco hgen hk
end
end Mine
end
section
open PySem PySem.W PySem.Spec PySem.Calls PyProof.Rows
namespace Mine
section
variable {prog : Program} {w : World} {b₀ : Heap} {K : Frag} {n : Nat}
noncomputable abbrev sWp : Stmt := atN mainB 7
theorem fn_without_pointer (k : KFn K 94 "without_pointer" "without_pointer" sWp) (tp : Tp b₀ K) {kd : Str} {r : List PV} {q : PV} (hq : if kd == "ptr" then r[0]? = some q else q = .tup (.str kd :: r)) (hl : r.length < 100) :
    FnT prog w b₀ (n + 1) (.ref 94) [.tup (.str kd :: r)] [] fun p st' => p = q ∧ st' = [] := by
  refine k.mk tp ["told"] rfl (fun doc pm an cdv ct vs hv => ?_) (by decide) (fun m x hx => ?_) (fun m => List.nodup_nil) (fun A outer L cdv E O => ?_) rfl rfl rfl
  · obtain ⟨v, rfl⟩ := List.length_eq_one_iff.mp hv
    rfl
  · simp at hx; subst hx; exact .inl rfl
  · refine xs_cons (x_ret (e_ifexp (t_cmp (e_sub (e_loc O rfl (e_int (s_tup (i := 0) rfl (by simp; omega) (e_str ⟨kd == "ptr", c_eq_str, ⟨fun h => ?_, fun h => ?_⟩⟩))))))))
    · rw [if_pos h] at hq
      exact e_sub (e_loc O rfl (e_int (s_tup (i := 1) (by simpa using hq) (by simp; omega) ⟨[], ⟨rfl, rfl⟩, by simp, by simp⟩)))
    · rw [if_neg (by simp [h])] at hq
      subst hq
      exact e_loc O rfl ⟨[], ⟨rfl, rfl⟩, by simp, by simp⟩
end
end Mine
end
section
open PySem PySem.W PySem.Spec PySem.Calls PyProof.Rows
namespace Mine
/-! what the proof asks of the top's heap -/
noncomputable def globList : List (Str × Addr) := [("NameFault", 52), ("Reached", 83), ("without_pointer", 94), ("own_methods", 101), ("members_at", 106), ("embedded_in", 113), ("Levels", 137), ("start_type", 148), ("find_member", 155), ("NamedRow", 175), ("known_rows", 186), ("World", 218),
  ("_law_pool", 229), ("_law_take", 236), ("_law_one", 243), ("_law_world", 248), ("_law_funcs", 255), ("_law_paths", 262), ("_law_found", 267), ("_law_told", 274)]
noncomputable def bltList : List (Str × Value) := [("enumerate", .type "enumerate"), ("range", .type "range"), ("len", .builtin "len"), ("int", .type "int"), ("max", .builtin "max"), ("min", .builtin "min"), ("tuple", .type "tuple"), ("sorted", .builtin "sorted")]
noncomputable def attrList : List (Addr × Str) := [(83, "told"), (83, "steps"), (137, "world"), (137, "here"), (137, "seen"), (175, "path"), (175, "package"), (175, "underlying"), (175, "methods"),
  (218, "packages"), (218, "named"), (218, "globals"), (218, "consts"), (218, "funcs"), (218, "bodies"), (218, "files"), (218, "scopes"), (218, "order"), (218, "starts"), (218, "settle"), (218, "late_keys"), (218, "is_whole")]
noncomputable def methList : List (Addr × Str × Addr) := [(83, "__init__", 80), (137, "__init__", 127), (137, "go_on", 134), (175, "__init__", 172), (218, "__init__", 201), (218, "base_of", 208)]
noncomputable def clsList : List Addr := [83, 137, 175, 218]
noncomputable def clsB (i : Nat) (j : Nat) : Stmt := atN (stB (atN mainB i)) j
structure KOk (K : Frag) : Prop where
  glob : ∀ q ∈ globList, nsIn K mainGlobals q.1 = some (some (.ref q.2)) ∧ keepIn K (.ref q.2) = true
  blt : ∀ q ∈ bltList, nsIn K mainGlobals q.1 = some none
  attr : ∀ q ∈ attrList, findIn K (.ref q.1) q.2 = some none ∧ takerIn K q.1 q.2 = some none
  meth : ∀ q ∈ methList, findIn K (.ref q.1) q.2.1 = some (some (.ref q.2.2)) ∧ isFn K (.ref q.2.2) = true ∧ keepIn K (.ref q.2.2) = true
  cls : ∀ C ∈ clsList, Cls K C
  plain : nsIn K mainGlobals "PLAIN" = some (some (.ref 158))
  f80 : KFn K 80 "__init__" "Reached.__init__" (clsB 6 0)
  f94 : KFn K 94 "without_pointer" "without_pointer" (atN mainB 7)
  f101 : KFn K 101 "own_methods" "own_methods" (atN mainB 8)
  f106 : KFn K 106 "members_at" "members_at" (atN mainB 9)
  f113 : KFn K 113 "embedded_in" "embedded_in" (atN mainB 10)
  f127 : KFn K 127 "__init__" "Levels.__init__" (clsB 11 0)
  f134 : KFn K 134 "go_on" "Levels.go_on" (clsB 11 1)
  f148 : KFn K 148 "start_type" "start_type" (atN mainB 12)
  f155 : KFn K 155 "find_member" "find_member" (atN mainB 13)
  f172 : KFn K 172 "__init__" "NamedRow.__init__" (clsB 16 0)
  f186 : KFn K 186 "known_rows" "known_rows" (atN mainB 17)
  f208 : KFn K 208 "base_of" "World.base_of" (clsB 18 1)
  f229 : KFn K 229 "_law_pool" "_law_pool" (atN mainB 20)
  f236 : KFn K 236 "_law_take" "_law_take" (atN mainB 21)
  f243 : KFn K 243 "_law_one" "_law_one" (atN mainB 22)
  f248 : KFn K 248 "_law_world" "_law_world" (atN mainB 23)
  f255 : KFn K 255 "_law_funcs" "_law_funcs" (atN mainB 24)
  f262 : KFn K 262 "_law_paths" "_law_paths" (atN mainB 25)
  f267 : KFn K 267 "_law_found" "_law_found" (atN mainB 26)
  f274 : KFn K 274 "_law_told" "_law_told" (atN mainB 27)
section
variable {K : Frag} {Φ : Fx} {n : Nat}
theorem KOk.callee (k : KOk K) (O : Φ.Ok n) (tp : Tp Φ.b₀ K) (x : Str) (a : Addr) (hm : (x, a) ∈ globList) (hx : Φ.env.kindOf x = some .globalImplicit) (hd : (x == ("__debug__" : Str)) = false := by decide) : Callee Φ K x (.ref a) :=
  callee_g O tp (k.glob _ hm).1 (k.glob _ hm).2 hx hd
theorem KOk.calleeB (k : KOk K) (O : Φ.Ok n) (tp : Tp Φ.b₀ K) (x : Str) (v : Value) (hm : (x, v) ∈ bltList) (hv : bootBuiltins x = some v) (hk : KeepsOk K v) (hx : Φ.env.kindOf x = some .globalImplicit) (hn : x ≠ "__name__" := by decide) (hd : (x == ("__debug__" : Str)) = false := by decide) : Callee Φ K x v :=
  callee_b O tp (k.blt _ hm) hv hk hx hn hd
end
/-! types, rows, worlds -/
inductive RT where
  | plain
  | emb (p : Str) (ptr : Bool)
noncomputable def named (p : Str) : PV := .tup [.str "named", .str p]
noncomputable def ptrTo (t : PV) : PV := .tup [.str "ptr", t]
noncomputable def RT.pv : RT → PV
  | .plain => .tup [.str "bool"]
  | .emb p true => ptrTo (named p)
  | .emb p false => named p
noncomputable def RT.isEmb : RT → Bool
  | .plain => false
  | .emb _ _ => true
noncomputable abbrev Rows := List (Str × RT)
noncomputable def rowPV (r : Str × RT) : PV := .tup [.str r.1, r.2.pv, .bool r.2.isEmb]
structure Meth where
  ptr : Bool
  func : PV
  key : Str
noncomputable def Meth.pv (m : Meth) : PV := .tup [.bool m.ptr, m.func, .str m.key]
noncomputable def ifPV (q : Str × PV) : PV := .tup [.str q.1, q.2]
inductive Def where
  | struct (rows : Rows) (ms : List (Str × Meth))
  | iface (fs : List (Str × PV))
  | ptr (p : Str)
noncomputable def structPV (rows : Rows) : PV := .tup [.str "struct", .tup (rows.map rowPV)]
noncomputable def ifacePV (fs : List (Str × PV)) : PV := .tup [.str "interface", .tup (fs.map ifPV)]
noncomputable def Def.under : Def → PV
  | .struct rows _ => structPV rows
  | .iface fs => ifacePV fs
  | .ptr p => ptrTo (named p)
noncomputable def Def.meths : Def → List (Str × Meth)
  | .struct _ ms => ms
  | _ => []
noncomputable def methsPV (ms : List (Str × Meth)) : List (Str × PV) := ms.map fun q => (q.1, q.2.pv)
noncomputable def Def.row (p : Str) (d : Def) : PV := .obj 175 [("path", .str p), ("package", .str "m"), ("underlying", d.under), ("methods", .dict (methsPV d.meths))]
/-- the store's two dicts of a world -/
structure WS (W : Str → Option Def) (dx nd : Addr) (wd nm : List (Str × PV)) : Prop where
  named : wd.lookup ("named" : Str) = some (.ref nd)
  base : wd.lookup ("base_of" : Str) = none
  rows : ∀ p d, W p = some d → nm.lookup p = some (d.row p)
  ne : dx ≠ nd
noncomputable abbrev wst (dx nd : Addr) (wd nm : List (Str × PV)) : List (Addr × MO) := [(dx, .dict wd), (nd, .dict nm)]
/-- a type that is looked into -/
inductive Told where
  | name (p : Str)
  | rows (r : Rows)
noncomputable def Told.pv : Told → PV
  | .name p => Mine.named p
  | .rows r => structPV r
end Mine
end
section
open PySem PySem.W PySem.Spec PySem.Calls PyProof.Rows
namespace Mine
section
variable {prog : Program} {w : World} {b₀ : Heap} {K : Frag} {n : Nat}
/-- the end of a def that answers -/
theorem Done.ret {Post : PV → List (Addr × MO) → Prop} {p : PV} {σ : Sy} (st' : List (Addr × MO)) (h : Post p st') (hs : ∀ q ∈ st', q ∈ σ.st) (hn : (st'.map (·.1)).Nodup) : Done Post (.ret p) σ := ⟨st', h, hs, hn⟩
theorem Done.none {Post : PV → List (Addr × MO) → Prop} {σ : Sy} (st' : List (Addr × MO)) (h : Post .none st') (hs : ∀ q ∈ st', q ∈ σ.st) (hn : (st'.map (·.1)).Nodup) : Done Post .next σ := ⟨st', h, hs, hn⟩
theorem nodup2 {a b : Addr} {m m' : MO} (h : a ≠ b) : (([(a, m), (b, m')] : List (Addr × MO)).map (·.1)).Nodup := by simp [h]
theorem getM1 {a : Addr} {m : MO} {l : List (Addr × MO)} : getM a ((a, m) :: l) = some m := by simp [getM]
theorem getM2 {a b : Addr} {m : MO} {l : List (Addr × MO)} (h : b ≠ a) : getM a ((b, m) :: l) = getM a l := by simp [getM, h]
/-! Reached.__init__ -/
theorem fn_reached_init (k : KOk K) (tp : Tp b₀ K) {dx : Addr} {p q : PV} : FnT prog w b₀ (n + 1) (.ref 80) [.inst 83 dx, p, q] [(dx, .dict [])] fun r st' => r = .none ∧ st' = [(dx, .dict [("told", p), ("steps", q)])] := by
  refine k.f80.mk tp ["self", "told", "steps"] rfl (fun doc pm an cdv ct vs hv => ?_) (by decide) (fun m x hx => ?_) (fun m => List.nodup_nil) (fun A outer L cdv E O => ?_) rfl rfl rfl
  · obtain ⟨a, b, c, rfl⟩ := len3 hv
    rfl
  · simp at hx; rcases hx with rfl | rfl | rfl <;> exact .inl rfl
  · refine xs_cons (x_setattr tp (e_loc O rfl (e_loc O rfl ⟨83, dx, [], rfl, getM1, k.cls 83 (by decide), (k.attr (83, "told") (by decide)).2, by simp, ?_⟩)))
    refine xs_cons (x_setattr tp (e_loc O rfl (e_loc O rfl ⟨83, dx, _, rfl, by simp only [setM, if_true]; exact getM1, k.cls 83 (by decide), (k.attr (83, "steps") (by decide)).2, by simp [setK], ?_⟩)))
    refine xs_nil (.none _ ⟨rfl, rfl⟩ ?_ ?_)
    · simp (decide := true) [setM, setK]
    · simp
/-! own_methods -/
noncomputable def Told.ok (W : Str → Option Def) : Told → Prop
  | .name p => (W p).isSome
  | .rows _ => True
noncomputable def Told.meths (W : Str → Option Def) : Told → List (Str × Meth)
  | .name p => ((W p).map Def.meths).getD []
  | .rows _ => []
noncomputable def Told.base (W : Str → Option Def) : Told → PV
  | .name p => ((W p).map Def.under).getD .none
  | .rows r => structPV r
theorem done_ro {dx nd : Addr} {wd nm : List (Str × PV)} {e : List (Str × PV)} {p q : PV} (h : p = q) (ne : dx ≠ nd) : Done (fun r st' => st' = wst dx nd wd nm ∧ r = q) (.ret p) ⟨e, wst dx nd wd nm⟩ :=
  .ret _ ⟨rfl, h⟩ (fun _ h => h) (nodup2 ne)
theorem WS.isd {W : Str → Option Def} {dx nd : Addr} {wd nm : List (Str × PV)} (s : WS W dx nd wd nm) {e : List (Str × PV)} {r : List (Addr × MO)} : IsD ⟨e, wst dx nd wd nm ++ r⟩ (.ref nd) nm := .var (by rw [List.cons_append, getM2 s.ne]; exact getM1)
theorem fn_own_methods (k : KOk K) (tp : Tp b₀ K) {W : Str → Option Def} {dx nd : Addr} {wd nm : List (Str × PV)} (s : WS W dx nd wd nm) {t : Told} (ht : t.ok W) :
    FnT prog w b₀ (n + 1) (.ref 101) [.inst 218 dx, t.pv] (wst dx nd wd nm) fun r st' => st' = wst dx nd wd nm ∧ r = .dict (methsPV (t.meths W)) := by
  refine k.f101.mk tp ["world", "told"] rfl (fun doc pm an cdv ct vs hv => ?_) (by decide) (fun m x hx => ?_) (fun m => List.nodup_nil) (fun A outer L cdv E O => ?_) rfl rfl rfl
  · obtain ⟨a, b, rfl⟩ := len2 hv
    rfl
  · simp at hx; rcases hx with rfl | rfl <;> exact .inl rfl
  · cases t with
    | name p =>
      obtain ⟨d, hd⟩ := Option.isSome_iff_exists.mp ht
      refine xs_cons (x_ret (e_ifexp (t_cmp (e_sub (e_loc O rfl (e_int (s_tup (i := 0) rfl (by simp) (e_str ⟨true, c_eq_str, ⟨fun _ => ?_, fun h => (nomatch h)⟩⟩))))))))
      refine e_attr tp (e_sub (e_attr tp (e_loc O rfl ⟨218, wd, .ref nd, .var getM1, k.cls 218 (by decide), (k.attr (218, "named") (by decide)).1, s.named, rfl, ?_⟩)))
      refine e_sub (e_loc O rfl (e_int (s_tup (i := 1) rfl (by simp) ?_)))
      refine s_dict (s.isd (r := [])) (s.rows p d hd) ⟨175, _, _, .fix, k.cls 175 (by decide), (k.attr (175, "methods") (by decide)).1, rfl, rfl, ?_⟩
      exact done_ro (by simp [Told.meths, hd]) s.ne
    | rows r =>
      refine xs_cons (x_ret (e_ifexp (t_cmp (e_sub (e_loc O rfl (e_int (s_tup (i := 0) rfl (by simp) (e_str ⟨false, c_eq_str, ⟨fun h => (nomatch h), fun _ => ?_⟩⟩))))))))
      exact e_dict0 (done_ro rfl s.ne)
end
end Mine
end
section
open PySem PySem.W PySem.Spec PySem.Calls PyProof.Rows
namespace Mine
section
variable {prog : Program} {w : World} {b₀ : Heap} {K : Frag} {n : Nat}
/-- what an underlying type begins with -/
noncomputable def kindOfPV : PV → Str
  | .tup (.str k :: _) => k
  | _ => ""
noncomputable def Def.kind : Def → Str
  | .struct _ _ => "struct"
  | .iface _ => "interface"
  | .ptr _ => "ptr"
theorem Def.under_eq (d : Def) : ∃ q, d.under = .tup [.str d.kind, q] := by
  cases d <;> exact ⟨_, rfl⟩
theorem Def.kind_ne (d : Def) : (d.kind == ("named" : Str)) = false := by cases d <;> rfl
theorem fn_base_of (k : KOk K) (tp : Tp b₀ K) {W : Str → Option Def} {dx nd : Addr} {wd nm : List (Str × PV)} (s : WS W dx nd wd nm) {t : Told} (ht : t.ok W) :
    FnT prog w b₀ (n + 1) (.ref 208) [.inst 218 dx, t.pv] (wst dx nd wd nm) fun r st' => st' = wst dx nd wd nm ∧ r = t.base W := by
  refine k.f208.mk tp ["self", "told"] rfl (fun doc pm an cdv ct vs hv => ?_) (by decide) (fun m x hx => ?_) (fun m => List.nodup_nil) (fun A outer L cdv E O => ?_) rfl rfl rfl
  · obtain ⟨a, b, rfl⟩ := len2 hv
    rfl
  · simp at hx; rcases hx with rfl | rfl <;> exact .inl rfl
  · let Inv : Nat → Sy → Prop := fun m σ => σ.st = wst dx nd wd nm ∧ σ.env.lookup ("self" : Str) = some (.inst 218 dx) ∧ ((m = 1 ∧ ∃ p, t = .name p ∧ σ.env.lookup ("told" : Str) = some (named p)) ∨ (m = 0 ∧ ∃ kd q, (kd == ("named" : Str)) = false ∧ t.base W = .tup [.str kd, q] ∧ σ.env.lookup ("told" : Str) = some (t.base W)))
    have h0 : ∃ m, Inv m ⟨[("self", .inst 218 dx), ("told", t.pv)], wst dx nd wd nm⟩ := by
      cases t with
      | name p => exact ⟨1, rfl, rfl, .inl ⟨rfl, p, rfl, rfl⟩⟩
      | rows r => exact ⟨0, rfl, rfl, .inr ⟨rfl, "struct", _, by decide, rfl, rfl⟩⟩
    obtain ⟨m, h0⟩ := h0
    refine xs_cons (x_while Inv m h0 fun E' m σ' hI => ?_)
    obtain ⟨env, st⟩ := σ'
    obtain ⟨hst, hs, hI⟩ := hI
    dsimp only at hst hs
    subst hst
    rcases hI with ⟨rfl, p, rfl, hp⟩ | ⟨rfl, kd, q, hk, hb, hp⟩
    · obtain ⟨d, hd⟩ := Option.isSome_iff_exists.mp ht
      obtain ⟨q, hq⟩ := d.under_eq
      refine t_cmp (e_sub (e_loc O hp (e_int (s_tup (i := 0) rfl (by simp) (e_str ⟨true, c_eq_str, ⟨fun _ => ?_, fun h => (nomatch h)⟩⟩)))))
      refine xs_cons (x_if (t_cmp (e_sub (e_loc O hp (e_int (s_tup (i := 1) rfl (by simp) (e_attr tp (e_loc O hs ⟨218, wd, .ref nd, .var getM1, k.cls 218 (by decide), (k.attr (218, "named") (by decide)).1, s.named, rfl, ⟨false, c_notin (s.isd (r := [])) (by rw [s.rows p d hd]; rfl), ⟨fun h => (nomatch h), fun _ => ?_⟩⟩⟩))))))))
      refine xs_nil (xs_cons (x_assign O (.inl rfl) (e_sub (e_attr tp (e_loc O hs ⟨218, wd, .ref nd, .var getM1, k.cls 218 (by decide), (k.attr (218, "named") (by decide)).1, s.named, rfl, ?_⟩)))))
      refine e_sub (e_loc O hp (e_int (s_tup (i := 1) rfl (by simp) (s_dict (s.isd (r := [])) (s.rows p d hd) ?_))))
      refine xs_cons (x_if (t_cmp (e_attr tp (e_loc O rfl ⟨175, _, d.under, .fix, k.cls 175 (by decide), (k.attr (175, "underlying") (by decide)).1, rfl, by rw [hq]; rfl, e_none ⟨false, c_is_none (by rw [hq]; rfl), ⟨fun h => (nomatch h), fun _ => ?_⟩⟩⟩))))
      refine xs_nil (xs_cons (x_assign O (.inl rfl) (e_attr tp (e_loc O rfl ⟨175, _, d.under, .fix, k.cls 175 (by decide), (k.attr (175, "underlying") (by decide)).1, rfl, by rw [hq]; rfl, ?_⟩))))
      have hbase : Told.base W (.name p) = d.under := by simp [Told.base, hd]
      refine xs_nil ⟨0, by decide, rfl, hs, .inr ⟨rfl, d.kind, q, d.kind_ne, by rw [hbase, hq], ?_⟩⟩
      rw [hbase]; rfl
    · rw [hb] at hp
      refine t_cmp (e_sub (e_loc O hp (e_int (s_tup (i := 0) rfl (by simp) (e_str ⟨false, ?_, ⟨fun h => (nomatch h), fun _ => ?_⟩⟩)))))
      · rw [← hk]; exact c_eq_str
      · refine xs_cons (x_ret (e_loc O hp (done_ro hb.symm s.ne)))
end
end Mine
end
section
open PySem PySem.W PySem.Spec PySem.Calls PyProof.Rows
namespace Mine
/-! members_at -/
theorem look2 {x y z : Str} {p q r : PV} (h : List.lookup z [(x, p), (y, q)] = some r) : (z = x ∧ r = p) ∨ (z = y ∧ r = q) := by
  rw [lookup_put, lookup_put] at h
  by_cases e1 : z = x
  · rw [if_pos e1] at h; cases h; exact .inl ⟨e1, rfl⟩
  · rw [if_neg e1] at h
    by_cases e2 : z = y
    · rw [if_pos e2] at h; cases h; exact .inr ⟨e2, rfl⟩
    · rw [if_neg e2] at h; cases h
noncomputable def Told.toDef (W : Str → Option Def) : Told → Def
  | .name p => (W p).getD (.ptr "")
  | .rows r => .struct r []
theorem Told.meths_eq {W : Str → Option Def} {t : Told} (h : t.ok W) : t.meths W = (t.toDef W).meths := by
  cases t with
  | name p => obtain ⟨d, hd⟩ := Option.isSome_iff_exists.mp h; simp [Told.meths, Told.toDef, hd]
  | rows r => rfl
theorem Told.base_eq {W : Str → Option Def} {t : Told} (h : t.ok W) : t.base W = (t.toDef W).under := by
  cases t with
  | name p => obtain ⟨d, hd⟩ := Option.isSome_iff_exists.mp h; simp [Told.base, Told.toDef, hd]
  | rows r => rfl
noncomputable def stepPV (k : Nat) (p : Bool) : PV := .tup [.int k, .bool p]
noncomputable def fieldAt : Rows → Str → Nat → Option (Nat × RT)
  | [], _, _ => none
  | (x, t) :: r, name, k => if x == name then some (k, t) else fieldAt r name (k + 1)
noncomputable def fieldMem (steps : List PV) (q : Nat × RT) : PV := .tup [.str "field", .tup (steps ++ [stepPV q.1 false]), q.2.pv]
noncomputable def faceMem (steps : List PV) (name : Str) (q : Str × PV) : PV := .tup [.str "face", .tup steps, .str name, q.2]
noncomputable def methMem (steps : List PV) (m : Meth) : PV := .tup [.str "method", .tup steps, .str m.key, .bool m.ptr, m.func]
noncomputable def Def.mems (d : Def) (steps : List PV) (name : Str) : List PV :=
  match d.meths.lookup name with
  | some m => [methMem steps m]
  | none => match d with
    | .struct rows _ => ((fieldAt rows name 0).map (fieldMem steps)).toList
    | .iface fs => (fs.filter fun q => q.1 == name).map (faceMem steps name)
    | .ptr _ => []
theorem lookup_cons' {β : Type} {x y : Str} {p : β} {l : List (Str × β)} : List.lookup y ((x, p) :: l) = if y = x then some p else l.lookup y := by
  rw [List.lookup_cons]
  by_cases h : y = x
  · rw [if_pos h, beq_iff_eq.mpr h]
  · rw [if_neg h]
    cases hb : (y == x) with
    | true => exact absurd (beq_iff_eq.mp hb) h
    | false => rfl
theorem methsPV_lookup (name : Str) (ms : List (Str × Meth)) : (methsPV ms).lookup name = (ms.lookup name).map Meth.pv := by
  induction ms with
  | nil => rfl
  | cons q r ih =>
    obtain ⟨x, m⟩ := q
    show List.lookup name ((x, m.pv) :: methsPV r) = _
    rw [lookup_cons', lookup_cons', ih]
    split <;> rfl
theorem fieldAt_get {name : Str} {x : Str} {t : RT} {r : Rows} : ∀ {i : Nat}, r[i]? = some (x, t) → ∀ k, fieldAt (r.drop i) name k = if x == name then some (k, t) else fieldAt (r.drop (i + 1)) name (k + 1) := by
  induction r with
  | nil => intro i h; simp at h
  | cons q r ih =>
    intro i h
    cases i with
    | zero => simp at h; subst h; intro k; rfl
    | succ i => simp at h; exact ih h
local macro_rules | `(tactic| walk_at "mine") => `(tactic| repeat (first
  | with_reducible refine es_nil ?_
  | (with_reducible refine es_cons ?_ ?he; (case he => with_unfolding_all rfl))
  | with_reducible refine e_str ?_
  | with_reducible refine e_int ?_
  | with_reducible refine e_bool ?_
  | with_reducible refine e_none ?_
  | with_reducible refine e_tup ?_
  | with_reducible refine e_sub ?_
  | (with_reducible refine s_tup0 ?_ ?hl ?hs; (case hl => simp); (case hs => (intro _ _; with_unfolding_all rfl)))
  | (with_reducible refine s_tup1 ?_ ?hl ?hs; (case hl => simp); (case hs => (intro _ _; with_unfolding_all rfl)))
  | (with_reducible refine s_tup2 ?_ ?hl ?hs; (case hl => simp); (case hs => (intro _ _; with_unfolding_all rfl)))
  | (with_reducible refine And.intro (show List.length _ ≤ sizeLine from ?hz) ?_; (case hz => simp [sizeLine_eq]))
  | refine e_loc (by assumption) rfl ?_))
set_option maxHeartbeats 1000000
section
variable {prog : Program} {w : World} {b₀ : Heap} {K : Frag} {n : Nat}
theorem fn_members_at (k : KOk K) (tp : Tp b₀ K) {W : Str → Option Def} {dx nd : Addr} {wd nm : List (Str × PV)} (s : WS W dx nd wd nm) {t : Told} (ht : t.ok W) {steps : List PV} (hs : steps.length < 1000) {name : Str} (hf : ∀ fs, t.toDef W = .iface fs → fs.length < 1000) :
    FnT prog w b₀ (n + 2) (.ref 106) [.inst 218 dx, .obj 83 [("told", t.pv), ("steps", .tup steps)], .str name] (wst dx nd wd nm) fun r st' => st' = wst dx nd wd nm ∧ r = .list ((t.toDef W).mems steps name) := by
  refine k.f106.mk tp ["world", "reached", "name"] rfl (fun doc pm an cdv ct vs hv => ?_) (by decide) (fun m x hx => ?_) (fun m => (by decide : (["steps", "name"] : List Str).Nodup)) (fun A outer L cdv E O => ?_) rfl rfl rfl
  · obtain ⟨a, b, c, rfl⟩ := len3 hv
    rfl
  · simp at hx; rcases hx with rfl | rfl | rfl
    · exact .inl rfl
    · exact .inl rfl
    · exact .inr ⟨rfl, rfl⟩
  · have hknown : t.pv.known = true := by cases t <;> rfl
    have sx : ∀ xs : List Str, (∀ x ∈ xs, x = "told" ∨ x = "steps" ∨ x = "is_pointer" ∨ x = "func" ∨ x = "key" ∨ x = "k" ∨ x = "row") → ∀ x ∈ xs, Sto (envX "members_at" (stS (atN mainB 9)) L 106 cdv (cellsFrom (L + 1) (stS (atN mainB 9)).names [])) x := fun xs h x hx => by
      rcases h x hx with rfl | rfl | rfl | rfl | rfl | rfl | rfl <;> first | exact .inl rfl | exact .inr ⟨rfl, _, rfl⟩
    refine xs_cons (x_unpack (xs := ["told", "steps"]) O (sx _ (by simp)) (.cons binds_name (.cons binds_name .nil)) ?_)
    walk_at "mine"
    refine e_attr tp ?_
    walk_at "mine"
    refine ⟨83, _, t.pv, .fix, k.cls 83 (by decide), (k.attr (83, "told") (by decide)).1, rfl, hknown, ?_⟩
    walk_at "mine"
    refine e_attr tp ?_
    walk_at "mine"
    refine ⟨83, _, .tup steps, .fix, k.cls 83 (by decide), (k.attr (83, "steps") (by decide)).1, rfl, rfl, ?_⟩
    walk_at "mine"
    refine ⟨_, rfl, rfl, ?_⟩
    refine xs_cons (x_assign O (.inl rfl) (e_call tp (k.callee O tp "own_methods" 101 (by decide) rfl) ?_))
    walk_at "mine"
    refine callT_ro O (fn_own_methods k tp s ht) (fun _ h => h) (nodup2 s.ne) fun r hr => ?_
    subst hr
    refine xs_cons (x_if (t_cmp ?_))
    walk_at "mine"
    refine ⟨_, c_in .fix rfl, ⟨fun hc => ?_, fun hc => ?_⟩⟩
    · rw [methsPV_lookup, Option.isSome_map] at hc
      obtain ⟨m, hm⟩ := Option.isSome_iff_exists.mp hc
      refine xs_cons (x_unpack (xs := ["is_pointer", "func", "key"]) O (sx _ (by simp)) (.cons binds_name (.cons binds_name (.cons binds_name .nil))) ?_)
      walk_at "mine"
      refine s_dict .fix (by rw [methsPV_lookup, hm]; rfl) ⟨_, rfl, rfl, ?_⟩
      refine xs_cons (x_ret (e_list ?_))
      walk_at "mine"
      refine done_ro ?_ s.ne
      rw [Told.meths_eq ht] at hm
      simp [Def.mems, hm, methMem]
    · rw [methsPV_lookup, Option.isSome_map] at hc
      have hm : (t.toDef W).meths.lookup name = none := by rw [← Told.meths_eq ht]; simpa using hc
      refine xs_nil (xs_cons (x_assign O (.inl rfl) (e_meth tp ?_)))
      walk_at "mine"
      refine ⟨.ref 208, .of (k.meth (218, "base_of", 208) (by decide)).2.2, m_own tp (.var getM1) (k.cls 218 (by decide)) (k.meth (218, "base_of", 208) (by decide)).1 (k.meth (218, "base_of", 208) (by decide)).2.1 s.base, ?_⟩
      walk_at "mine"
      refine callT_ro O (fn_base_of k tp s ht) (fun _ h => h) (nodup2 s.ne) fun r hr => ?_
      rw [Told.base_eq ht] at hr
      subst hr
      generalize hd : t.toDef W = d at hm
      cases d with
      | struct rows ms =>
        refine xs_cons (x_if (t_cmp ?_))
        show Ev _ _ _ ⟨(("base" : Str), structPV rows) :: _, _⟩ _
        unfold structPV
        walk_at "mine"
        refine ⟨true, c_eq_str, ⟨fun _ => ?_, fun h => (nomatch h)⟩⟩
        refine xs_cons (x_for (it_enum O tp (k.blt ("enumerate", .type "enumerate") (by decide)) rfl rfl ?_))
        walk_at "mine"
        refine ⟨_, rfl, ?_⟩
        have hlen : (rows.map rowPV).length = rows.length := by simp
        refine ⟨fun i σ => σ.st = wst dx nd wd nm ∧ σ.env.lookup ("name" : Str) = some (.str name) ∧ σ.env.lookup ("steps" : Str) = some (.tup steps) ∧ σ.env.lookup ("base" : Str) = some (structPV rows) ∧ fieldAt rows name 0 = fieldAt (rows.drop i) name i, ⟨rfl, rfl, rfl, rfl, rfl⟩, fun E' i p σ' hp hI => ?_, fun σ' hI => ?_⟩
        · obtain ⟨env, st⟩ := σ'
          obtain ⟨h1, h2, h3, h4, h5⟩ := hI
          dsimp only at h1 h2 h3 h4
          subst h1
          rw [List.getElem?_mapIdx] at hp
          obtain ⟨q, hq, rfl⟩ := Option.map_eq_some_iff.mp hp
          rw [List.getElem?_map] at hq
          obtain ⟨⟨x, rt⟩, hr, rfl⟩ := Option.map_eq_some_iff.mp hq
          have hf := fieldAt_get (name := name) hr i
          refine a_tup (xs := ["k", "row"]) O (sx _ (by simp)) (.cons binds_name (.cons binds_name .nil)) rfl ?_
          unfold rowPV
          refine xs_cons (x_if (t_cmp ?_))
          walk_at "mine"
          refine e_loc O h2 ⟨_, c_eq_str, ⟨fun hc => ?_, fun hc => ?_⟩⟩
          · refine xs_cons (x_ret (e_list ?_))
            refine es_cons (e_tup (es_cons (e_str (es_cons (e_bin (e_loc O h3 ?_))))))
            walk_at "mine"
            refine b_tadd (by simp [sizeLine_eq]; omega) ?_
            walk_at "mine"
            refine done_ro ?_ s.ne
            rw [hf, if_pos hc] at h5
            simp [Def.mems, hm, h5, fieldMem, stepPV]
          · refine xs_nil (xs_nil ⟨rfl, h2, h3, h4, ?_⟩)
            rw [h5, hf, if_neg (by simp [hc])]
        · obtain ⟨env, st⟩ := σ'
          obtain ⟨h1, h2, h3, h4, h5⟩ := hI
          dsimp only at h1 h2 h3 h4
          subst h1
          have h5' : fieldAt rows name 0 = none := by
            rw [h5, List.drop_of_length_le (by simp)]; rfl
          refine xs_nil (xs_cons (x_if (t_cmp (e_sub (e_loc O h4 ?_)))))
          unfold structPV
          walk_at "mine"
          refine ⟨false, c_eq_str, ⟨fun h => (nomatch h), fun _ => ?_⟩⟩
          refine xs_nil (xs_cons (x_ret (e_list ?_)))
          walk_at "mine"
          refine done_ro ?_ s.ne
          simp [Def.mems, hm, h5']
      | iface fs =>
        refine xs_cons (x_if (t_cmp ?_))
        show Ev _ _ _ ⟨(("base" : Str), ifacePV fs) :: _, _⟩ _
        unfold ifacePV
        walk_at "mine"
        refine ⟨false, c_eq_str, ⟨fun h => (nomatch h), fun _ => ?_⟩⟩
        refine xs_nil (xs_cons (x_if (t_cmp ?_)))
        walk_at "mine"
        refine ⟨true, c_eq_str, ⟨fun _ => ?_, fun h => (nomatch h)⟩⟩
        refine xs_cons (x_ret ?_)
        refine e_comp (cl := [("steps", L + 2), ("name", L + 1)]) (fe := [("name", .str name), ("steps", .tup steps)]) O ⟨?_, ?_, ?_, rfl⟩ rfl ?_ ?_ ?_
        · intro x c hx
          simp at hx
          rcases hx with ⟨rfl, rfl⟩ | ⟨rfl, rfl⟩ <;> rfl
        · simp
        · intro C x p hx
          rcases look2 hx with ⟨rfl, rfl⟩ | ⟨rfl, rfl⟩ <;> exact ⟨_, rfl, .inl rfl, .inl rfl⟩
        · simp (decide := true)
        · simp (decide := true)
        · refine it_tuple O ?_
          walk_at "mine"
          refine ⟨_, rfl, .inr ⟨⟨_, _, _, rfl⟩, ?_⟩, ?_⟩
          · intro p hp
            obtain ⟨q, _, rfl⟩ := List.mem_map.mp hp
            exact ⟨_, rfl⟩
          · have hfs := hf fs hd
            refine ⟨?_, ?_, fun i acc st => i ≤ fs.length ∧ st = wst dx nd wd nm ∧ acc = ((fs.take i).filter fun q => q.1 == name).map (faceMem steps name), ?_, ⟨Nat.zero_le _, rfl, by simp⟩, ?_, ?_⟩
            · intro x p hx
              rcases look2 hx with ⟨rfl, rfl⟩ | ⟨rfl, rfl⟩ <;> rfl
            · intro x c hx p hp
              simp at hx
              rcases hx with ⟨rfl, _⟩ | ⟨rfl, _⟩ <;> exact hp
            · rintro i acc st ⟨h1, _, rfl⟩
              rw [List.length_map, sizeLine_eq]
              have := List.length_filter_le (fun q : Str × PV => q.1 == name) (fs.take i)
              rw [List.length_take] at this
              omega
            · intro C E' i p acc st O' hp hI
              obtain ⟨h1, rfl, h3⟩ := hI
              rw [List.getElem?_map] at hp
              obtain ⟨⟨x, fv⟩, hq, rfl⟩ := Option.map_eq_some_iff.mp hp
              have hlt : i < fs.length := by
                rcases Nat.lt_or_ge i fs.length with h | h
                · exact h
                · rw [List.getElem?_eq_none h] at hq; cases hq
              have htk : fs.take (i + 1) = fs.take i ++ [(x, fv)] := by
                rw [List.take_add_one, hq]; rfl
              refine a_tup (xs := ["own", "func"]) O' (fun y hy => by simp at hy; rcases hy with rfl | rfl <;> exact .inl rfl) (.cons binds_name (.cons binds_name .nil)) rfl ?_
              refine tests_one (t_cmp ?_)
              refine e_loc O' rfl (e_loc O' rfl ⟨_, c_eq_str, fun hc => ⟨⟨hlt, rfl, ?_⟩, ?_⟩, fun hc => ?_⟩)
              · rw [h3, htk, List.filter_append]
                simp [hc]
              · intro y p hy
                rcases look2 hy with ⟨rfl, rfl⟩ | ⟨rfl, rfl⟩ <;> rfl
              · refine e_tup (es_cons (e_str (es_cons (e_loc O' rfl (es_cons (e_loc O' rfl (es_cons (e_loc O' rfl (es_nil ⟨by simp [sizeLine_eq], ⟨hlt, rfl, ?_⟩, ?_⟩)))))))))
                · rw [h3, htk, List.filter_append]
                  simp [hc, faceMem]
                · intro y p hy
                  rcases look2 hy with ⟨rfl, rfl⟩ | ⟨rfl, rfl⟩ <;> rfl
            · rintro acc st ⟨_, rfl, rfl⟩
              refine done_ro ?_ s.ne
              simp [Def.mems, hm]
      | ptr p => 
        refine xs_cons (x_if (t_cmp ?_))
        show Ev _ _ _ ⟨(("base" : Str), ptrTo (named p)) :: _, _⟩ _
        unfold ptrTo
        walk_at "mine"
        refine ⟨false, c_eq_str, ⟨fun h => (nomatch h), fun _ => ?_⟩⟩
        refine xs_nil (xs_cons (x_if (t_cmp ?_)))
        walk_at "mine"
        refine ⟨false, c_eq_str, ⟨fun h => (nomatch h), fun _ => ?_⟩⟩
        refine xs_nil (xs_cons (x_ret (e_list ?_)))
        walk_at "mine"
        refine done_ro ?_ s.ne
        simp [Def.mems, hm]
end
end Mine
end
section
open PySem PySem.W PySem.Spec PySem.Calls PyProof.Rows
namespace Mine
/-! embedded_in -/
noncomputable def reachedPV (t : Told) (steps : List PV) : PV := .obj 83 [("told", t.pv), ("steps", .tup steps)]
noncomputable def embs : Rows → Nat → List (Str × PV)
  | [], _ => []
  | (_, .plain) :: r, k => embs r (k + 1)
  | (_, .emb p b) :: r, k => (p, stepPV k b) :: embs r (k + 1)
noncomputable def Def.embs : Def → List (Str × PV)
  | .struct rows _ => Mine.embs rows 0
  | _ => []
noncomputable def embPV (steps : List PV) (q : Str × PV) : PV := reachedPV (.name q.1) (steps ++ [q.2])
theorem embs_take {r : Rows} : ∀ {i : Nat} {x : Str} {t : RT} {k : Nat}, r[i]? = some (x, t) → embs (r.take (i + 1)) k = embs (r.take i) k ++ (match t with | .plain => [] | .emb p b => [(p, stepPV (k + i) b)]) := by
  induction r with
  | nil => intro i x t k h; simp at h
  | cons q r ih =>
    intro i x t k h
    cases i with
    | zero =>
      simp at h; subst h
      cases t <;> simp [embs]
    | succ i =>
      simp at h
      have := ih (k := k + 1) h
      obtain ⟨y, u⟩ := q
      have e : k + 1 + i = k + (i + 1) := by omega
      cases u with
      | plain => rw [List.take_succ_cons, List.take_succ_cons, embs, embs, this, e]
      | emb p b => rw [List.take_succ_cons, List.take_succ_cons, embs, embs, this, e, List.cons_append]
theorem embs_length {r : Rows} : ∀ k, (embs r k).length ≤ r.length := by
  induction r with
  | nil => intro k; exact Nat.le_refl _
  | cons q r ih =>
    intro k
    obtain ⟨x, t⟩ := q
    cases t with
    | plain => have := ih (k + 1); rw [embs, List.length_cons]; omega
    | emb p b => have := ih (k + 1); rw [embs, List.length_cons, List.length_cons]; omega
local macro_rules | `(tactic| walk_at "mine") => `(tactic| repeat (first
  | with_reducible refine es_nil ?_
  | (with_reducible refine es_cons ?_ ?he; (case he => with_unfolding_all rfl))
  | with_reducible refine e_str ?_
  | with_reducible refine e_int ?_
  | with_reducible refine e_bool ?_
  | with_reducible refine e_none ?_
  | with_reducible refine e_tup ?_
  | with_reducible refine e_sub ?_
  | (with_reducible refine s_tup0 ?_ ?hl ?hs; (case hl => first | (simp; done) | (simp; omega) | omega); (case hs => (intro _ _; with_unfolding_all rfl)))
  | (with_reducible refine s_tup1 ?_ ?hl ?hs; (case hl => first | (simp; done) | (simp; omega) | omega); (case hs => (intro _ _; with_unfolding_all rfl)))
  | (with_reducible refine s_tup2 ?_ ?hl ?hs; (case hl => first | (simp; done) | (simp; omega) | omega); (case hs => (intro _ _; with_unfolding_all rfl)))
  | (with_reducible refine And.intro (show List.length _ ≤ sizeLine from ?hz) ?_; (case hz => simp [sizeLine_eq]))
  | refine e_loc (by assumption) rfl ?_))
set_option maxHeartbeats 1000000
theorem done_st {dx nd : Addr} {wd nm : List (Str × PV)} {σ : Sy} {p q : PV} (h : p = q) (ne : dx ≠ nd) (hs : σ.st = wst dx nd wd nm) : Done (fun r st' => st' = wst dx nd wd nm ∧ r = q) (.ret p) σ :=
  .ret _ ⟨rfl, h⟩ (fun q hq => by rw [hs]; exact hq) (nodup2 ne)
section
variable {Φ : Fx} {E : Value → Shared → Prop} {σ : Sy} {n : Nat} {K : Frag}
/-- Reached(told, steps) -/
theorem k_reached (k : KOk K) (O : Φ.Ok (n + 2)) (tp : Tp Φ.b₀ K) {p q : PV} {Post : PV → Sy → Prop} (h : ∀ dx, Post (.inst 83 dx) ⟨σ.env, (dx, .dict [("told", p), ("steps", q)]) :: σ.st⟩) : CallT Φ E (.ref 83) [p, q] σ Post :=
  k_make (Mid := fun dx st' => st' = [(dx, .dict [("told", p), ("steps", q)])]) (st := []) (rest := σ.st) O tp (k.cls 83 (by decide)).mki (k.meth (83, "__init__", 80) (by decide)).1 (beq_iff_eq.mp (k.meth (83, "__init__", 80) (by decide)).2.1) (.refl _)
    (fun dx => fn_reached_init k tp) fun dx st' e => by subst e; exact h dx
end
section
variable {prog : Program} {w : World} {b₀ : Heap} {K : Frag} {n : Nat}
theorem fn_embedded_in (k : KOk K) (tp : Tp b₀ K) {W : Str → Option Def} {dx nd : Addr} {wd nm : List (Str × PV)} (s : WS W dx nd wd nm) {t : Told} (ht : t.ok W) {steps : List PV} (hs : steps.length < 1000) (hf : ∀ rows ms, t.toDef W = .struct rows ms → rows.length < 1000) :
    FnT prog w b₀ (n + 3) (.ref 113) [.inst 218 dx, reachedPV t steps] (wst dx nd wd nm) fun r st' => st' = wst dx nd wd nm ∧ r = .list ((t.toDef W).embs.map (embPV steps)) := by
  refine k.f113.mk tp ["world", "reached"] rfl (fun doc pm an cdv ct vs hv => ?_) (by decide) (fun m x hx => ?_) (fun m => List.nodup_nil) (fun A outer L cdv E O => ?_) rfl rfl rfl
  · obtain ⟨a, b, rfl⟩ := len2 hv
    rfl
  · simp at hx; rcases hx with rfl | rfl <;> exact .inl rfl
  · have hknown : t.pv.known = true := by cases t <;> rfl
    refine xs_cons (x_unpackS (xs := ["base", "found"]) O (fun x hx => by simp at hx; rcases hx with rfl | rfl <;> exact .inl rfl) ?_)
    refine e_tup (es_cons (e_meth tp ?_))
    walk_at "mine"
    refine ⟨.ref 208, .of (k.meth (218, "base_of", 208) (by decide)).2.2, m_own tp (.var getM1) (k.cls 218 (by decide)) (k.meth (218, "base_of", 208) (by decide)).1 (k.meth (218, "base_of", 208) (by decide)).2.1 s.base, ?_⟩
    refine es_cons (e_attr tp ?_)
    unfold reachedPV
    walk_at "mine"
    refine ⟨83, _, t.pv, .fix, k.cls 83 (by decide), (k.attr (83, "told") (by decide)).1, rfl, hknown, ?_⟩
    walk_at "mine"
    refine callT_ro O (fn_base_of k tp s ht) (fun _ h => h) (nodup2 s.ne) fun r hr => ?_
    rw [Told.base_eq ht] at hr
    subst hr
    refine es_cons (e_listM ?_)
    walk_at "mine"
    intro fl
    walk_at "mine"
    refine ⟨_, rfl, rfl, ?_⟩
    generalize hd : t.toDef W = d
    obtain ⟨u, hu⟩ := d.under_eq
    refine T.nd fun hnd => ?_
    have hne : fl ≠ dx ∧ fl ≠ nd := by
      simp at hnd; exact hnd.1
    refine xs_cons (x_if (t_cmp ?_))
    rw [hu]
    walk_at "mine"
    refine ⟨_, c_eq_str, ⟨fun hk => ?_, fun hk => ?_⟩⟩
    · cases d with
      | iface fs => exact absurd hk (show ¬ (("interface" : Str) == ("struct" : Str)) = true by decide)
      | ptr p => exact absurd hk (show ¬ (("ptr" : Str) == ("struct" : Str)) = true by decide)
      | struct rows ms =>
        cases hu
        have hrows := hf rows ms hd
        refine xs_cons (x_for (it_enum O tp (k.blt ("enumerate", .type "enumerate") (by decide)) rfl rfl ?_))
        walk_at "mine"
        refine ⟨_, rfl, ?_⟩
        refine ⟨fun i σ => σ.st = (fl, .list ((embs (rows.take i) 0).map (embPV steps))) :: wst dx nd wd nm ∧ σ.env.lookup ("reached" : Str) = some (reachedPV t steps) ∧ σ.env.lookup ("found" : Str) = some (.ref fl), ⟨rfl, rfl, rfl⟩, fun E' i p σ' hp hI => ?_, fun σ' hI => ?_⟩
        · obtain ⟨env, st⟩ := σ'
          obtain ⟨h1, h2, h3⟩ := hI
          dsimp only at h1 h2 h3
          subst h1
          rw [List.getElem?_mapIdx] at hp
          obtain ⟨q, hq, rfl⟩ := Option.map_eq_some_iff.mp hp
          rw [List.getElem?_map] at hq
          obtain ⟨⟨x, rt⟩, hr, rfl⟩ := Option.map_eq_some_iff.mp hq
          have hlt : i < rows.length := by
            rcases Nat.lt_or_ge i rows.length with h | h
            · exact h
            · rw [List.getElem?_eq_none h] at hr; cases hr
          have hemb := embs_take (k := 0) hr
          refine a_tup (xs := ["k", "row"]) O (fun x hx => by simp at hx; rcases hx with rfl | rfl <;> exact .inl rfl) (.cons binds_name (.cons binds_name .nil)) rfl ?_
          unfold rowPV
          cases rt with
          | plain =>
            refine xs_cons (x_if (t_val (x := false) ?_))
            walk_at "mine"
            refine ⟨rfl, ⟨fun h => (nomatch h), fun _ => ?_⟩⟩
            refine xs_nil (xs_nil ⟨?_, h2, h3⟩)
            rw [hemb]; simp
          | emb p b =>
            refine xs_cons (x_if (t_val (x := true) ?_))
            walk_at "mine"
            refine ⟨rfl, ⟨fun _ => ?_, fun h => (nomatch h)⟩⟩
            have hkd : ∃ kd r, RT.pv (.emb p b) = .tup (.str kd :: r) ∧ (kd == ("ptr" : Str)) = b ∧ r.length < 100 ∧ (if (kd == ("ptr" : Str)) = true then r[0]? = some (named p) else named p = .tup (.str kd :: r)) := by
              cases b with
              | false => exact ⟨"named", [.str p], rfl, by decide, by simp, rfl⟩
              | true => exact ⟨"ptr", [named p], rfl, by decide, by simp, rfl⟩
            obtain ⟨kd, r, e1, e2, e3, e4⟩ := hkd
            rw [e1]
            refine xs_cons (x_assign O (.inl rfl) (e_cmp ?_))
            walk_at "mine"
            refine ⟨b, e2 ▸ c_eq_str, ?_⟩
            refine xs_cons (x_expr (e_meth tp ?_))
            refine e_loc O h3 ⟨.builtin "list.append", .builtin, m_list (.var getM1) PySem.F.slot_list_append PySem.F.type_list_append, ?_⟩
            refine es_cons (e_frz (e_call tp (k.callee O tp "Reached" 83 (by decide) rfl) ?_))
            refine es_cons (e_call tp (k.callee O tp "without_pointer" 94 (by decide) rfl) ?_)
            walk_at "mine"
            refine callT_pure O (fn_without_pointer k.f94 tp e4 e3) ?_
            refine es_cons (e_bin (e_attr tp (e_loc O h2 ⟨83, _, .tup steps, .fix, k.cls 83 (by decide), (k.attr (83, "steps") (by decide)).1, rfl, rfl, ?_⟩)))
            walk_at "mine"
            refine b_tadd (by simp [sizeLine_eq]; omega) ?_
            walk_at "mine"
            refine k_reached k O tp fun ox => ?_
            refine ⟨ox, _, .obj 83 [("told", named p), ("steps", .tup (steps ++ [stepPV i b]))], getM1, .inst rfl, ?_⟩
            have hdel : delM ox ((ox, MO.dict [("told", named p), ("steps", .tup (steps ++ [stepPV i b]))]) :: (fl, MO.list (List.map (embPV steps) (embs (rows.take i) 0))) :: wst dx nd wd nm) = (fl, MO.list (List.map (embPV steps) (embs (rows.take i) 0))) :: wst dx nd wd nm := by simp [delM]
            have hle := embs_length (r := rows.take i) 0
            have hle2 : (rows.take i).length ≤ i := by simp; omega
            walk_at "mine"
            refine k_append (a := fl) (qs := List.map (embPV steps) (embs (rows.take i) 0)) (by show getM fl (delM ox _) = _; erw [hdel]; exact getM1) (by simp [sizeLine_eq]; omega) ⟨rfl, ?_⟩
            refine xs_nil (xs_nil ⟨?_, h2, h3⟩)
            show setM fl _ (delM ox _) = _
            erw [hdel]
            rw [hemb]
            simp [setM, embPV, reachedPV, Told.pv]
        · obtain ⟨env, st⟩ := σ'
          obtain ⟨h1, h2, h3⟩ := hI
          dsimp only at h1 h2 h3
          subst h1
          refine xs_nil (xs_cons (x_ret (e_frz (e_loc O h3 ⟨fl, _, _, getM1, .ref, ?_⟩))))
          refine done_st ?_ s.ne (by simp [delM])
          simp [MO.pv, Def.embs]
    · refine xs_nil (xs_cons (x_ret (e_frz ?_)))
      walk_at "mine"
      refine ⟨fl, _, _, getM1, .ref, ?_⟩
      refine done_st ?_ s.ne (by simp [delM])
      cases d with
      | struct rows ms => exact absurd hk (show ¬ (("struct" : Str) == ("struct" : Str)) = false by decide)
      | iface fs => rfl
      | ptr p => rfl
end
end Mine
end
section
open PySem PySem.W PySem.Spec PySem.Calls PyProof.Rows
namespace Mine
/-! Levels -/
noncomputable abbrev Here := List (Told × List PV)
noncomputable def herePV (h : Here) : List PV := h.map fun r => reachedPV r.1 r.2
noncomputable def seenPV (s : List Str) : List (Str × PV) := s.map fun p => (p, .bool true)
noncomputable def addSeen (s : List Str) : Told → List Str
  | .name p => if p ∈ s then s else s ++ [p]
  | .rows _ => s
noncomputable def nextOf (W : Str → Option Def) (seen : List Str) (r : Told × List PV) : Here := ((r.1.toDef W).embs.filter fun q => !(seen.contains q.1)).map fun q => (.name q.1, r.2 ++ [q.2])
noncomputable def hereNext (W : Str → Option Def) (seen : List Str) (h : Here) : Here := h.flatMap (nextOf W seen)
noncomputable def lvD (dx : Addr) (h : Here) (sn : Addr) : List (Str × PV) := [("world", .inst 218 dx), ("here", .list (herePV h)), ("seen", .ref sn)]
theorem setK_seen (p : Str) : ∀ s : List Str, setK p (.bool true) (seenPV s) = seenPV (addSeen s (.name p))
  | [] => rfl
  | x :: s => by
    have ih := setK_seen p s
    show setK p (.bool true) ((x, .bool true) :: seenPV s) = _
    rw [setK]
    by_cases h : x = p
    · rw [if_pos h]
      show _ = seenPV (if p ∈ x :: s then x :: s else x :: s ++ [p])
      rw [if_pos (by rw [h]; exact .head _)]
      rfl
    · rw [if_neg h, ih]
      show _ :: seenPV (if p ∈ s then s else s ++ [p]) = seenPV (if p ∈ x :: s then x :: s else x :: s ++ [p])
      by_cases hp : p ∈ s
      · rw [if_pos hp, if_pos (.tail _ hp)]; rfl
      · rw [if_neg hp, if_neg (by
          intro z
          rcases List.mem_cons.mp z with z | z
          · exact h z.symm
          · exact hp z)]
        rfl
theorem seenPV_lookup (p : Str) : ∀ s : List Str, ((seenPV s).lookup p).isSome = s.contains p
  | [] => rfl
  | x :: s => by
    show (List.lookup p ((x, PV.bool true) :: seenPV s)).isSome = _
    rw [lookup_put, List.contains_cons]
    by_cases h : p = x
    · rw [if_pos h, beq_iff_eq.mpr h]; rfl
    · rw [if_neg h, seenPV_lookup p s]
      cases hb : (p == x) with
      | true => exact absurd (beq_iff_eq.mp hb) h
      | false => rfl
theorem seenPV_keys (s : List Str) : (seenPV s).map (·.1) = s := by simp [seenPV, Function.comp_def]
theorem addSeen_nodup {s : List Str} (h : s.Nodup) (t : Told) : (addSeen s t).Nodup := by
  cases t with
  | name p =>
    show (if p ∈ s then s else s ++ [p]).Nodup
    by_cases hp : p ∈ s
    · rw [if_pos hp]; exact h
    · rw [if_neg hp, List.nodup_append]
      exact ⟨h, by simp, fun a ha b hb e => hp (by simp at hb; rw [← hb, ← e]; exact ha)⟩
  | rows r => exact h
theorem addSeen_len (s : List Str) (t : Told) : (addSeen s t).length ≤ s.length + 1 := by
  cases t with
  | name p => show (if p ∈ s then s else s ++ [p]).length ≤ _; split <;> simp
  | rows r => exact Nat.le_succ _
local macro_rules | `(tactic| walk_at "mine") => `(tactic| repeat (first
  | with_reducible refine es_nil ?_
  | (with_reducible refine es_cons ?_ ?he; (case he => with_unfolding_all rfl))
  | with_reducible refine e_str ?_
  | with_reducible refine e_int ?_
  | with_reducible refine e_bool ?_
  | with_reducible refine e_none ?_
  | with_reducible refine e_tup ?_
  | with_reducible refine e_sub ?_
  | (with_reducible refine s_tup0 ?_ ?hl ?hs; (case hl => first | (simp; done) | (simp; omega) | omega); (case hs => (intro _ _; with_unfolding_all rfl)))
  | (with_reducible refine s_tup1 ?_ ?hl ?hs; (case hl => first | (simp; done) | (simp; omega) | omega); (case hs => (intro _ _; with_unfolding_all rfl)))
  | (with_reducible refine s_tup2 ?_ ?hl ?hs; (case hl => first | (simp; done) | (simp; omega) | omega); (case hs => (intro _ _; with_unfolding_all rfl)))
  | (with_reducible refine And.intro (show List.length _ ≤ sizeLine from ?hz) ?_; (case hz => simp [sizeLine_eq]))
  | refine e_loc (by assumption) rfl ?_))
set_option maxHeartbeats 1000000
section
variable {prog : Program} {w : World} {b₀ : Heap} {K : Frag} {n : Nat}
theorem fn_levels_init (k : KOk K) (tp : Tp b₀ K) {lx dx : Addr} {t : Told} :
    FnT prog w b₀ (n + 3) (.ref 127) [.inst 137 lx, .inst 218 dx, t.pv] [(lx, .dict [])] fun r st' => r = .none ∧ ∃ sn, st' = [(sn, .dict []), (lx, .dict (lvD dx [(t, [])] sn))] := by
  refine k.f127.mk tp ["self", "world", "told"] rfl (fun doc pm an cdv ct vs hv => ?_) (by decide) (fun m x hx => ?_) (fun m => List.nodup_nil) (fun A outer L cdv E O => ?_) rfl rfl rfl
  · obtain ⟨a, b, c, rfl⟩ := len3 hv
    rfl
  · simp at hx; rcases hx with rfl | rfl | rfl <;> exact .inl rfl
  · refine xs_cons (x_setattr tp ?_)
    walk_at "mine"
    refine ⟨137, lx, [], rfl, getM1, k.cls 137 (by decide), (k.attr (137, "world") (by decide)).2, by simp, ?_⟩
    refine xs_cons (x_setattr tp (e_list (es_cons (e_frz (e_call tp (k.callee O tp "Reached" 83 (by decide) rfl) ?_)))))
    walk_at "mine"
    refine k_reached k O tp fun ox => ?_
    refine ⟨ox, _, reachedPV t [], getM1, .inst rfl, ?_⟩
    walk_at "mine"
    refine ⟨137, lx, [("world", .inst 218 dx)], rfl, by simp [delM, setM, setK, getM], k.cls 137 (by decide), (k.attr (137, "here") (by decide)).2, by simp, ?_⟩
    refine xs_cons (x_setattr tp (e_dictM fun sn => ?_))
    refine T.nd fun hnd => ?_
    simp [delM, setM] at hnd
    walk_at "mine"
    refine ⟨137, lx, _, rfl, by simp [delM, setM, getM, hnd]; rfl, k.cls 137 (by decide), (k.attr (137, "seen") (by decide)).2, by simp (decide := true) [setK], ?_⟩
    refine xs_nil (.none _ ⟨rfl, sn, rfl⟩ ?_ ?_)
    · simp (decide := true) [delM, setM, setK, hnd, lvD, herePV]
    · simp [hnd]
/-- the store of a search -/
noncomputable abbrev lst (lx sn dx nd : Addr) (h : Here) (seen : List Str) (wd nm : List (Str × PV)) : List (Addr × MO) := (lx, .dict (lvD dx h sn)) :: (sn, .dict (seenPV seen)) :: wst dx nd wd nm
structure Apart (lx sn dx nd : Addr) : Prop where
  a : lx ≠ sn
  b : lx ≠ dx
  c : lx ≠ nd
  d : sn ≠ dx
  e : sn ≠ nd
  f : dx ≠ nd
theorem Apart.of {lx sn dx nd : Addr} {x y z u : MO} (h : (([(lx, x), (sn, y), (dx, z), (nd, u)] : List (Addr × MO)).map (·.1)).Nodup) : Apart lx sn dx nd := by
  simp at h
  obtain ⟨⟨h1, h2, h3⟩, ⟨h4, h5⟩, h6⟩ := h
  exact ⟨h1, h2, h3, h4, h5, h6⟩
theorem Apart.nd {lx sn dx nd : Addr} (p : Apart lx sn dx nd) {x y z u : MO} : (([(lx, x), (sn, y), (dx, z), (nd, u)] : List (Addr × MO)).map (·.1)).Nodup := by
  simp [p.a, p.b, p.c, p.d, p.e, p.f]
noncomputable def seenAfter (seen : List Str) (h : Here) : List Str := h.foldl (fun s r => addSeen s r.1) seen
theorem seenAfter_take {h : Here} {seen : List Str} {i : Nat} {r : Told × List PV} (e : h[i]? = some r) : seenAfter seen (h.take (i + 1)) = addSeen (seenAfter seen (h.take i)) r.1 := by
  unfold seenAfter
  rw [List.take_add_one, e, List.foldl_append]; rfl
theorem seenAfter_nodup {h : Here} : ∀ {seen : List Str}, seen.Nodup → (seenAfter seen h).Nodup := by
  induction h with
  | nil => intro s hs; exact hs
  | cons r h ih => intro s hs; exact ih (addSeen_nodup hs r.1)
theorem seenAfter_len {h : Here} : ∀ {seen : List Str}, (seenAfter seen h).length ≤ seen.length + h.length := by
  induction h with
  | nil => intro s; exact Nat.le_refl _
  | cons r h ih =>
    intro s
    have h1 := ih (seen := addSeen s r.1)
    have h2 := addSeen_len s r.1
    show (seenAfter (addSeen s r.1) h).length ≤ _
    rw [List.length_cons]
    omega
theorem told_pv (t : Told) : ∃ kd q, t.pv = .tup [.str kd, q] ∧ (kd == ("named" : Str)) = (match t with | .name _ => true | .rows _ => false) ∧ (∀ p, t = .name p → q = .str p) := by
  cases t with
  | name p => exact ⟨"named", .str p, rfl, rfl, fun _ e => by cases e; rfl⟩
  | rows r => exact ⟨"struct", _, rfl, rfl, fun _ e => by cases e⟩
theorem fn_go_on (k : KOk K) (tp : Tp b₀ K) {W : Str → Option Def} {lx sn dx nd : Addr} {wd nm : List (Str × PV)} (s : WS W dx nd wd nm) {h : Here} {seen : List Str} (ap : Apart lx sn dx nd) (hok : ∀ r ∈ h, r.1.ok W ∧ r.2.length < 1000) (hrows : ∀ r ∈ h, ∀ rows ms, r.1.toDef W = .struct rows ms → rows.length < 1000)
    (hseen : seen.Nodup) (hlen : seen.length + h.length ≤ 1000000) (hbig : ∀ s' h', (h'.length ≤ h.length) → (∀ r ∈ h', r ∈ h) → (hereNext W s' h').length ≤ 1000000) :
    FnT prog w b₀ (n + 4) (.ref 134) [.inst 137 lx] (lst lx sn dx nd h seen wd nm) fun r st' => r = .none ∧ st' = lst lx sn dx nd (hereNext W (seenAfter seen h) h) (seenAfter seen h) wd nm := by
  refine k.f134.mk tp ["self"] rfl (fun doc pm an cdv ct vs hv => ?_) (by decide) (fun m x hx => ?_) (fun m => List.nodup_nil) (fun A outer L cdv E O => ?_) rfl rfl rfl
  · obtain ⟨a, rfl⟩ := len1 hv
    rfl
  · simp at hx; subst hx; exact .inl rfl
  · have c137 := k.cls 137 (by decide)
    have c83 := k.cls 83 (by decide)
    have tgt : ∀ {x : Str} {pos : Pos}, TgtOk (.Name x pos) (herePV h) := .inl ⟨_, _, rfl⟩
    refine xs_cons (x_for (it_list O (e_attr tp ?_)))
    walk_at "mine"
    refine ⟨137, _, .list (herePV h), .var getM1, c137, (k.attr (137, "here") (by decide)).1, rfl, rfl, _, rfl, .inl ⟨_, _, rfl⟩, ?_⟩
    refine ⟨fun i σ => σ.st = lst lx sn dx nd h (seenAfter seen (h.take i)) wd nm ∧ σ.env.lookup ("self" : Str) = some (.inst 137 lx), ⟨rfl, rfl⟩, fun E' i p σ' hp hI => ?_, fun σ' hI => ?_⟩
    · obtain ⟨env, st⟩ := σ'
      obtain ⟨h1, h2⟩ := hI
      dsimp only at h1 h2
      subst h1
      unfold herePV at hp
      rw [List.getElem?_map] at hp
      obtain ⟨⟨t, steps⟩, hr, rfl⟩ := Option.map_eq_some_iff.mp hp
      have hlt : i < h.length := by
        rcases Nat.lt_or_ge i h.length with h | h
        · exact h
        · rw [List.getElem?_eq_none h] at hr; cases hr
      have hsa := seenAfter_take (seen := seen) hr
      have hnd := seenAfter_nodup (h := h.take i) hseen
      have hln := seenAfter_len (h := h.take i) (seen := seen)
      have hlt2 : (h.take i).length ≤ h.length := by simp; omega
      have hknown : t.pv.known = true := by cases t <;> rfl
      obtain ⟨kd, q, e1, e2, e3⟩ := told_pv t
      refine a_name O (.inl rfl) ?_
      unfold reachedPV
      refine xs_cons (x_if (t_cmp (e_sub (e_attr tp ?_))))
      walk_at "mine"
      refine ⟨83, _, t.pv, .fix, c83, (k.attr (83, "told") (by decide)).1, rfl, hknown, ?_⟩
      rw [e1]
      walk_at "mine"
      refine ⟨_, c_eq_str, ⟨fun hk => ?_, fun hk => ?_⟩⟩
      · rw [hk] at e2
        cases t with
        | rows r => cases e2
        | name p =>
          obtain rfl := e3 p rfl
          refine xs_cons (x_setdict ?_)
          walk_at "mine"
          refine e_attr tp (e_loc O h2 ⟨137, _, .ref sn, .var getM1, c137, (k.attr (137, "seen") (by decide)).1, rfl, rfl, ?_⟩)
          refine e_sub (e_attr tp ?_)
          walk_at "mine"
          refine ⟨83, _, _, .fix, c83, (k.attr (83, "told") (by decide)).1, rfl, rfl, ?_⟩
          walk_at "mine"
          refine ⟨sn, p, seenPV (seenAfter seen (h.take i)), rfl, rfl, by rw [getM2 ap.a]; exact getM1, by rw [seenPV_keys]; exact hnd, by simp [seenPV, sizeLine_eq]; omega, ?_⟩
          refine xs_nil (xs_nil ⟨?_, h2⟩)
          rw [hsa, setK_seen]
          simp [setM, ap.a]
      · rw [hk] at e2
        cases t with
        | name p => cases e2
        | rows r =>
          refine xs_nil (xs_nil ⟨?_, h2⟩)
          rw [hsa]; rfl
    · obtain ⟨env, st⟩ := σ'
      obtain ⟨h1, h2⟩ := hI
      dsimp only at h1 h2
      have hall : h.take (herePV h).length = h := by simp [herePV]
      rw [hall] at h1
      subst h1
      generalize hS : seenAfter seen h = S
      refine xs_cons (x_assign O (.inl rfl) (e_listM ?_))
      walk_at "mine"
      intro lt
      refine T.nd fun hnd => ?_
      have hl : lt ≠ lx ∧ lt ≠ sn ∧ lt ≠ dx ∧ lt ≠ nd := by
        simp at hnd; exact hnd.1
      refine xs_cons (x_for (it_list O (e_attr tp ?_)))
      refine e_loc O h2 ⟨137, _, .list (herePV h), .var (by rw [getM2 hl.1]; exact getM1), c137, (k.attr (137, "here") (by decide)).1, rfl, rfl, _, rfl, .inl ⟨_, _, rfl⟩, ?_⟩
      refine ⟨fun i σ => σ.st = (lt, .list (herePV (hereNext W S (h.take i)))) :: lst lx sn dx nd h S wd nm ∧ σ.env.lookup ("self" : Str) = some (.inst 137 lx) ∧ σ.env.lookup ("later" : Str) = some (.ref lt), ⟨rfl, h2, rfl⟩, fun E' i p σ' hp hI => ?_, fun σ' hI => ?_⟩
      · obtain ⟨env', st⟩ := σ'
        obtain ⟨g1, g2, g3⟩ := hI
        dsimp only at g1 g2 g3
        subst g1
        unfold herePV at hp
        rw [List.getElem?_map] at hp
        obtain ⟨⟨t, steps⟩, hr, rfl⟩ := Option.map_eq_some_iff.mp hp
        have hmem : (t, steps) ∈ h := List.mem_of_getElem? hr
        have hlt : i < h.length := by
          rcases Nat.lt_or_ge i h.length with h | h
          · exact h
          · rw [List.getElem?_eq_none h] at hr; cases hr
        refine a_name O (.inl rfl) ?_
        refine xs_cons (x_for (it_list O (e_call tp (k.callee O tp "embedded_in" 113 (by decide) rfl) ?_)))
        refine es_cons (e_attr tp (e_loc O g2 ⟨137, _, .inst 218 dx, .var (by rw [getM2 hl.1]; exact getM1), c137, (k.attr (137, "world") (by decide)).1, rfl, rfl, ?_⟩))
        walk_at "mine"
        refine callT_ro O (fn_embedded_in k tp s (hok _ hmem).1 (hok _ hmem).2 (hrows _ hmem)) (fun q hq => .tail _ (.tail _ (.tail _ hq))) (nodup2 s.ne) fun r hr' => ?_
        subst hr'
        refine ⟨_, rfl, .inl ⟨_, _, rfl⟩, ?_⟩
        generalize hD : t.toDef W = D
        refine ⟨fun j σ => σ.st = (lt, .list (herePV (hereNext W S (h.take i) ++ ((D.embs.take j).filter fun q => !(S.contains q.1)).map fun q => (Told.name q.1, steps ++ [q.2])))) :: lst lx sn dx nd h S wd nm ∧ σ.env.lookup ("self" : Str) = some (.inst 137 lx) ∧ σ.env.lookup ("later" : Str) = some (.ref lt), ⟨by simp, g2, g3⟩, fun E'' j p σ' hp hI => ?_, fun σ' hI => ?_⟩
        · obtain ⟨env', st⟩ := σ'
          obtain ⟨g1, g2, g3⟩ := hI
          dsimp only at g1 g2 g3
          subst g1
          rw [List.getElem?_map] at hp
          obtain ⟨q, hq, rfl⟩ := Option.map_eq_some_iff.mp hp
          have hjt : D.embs.take (j + 1) = D.embs.take j ++ [q] := by rw [List.take_add_one, hq]; rfl
          have hsz : (hereNext W S (h.take i) ++ ((D.embs.take j).filter fun q => !(S.contains q.1)).map fun q => (Told.name q.1, steps ++ [q.2])).length ≤ 1000000 := by
            refine Nat.le_trans ?_ (hbig S (h.take (i + 1)) (by rw [List.length_take]; exact Nat.min_le_right ..) (fun r hr => List.mem_of_mem_take hr))
            have ht : h.take (i + 1) = h.take i ++ [(t, steps)] := by rw [List.take_add_one, hr]; rfl
            rw [ht]
            show _ ≤ (List.flatMap (nextOf W S) _).length
            rw [List.flatMap_append, List.length_append, List.length_append, List.flatMap_singleton]
            refine Nat.add_le_add (Nat.le_refl _) ?_
            show _ ≤ (List.map _ _).length
            rw [List.length_map, List.length_map]
            refine List.Sublist.length_le (List.Sublist.filter _ ?_)
            rw [hD]
            exact List.take_sublist ..
          refine a_name O (.inl rfl) ?_
          unfold embPV reachedPV
          refine xs_cons (x_if (t_boolop (ta_or (t_cmp (e_sub (e_attr tp ?_))))))
          walk_at "mine"
          refine ⟨83, _, _, .fix, c83, (k.attr (83, "told") (by decide)).1, rfl, rfl, ?_⟩
          show Ev _ _ _ _ _
          unfold Told.pv Mine.named
          walk_at "mine"
          refine ⟨false, c_ne_str, ⟨fun z => (nomatch z), fun _ => ?_⟩⟩
          refine ta_or (t_cmp (e_sub (e_attr tp ?_)))
          walk_at "mine"
          refine ⟨83, _, _, .fix, c83, (k.attr (83, "told") (by decide)).1, rfl, rfl, ?_⟩
          walk_at "mine"
          refine e_attr tp (e_loc O g2 ⟨137, _, .ref sn, .var (by rw [getM2 hl.1]; exact getM1), c137, (k.attr (137, "seen") (by decide)).1, rfl, rfl, ?_⟩)
          refine ⟨_, c_notin (kvs := seenPV S) (.var (by show getM sn (_ :: _ :: _) = _; rw [getM2 hl.2.1, getM2 ap.a]; exact getM1)) rfl, ?_⟩
          rw [seenPV_lookup]
          have fin : ∀ (env' : List (Str × PV)) (X : List (Addr × MO)), X = (lt, MO.list (herePV (hereNext W S (h.take i) ++ ((D.embs.take (j + 1)).filter fun q => !(S.contains q.1)).map fun q => (Told.name q.1, steps ++ [q.2])))) :: lst lx sn dx nd h S wd nm → True := fun _ _ _ => trivial
          refine ⟨fun hc => ?_, fun hc => ta_or_nil ?_⟩
          · refine ⟨fun _ => ?_, fun z => (nomatch z)⟩
            refine xs_cons (x_expr (e_meth tp (e_loc O g3 ⟨.builtin "list.append", .builtin, m_list (.var getM1) PySem.F.slot_list_append PySem.F.type_list_append, ?_⟩)))
            walk_at "mine"
            refine k_append (a := lt) getM1 (by simp [herePV, sizeLine_eq] at hsz ⊢; omega) ⟨rfl, ?_⟩
            refine xs_nil (xs_nil ⟨?_, g2, g3⟩)
            rw [hjt, List.filter_append, List.filter_cons, if_pos hc]
            simp [setM, herePV, reachedPV, Told.pv, Mine.named]
          · refine ⟨fun z => (nomatch z), fun _ => ?_⟩
            refine xs_nil (xs_nil ⟨?_, g2, g3⟩)
            rw [hjt, List.filter_append, List.filter_cons, if_neg (by rw [hc]; decide)]
            simp
        · obtain ⟨env', st⟩ := σ'
          obtain ⟨g1, g2, g3⟩ := hI
          dsimp only at g1 g2 g3
          refine xs_nil ⟨?_, g2, g3⟩
          rw [g1]
          have ht : h.take (i + 1) = h.take i ++ [(t, steps)] := by rw [List.take_add_one, hr]; rfl
          have hz : D.embs.take (List.map (embPV (t, steps).2) D.embs).length = D.embs := by simp
          rw [hz, ht]
          show _ = (lt, MO.list (herePV (List.flatMap (nextOf W S) _))) :: _
          rw [List.flatMap_append, List.flatMap_singleton]
          show _ = (lt, MO.list (herePV (_ ++ nextOf W S (t, steps)))) :: _
          unfold nextOf
          rw [hD]
          rfl
      · obtain ⟨env', st⟩ := σ'
        obtain ⟨g1, g2, g3⟩ := hI
        dsimp only at g1 g2 g3
        have hall : h.take (herePV h).length = h := by simp [herePV]
        rw [hall] at g1
        subst g1
        refine xs_cons (x_setattr tp (e_frz (e_loc O g3 ⟨lt, _, .list (herePV (hereNext W S h)), getM1, .ref, ?_⟩)))
        refine e_loc O g2 ⟨137, lx, lvD dx h sn, rfl, by simp [delM]; exact getM1, c137, (k.attr (137, "here") (by decide)).2, by simp [lvD], ?_⟩
        refine xs_nil (.none _ ⟨rfl, rfl⟩ ?_ ap.nd)
        simp (decide := true) [delM, setM, setK, lvD]
end
end Mine
end
section
open PySem PySem.W PySem.Spec PySem.Calls PyProof.Rows
namespace Mine
/-! start_type -/
inductive Look where
  | at (t : Told)
  | ptr (p : Str)
noncomputable def Look.pv : Look → PV
  | .at t => t.pv
  | .ptr p => ptrTo (named p)
noncomputable def startOf (W : Str → Option Def) : Look → Option (Told × Bool)
  | .ptr p => match W p with
    | some (.struct _ _) => some (.name p, false)
    | _ => none
  | .at (.name p) => match W p with
    | some (.ptr q) => some (.name q, true)
    | _ => some (.name p, false)
  | .at (.rows r) => some (.rows r, false)
noncomputable def startPV : Option (Told × Bool) → PV
  | none => .none
  | some (t, b) => .tup [t.pv, .bool b]
noncomputable def Look.ok (W : Str → Option Def) : Look → Prop
  | .at t => t.ok W
  | .ptr p => (W p).isSome
local macro_rules | `(tactic| walk_at "mine") => `(tactic| repeat (first
  | with_reducible refine es_nil ?_
  | (with_reducible refine es_cons ?_ ?he; (case he => with_unfolding_all rfl))
  | with_reducible refine e_str ?_
  | with_reducible refine e_int ?_
  | with_reducible refine e_bool ?_
  | with_reducible refine e_none ?_
  | with_reducible refine e_tup ?_
  | with_reducible refine e_sub ?_
  | (with_reducible refine s_tup0 ?_ ?hl ?hs; (case hl => first | (simp; done) | (simp; omega) | omega); (case hs => (intro _ _; with_unfolding_all rfl)))
  | (with_reducible refine s_tup1 ?_ ?hl ?hs; (case hl => first | (simp; done) | (simp; omega) | omega); (case hs => (intro _ _; with_unfolding_all rfl)))
  | (with_reducible refine s_tup2 ?_ ?hl ?hs; (case hl => first | (simp; done) | (simp; omega) | omega); (case hs => (intro _ _; with_unfolding_all rfl)))
  | (with_reducible refine And.intro (show List.length _ ≤ sizeLine from ?hz) ?_; (case hz => simp [sizeLine_eq]))
  | refine e_loc (by assumption) rfl ?_))
set_option maxHeartbeats 1000000
section
variable {prog : Program} {w : World} {b₀ : Heap} {K : Frag} {n : Nat}
theorem fn_start_type (k : KOk K) (tp : Tp b₀ K) {W : Str → Option Def} {dx nd : Addr} {wd nm : List (Str × PV)} (s : WS W dx nd wd nm) {l : Look} (hl : l.ok W) :
    FnT prog w b₀ (n + 2) (.ref 148) [.inst 218 dx, l.pv] (wst dx nd wd nm) fun r st' => st' = wst dx nd wd nm ∧ r = startPV (startOf W l) := by
  refine k.f148.mk tp ["world", "told"] rfl (fun doc pm an cdv ct vs hv => ?_) (by decide) (fun m x hx => ?_) (fun m => List.nodup_nil) (fun A outer L cdv E O => ?_) rfl rfl rfl
  · obtain ⟨a, b, rfl⟩ := len2 hv
    rfl
  · simp at hx; rcases hx with rfl | rfl <;> exact .inl rfl
  · have cb := k.cls 218 (by decide)
    have m1 := k.meth (218, "base_of", 208) (by decide)
    cases l with
    | ptr p =>
      obtain ⟨d, hd⟩ := Option.isSome_iff_exists.mp hl
      show Exs _ _ _ ⟨[("world", .inst 218 dx), ("told", .tup [.str "ptr", named p])], _⟩ _
      refine xs_cons (x_if (t_cmp ?_))
      walk_at "mine"
      refine ⟨true, c_eq_str, ⟨fun _ => ?_, fun z => (nomatch z)⟩⟩
      refine xs_cons (x_assign O (.inl rfl) ?_)
      walk_at "mine"
      refine xs_cons (x_ret (e_ifexp (t_cmp (e_sub (e_meth tp ?_)))))
      walk_at "mine"
      refine ⟨.ref 208, .of m1.2.2, m_own tp (.var getM1) cb m1.1 m1.2.1 s.base, ?_⟩
      walk_at "mine"
      refine callT_ro O (fn_base_of k tp s (t := .name p) hl) (fun _ h => h) (nodup2 s.ne) fun r hr => ?_
      have hb : Told.base W (.name p) = d.under := by simp [Told.base, hd]
      rw [hb] at hr
      obtain ⟨u, hu⟩ := d.under_eq
      rw [hu] at hr
      subst hr
      walk_at "mine"
      refine ⟨_, c_in_tup (ks := ["ptr", "interface"]) rfl, ⟨fun hc => ?_, fun hc => ?_⟩⟩
      · walk_at "mine"
        refine done_ro ?_ s.ne
        cases d with
        | struct rows ms => exact absurd hc (show ¬ ((["ptr", "interface"] : List Str).any fun (x : Str) => x == ("struct" : Str)) = true by decide)
        | iface fs => simp [startOf, hd, startPV]
        | ptr q => simp [startOf, hd, startPV]
      · walk_at "mine"
        refine done_ro ?_ s.ne
        cases d with
        | struct rows ms => simp [startOf, hd, startPV, Told.pv]
        | iface fs => exact absurd hc (show ¬ ((["ptr", "interface"] : List Str).any fun (x : Str) => x == ("interface" : Str)) = false by decide)
        | ptr q => exact absurd hc (show ¬ ((["ptr", "interface"] : List Str).any fun (x : Str) => x == ("ptr" : Str)) = false by decide)
    | «at» t =>
      cases t with
      | rows r =>
        show Exs _ _ _ ⟨[("world", .inst 218 dx), ("told", .tup [.str "struct", .tup (r.map rowPV)])], _⟩ _
        refine xs_cons (x_if (t_cmp ?_))
        walk_at "mine"
        refine ⟨false, c_eq_str, ⟨fun z => (nomatch z), fun _ => ?_⟩⟩
        refine xs_nil (xs_cons (x_assign O (.inl rfl) (e_ifexp (t_cmp ?_))))
        walk_at "mine"
        refine ⟨false, c_eq_str, ⟨fun z => (nomatch z), fun _ => ?_⟩⟩
        walk_at "mine"
        refine xs_cons (x_if (t_boolop (ta_and (t_cmp ?_))))
        walk_at "mine"
        refine ⟨false, c_eq_str, ⟨fun z => (nomatch z), fun _ => ⟨fun z => (nomatch z), fun _ => ?_⟩⟩⟩
        refine xs_nil (xs_cons (x_ret ?_))
        walk_at "mine"
        exact done_ro rfl s.ne
      | name p =>
        obtain ⟨d, hd⟩ := Option.isSome_iff_exists.mp hl
        show Exs _ _ _ ⟨[("world", .inst 218 dx), ("told", .tup [.str "named", .str p])], _⟩ _
        refine xs_cons (x_if (t_cmp ?_))
        walk_at "mine"
        refine ⟨false, c_eq_str, ⟨fun z => (nomatch z), fun _ => ?_⟩⟩
        refine xs_nil (xs_cons (x_assign O (.inl rfl) (e_ifexp (t_cmp ?_))))
        walk_at "mine"
        refine ⟨true, c_eq_str, ⟨fun _ => ?_, fun z => (nomatch z)⟩⟩
        refine e_meth tp ?_
        walk_at "mine"
        refine ⟨.ref 208, .of m1.2.2, m_own tp (.var getM1) cb m1.1 m1.2.1 s.base, ?_⟩
        walk_at "mine"
        refine callT_ro O (fn_base_of k tp s (t := .name p) hl) (fun _ h => h) (nodup2 s.ne) fun r hr => ?_
        have hb : Told.base W (.name p) = d.under := by simp [Told.base, hd]
        rw [hb] at hr
        obtain ⟨u, hu⟩ := d.under_eq
        have hr' := hr
        rw [hu] at hr
        subst hr
        refine xs_cons (x_if (t_boolop (ta_and (t_cmp ?_))))
        walk_at "mine"
        refine ⟨true, c_eq_str, ⟨fun _ => ?_, fun z => (nomatch z)⟩⟩
        refine ta_and (t_cmp ?_)
        walk_at "mine"
        refine ⟨_, c_eq_str, ⟨fun hc => ta_and_nil ?_, fun hc => ?_⟩⟩
        · cases d with
          | struct rows ms => exact absurd hc (show ¬ (("struct" : Str) == ("ptr" : Str)) = true by decide)
          | iface fs => exact absurd hc (show ¬ (("interface" : Str) == ("ptr" : Str)) = true by decide)
          | ptr q =>
            cases hu
            refine ⟨fun _ => ?_, fun z => (nomatch z)⟩
            refine xs_cons (x_ret ?_)
            walk_at "mine"
            refine done_ro ?_ s.ne
            simp [startOf, hd, startPV, Told.pv]
        · refine ⟨fun z => (nomatch z), fun _ => ?_⟩
          refine xs_nil (xs_cons (x_ret ?_))
          walk_at "mine"
          refine done_ro ?_ s.ne
          cases d with
          | struct rows ms => simp [startOf, hd, startPV, Told.pv, named]
          | iface fs => simp [startOf, hd, startPV, Told.pv, named]
          | ptr q => exact absurd hc (show ¬ (("ptr" : Str) == ("ptr" : Str)) = false by decide)
end
end Mine
end
section
open PySem PySem.W PySem.Spec PySem.Calls PyProof.Rows
namespace Mine
/-! NamedRow, known_rows, World -/
local macro_rules | `(tactic| walk_at "mine") => `(tactic| repeat (first
  | with_reducible refine es_nil ?_
  | (with_reducible refine es_cons ?_ ?he; (case he => with_unfolding_all rfl))
  | with_reducible refine e_str ?_
  | with_reducible refine e_int ?_
  | with_reducible refine e_bool ?_
  | with_reducible refine e_none ?_
  | with_reducible refine e_tup ?_
  | with_reducible refine e_sub ?_
  | (with_reducible refine s_tup0 ?_ ?hl ?hs; (case hl => first | (simp; done) | (simp; omega) | omega); (case hs => (intro _ _; with_unfolding_all rfl)))
  | (with_reducible refine s_tup1 ?_ ?hl ?hs; (case hl => first | (simp; done) | (simp; omega) | omega); (case hs => (intro _ _; with_unfolding_all rfl)))
  | (with_reducible refine s_tup2 ?_ ?hl ?hs; (case hl => first | (simp; done) | (simp; omega) | omega); (case hs => (intro _ _; with_unfolding_all rfl)))
  | (with_reducible refine And.intro (show List.length _ ≤ sizeLine from ?hz) ?_; (case hz => simp [sizeLine_eq]))
  | refine e_loc (by assumption) rfl ?_))
set_option maxHeartbeats 1000000
section
variable {prog : Program} {w : World} {b₀ : Heap} {K : Frag} {n : Nat}
theorem fn_row_init (k : KOk K) (tp : Tp b₀ K) {dx : Addr} {p q u m : PV} :
    FnT prog w b₀ (n + 1) (.ref 172) [.inst 175 dx, p, q, u, m] [(dx, .dict [])] fun r st' => r = .none ∧ st' = [(dx, .dict [("path", p), ("package", q), ("underlying", u), ("methods", m)])] := by
  refine k.f172.mk tp ["self", "path", "package", "underlying", "methods"] rfl (fun doc pm an cdv ct vs hv => ?_) (by decide) (fun m x hx => ?_) (fun m => List.nodup_nil) (fun A outer L cdv E O => ?_) rfl rfl rfl
  · obtain ⟨a, b, c, d, e, rfl⟩ := len5 hv
    rfl
  · simp at hx; rcases hx with rfl | rfl | rfl | rfl | rfl <;> exact .inl rfl
  · have c := k.cls 175 (by decide)
    refine xs_cons (x_setattr tp ?_)
    walk_at "mine"
    refine ⟨175, dx, [], rfl, getM1, c, (k.attr (175, "path") (by decide)).2, by simp, ?_⟩
    refine xs_cons (x_setattr tp ?_)
    walk_at "mine"
    refine ⟨175, dx, [("path", p)], rfl, by simp [setM, setK, getM], c, (k.attr (175, "package") (by decide)).2, by simp, ?_⟩
    refine xs_cons (x_setattr tp ?_)
    walk_at "mine"
    refine ⟨175, dx, [("path", p), ("package", q)], rfl, by simp (decide := true) [setM, setK, getM], c, (k.attr (175, "underlying") (by decide)).2, by simp, ?_⟩
    refine xs_cons (x_setattr tp ?_)
    walk_at "mine"
    refine ⟨175, dx, [("path", p), ("package", q), ("underlying", u)], rfl, by simp (decide := true) [setM, setK, getM], c, (k.attr (175, "methods") (by decide)).2, by simp, ?_⟩
    refine xs_nil (.none _ ⟨rfl, rfl⟩ ?_ ?_)
    · simp (decide := true) [setM, setK]
    · simp
end
section
variable {Φ : Fx} {E : Value → Shared → Prop} {σ : Sy} {n : Nat} {K : Frag}
theorem xs_st {rest : List Stmt} {Post : PF → Sy → Prop} (st : List (Addr × MO)) (h : σ.st = st) (q : Exs Φ E rest ⟨σ.env, st⟩ Post) : Thn Φ E rest Post .next σ := by
  subst h; exact q
theorem k_row (k : KOk K) (O : Φ.Ok (n + 2)) (tp : Tp Φ.b₀ K) {p q u m : PV} {Post : PV → Sy → Prop} (h : ∀ dx, Post (.inst 175 dx) ⟨σ.env, (dx, .dict [("path", p), ("package", q), ("underlying", u), ("methods", m)]) :: σ.st⟩) : CallT Φ E (.ref 175) [p, q, u, m] σ Post :=
  k_make (Mid := fun dx st' => st' = [(dx, .dict [("path", p), ("package", q), ("underlying", u), ("methods", m)])]) (st := []) (rest := σ.st) O tp (k.cls 175 (by decide)).mki (k.meth (175, "__init__", 172) (by decide)).1 (beq_iff_eq.mp (k.meth (175, "__init__", 172) (by decide)).2.1) (.refl _)
    (fun dx => fn_row_init k tp) fun dx st' e => by subst e; exact h dx
end
noncomputable def rows0 : List (Str × PV) := [("error", .any), ("runtime.Error", .any), ("sync.Mutex", .any), ("sync.WaitGroup", .any)]
section
variable {prog : Program} {w : World} {b₀ : Heap} {K : Frag} {n : Nat}
theorem fn_known_rows (k : KOk K) (tp : Tp b₀ K) :
    FnT prog w b₀ (n + 3) (.ref 186) [] [] fun r st' => ∃ nd, r = .ref nd ∧ st' = [(nd, .dict rows0)] := by
  refine k.f186.mk tp [] rfl (fun doc pm an cdv ct vs hv => ?_) (by decide) (fun m x hx => ?_) (fun m => List.nodup_nil) (fun A outer L cdv E O => ?_) rfl rfl rfl
  · obtain rfl := List.length_eq_zero_iff.mp hv
    rfl
  · simp at hx
  · refine xs_cons (x_assign O (.inl rfl) ?_)
    walk_at "mine"
    refine xs_cons (x_assign O (.inl rfl) ?_)
    walk_at "mine"
    refine xs_cons (x_assign O (.inl rfl) ?_)
    walk_at "mine"
    refine xs_cons (x_assign O (.inl rfl) (e_any (e_drop (e_dict1 fun D => p_cons ?_))))
    walk_at "mine"
    refine ⟨_, rfl, ?_⟩
    walk_at "mine"
    refine p_nil ?_
    refine ⟨getM1, by simp, D, ?_⟩
    refine xs_cons (x_assign O (.inl rfl) (e_any (e_drop (e_dict2 fun D => p_cons ?_))))
    walk_at "mine"
    refine ⟨_, rfl, e_tup (es_cons (e_bool (es_cons (e_glob O tp k.plain rfl ?_))))⟩
    walk_at "mine"
    refine p_cons ?_
    walk_at "mine"
    refine ⟨_, rfl, e_tup (es_cons (e_bool (es_cons (e_glob O tp k.plain rfl ?_))))⟩
    walk_at "mine"
    refine p_nil ?_
    refine ⟨by simp [delM, setM]; exact getM1, by decide, D, ?_⟩
    refine xs_cons (x_assign O (.inl rfl) (e_any (e_drop (e_dict3 fun D => p_cons ?_))))
    walk_at "mine"
    refine ⟨_, rfl, ?_⟩
    walk_at "mine"
    refine p_cons ?_
    walk_at "mine"
    refine ⟨_, rfl, e_tup (es_cons (e_bool (es_cons (e_glob O tp k.plain rfl ?_))))⟩
    walk_at "mine"
    refine p_cons ?_
    walk_at "mine"
    refine ⟨_, rfl, e_tup (es_cons (e_bool (es_cons (e_glob O tp k.plain rfl ?_))))⟩
    walk_at "mine"
    refine p_nil ?_
    refine ⟨by simp [delM, setM]; exact getM1, by decide, D, ?_⟩
    have hrow : KeepsOk K (.ref 175) := .of (k.glob ("NamedRow", 175) (by decide)).2
    have crow := k.callee O tp "NamedRow" 175 (by decide) rfl
    refine xs_cons (x_ret (e_dict4 fun D => p_cons ?_))
    walk_at "mine"
    refine ⟨_, rfl, e_any (e_drop (e_call tp crow ?_))⟩
    walk_at "mine"
    refine e_dict0 ?_
    walk_at "mine"
    refine k_row k O tp fun ox => ⟨ox, ?_⟩
    refine p_cons ?_
    walk_at "mine"
    refine ⟨_, rfl, e_any (e_drop (e_call tp crow ?_))⟩
    walk_at "mine"
    refine k_row k O tp fun ox => ⟨ox, ?_⟩
    refine p_cons ?_
    walk_at "mine"
    refine ⟨_, rfl, e_any (e_drop (e_call tp crow ?_))⟩
    walk_at "mine"
    refine k_row k O tp fun ox => ⟨ox, ?_⟩
    refine p_cons ?_
    walk_at "mine"
    refine ⟨_, rfl, e_any (e_drop (e_call tp crow ?_))⟩
    walk_at "mine"
    refine k_row k O tp fun ox => ⟨ox, ?_⟩
    refine p_nil ?_
    refine ⟨by simp [delM, getM], by decide, ?_⟩
    refine Done.ret (Post := fun r st' => ∃ nd, r = .ref nd ∧ st' = [(nd, .dict rows0)]) [(D, .dict rows0)] ⟨D, rfl, rfl⟩ ?_ (by simp)
    simp [delM, setM, rows0]
end
/-- what a new world's dict holds -/
noncomputable def wd0 (nd : Addr) : List (Str × PV) := [("packages", .none), ("named", .ref nd), ("globals", .any), ("consts", .any), ("funcs", .any), ("bodies", .any), ("files", .any), ("scopes", .any), ("order", .any), ("starts", .any), ("settle", .any), ("late_keys", .any), ("is_whole", .any)]
structure KOk2 (K : Frag) : Prop where
  f201 : ∃ oc od doc pm an cdv ct osl, K.lookup 201 = some ⟨oc, od, .func (fnX "__init__" "World.__init__" (stP (clsB 18 0)) (stB (clsB 18 0)) (stS (clsB 18 0)) [] (.ref 194) .none doc pm an cdv ct), osl⟩ ∧ codeIn K cdv "World.__init__" = true
  f194 : ∃ o n, K.lookup 194 = some o ∧ o.data = .seq #[.none] n
section
variable {prog : Program} {w : World} {b₀ : Heap} {K : Frag} {n : Nat}
theorem fn_world_init (k : KOk K) (k2 : KOk2 K) (tp : Tp b₀ K) {dx : Addr} :
    FnT prog w b₀ (n + 4) (.ref 201) [.inst 218 dx] [(dx, .dict [])] fun r st' => r = .none ∧ ∃ nd, st' = [(nd, .dict rows0), (dx, .dict (wd0 nd))] := by
  obtain ⟨oc, od, doc, pm, an, cdv, ct, osl, ho, hc⟩ := k2.f201
  obtain ⟨o, m, ho2, hd2⟩ := k2.f194
  refine FnT.mk (env₀ := [("self", .inst 218 dx), ("packages", .none)]) tp ho hc (fun s b vs X _ _ rs => ?_) (by simp (decide := true)) (fun m x hx => ?_) (fun m => List.nodup_nil) (fun A outer L E O => ?_) rfl rfl rfl
  · obtain ⟨v, vs', rfl, r1, r2⟩ := rs.cons_inv
    obtain rfl := r2.nil_inv
    exact ⟨[("self", v), ("packages", .none)], binds_K X rfl ho2 hd2 rfl rfl, ⟨v, _, rfl, r1, ⟨.none, _, rfl, Rep.mkNone, rfl⟩⟩⟩
  · simp at hx; rcases hx with rfl | rfl <;> exact .inl rfl
  · have c := k.cls 218 (by decide)
    have at_ : ∀ x, ((218 : Addr), x) ∈ attrList → takerIn K 218 x = some none := fun x h => (k.attr (218, x) h).2
    refine xs_cons (x_setattr tp ?_)
    walk_at "mine"
    refine ⟨218, dx, [], rfl, getM1, c, at_ _ (by decide), by simp, ?_⟩
    refine xs_st [(dx, .dict [("packages", .none)])] (by simp [setM, setK]) ?_
    refine xs_cons (x_setattr tp (e_call0 tp (k.callee O tp "known_rows" 186 (by decide) rfl) (callT_of (st := []) (rest := [(dx, .dict [("packages", .none)])]) O (fn_known_rows k tp) (.refl _) fun r st' h => ?_)))
    obtain ⟨nd, rfl, rfl⟩ := h
    refine T.nd fun hnd => ?_
    have hne : nd ≠ dx := by simpa using hnd
    walk_at "mine"
    refine ⟨218, dx, (wd0 nd).take 1, rfl, by rw [show ([(nd, MO.dict rows0)] ++ [(dx, MO.dict [("packages", PV.none)])] : List (Addr × MO)) = (nd, MO.dict rows0) :: [(dx, MO.dict [("packages", PV.none)])] from rfl, getM2 hne]; exact getM1, c, at_ _ (by decide), by simp [wd0], ?_⟩
    refine xs_st [(nd, .dict rows0), (dx, .dict ((wd0 nd).take 2))] (by simp [setM, hne]; rfl) ?_
    refine xs_cons (x_setattr tp (e_any (e_dict0 ?_)))
    walk_at "mine"
    refine ⟨218, dx, (wd0 nd).take 2, rfl, by rw [getM2 hne]; exact getM1, c, at_ _ (by decide), by simp [wd0], ?_⟩
    refine xs_st [(nd, .dict rows0), (dx, .dict ((wd0 nd).take 3))] (by simp [setM, hne]; rfl) ?_
    refine xs_cons (x_setattr tp (e_any (e_dict0 ?_)))
    walk_at "mine"
    refine ⟨218, dx, (wd0 nd).take 3, rfl, by rw [getM2 hne]; exact getM1, c, at_ _ (by decide), by simp [wd0], ?_⟩
    refine xs_st [(nd, .dict rows0), (dx, .dict ((wd0 nd).take 4))] (by simp [setM, hne]; rfl) ?_
    refine xs_cons (x_setattr tp (e_any (e_dict0 ?_)))
    walk_at "mine"
    refine ⟨218, dx, (wd0 nd).take 4, rfl, by rw [getM2 hne]; exact getM1, c, at_ _ (by decide), by simp [wd0], ?_⟩
    refine xs_st [(nd, .dict rows0), (dx, .dict ((wd0 nd).take 5))] (by simp [setM, hne]; rfl) ?_
    refine xs_cons (x_setattr tp (e_any (e_dict0 ?_)))
    walk_at "mine"
    refine ⟨218, dx, (wd0 nd).take 5, rfl, by rw [getM2 hne]; exact getM1, c, at_ _ (by decide), by simp [wd0], ?_⟩
    refine xs_st [(nd, .dict rows0), (dx, .dict ((wd0 nd).take 6))] (by simp [setM, hne]; rfl) ?_
    refine xs_cons (x_setattr tp (e_any (e_dict0 ?_)))
    walk_at "mine"
    refine ⟨218, dx, (wd0 nd).take 6, rfl, by rw [getM2 hne]; exact getM1, c, at_ _ (by decide), by simp [wd0], ?_⟩
    refine xs_st [(nd, .dict rows0), (dx, .dict ((wd0 nd).take 7))] (by simp [setM, hne]; rfl) ?_
    refine xs_cons (x_setattr tp (e_any (e_dict0 ?_)))
    walk_at "mine"
    refine ⟨218, dx, (wd0 nd).take 7, rfl, by rw [getM2 hne]; exact getM1, c, at_ _ (by decide), by simp [wd0], ?_⟩
    refine xs_st [(nd, .dict rows0), (dx, .dict ((wd0 nd).take 8))] (by simp [setM, hne]; rfl) ?_
    refine xs_cons (x_setattr tp (e_any (e_list (es_nil ⟨by simp [sizeLine_eq], ?_⟩))))
    walk_at "mine"
    refine ⟨218, dx, (wd0 nd).take 8, rfl, by rw [getM2 hne]; exact getM1, c, at_ _ (by decide), by simp [wd0], ?_⟩
    refine xs_st [(nd, .dict rows0), (dx, .dict ((wd0 nd).take 9))] (by simp [setM, hne]; rfl) ?_
    refine xs_cons (x_setattr tp (e_any (e_list (es_nil ⟨by simp [sizeLine_eq], ?_⟩))))
    walk_at "mine"
    refine ⟨218, dx, (wd0 nd).take 9, rfl, by rw [getM2 hne]; exact getM1, c, at_ _ (by decide), by simp [wd0], ?_⟩
    refine xs_st [(nd, .dict rows0), (dx, .dict ((wd0 nd).take 10))] (by simp [setM, hne]; rfl) ?_
    refine xs_cons (x_setattr tp (e_any (e_none ?_)))
    walk_at "mine"
    refine ⟨218, dx, (wd0 nd).take 10, rfl, by rw [getM2 hne]; exact getM1, c, at_ _ (by decide), by simp [wd0], ?_⟩
    refine xs_st [(nd, .dict rows0), (dx, .dict ((wd0 nd).take 11))] (by simp [setM, hne]; rfl) ?_
    refine xs_cons (x_setattr tp (e_any (e_list (es_nil ⟨by simp [sizeLine_eq], ?_⟩))))
    walk_at "mine"
    refine ⟨218, dx, (wd0 nd).take 11, rfl, by rw [getM2 hne]; exact getM1, c, at_ _ (by decide), by simp [wd0], ?_⟩
    refine xs_st [(nd, .dict rows0), (dx, .dict ((wd0 nd).take 12))] (by simp [setM, hne]; rfl) ?_
    refine xs_cons (x_setattr tp (e_any (e_bool ?_)))
    walk_at "mine"
    refine ⟨218, dx, (wd0 nd).take 12, rfl, by rw [getM2 hne]; exact getM1, c, at_ _ (by decide), by simp [wd0], ?_⟩
    refine xs_st [(nd, .dict rows0), (dx, .dict ((wd0 nd).take 13))] (by simp [setM, hne]; rfl) ?_
    refine xs_nil (.none _ ⟨rfl, nd, rfl⟩ (fun _ h => h) (by simp [hne]))
end
section
variable {Φ : Fx} {E : Value → Shared → Prop} {σ : Sy} {n : Nat} {K : Frag}
/-- World() -/
theorem k_world (k : KOk K) (k2 : KOk2 K) (O : Φ.Ok (n + 5)) (tp : Tp Φ.b₀ K) {Post : PV → Sy → Prop} (h : ∀ dx nd, Post (.inst 218 dx) ⟨σ.env, (nd, .dict rows0) :: (dx, .dict (wd0 nd)) :: σ.st⟩) : CallT Φ E (.ref 218) [] σ Post :=
  k_make (Mid := fun dx st' => ∃ nd, st' = [(nd, .dict rows0), (dx, .dict (wd0 nd))]) (st := []) (rest := σ.st) O tp (k.cls 218 (by decide)).mki (k.meth (218, "__init__", 201) (by decide)).1 (beq_iff_eq.mp (k.meth (218, "__init__", 201) (by decide)).2.1) (.refl _)
    (fun dx => fn_world_init k k2 tp) fun dx st' e => by obtain ⟨nd, rfl⟩ := e; exact h dx nd
end
end Mine
end
section
open PySem PySem.W PySem.Spec PySem.Calls PyProof.Rows
namespace Mine
/-! the law's draws -/
local macro_rules | `(tactic| walk_at "mine") => `(tactic| repeat (first
  | with_reducible refine es_nil ?_
  | (with_reducible refine es_cons ?_ ?he; (case he => with_unfolding_all rfl))
  | with_reducible refine e_str ?_
  | with_reducible refine e_int ?_
  | with_reducible refine e_bool ?_
  | with_reducible refine e_none ?_
  | with_reducible refine e_tup ?_
  | with_reducible refine e_sub ?_
  | (with_reducible refine s_tup0 ?_ ?hl ?hs; (case hl => first | (simp; done) | (simp; omega) | omega); (case hs => (intro _ _; with_unfolding_all rfl)))
  | (with_reducible refine s_tup1 ?_ ?hl ?hs; (case hl => first | (simp; done) | (simp; omega) | omega); (case hs => (intro _ _; with_unfolding_all rfl)))
  | (with_reducible refine s_tup2 ?_ ?hl ?hs; (case hl => first | (simp; done) | (simp; omega) | omega); (case hs => (intro _ _; with_unfolding_all rfl)))
  | (with_reducible refine And.intro (show List.length _ ≤ sizeLine from ?hz) ?_; (case hz => simp [sizeLine_eq]))
  | with_reducible refine thn_ret ?_
  | refine e_loc (by assumption) rfl ?_))
set_option maxHeartbeats 1000000
noncomputable def srcPV (a c : Nat) : MO := .list [.int a, .int c]
section
variable {prog : Program} {w : World} {b₀ : Heap} {K : Frag} {n : Nat}
theorem fn_take (k : KOk K) (tp : Tp b₀ K) {sr : Addr} {a c top : Nat} (ht : 0 < top) (ht2 : top < 1000) (hc : c < 2147483647) :
    FnT prog w b₀ (n + 1) (.ref 236) [.ref sr, .int top] [(sr, srcPV a c)] fun r st' => ∃ a' c' d : Nat, r = .int d ∧ d < top ∧ c' < 2147483647 ∧ st' = [(sr, srcPV a' c')] := by
  refine k.f236.mk tp ["source", "top"] rfl (fun doc pm an cdv ct vs hv => ?_) (by decide) (fun m x hx => ?_) (fun m => List.nodup_nil) (fun A outer L cdv E O => ?_) rfl rfl rfl
  · obtain ⟨x, y, rfl⟩ := len2 hv
    rfl
  · simp at hx; rcases hx with rfl | rfl <;> exact .inl rfl
  · have ci := k.calleeB O tp "int" (.type "int") (by simp [bltList]) rfl .type rfl
    have g0 : getM sr [(sr, srcPV a c)] = some (.list [.int a, .int c]) := getM1
    refine xs_cons (x_if (t_cmp ?_))
    walk_at "mine"
    refine s_listM (i := 0) g0 (by decide) (by decide) rfl ?_
    walk_at "mine"
    refine ⟨_, c_gt_int, ⟨fun h => ?_, fun h => ?_⟩⟩
    · have hpos : 0 < a := by simpa using h
      refine xs_cons (x_assign O (.inl rfl) (e_bin (e_call tp ci ?_)))
      walk_at "mine"
      refine s_listM (i := 0) g0 (by decide) (by decide) rfl ?_
      walk_at "mine"
      refine k_int ?_
      walk_at "mine"
      refine b_mod (by omega) ?_
      have hmod : Int.fmod (a : Int) (top : Int) = ((a % top : Nat) : Int) := by
        rw [Int.fmod_eq_emod_of_nonneg _ (by omega)]; rfl
      rw [hmod]
      refine xs_cons (x_setlist (e_bin ?_))
      walk_at "mine"
      refine s_listM (i := 0) g0 (by decide) (by decide) rfl ?_
      walk_at "mine"
      refine b_floordiv (by omega) (by omega) ?_
      have hdiv : Int.fdiv (a : Int) (top : Int) = ((a / top : Nat) : Int) := by
        rw [Int.fdiv_eq_ediv_of_nonneg _ (by omega)]; rfl
      rw [hdiv]
      walk_at "mine"
      refine ⟨sr, 0, _, rfl, rfl, g0, by simp, by decide, ?_⟩
      refine xs_cons (x_ret ?_)
      walk_at "mine"
      refine .ret [(sr, srcPV (a / top) c)] ⟨a / top, c, a % top, rfl, Nat.mod_lt _ ht, hc, rfl⟩ ?_ (by simp)
      simp [setM, srcPV]
    · refine xs_nil (xs_cons (x_setlist (e_bin (e_call tp ci (es_cons (e_bin (e_bin ?_)))))))
      walk_at "mine"
      refine s_listM (i := 1) g0 (by decide) (by decide) rfl ?_
      walk_at "mine"
      refine b_mul (.of_right (by decide)) ?_
      walk_at "mine"
      refine b_add ?_
      walk_at "mine"
      refine k_int ?_
      walk_at "mine"
      refine b_mod (by decide) ?_
      generalize hC : (Int.fmod ((c : Int) * 39373 + 7) 2147483647) = z
      have hz : ∃ c' : Nat, z = c' ∧ c' < 2147483647 := by
        rw [Int.fmod_eq_emod_of_nonneg _ (by decide)] at hC
        exact ⟨z.toNat, by omega, by omega⟩
      obtain ⟨c', rfl, hc'⟩ := hz
      walk_at "mine"
      refine ⟨sr, 1, _, rfl, rfl, g0, by simp, by decide, ?_⟩
      have g1 : getM sr (setM sr (MO.list (List.set [PV.int (a : Int), PV.int (c : Int)] 1 (PV.int (c' : Int)))) [(sr, srcPV a c)]) = some (.list [.int a, .int c']) := by simp [setM, getM]
      refine xs_cons (x_ret (e_bin (e_call tp ci (es_cons (e_bin (e_bin (e_call tp ci (es_cons (e_bin ?_)))))))))
      walk_at "mine"
      refine s_listM (i := 1) g1 (by decide) (by decide) rfl ?_
      walk_at "mine"
      refine s_listM (i := 1) g1 (by decide) (by decide) rfl ?_
      refine b_mul (.of_right (intBits_le_64 (by omega) (by omega))) ?_
      walk_at "mine"
      refine k_int ?_
      walk_at "mine"
      refine b_mod (by decide) ?_
      walk_at "mine"
      refine b_floordiv (by decide) (by decide) ?_
      walk_at "mine"
      refine k_int ?_
      walk_at "mine"
      refine b_mod (by omega) ?_
      generalize hC : (Int.fmod (Int.fdiv (Int.fmod ((c' : Int) * (c' : Int)) 2147483629) 32) (top : Int)) = z
      have hz : ∃ d : Nat, z = d ∧ d < top := by
        rw [Int.fmod_eq_emod_of_nonneg _ (by omega)] at hC
        have h1 := Int.emod_nonneg (Int.fdiv (Int.fmod ((c' : Int) * (c' : Int)) 2147483629) 32) (b := (top : Int)) (by omega)
        have h2 := Int.emod_lt_of_pos (Int.fdiv (Int.fmod ((c' : Int) * (c' : Int)) 2147483629) 32) (b := (top : Int)) (by omega)
        exact ⟨z.toNat, by omega, by omega⟩
      obtain ⟨d, rfl, hd⟩ := hz
      walk_at "mine"
      refine .ret [(sr, srcPV a c')] ⟨a, c', d, rfl, hd, hc', rfl⟩ ?_ (by simp)
      simp [setM, srcPV]
end
end Mine
end
section
open PySem PySem.W PySem.Spec PySem.Calls PyProof.Rows
namespace Mine
local macro_rules | `(tactic| walk_at "mine") => `(tactic| repeat (first
  | with_reducible refine es_nil ?_
  | (with_reducible refine es_cons ?_ ?he; (case he => with_unfolding_all rfl))
  | with_reducible refine e_str ?_
  | with_reducible refine e_int ?_
  | with_reducible refine e_bool ?_
  | with_reducible refine e_none ?_
  | with_reducible refine e_tup ?_
  | with_reducible refine e_sub ?_
  | (with_reducible refine s_tup0 ?_ ?hl ?hs; (case hl => first | (simp; done) | (simp; omega) | omega); (case hs => (intro _ _; with_unfolding_all rfl)))
  | (with_reducible refine s_tup1 ?_ ?hl ?hs; (case hl => first | (simp; done) | (simp; omega) | omega); (case hs => (intro _ _; with_unfolding_all rfl)))
  | (with_reducible refine s_tup2 ?_ ?hl ?hs; (case hl => first | (simp; done) | (simp; omega) | omega); (case hs => (intro _ _; with_unfolding_all rfl)))
  | (with_reducible refine And.intro (show List.length _ ≤ sizeLine from ?hz) ?_; (case hz => simp [sizeLine_eq]))
  | with_reducible refine thn_ret ?_
  | refine e_loc (by assumption) rfl ?_))
set_option maxHeartbeats 1000000
section
variable {Φ : Fx} {E : Value → Shared → Prop} {σ : Sy} {n : Nat} {K : Frag}
theorem k_take (k : KOk K) (O : Φ.Ok (n + 1)) (tp : Tp Φ.b₀ K) {sr : Addr} {a c top : Nat} {Post : PV → Sy → Prop} (ht : 0 < top) (ht2 : top < 1000) (hc : c < 2147483647) (hg : getM sr σ.st = some (srcPV a c))
    (h : ∀ a' c' d : Nat, c' < 2147483647 → d < top → Post (.int d) ⟨σ.env, setM sr (srcPV a' c') σ.st⟩) : CallT Φ E (.ref 236) [.ref sr, .int top] σ Post :=
  callT_set (P := fun r st' => ∃ a' c' d : Nat, r = .int d ∧ d < top ∧ c' < 2147483647 ∧ st' = [(sr, srcPV a' c')]) O ((fn_take k tp ht ht2 hc).mono (Nat.le_refl _) fun r st' h => ⟨by obtain ⟨_, _, _, _, _, _, rfl⟩ := h; rfl, h⟩)
    (fun q hq => by rw [List.mem_singleton.mp hq]; exact getM_mem hg) (by simp) fun r st' p _ => by
      obtain ⟨a', c', d, rfl, hd, hc', rfl⟩ := p
      exact h a' c' d hc' hd
end
noncomputable def fn0 : PV := .tup [.str "func", .tup [], .tup [], .bool false]
noncomputable def fn1 : PV := .tup [.str "func", .tup [.tup [.str "bool"]], .tup [], .bool false]
noncomputable def funcsPV : List PV := [fn0, fn0, fn1]
section
variable {prog : Program} {w : World} {b₀ : Heap} {K : Frag} {n : Nat}
theorem fn_one (k : KOk K) (tp : Tp b₀ K) {sr : Addr} {a c : Nat} {qs : List PV} (ht : 0 < qs.length) (ht2 : qs.length < 1000) (hc : c < 2147483647) :
    FnT prog w b₀ (n + 2) (.ref 243) [.ref sr, .list qs] [(sr, srcPV a c)] fun r st' => ∃ a' c' : Nat, r ∈ qs ∧ c' < 2147483647 ∧ st' = [(sr, srcPV a' c')] := by
  refine k.f243.mk tp ["source", "things"] rfl (fun doc pm an cdv ct vs hv => ?_) (by decide) (fun m x hx => ?_) (fun m => List.nodup_nil) (fun A outer L cdv E O => ?_) rfl rfl rfl
  · obtain ⟨x, y, rfl⟩ := len2 hv
    rfl
  · simp at hx; rcases hx with rfl | rfl <;> exact .inl rfl
  · have cl := k.calleeB O tp "len" (.builtin "len") (by simp [bltList]) rfl .builtin rfl
    refine xs_cons (x_ret (e_sub ?_))
    walk_at "mine"
    refine e_call tp (k.callee O tp "_law_take" 236 (by decide) rfl) ?_
    walk_at "mine"
    refine e_call tp cl ?_
    walk_at "mine"
    refine k_len .fix (by omega) ?_
    walk_at "mine"
    refine k_take k O tp ht ht2 hc getM1 fun a' c' d hc' hd => ?_
    have hget : qs[d]? = some qs[d] := List.getElem?_eq_getElem hd
    refine s_list (i := d) (p := qs[d]) (by omega) (by omega) (by simp) ?_
    walk_at "mine"
    exact .ret [(sr, srcPV a' c')] ⟨a', c', List.getElem_mem hd, hc', rfl⟩ (by simp [setM]) (by simp)
theorem fn_funcs (k : KOk K) (tp : Tp b₀ K) : FnT prog w b₀ (n + 1) (.ref 255) [] [] fun r st' => r = .list funcsPV ∧ st' = [] := by
  refine k.f255.mk tp [] rfl (fun doc pm an cdv ct vs hv => ?_) (by decide) (fun m x hx => ?_) (fun m => List.nodup_nil) (fun A outer L cdv E O => ?_) rfl rfl rfl
  · obtain rfl := List.length_eq_zero_iff.mp hv
    rfl
  · simp at hx
  · refine xs_cons (x_ret (e_list ?_))
    walk_at "mine"
    exact .ret [] ⟨rfl, rfl⟩ (by simp) (by simp)
theorem fn_pool (k : KOk K) (tp : Tp b₀ K) {l : Addr} {vs : List Value} {ns : List Int} (hL : b₀.IsList l vs.toArray) (hI : IntsAre vs ns) (hlen : ns.length < 1000) {j : Nat} (hj : j < 10) :
    FnT prog w b₀ (n + 1) (.ref 229) [.ref l, .int j] [] fun r st' => ∃ (sr : Addr) (a c : Nat), r = .ref sr ∧ c < 2147483647 ∧ st' = [(sr, srcPV a c)] := by
  refine k.f229.mk tp ["script", "k"] rfl (fun doc pm an cdv ct vs hv => ?_) (by decide) (fun m x hx => ?_) (fun m => List.nodup_nil) (fun A outer L cdv E O => ?_) rfl rfl rfl
  · obtain ⟨x, y, rfl⟩ := len2 hv
    rfl
  · simp at hx; rcases hx with rfl | rfl <;> exact .inl rfl
  · have hvl : vs.length = ns.length := hI.length
    have cl := k.calleeB O tp "len" (.builtin "len") (by simp [bltList]) rfl .builtin rfl
    have ci := k.calleeB O tp "int" (.type "int") (by simp [bltList]) rfl .type rfl
    have cm := k.calleeB O tp "max" (.builtin "max") (by simp [bltList]) rfl .builtin rfl
    have fin : ∀ z : Int, Exs (fxOf prog w b₀ A outer (envX "_law_pool" (stS (atN mainB 20)) L 229 cdv (cellsFrom (L + 1) (stS (atN mainB 20)).names []))) E ((stB (atN mainB 20)).drop 1) ⟨[("cell", .int z), ("script", .ref l), ("k", .int j)], []⟩ (Done fun r st' => ∃ (sr : Addr) (a c : Nat), r = .ref sr ∧ c < 2147483647 ∧ st' = [(sr, srcPV a c)]) := by
      intro z
      refine xs_cons (x_assign O (.inl rfl) (e_call tp cm (es_cons (e_call tp ci ?_))))
      walk_at "mine"
      refine k_int ?_
      walk_at "mine"
      refine e_call tp ci (es_cons (e_bin ?_))
      refine e_neg ?_
      walk_at "mine"
      refine ⟨1, rfl, ?_⟩
      walk_at "mine"
      refine b_sub ?_
      walk_at "mine"
      refine k_int ?_
      walk_at "mine"
      refine k_max O ?_
      generalize hB : (if (-1 - z) > z then (-1 - z) else z) = B
      obtain ⟨b, rfl⟩ : ∃ b : Nat, B = b := ⟨B.toNat, by rw [← hB]; split <;> omega⟩
      refine xs_cons (x_assign O (.inl rfl) (e_bin (e_call tp ci (es_cons ?_))))
      refine e_bin (e_bin (e_bin (e_bin (e_bin (e_call tp ci ?_)))))
      walk_at "mine"
      refine k_int ?_
      walk_at "mine"
      refine b_mod (by decide) ?_
      refine e_bin (e_bin ?_)
      walk_at "mine"
      refine b_mul (.of_left (by decide)) ?_
      walk_at "mine"
      refine b_mul (.of_right (intBits_le_64 (by omega) (by omega))) ?_
      refine b_add ?_
      refine e_bin ?_
      walk_at "mine"
      refine b_mul (.of_left (by decide)) ?_
      refine b_add ?_
      walk_at "mine"
      refine b_add ?_
      walk_at "mine"
      refine b_mul (.of_right (by decide)) ?_
      walk_at "mine"
      refine k_int ?_
      walk_at "mine"
      refine b_mod (by decide) ?_
      generalize hM : Int.fmod _ (2147483647 : Int) = M
      obtain ⟨c, rfl, hc⟩ : ∃ c : Nat, M = c ∧ c < 2147483647 := by
        rw [Int.fmod_eq_emod_of_nonneg _ (by decide)] at hM
        exact ⟨M.toNat, by omega, by omega⟩
      refine xs_cons (x_ret (e_listM (es_cons (e_bin ?_))))
      walk_at "mine"
      refine e_call tp ci (es_cons (e_cmp ?_))
      walk_at "mine"
      refine e_bin ?_
      walk_at "mine"
      refine b_pow (by decide) (by decide) (by decide) ?_
      refine ⟨_, c_ge_int, ?_⟩
      walk_at "mine"
      refine k_int_bool ?_
      refine b_mul (.of_right (by split <;> decide)) ?_
      walk_at "mine"
      intro sr
      walk_at "mine"
      have hm : ∃ a : Nat, (b : Int) * (if decide ((b : Int) ≥ 10 ^ (18 : Int).toNat) = true then 1 else 0) = a := by
        split
        · exact ⟨b, by omega⟩
        · exact ⟨0, by omega⟩
      obtain ⟨a, ha⟩ := hm
      rw [ha]
      exact .ret [(sr, srcPV a c)] ⟨sr, a, c, rfl, hc, rfl⟩ (by simp [srcPV]) (by simp)
    by_cases hk : j < ns.length
    · refine xs_cons (x_assign O (.inl rfl) (e_ifexp (t_cmp ?_)))
      walk_at "mine"
      refine e_call tp cl ?_
      walk_at "mine"
      refine k_len_in hL (by omega) ?_
      refine ⟨_, c_lt_int, ⟨fun _ => ?_, fun h => absurd h (by simp [hvl]; omega)⟩⟩
      walk_at "mine"
      have hz : ns[j]? = some ns[j] := List.getElem?_eq_getElem hk
      refine s_in hL hI hz (by omega) ?_
      exact fin _
    · refine xs_cons (x_assign O (.inl rfl) (e_ifexp (t_cmp ?_)))
      walk_at "mine"
      refine e_call tp cl ?_
      walk_at "mine"
      refine k_len_in hL (by omega) ?_
      refine ⟨_, c_lt_int, ⟨fun h => absurd h (by simp [hvl]; omega), fun _ => ?_⟩⟩
      walk_at "mine"
      exact fin _
end
end Mine
end
section
open PySem PySem.W PySem.Spec PySem.Calls PyProof.Rows
namespace Mine
/-! _law_paths -/
noncomputable abbrev Paths := List (Str × List PV)
noncomputable def pathPV (q : Str × List PV) : PV := .tup [named q.1, .tup q.2]
noncomputable def defOf (W : Str → Option Def) (p : Str) : Def := (W p).getD (.ptr "")
noncomputable def pathsNext (W : Str → Option Def) (h : Paths) : Paths := h.flatMap fun r => (defOf W r.1).embs.map fun q => (q.1, r.2 ++ [q.2])
noncomputable def paths (W : Str → Option Def) (p : Str) : Nat → Paths
  | 0 => [(p, [])]
  | d + 1 => pathsNext W (paths W p d)
noncomputable def Def.rows : Def → Rows
  | .struct r _ => r
  | _ => []
theorem Def.embs_rows (d : Def) : d.embs = Mine.embs d.rows 0 := by cases d <;> rfl
/-- what the law's worlds keep to -/
structure WOk (W : Str → Option Def) : Prop where
  closed : ∀ p d, W p = some d → ∀ q ∈ d.embs, ∃ d', W q.1 = some d' ∧ ∀ x, d' ≠ .ptr x
  rows : ∀ p rows ms, W p = some (.struct rows ms) → rows.length ≤ 8 ∧ (rows.map (·.1)).Nodup
  faces : ∀ p fs, W p = some (.iface fs) → fs.length ≤ 8
theorem Def.embs_len {d : Def} {m : Nat} (h : ∀ rows ms, d = .struct rows ms → rows.length ≤ m) : d.embs.length ≤ m := by
  cases d with
  | struct rows ms => exact Nat.le_trans (embs_length 0) (h rows ms rfl)
  | iface fs => exact Nat.zero_le _
  | ptr p => exact Nat.zero_le _
theorem flatMap_len {α β : Type} {f : α → List β} {m : Nat} : ∀ {l : List α}, (∀ x ∈ l, (f x).length ≤ m) → (l.flatMap f).length ≤ l.length * m
  | [], _ => by simp
  | x :: l, h => by
    rw [List.flatMap_cons, List.length_append, List.length_cons, Nat.succ_mul]
    have h1 := h x (.head _)
    have h2 := flatMap_len (l := l) fun y hy => h y (.tail _ hy)
    omega
theorem paths_ok {W : Str → Option Def} (wo : WOk W) {p : Str} (hp : ∃ d, W p = some d ∧ ∀ x, d ≠ .ptr x) : ∀ n, ∀ r ∈ paths W p n, (∃ d, W r.1 = some d ∧ ∀ x, d ≠ .ptr x) ∧ r.2.length ≤ n
  | 0, r, h => by
    rw [paths, List.mem_singleton] at h
    subst h
    exact ⟨hp, Nat.le_refl _⟩
  | n + 1, r, h => by
    rw [paths, pathsNext, List.mem_flatMap] at h
    obtain ⟨r', h1, h2⟩ := h
    obtain ⟨q, hq, rfl⟩ := List.mem_map.mp h2
    obtain ⟨⟨d, hd, _⟩, hl⟩ := paths_ok wo hp n r' h1
    refine ⟨wo.closed r'.1 d hd q ?_, by simp; omega⟩
    rw [defOf, hd] at hq
    exact hq
theorem paths_len {W : Str → Option Def} (wo : WOk W) {p : Str} (hp : ∃ d, W p = some d ∧ ∀ x, d ≠ .ptr x) : ∀ n, (paths W p n).length ≤ 8 ^ n
  | 0 => by simp [paths]
  | n + 1 => by
    have ih := paths_len wo hp n
    have h := flatMap_len (m := 8) (l := paths W p n) (f := fun r => (defOf W r.1).embs.map fun q => (q.1, r.2 ++ [q.2])) fun r hr => by
      rw [List.length_map]
      obtain ⟨⟨d, hd, _⟩, _⟩ := paths_ok wo hp n r hr
      refine Def.embs_len fun rows ms e => ?_
      rw [defOf, hd] at e
      exact (wo.rows r.1 rows ms (by rw [hd]; exact congrArg some e)).1
    show (pathsNext W (paths W p n)).length ≤ _
    rw [Nat.pow_succ]
    exact Nat.le_trans h (Nat.mul_le_mul_right _ ih)
local macro_rules | `(tactic| walk_at "mine") => `(tactic| repeat (first
  | with_reducible refine es_nil ?_
  | (with_reducible refine es_cons ?_ ?he; (case he => with_unfolding_all rfl))
  | with_reducible refine e_str ?_
  | with_reducible refine e_int ?_
  | with_reducible refine e_bool ?_
  | with_reducible refine e_none ?_
  | with_reducible refine e_tup ?_
  | with_reducible refine e_sub ?_
  | (with_reducible refine s_tup0 ?_ ?hl ?hs; (case hl => first | (simp; done) | (simp; omega) | omega); (case hs => (intro _ _; with_unfolding_all rfl)))
  | (with_reducible refine s_tup1 ?_ ?hl ?hs; (case hl => first | (simp; done) | (simp; omega) | omega); (case hs => (intro _ _; with_unfolding_all rfl)))
  | (with_reducible refine s_tup2 ?_ ?hl ?hs; (case hl => first | (simp; done) | (simp; omega) | omega); (case hs => (intro _ _; with_unfolding_all rfl)))
  | (with_reducible refine And.intro (show List.length _ ≤ sizeLine from ?hz) ?_; (case hz => simp [sizeLine_eq]))
  | with_reducible refine thn_ret ?_
  | refine e_loc (by assumption) rfl ?_))
set_option maxHeartbeats 1000000
section
variable {prog : Program} {w : World} {b₀ : Heap} {K : Frag} {n : Nat}
theorem fn_paths (k : KOk K) (tp : Tp b₀ K) {W : Str → Option Def} {dx nd : Addr} {wd nm : List (Str × PV)} (s : WS W dx nd wd nm) (wo : WOk W) {p : Str} (hp : ∃ d, W p = some d ∧ ∀ x, d ≠ .ptr x) {deep : Nat} (hd : deep ≤ 4) :
    FnT prog w b₀ (n + 1) (.ref 262) [.inst 218 dx, named p, .int deep] (wst dx nd wd nm) fun r st' => st' = wst dx nd wd nm ∧ r = .list ((paths W p deep).map pathPV) := by
  refine k.f262.mk tp ["world", "told", "deep"] rfl (fun doc pm an cdv ct vs hv => ?_) (by decide) (fun m x hx => ?_) (fun m => List.nodup_nil) (fun A outer L cdv E O => ?_) rfl rfl rfl
  · obtain ⟨x, y, z, rfl⟩ := len3 hv
    rfl
  · simp at hx; rcases hx with rfl | rfl | rfl <;> exact .inl rfl
  · have c218 := k.cls 218 (by decide)
    have c175 := k.cls 175 (by decide)
    have sto : ∀ xs : List Str, (∀ x ∈ xs, x = "here" ∨ x = "steps" ∨ x = "k" ∨ x = "row") → ∀ x ∈ xs, Sto (envX "_law_paths" (stS (atN mainB 25)) L 262 cdv (cellsFrom (L + 1) (stS (atN mainB 25)).names [])) x := fun xs h x hx => by
      rcases h x hx with rfl | rfl | rfl | rfl <;> exact .inl rfl
    refine xs_cons (x_assign O (.inl rfl) (e_list (es_cons (e_tup (es_cons (e_ifexp (t_cmp ?_)))))))
    unfold named
    walk_at "mine"
    refine ⟨false, c_eq_str, ⟨fun z => (nomatch z), fun _ => ?_⟩⟩
    walk_at "mine"
    refine xs_cons (x_for (it_range O tp (k.blt ("range", .type "range") (by simp [bltList])) rfl rfl ?_))
    walk_at "mine"
    refine ⟨deep, rfl, by omega, ?_⟩
    have hrl : ((List.range deep).map fun i : Nat => PV.int (i : Int)).length = deep := by simp
    refine ⟨fun i σ => σ.st = wst dx nd wd nm ∧ σ.env.lookup ("world" : Str) = some (.inst 218 dx) ∧ σ.env.lookup ("found" : Str) = some (.list ((paths W p i).map pathPV)), ⟨rfl, rfl, rfl⟩, fun E' i q σ' hq hI => ?_, fun σ' hI => ?_⟩
    · obtain ⟨env, st⟩ := σ'
      obtain ⟨h1, h2, h3⟩ := hI
      dsimp only at h1 h2 h3
      subst h1
      have hi : i < deep := by
        rcases Nat.lt_or_ge i deep with h | h
        · exact h
        · rw [List.getElem?_eq_none (by rw [hrl]; exact h)] at hq; cases hq
      have hq' : q = .int i := by
        rw [List.getElem?_map, List.getElem?_range hi] at hq
        exact (Option.some.inj hq).symm
      subst hq'
      have pok := paths_ok wo hp i
      have plen := paths_len wo hp i
      have p8 : 8 ^ i ≤ 8 ^ 3 := Nat.pow_le_pow_right (by decide) (by omega)
      refine a_name O (.inl rfl) ?_
      refine xs_cons (x_assign O (.inl rfl) (e_listM ?_))
      walk_at "mine"
      intro lt
      refine T.nd fun hnd => ?_
      have hl : lt ≠ dx ∧ lt ≠ nd := by simp at hnd; exact hnd.1
      refine xs_cons (x_for (it_list O (e_loc O h3 ⟨_, rfl, .inr ⟨⟨_, _, _, rfl⟩, fun q hq => ?_⟩, ?_⟩)))
      · obtain ⟨r, _, rfl⟩ := List.mem_map.mp hq
        exact ⟨_, rfl⟩
      refine ⟨fun j σ => σ.st = (lt, .list ((pathsNext W ((paths W p i).take j)).map pathPV)) :: wst dx nd wd nm ∧ σ.env.lookup ("world" : Str) = some (.inst 218 dx) ∧ σ.env.lookup ("later" : Str) = some (.ref lt), ⟨rfl, h2, rfl⟩, fun E'' j q σ' hq hI => ?_, fun σ' hI => ?_⟩
      · obtain ⟨env', st⟩ := σ'
        obtain ⟨g1, g2, g3⟩ := hI
        dsimp only at g1 g2 g3
        subst g1
        rw [List.getElem?_map] at hq
        obtain ⟨⟨hr, steps⟩, hgr, rfl⟩ := Option.map_eq_some_iff.mp hq
        obtain ⟨⟨D, hD, hnp⟩, hsl⟩ := pok _ (List.mem_of_getElem? hgr)
        dsimp only at hD hsl
        have htk : (paths W p i).take (j + 1) = (paths W p i).take j ++ [(hr, steps)] := by rw [List.take_add_one, hgr]; rfl
        have hjl : ((paths W p i).take j).length ≤ 512 := by rw [List.length_take]; have : (8:Nat)^3 = 512 := rfl; omega
        have hnx : (pathsNext W ((paths W p i).take j)).length ≤ 512 * 8 := by
          refine Nat.le_trans (flatMap_len (m := 8) fun r hr' => ?_) (Nat.mul_le_mul_right _ hjl)
          rw [List.length_map]
          obtain ⟨⟨d, hd', _⟩, _⟩ := pok r (List.mem_of_mem_take hr')
          refine Def.embs_len fun rows ms e => ?_
          rw [defOf, hd'] at e
          exact (wo.rows r.1 rows ms (by rw [hd']; exact congrArg some e)).1
        refine a_tup (xs := ["here", "steps"]) O (sto _ (by simp)) (.cons binds_name (.cons binds_name .nil)) rfl ?_
        obtain ⟨u, hu⟩ := D.under_eq
        refine xs_cons (x_assign O (.inl rfl) (e_attr tp (e_sub (e_attr tp (e_loc O g2 ⟨218, wd, .ref nd, .var (by rw [getM2 hl.1]; exact getM1), c218, (k.attr (218, "named") (by decide)).1, s.named, rfl, ?_⟩)))))
        unfold named
        walk_at "mine"
        refine s_dict (.var (by show getM nd (_ :: _ :: _) = _; rw [getM2 hl.2, getM2 s.ne]; exact getM1)) (s.rows hr D hD) ⟨175, _, D.under, .fix, c175, (k.attr (175, "underlying") (by decide)).1, rfl, by rw [hu]; rfl, ?_⟩
        have hR : D.rows.length ≤ 8 := by
          cases D with
          | struct rows ms => exact (wo.rows hr rows ms hD).1
          | iface fs => exact Nat.zero_le _
          | ptr x => exact Nat.zero_le _
        have hdef : defOf W hr = D := by simp [defOf, hD]
        refine xs_cons (x_for (it_enum O tp (k.blt ("enumerate", .type "enumerate") (by decide)) rfl rfl (T.mono (Post' := fun z σ' => z = .tup (D.rows.map rowPV) ∧ σ' = ⟨("base", D.under) :: putAll ["here", "steps"] [named hr, .tup steps] env', (lt, .list ((pathsNext W ((paths W p i).take j)).map pathPV)) :: wst dx nd wd nm⟩) (e_ifexp (t_cmp ?_)) fun z σ' h => ?_)))
        · show Ev _ _ _ ⟨("base", D.under) :: putAll ["here", "steps"] [named hr, .tup steps] env', _⟩ _
          rw [hu]
          walk_at "mine"
          refine ⟨_, c_eq_str, ⟨fun hk => ?_, fun hk => ?_⟩⟩
          · cases D with
            | iface fs => exact absurd hk (show ¬ (("interface" : Str) == ("struct" : Str)) = true by decide)
            | ptr p => exact absurd hk (show ¬ (("ptr" : Str) == ("struct" : Str)) = true by decide)
            | struct rows ms =>
              cases hu
              walk_at "mine"
              exact ⟨rfl, rfl⟩
          · walk_at "mine"
            cases D with
            | iface fs => exact ⟨rfl, rfl⟩
            | ptr p => exact ⟨rfl, rfl⟩
            | struct rows ms => exact absurd hk (show ¬ (("struct" : Str) == ("struct" : Str)) = false by decide)
        obtain ⟨rfl, rfl⟩ := h
        refine ⟨_, rfl, ?_⟩
        have hml : ((D.rows.map rowPV).mapIdx fun (i : Nat) q => PV.tup [.int (i : Int), q]).length = D.rows.length := by simp
        refine ⟨fun m σ => σ.st = (lt, .list ((pathsNext W ((paths W p i).take j) ++ (embs (D.rows.take m) 0).map fun q => (q.1, steps ++ [q.2])).map pathPV)) :: wst dx nd wd nm ∧ σ.env.lookup ("world" : Str) = some (.inst 218 dx) ∧ σ.env.lookup ("later" : Str) = some (.ref lt) ∧ σ.env.lookup ("steps" : Str) = some (.tup steps), ⟨by simp [embs], g2, g3, rfl⟩, fun E₃ m z σ' hz hI => ?_, fun σ' hI => ?_⟩
        · obtain ⟨env₃, st⟩ := σ'
          obtain ⟨f1, f2, f3, f4⟩ := hI
          dsimp only at f1 f2 f3 f4
          subst f1
          rw [List.getElem?_mapIdx] at hz
          obtain ⟨z1, hz1, rfl⟩ := Option.map_eq_some_iff.mp hz
          rw [List.getElem?_map] at hz1
          obtain ⟨⟨x, rt⟩, hrr, rfl⟩ := Option.map_eq_some_iff.mp hz1
          have hlt : m < D.rows.length := by
            rcases Nat.lt_or_ge m D.rows.length with h | h
            · exact h
            · rw [List.getElem?_eq_none h] at hrr; cases hrr
          have hemb := embs_take (k := 0) hrr
          have hel := embs_length (r := D.rows.take m) 0
          have hel2 : (D.rows.take m).length ≤ 8 := by rw [List.length_take]; omega
          refine a_tup (xs := ["k", "row"]) O (sto _ (by simp)) (.cons binds_name (.cons binds_name .nil)) rfl ?_
          unfold rowPV
          cases rt with
          | plain =>
            refine xs_cons (x_if (t_val (x := false) ?_))
            walk_at "mine"
            refine ⟨rfl, ⟨fun h => (nomatch h), fun _ => ?_⟩⟩
            refine xs_nil (xs_nil ⟨?_, f2, f3, f4⟩)
            rw [hemb]; simp
          | emb y b =>
            refine xs_cons (x_if (t_val (x := true) ?_))
            walk_at "mine"
            refine ⟨rfl, ⟨fun _ => ?_, fun h => (nomatch h)⟩⟩
            have hkd : ∃ kd r, RT.pv (.emb y b) = .tup (.str kd :: r) ∧ (kd == ("ptr" : Str)) = b ∧ r.length < 100 ∧ (if b = true then r[0]? = some (named y) else named y = .tup (.str kd :: r)) := by
              cases b with
              | false => exact ⟨"named", [.str y], rfl, by decide, by simp, rfl⟩
              | true => exact ⟨"ptr", [named y], rfl, by decide, by simp, rfl⟩
            obtain ⟨kd, r, e1, e2, e3, e4⟩ := hkd
            rw [e1]
            refine xs_cons (x_assign O (.inl rfl) (e_cmp ?_))
            walk_at "mine"
            refine ⟨b, e2 ▸ c_eq_str, ?_⟩
            refine xs_cons (x_expr (e_meth tp ?_))
            refine e_loc O f3 ⟨.builtin "list.append", .builtin, m_list (.var getM1) PySem.F.slot_list_append PySem.F.type_list_append, ?_⟩
            refine es_cons (e_tup (es_cons (T.mono (Post' := fun z σ' => z = named y ∧ σ' = ⟨("is_pointer", .bool b) :: putAll ["k", "row"] [.int m, .tup [.str x, .tup (.str kd :: r), .bool true]] env₃, (lt, .list ((pathsNext W ((paths W p i).take j) ++ (embs (D.rows.take m) 0).map fun q => (q.1, steps ++ [q.2])).map pathPV)) :: wst dx nd wd nm⟩) (e_ifexp (t_val (x := b) ?_)) fun z σ' h => ?_)))
            · walk_at "mine"
              refine ⟨rfl, ⟨fun hb => ?_, fun hb => ?_⟩⟩
              · rw [if_pos hb] at e4
                walk_at "mine"
                refine s_tup (i := 1) (by simpa using e4) (by simp; omega) ⟨rfl, rfl⟩
              · rw [if_neg (by rw [hb]; decide)] at e4
                walk_at "mine"
                exact ⟨e4.symm, rfl⟩
            obtain ⟨rfl, rfl⟩ := h
            refine es_cons (e_bin (e_loc O f4 ?_))
            walk_at "mine"
            refine b_tadd (by simp [sizeLine_eq]; omega) ?_
            walk_at "mine"
            refine k_append getM1 (by simp [sizeLine_eq]; omega) ⟨rfl, ?_⟩
            refine xs_nil (xs_nil ⟨?_, f2, f3, f4⟩)
            rw [hemb]
            simp [setM, pathPV, stepPV]
        · obtain ⟨env₃, st⟩ := σ'
          obtain ⟨f1, f2, f3, f4⟩ := hI
          dsimp only at f1 f2 f3 f4
          refine xs_nil ⟨?_, f2, f3⟩
          rw [f1, hml, List.take_length, htk]
          unfold pathsNext
          rw [List.flatMap_append, List.flatMap_singleton, hdef, Def.embs_rows]
      · obtain ⟨env', st⟩ := σ'
        obtain ⟨g1, g2, g3⟩ := hI
        dsimp only at g1 g2 g3
        have hall : (paths W p i).take ((paths W p i).map pathPV).length = paths W p i := by simp
        rw [hall] at g1
        subst g1
        refine xs_cons (x_assign O (.inl rfl) (e_frz (e_loc O g3 ⟨lt, _, .list ((paths W p (i + 1)).map pathPV), getM1, .ref, ?_⟩)))
        refine xs_nil ⟨by simp [delM], g2, rfl⟩
    · obtain ⟨env, st⟩ := σ'
      obtain ⟨h1, h2, h3⟩ := hI
      dsimp only at h1 h2 h3
      subst h1
      rw [hrl] at h3
      refine xs_cons (x_ret (e_loc O h3 ?_))
      exact done_ro rfl s.ne
end
end Mine
end
section
open PySem PySem.W PySem.Spec PySem.Calls PyProof.Rows
namespace Mine
/-! _law_found -/
noncomputable def fieldsAll : Rows → Str → Nat → List (Nat × RT)
  | [], _, _ => []
  | (x, t) :: r, name, k => if x == name then (k, t) :: fieldsAll r name (k + 1) else fieldsAll r name (k + 1)
noncomputable def Def.memsAll (d : Def) (steps : List PV) (name : Str) : List PV :=
  match d.meths.lookup name with
  | some m => [methMem steps m]
  | none => match d with
    | .struct rows _ => (fieldsAll rows name 0).map (fieldMem steps)
    | .iface fs => (fs.filter fun q => q.1 == name).map (faceMem steps name)
    | .ptr _ => []
noncomputable def foundIn (W : Str → Option Def) (name : Str) (ps : Paths) : List PV := ps.flatMap fun r => (defOf W r.1).memsAll r.2 name
noncomputable def foundAt (W : Str → Option Def) (p name : Str) (d : Nat) : List PV := foundIn W name (paths W p d)
noncomputable def lawFound (W : Str → Option Def) (p name : Str) : List PV := (((List.range 4).map (foundAt W p name)).find? fun l => !l.isEmpty).getD []
theorem lawFound_at {W : Str → Option Def} {p name : Str} {i : Nat} (hi : i < 4) (h : ∀ j, j < i → foundAt W p name j = []) (hne : foundAt W p name i ≠ []) : lawFound W p name = foundAt W p name i := by
  have e : (!(foundAt W p name i).isEmpty) = true := by
    cases q : foundAt W p name i with
    | nil => exact absurd q hne
    | cons _ _ => rfl
  unfold lawFound
  match i, hi with
  | 0, _ => simp [List.range_succ, e]
  | 1, _ => simp [List.range_succ, h 0 (by omega), e]
  | 2, _ => simp [List.range_succ, h 0 (by omega), h 1 (by omega), e]
  | 3, _ => simp [List.range_succ, h 0 (by omega), h 1 (by omega), h 2 (by omega), e]
theorem lawFound_none {W : Str → Option Def} {p name : Str} (h : ∀ j, j < 4 → foundAt W p name j = []) : lawFound W p name = [] := by
  unfold lawFound
  simp [List.range_succ, h 0 (by omega), h 1 (by omega), h 2 (by omega), h 3 (by omega)]
theorem fieldsAll_take {name : Str} {r : Rows} : ∀ {i : Nat} {x : Str} {t : RT} {k : Nat}, r[i]? = some (x, t) → fieldsAll (r.take (i + 1)) name k = fieldsAll (r.take i) name k ++ if x == name then [(k + i, t)] else [] := by
  induction r with
  | nil => intro i x t k h; simp at h
  | cons q r ih =>
    intro i x t k h
    cases i with
    | zero => simp at h; subst h; simp [fieldsAll]
    | succ i =>
      simp at h
      have := ih (k := k + 1) h
      obtain ⟨y, u⟩ := q
      have e : k + 1 + i = k + (i + 1) := by omega
      rw [List.take_succ_cons, List.take_succ_cons, fieldsAll, fieldsAll, this, e]
      split <;> simp
theorem fieldsAll_mem {name : Str} {r : Rows} : ∀ {k : Nat} {q : Nat × RT}, q ∈ fieldsAll r name k → ∃ i x, r[i]? = some (x, q.2) ∧ q.1 = k + i := by
  induction r with
  | nil => intro k q h; cases h
  | cons p r ih =>
    intro k q h
    obtain ⟨y, u⟩ := p
    rw [fieldsAll] at h
    have step : q ∈ fieldsAll r name (k + 1) → ∃ i x, ((y, u) :: r)[i]? = some (x, q.2) ∧ q.1 = k + i := fun h => by
      obtain ⟨i, x, h1, h2⟩ := ih h
      exact ⟨i + 1, x, by simpa using h1, by omega⟩
    split at h
    · rcases List.mem_cons.mp h with rfl | h
      · exact ⟨0, y, rfl, rfl⟩
      · exact step h
    · exact step h
theorem fieldsAll_len {name : Str} {r : Rows} : ∀ k, (fieldsAll r name k).length ≤ r.length := by
  induction r with
  | nil => intro k; exact Nat.le_refl _
  | cons q r ih =>
    intro k
    obtain ⟨x, t⟩ := q
    have := ih (k + 1)
    rw [fieldsAll]
    split <;> simp <;> omega
theorem Def.memsAll_len {d : Def} {steps : List PV} {name : Str} (h1 : d.rows.length ≤ 8) (h2 : ∀ fs, d = .iface fs → fs.length ≤ 8) : (d.memsAll steps name).length ≤ 8 := by
  unfold Def.memsAll
  split
  · simp
  · cases d with
    | struct rows ms => rw [List.length_map]; exact Nat.le_trans (fieldsAll_len 0) h1
    | iface fs => rw [List.length_map]; exact Nat.le_trans (List.length_filter_le _ _) (h2 fs rfl)
    | ptr p => simp
local macro_rules | `(tactic| walk_at "mine") => `(tactic| repeat (first
  | with_reducible refine es_nil ?_
  | (with_reducible refine es_cons ?_ ?he; (case he => with_unfolding_all rfl))
  | with_reducible refine e_str ?_
  | with_reducible refine e_int ?_
  | with_reducible refine e_bool ?_
  | with_reducible refine e_none ?_
  | with_reducible refine e_tup ?_
  | with_reducible refine e_sub ?_
  | (with_reducible refine s_tup0 ?_ ?hl ?hs; (case hl => first | (simp; done) | (simp; omega) | omega); (case hs => (intro _ _; with_unfolding_all rfl)))
  | (with_reducible refine s_tup1 ?_ ?hl ?hs; (case hl => first | (simp; done) | (simp; omega) | omega); (case hs => (intro _ _; with_unfolding_all rfl)))
  | (with_reducible refine s_tup2 ?_ ?hl ?hs; (case hl => first | (simp; done) | (simp; omega) | omega); (case hs => (intro _ _; with_unfolding_all rfl)))
  | (with_reducible refine And.intro (show List.length _ ≤ sizeLine from ?hz) ?_; (case hz => simp [sizeLine_eq]))
  | with_reducible refine thn_ret ?_
  | refine e_loc (by assumption) rfl ?_))
set_option maxHeartbeats 1000000
section
variable {prog : Program} {w : World} {b₀ : Heap} {K : Frag} {n : Nat}
noncomputable abbrev envF (L : Addr) (cdv : Value) : Env := envX "_law_found" (stS (atN mainB 26)) L 267 cdv (cellsFrom (L + 1) (stS (atN mainB 26)).names [])
theorem fn_found (k : KOk K) (tp : Tp b₀ K) {W : Str → Option Def} {dx nd : Addr} {wd nm : List (Str × PV)} (s : WS W dx nd wd nm) (wo : WOk W) {p : Str} (hp : ∃ d, W p = some d ∧ ∀ x, d ≠ .ptr x) {name : Str} :
    FnT prog w b₀ (n + 2) (.ref 267) [.inst 218 dx, named p, .str name] (wst dx nd wd nm) fun r st' => st' = wst dx nd wd nm ∧ r = .list (lawFound W p name) := by
  refine k.f267.mk tp ["world", "told", "name"] rfl (fun doc pm an cdv ct vs hv => ?_) (by decide) (fun m x hx => ?_) (fun m => (by decide : (["row", "steps", "name"] : List Str).Nodup)) (fun A outer L cdv E O => ?_) rfl rfl rfl
  · obtain ⟨x, y, z, rfl⟩ := len3 hv
    rfl
  · simp at hx; rcases hx with rfl | rfl | rfl
    · exact .inl rfl
    · exact .inl rfl
    · exact .inr ⟨rfl, rfl⟩
  · have c218 := k.cls 218 (by decide)
    have c175 := k.cls 175 (by decide)
    have cl := k.calleeB O tp "len" (.builtin "len") (by simp [bltList]) rfl .builtin rfl
    refine xs_cons (x_for (it_range O tp (k.blt ("range", .type "range") (by simp [bltList])) rfl rfl ?_))
    walk_at "mine"
    refine ⟨4, rfl, by omega, ?_⟩
    have hrl : ((List.range 4).map fun i : Nat => PV.int (i : Int)).length = 4 := rfl
    refine ⟨fun i σ => σ.st = wst dx nd wd nm ∧ σ.env.lookup ("world" : Str) = some (.inst 218 dx) ∧ σ.env.lookup ("told" : Str) = some (named p) ∧ σ.env.lookup ("name" : Str) = some (.str name) ∧ ∀ j, j < i → foundAt W p name j = [], ⟨rfl, rfl, rfl, rfl, fun _ h => absurd h (Nat.not_lt_zero _)⟩, fun E' i q σ' hq hI => ?_, fun σ' hI => ?_⟩
    · obtain ⟨env, st⟩ := σ'
      obtain ⟨h1, h2, h3, h4, h5⟩ := hI
      dsimp only at h1 h2 h3 h4
      subst h1
      have hi : i < 4 := by
        rcases Nat.lt_or_ge i 4 with h | h
        · exact h
        · rw [List.getElem?_eq_none (by rw [hrl]; exact h)] at hq; cases hq
      have hq' : q = .int i := by
        rw [List.getElem?_map, List.getElem?_range hi] at hq
        exact (Option.some.inj hq).symm
      subst hq'
      have pok := paths_ok wo hp i
      have plen := paths_len wo hp i
      have p8 : 8 ^ i ≤ 8 ^ 3 := Nat.pow_le_pow_right (by decide) (by omega)
      have e8 : (8 : Nat) ^ 3 = 512 := rfl
      refine a_name O (.inl rfl) ?_
      refine xs_cons (x_assign O (.inl rfl) (e_listM ?_))
      walk_at "mine"
      intro fl
      refine xs_cons (x_for (it_list O (e_call tp (k.callee O tp "_law_paths" 262 (by decide) rfl) (es_cons (e_loc O h2 (es_cons (e_loc O h3 (es_cons ?_))))))))
      walk_at "mine"
      refine callT_ro O (fn_paths k tp s wo hp (Nat.le_of_lt hi)) (fun q hq => .tail _ hq) (nodup2 s.ne) fun r hr => ?_
      subst hr
      refine ⟨_, rfl, .inr ⟨⟨_, _, _, rfl⟩, fun q hq => ?_⟩, ?_⟩
      · obtain ⟨r, _, rfl⟩ := List.mem_map.mp hq
        exact ⟨_, rfl⟩
      refine ⟨fun j σ => ∃ fl, σ.st = (fl, .list (foundIn W name ((paths W p i).take j))) :: wst dx nd wd nm ∧ σ.env.lookup ("world" : Str) = some (.inst 218 dx) ∧ σ.env.lookup ("told" : Str) = some (named p) ∧ σ.env.lookup ("name" : Str) = some (.str name) ∧ σ.env.lookup ("found" : Str) = some (.ref fl), ⟨fl, rfl, h2, h3, h4, rfl⟩, fun E'' j z σ' hz hI => ?_, fun σ' hI => ?_⟩
      · obtain ⟨env', st⟩ := σ'
        obtain ⟨fl, g1, g2, g3, g4, g5⟩ := hI
        dsimp only at g1 g2 g3 g4 g5
        subst g1
        rw [List.getElem?_map] at hz
        obtain ⟨⟨hr, steps⟩, hgr, rfl⟩ := Option.map_eq_some_iff.mp hz
        obtain ⟨⟨D, hD, hnp⟩, hsl⟩ := pok _ (List.mem_of_getElem? hgr)
        dsimp only at hD hsl
        have htk : (paths W p i).take (j + 1) = (paths W p i).take j ++ [(hr, steps)] := by rw [List.take_add_one, hgr]; rfl
        have hjl : ((paths W p i).take j).length ≤ 512 := by rw [List.length_take]; omega
        have hdef : defOf W hr = D := by simp [defOf, hD]
        have hR : D.rows.length ≤ 8 := by
          cases D with
          | struct rows ms => exact (wo.rows hr rows ms hD).1
          | iface fs => exact Nat.zero_le _
          | ptr x => exact Nat.zero_le _
        have hF : ∀ fs, D = .iface fs → fs.length ≤ 8 := fun fs e => wo.faces hr fs (by rw [hD, e])
        have hall : (foundIn W name ((paths W p i).take j)).length ≤ 512 * 8 := by
          refine Nat.le_trans (flatMap_len (m := 8) fun r hr' => ?_) (Nat.mul_le_mul_right _ hjl)
          obtain ⟨⟨d, hd', _⟩, _⟩ := pok r (List.mem_of_mem_take hr')
          have e : defOf W r.1 = d := by simp [defOf, hd']
          rw [e]
          refine Def.memsAll_len ?_ fun fs e => wo.faces r.1 fs (by rw [hd', e])
          cases d with
          | struct rows ms => exact (wo.rows r.1 rows ms hd').1
          | iface fs => exact Nat.zero_le _
          | ptr x => exact Nat.zero_le _
        have hnext : foundIn W name ((paths W p i).take (j + 1)) = foundIn W name ((paths W p i).take j) ++ D.memsAll steps name := by
          rw [htk]; unfold foundIn; rw [List.flatMap_append, List.flatMap_singleton, hdef]
        refine a_tup (xs := ["here", "steps"]) O (fun x hx => by
          simp at hx
          rcases hx with rfl | rfl
          · exact .inl rfl
          · exact .inr ⟨rfl, _, rfl⟩) (.cons binds_name (.cons binds_name .nil)) rfl ?_
        refine T.nd fun hnd => ?_
        have hl : fl ≠ dx ∧ fl ≠ nd := by simp at hnd; exact hnd.1
        have sto : Sto (envF L cdv) "row" := .inr ⟨rfl, _, rfl⟩
        refine xs_cons (x_assign O sto (e_sub (e_attr tp (e_loc O g2 ⟨218, wd, .ref nd, .var (by rw [getM2 hl.1]; exact getM1), c218, (k.attr (218, "named") (by decide)).1, s.named, rfl, ?_⟩))))
        unfold named
        walk_at "mine"
        refine s_dict (.var (by show getM nd (_ :: _ :: _) = _; rw [getM2 hl.2, getM2 s.ne]; exact getM1)) (s.rows hr D hD) ?_
        have am := (k.attr (175, "methods") (by decide)).1
        have au := (k.attr (175, "underlying") (by decide)).1
        obtain ⟨u, hu⟩ := D.under_eq
        have uk : D.under.known = true := by rw [hu]; rfl
        refine xs_cons (x_if (t_cmp (e_loc O g4 (e_attr tp (e_loc O rfl ⟨175, _, .dict (methsPV D.meths), .fix, c175, am, rfl, rfl, ?_⟩)))))
        refine ⟨_, c_in .fix rfl, ⟨fun hc => ?_, fun hc => ?_⟩⟩
        · rw [methsPV_lookup, Option.isSome_map] at hc
          obtain ⟨m, hm⟩ := Option.isSome_iff_exists.mp hc
          have hmv : (methsPV D.meths).lookup name = some m.pv := by rw [methsPV_lookup, hm]; rfl
          refine xs_cons (x_expr (e_meth tp ?_))
          refine e_loc O g5 ⟨.builtin "list.append", .builtin, m_list (.var getM1) PySem.F.slot_list_append PySem.F.type_list_append, ?_⟩
          walk_at "mine"
          have ask : ∀ {E : Value → Shared → Prop} {pos1 pos2 pos3 pos4 pos5 : Pos} {i : Int} {kk : Nat} {e : List (Str × PV)} {st : List (Addr × MO)} {Post : PV → Sy → Prop}, True := trivial
          refine e_attr tp (e_loc O rfl ⟨175, _, .dict (methsPV D.meths), .fix, c175, am, rfl, rfl, ?_⟩)
          refine e_loc O g4 (s_dict .fix hmv ?_)
          unfold Meth.pv
          walk_at "mine"
          refine e_attr tp (e_loc O rfl ⟨175, _, .dict (methsPV D.meths), .fix, c175, am, rfl, rfl, ?_⟩)
          refine e_loc O g4 (s_dict .fix hmv ?_)
          unfold Meth.pv
          walk_at "mine"
          refine e_attr tp (e_loc O rfl ⟨175, _, .dict (methsPV D.meths), .fix, c175, am, rfl, rfl, ?_⟩)
          refine e_loc O g4 (s_dict .fix hmv ?_)
          unfold Meth.pv
          walk_at "mine"
          refine k_append getM1 (by simp [sizeLine_eq]; omega) ⟨rfl, ?_⟩
          refine xs_nil (xs_nil ⟨fl, ?_, g2, g3, g4, g5⟩)
          rw [hnext]
          simp [setM, Def.memsAll, hm, methMem]
        · rw [methsPV_lookup, Option.isSome_map] at hc
          have hm : D.meths.lookup name = none := by simpa using hc
          refine xs_cons (x_if (t_cmp (e_sub (e_attr tp (e_loc O rfl ⟨175, _, D.under, .fix, c175, au, rfl, uk, ?_⟩)))))
          have nomem : ∀ {x : Str} {c : Addr}, (x, c) ∈ ([] : List (Str × Addr)) → False := fun h => nomatch h
          cases D with
          | ptr x => exact absurd rfl (hnp x)
          | iface fs =>
            have hfs := hF fs rfl
            unfold Def.under ifacePV
            walk_at "mine"
            refine ⟨true, c_eq_str, ⟨fun _ => ?_, fun z => (nomatch z)⟩⟩
            refine xs_cons (x_assign O (.inl rfl) (e_drop (e_nd (e_bin (e_loc O g5 (e_comp (cl := [("steps", L + 2), ("name", L + 1)]) (fe := [("name", .str name), ("steps", .tup steps)]) O ⟨?_, ?_, ?_, rfl⟩ (by rfl) ?_ ?_ ?_))))))
            · intro x c hx
              simp at hx
              rcases hx with ⟨rfl, rfl⟩ | ⟨rfl, rfl⟩ <;> rfl
            · simp
            · intro C x p hx
              rcases look2 hx with ⟨rfl, rfl⟩ | ⟨rfl, rfl⟩ <;> exact ⟨_, rfl, .inl rfl, .inl rfl⟩
            · simp (decide := true)
            · simp (decide := true)
            · refine it_tuple O (e_sub (e_attr tp (e_loc O rfl ⟨175, _, _, .fix, c175, au, rfl, rfl, ?_⟩)))
              unfold Def.under ifacePV
              walk_at "mine"
              refine ⟨_, rfl, .inr ⟨⟨_, _, _, rfl⟩, ?_⟩, ?_⟩
              · intro p hp
                obtain ⟨q, _, rfl⟩ := List.mem_map.mp hp
                exact ⟨_, rfl⟩
              refine ⟨?_, ?_, fun i' acc st => i' ≤ fs.length ∧ st = (fl, .list (foundIn W name ((paths W p i).take j))) :: wst dx nd wd nm ∧ acc = ((fs.take i').filter fun q => q.1 == name).map (faceMem steps name), ?_, ⟨Nat.zero_le _, rfl, by simp⟩, ?_, ?_⟩
              · intro x p hx
                rcases look2 hx with ⟨rfl, rfl⟩ | ⟨rfl, rfl⟩
                · exact g4
                · rfl
              · intro x c hx p hp
                simp at hx
                rcases hx with ⟨rfl, _⟩ | ⟨rfl, _⟩
                · exact hp
                · have : some (PV.str name) = some p := g4.symm.trans hp
                  exact this
              · rintro i' acc st ⟨h1', _, rfl⟩
                rw [List.length_map, sizeLine_eq]
                have := List.length_filter_le (fun q : Str × PV => q.1 == name) (fs.take i')
                rw [List.length_take] at this
                omega
              · intro C E' i' p acc st O' hp hI
                obtain ⟨h1', rfl, h3'⟩ := hI
                rw [List.getElem?_map] at hp
                obtain ⟨⟨x, fv⟩, hq, rfl⟩ := Option.map_eq_some_iff.mp hp
                have hlt : i' < fs.length := by
                  rcases Nat.lt_or_ge i' fs.length with h | h
                  · exact h
                  · rw [List.getElem?_eq_none h] at hq; cases hq
                have htk' : fs.take (i' + 1) = fs.take i' ++ [(x, fv)] := by
                  rw [List.take_add_one, hq]; rfl
                refine a_tup (xs := ["own", "func"]) O' (fun y hy => by simp at hy; rcases hy with rfl | rfl <;> exact .inl rfl) (.cons binds_name (.cons binds_name .nil)) rfl ?_
                refine tests_one (t_cmp ?_)
                refine e_loc O' rfl (e_loc O' rfl ⟨_, c_eq_str, fun hc => ⟨⟨hlt, rfl, ?_⟩, ?_⟩, fun hc => ?_⟩)
                · rw [h3', htk', List.filter_append]
                  simp [hc]
                · intro y p hy
                  rcases look2 hy with ⟨rfl, rfl⟩ | ⟨rfl, rfl⟩ <;> rfl
                · refine e_tup (es_cons (e_str (es_cons (e_loc O' rfl (es_cons (e_loc O' rfl (es_cons (e_loc O' rfl (es_nil ⟨by simp [sizeLine_eq], ⟨hlt, rfl, ?_⟩, ?_⟩)))))))))
                  · rw [h3', htk', List.filter_append]
                    simp [hc, faceMem]
                  · intro y p hy
                    rcases look2 hy with ⟨rfl, rfl⟩ | ⟨rfl, rfl⟩ <;> rfl
              · rintro acc st ⟨_, rfl, rfl⟩
                have hfl := List.length_filter_le (fun q : Str × PV => q.1 == name) fs
                refine b_laddM getM1 (by simp [sizeLine_eq]; omega) fun fl2 hnd2 => ⟨fl, ?_⟩
                have hne2 : fl2 ≠ fl := by simp at hnd2; exact hnd2.1.1
                refine xs_nil (xs_nil (xs_nil ⟨fl2, ?_, g2, g3, g4, rfl⟩))
                rw [hnext]
                simp [delM, hne2, Def.memsAll, hm]
          | struct rows ms =>
            have hrows : rows.length ≤ 8 := hR
            unfold Def.under structPV
            walk_at "mine"
            refine ⟨false, c_eq_str, ⟨fun z => (nomatch z), fun _ => ?_⟩⟩
            have hu2 : (Def.struct rows ms).under = .tup [.str "struct", .tup (rows.map rowPV)] := rfl
            refine xs_cons (x_comp (cl := [("row", L + 3), ("name", L + 1)]) (fe := [("row", Def.row hr (.struct rows ms)), ("name", .str name)]) O ⟨?_, ?_, ?_, rfl⟩ (by rfl) ?_ ?_ rfl (by rfl) ?_)
            · intro x c hx
              simp at hx
              rcases hx with ⟨rfl, rfl⟩ | ⟨rfl, rfl⟩ <;> rfl
            · simp
            · intro C x p hx
              rcases look2 hx with ⟨rfl, rfl⟩ | ⟨rfl, rfl⟩ <;> exact ⟨_, rfl, .inl rfl, .inl rfl⟩
            · simp (decide := true)
            · simp (decide := true)
            refine it_range O tp (k.blt ("range", .type "range") (by simp [bltList])) rfl rfl (e_call tp cl (es_cons (e_sub (e_attr tp (e_loc O rfl ⟨175, _, _, .fix, c175, au, rfl, rfl, ?_⟩)))))
            rw [hu2]
            walk_at "mine"
            refine k_len_tup (by simp; omega) ⟨rows.length, by simp, by omega, ?_⟩
            have hrr : ((List.range rows.length).map fun i : Nat => PV.int (i : Int)).length = rows.length := by simp
            refine ⟨?_, ?_, fun i' acc st => i' ≤ rows.length ∧ st = (fl, .list (foundIn W name ((paths W p i).take j))) :: wst dx nd wd nm ∧ acc = (fieldsAll (rows.take i') name 0).map fun q => .int q.1, ?_, ⟨Nat.zero_le _, rfl, by simp [fieldsAll]⟩, ?_, ?_⟩
            · intro x p hx
              rcases look2 hx with ⟨rfl, rfl⟩ | ⟨rfl, rfl⟩
              · rfl
              · exact g4
            · intro x c hx p hp
              simp at hx
              rcases hx with ⟨rfl, _⟩ | ⟨rfl, _⟩
              · exact hp
              · have : some (PV.str name) = some p := g4.symm.trans hp
                exact this
            · rintro i' acc st ⟨h1', _, rfl⟩
              rw [List.length_map, sizeLine_eq]
              have := fieldsAll_len (name := name) (r := rows.take i') 0
              rw [List.length_take] at this
              omega
            · intro C E' i' z acc st O' hz hI
              obtain ⟨h1', rfl, h3'⟩ := hI
              have hlt : i' < rows.length := by
                rcases Nat.lt_or_ge i' rows.length with h | h
                · exact h
                · rw [List.getElem?_eq_none (by rw [hrr]; exact h)] at hz; cases hz
              have hz' : z = .int i' := by
                rw [List.getElem?_map, List.getElem?_range hlt] at hz
                exact (Option.some.inj hz).symm
              subst hz'
              obtain ⟨⟨x, rt⟩, hget⟩ : ∃ q, rows[i']? = some q := ⟨_, List.getElem?_eq_getElem hlt⟩
              have htk' := fieldsAll_take (name := name) (k := 0) hget
              refine a_name O' (.inl rfl) (tests_one (t_cmp (e_sub (e_sub (e_sub (e_attr tp (e_loc O' rfl ⟨175, _, _, .fix, c175, au, rfl, rfl, ?_⟩)))))))
              rw [hu2]
              walk_at "mine"
              refine s_tup (i := i') (p := rowPV (x, rt)) (by rw [List.getElem?_map, hget]; rfl) (by simp; omega) ?_
              unfold rowPV
              walk_at "mine"
              refine ⟨_, c_eq_str, fun hc => ⟨⟨hlt, rfl, ?_⟩, ?_⟩, fun hc => ?_⟩
              · rw [h3', htk', if_neg (by rw [hc]; decide)]; simp
              · intro y p hy
                rcases look2 hy with ⟨rfl, rfl⟩ | ⟨rfl, rfl⟩ <;> rfl
              · refine e_loc O' rfl ⟨⟨hlt, rfl, ?_⟩, ?_⟩
                · rw [h3', htk', if_pos hc]; simp
                · intro y p hy
                  rcases look2 hy with ⟨rfl, rfl⟩ | ⟨rfl, rfl⟩ <;> rfl
            · rintro acc st ⟨_, rfl, rfl⟩
              rw [hrr, List.take_length]
              refine xs_cons (x_assign O (.inl rfl) (e_drop (e_nd (e_bin (e_loc O g5 (e_comp (cl := [("steps", L + 2), ("row", L + 3)]) (fe := [("steps", .tup steps), ("row", Def.row hr (.struct rows ms))]) O ⟨?_, ?_, ?_, rfl⟩ (by rfl) ?_ ?_ ?_))))))
              · intro x c hx
                simp at hx
                rcases hx with ⟨rfl, rfl⟩ | ⟨rfl, rfl⟩ <;> rfl
              · simp
              · intro C x p hx
                rcases look2 hx with ⟨rfl, rfl⟩ | ⟨rfl, rfl⟩ <;> exact ⟨_, rfl, .inl rfl, .inl rfl⟩
              · simp (decide := true)
              · simp (decide := true)
              refine it_list O (e_loc O rfl ⟨_, rfl, .inl ⟨_, _, rfl⟩, ?_⟩)
              have hfl := fieldsAll_len (name := name) (r := rows) 0
              refine ⟨?_, ?_, fun i' acc st => i' ≤ (fieldsAll rows name 0).length ∧ st = (fl, .list (foundIn W name ((paths W p i).take j))) :: wst dx nd wd nm ∧ acc = ((fieldsAll rows name 0).take i').map (fieldMem steps), ?_, ⟨Nat.zero_le _, rfl, by simp⟩, ?_, ?_⟩
              · intro x p hx
                rcases look2 hx with ⟨rfl, rfl⟩ | ⟨rfl, rfl⟩ <;> rfl
              · intro x c hx p hp
                simp at hx
                rcases hx with ⟨rfl, _⟩ | ⟨rfl, _⟩ <;> exact hp
              · rintro i' acc st ⟨h1', _, rfl⟩
                rw [List.length_map, sizeLine_eq, List.length_take]
                omega
              · intro C E' i' z acc st O' hz hI
                obtain ⟨h1', rfl, h3'⟩ := hI
                rw [List.getElem?_map] at hz
                obtain ⟨⟨q1, rt⟩, hq, rfl⟩ := Option.map_eq_some_iff.mp hz
                have hlt : i' < (fieldsAll rows name 0).length := by
                  rcases Nat.lt_or_ge i' (fieldsAll rows name 0).length with h | h
                  · exact h
                  · rw [List.getElem?_eq_none h] at hq; cases hq
                have htk' : (fieldsAll rows name 0).take (i' + 1) = (fieldsAll rows name 0).take i' ++ [(q1, rt)] := by rw [List.take_add_one, hq]; rfl
                obtain ⟨i2, x, hx, h12⟩ := fieldsAll_mem (List.mem_of_getElem? hq)
                have : i2 = q1 := by simpa using h12.symm
                subst this
                have hi2 : i2 < rows.length := by
                  rcases Nat.lt_or_ge i2 rows.length with h | h
                  · exact h
                  · rw [List.getElem?_eq_none h] at hx; cases hx
                refine a_name O' (.inl rfl) (tests_nil ⟨fun z => (nomatch z), fun _ => ?_⟩)
                refine e_tup (es_cons (e_str (es_cons (e_bin (e_loc O' rfl ?_)))))
                walk_at "mine"
                refine b_tadd (by simp [sizeLine_eq]; omega) ?_
                walk_at "mine"
                refine e_attr tp (e_loc O' rfl ⟨175, _, _, .fix, c175, au, rfl, rfl, ?_⟩)
                rw [hu2]
                walk_at "mine"
                refine s_tup (i := i2) (p := rowPV (x, rt)) (by rw [List.getElem?_map, hx]; rfl) (by simp; omega) ?_
                unfold rowPV
                walk_at "mine"
                refine ⟨⟨hlt, rfl, ?_⟩, ?_⟩
                · rw [h3', htk']; simp [fieldMem, stepPV]
                · intro y p hy
                  rcases look2 hy with ⟨rfl, rfl⟩ | ⟨rfl, rfl⟩ <;> rfl
              · rintro acc st ⟨_, rfl, rfl⟩
                refine b_laddM getM1 (by simp [sizeLine_eq]; omega) fun fl2 hnd2 => ⟨fl, ?_⟩
                have hne2 : fl2 ≠ fl := by simp at hnd2; exact hnd2.1.1
                refine xs_nil (xs_nil (xs_nil ⟨fl2, ?_, g2, g3, g4, rfl⟩))
                rw [hnext]
                simp [delM, hne2, Def.memsAll, hm]
      · obtain ⟨env', st⟩ := σ'
        obtain ⟨fl, g1, g2, g3, g4, g5⟩ := hI
        dsimp only at g1 g2 g3 g4 g5
        have hall : (paths W p i).take ((paths W p i).map pathPV).length = paths W p i := by simp
        rw [hall] at g1
        subst g1
        refine xs_cons (x_if (t_cmp (e_loc O g5 (e_list (es_nil ⟨by simp [sizeLine_eq], _, c_ne_nil O (.var getM1) rfl, ⟨fun hc => ?_, fun hc => ?_⟩⟩)))))
        · refine xs_cons (x_ret (e_frz (e_loc O g5 ⟨fl, _, .list (foundIn W name (paths W p i)), getM1, .ref, ?_⟩)))
          refine done_st ?_ s.ne (by simp [delM])
          rw [lawFound_at hi h5 (fun z => by
            have z' : foundIn W name (paths W p i) = [] := z
            rw [z'] at hc; cases hc)]
          rfl
        · refine T.drop fl (xs_nil (xs_nil ⟨by simp [delM], g2, g3, g4, fun j' hj' => ?_⟩))
          rcases Nat.lt_or_ge j' i with h | h
          · exact h5 j' h
          · have : j' = i := by omega
            subst this
            have hc' : (foundIn W name (paths W p j')).isEmpty = true := by
              cases q : (foundIn W name (paths W p j')).isEmpty with
              | true => rfl
              | false => rw [q] at hc; cases hc
            exact List.isEmpty_iff.mp hc'
    · obtain ⟨env, st⟩ := σ'
      obtain ⟨h1, h2, h3, h4, h5⟩ := hI
      dsimp only at h1 h2 h3 h4
      subst h1
      rw [hrl] at h5
      refine xs_cons (x_ret (e_list ?_))
      walk_at "mine"
      exact done_ro (by rw [lawFound_none h5]) s.ne
end
end Mine
end
section
open PySem PySem.W PySem.Spec PySem.Calls PyProof.Rows
namespace Mine
/-! ChanError.__init__ -/
local macro_rules | `(tactic| walk_at "mine") => `(tactic| repeat (first
  | with_reducible refine es_nil ?_
  | (with_reducible refine es_cons ?_ ?he; (case he => with_unfolding_all rfl))
  | with_reducible refine e_str ?_
  | with_reducible refine e_int ?_
  | with_reducible refine e_bool ?_
  | with_reducible refine e_none ?_
  | with_reducible refine e_tup ?_
  | with_reducible refine e_sub ?_
  | (with_reducible refine s_tup0 ?_ ?hl ?hs; (case hl => first | (simp; done) | (simp; omega) | omega); (case hs => (intro _ _; with_unfolding_all rfl)))
  | (with_reducible refine s_tup1 ?_ ?hl ?hs; (case hl => first | (simp; done) | (simp; omega) | omega); (case hs => (intro _ _; with_unfolding_all rfl)))
  | (with_reducible refine s_tup2 ?_ ?hl ?hs; (case hl => first | (simp; done) | (simp; omega) | omega); (case hs => (intro _ _; with_unfolding_all rfl)))
  | (with_reducible refine And.intro (show List.length _ ≤ sizeLine from ?hz) ?_; (case hz => simp [sizeLine_eq]))
  | with_reducible refine thn_ret ?_
  | refine e_loc (by assumption) rfl ?_))

set_option maxHeartbeats 1000000
noncomputable abbrev bm52 : List Value := [.ref 39, .type "Exception", .type "BaseException", .type "object"]
/-- what is asked of K for the exception -/
structure KOk3 (K : Frag) : Prop where
  ex : ExK K 52 bm52
  f36 : ∃ oc od doc pm an cdv ct osl, K.lookup 36 = some ⟨oc, od, .func (fnX "__init__" "ChanError.__init__" (stP (clsB 2 0)) (stB (clsB 2 0)) (stS (clsB 2 0)) [] (.ref 29) .none doc pm an cdv ct), osl⟩ ∧ codeIn K cdv "ChanError.__init__" = true
  f29 : ∃ o n t, K.lookup 29 = some o ∧ o.data = .seq #[.int 0 t] n
  init : findIn K (.ref 52) "__init__" = some (some (.ref 36))
  t36 : typeIn K (.ref 36) = some (.type "function")
  tkm : takerIn K 52 "message" = some none
  tks : takerIn K 52 "spot" = some none
  gex : nsIn K mainGlobals "Exception" = some none
  gnf : nsIn K mainGlobals "NameFault" = some (some (.ref 52))
  knf : keepIn K (.ref 52) = true
  fin : findCls K (.type "Exception") (.type "type") "__init__" = some (.val (.builtin "Exception.__init__"))
theorem meta_Exc : typeOf (.type "Exception") = pure (.type "type") := by kernel_rfl
section
variable {prog : Program} {w : World} {b₀ : Heap} {K : Frag} {n : Nat}
theorem fn_exc_init (k3 : KOk3 K) (tp : Tp b₀ K) {e : Addr} {m : Str} :
    FnT prog w b₀ (n + 2) (.ref 36) [.ref e, .str m] [(e, .raw (ExI 52 none))] fun r st' => r = .none ∧ ∃ dx, st' = [(e, .raw (ExI 52 (some dx)))] := by
  obtain ⟨oc, od, doc, pm, an, cdv, ct, osl, ho, hc⟩ := k3.f36
  obtain ⟨o, k, t, ho2, hd2⟩ := k3.f29
  refine FnT.mk (env₀ := [("self", .ref e), ("message", .str m), ("spot", .int 0)]) tp ho hc (fun s b vs X _ _ rs => ?_) (by simp (decide := true)) (fun m x hx => ?_) (fun m => List.nodup_nil) (fun A outer L E O => ?_) rfl rfl rfl
  · obtain ⟨v, vs', rfl, r1, r2⟩ := rs.cons_inv
    obtain ⟨v2, vs', rfl, r3, r4⟩ := r2.cons_inv
    obtain rfl := r4.nil_inv
    exact ⟨[("self", v), ("message", v2), ("spot", .int 0 t)], binds_K X rfl ho2 hd2 rfl rfl, ⟨v, _, rfl, r1, ⟨v2, _, rfl, r3, ⟨.int 0 t, _, rfl, Rep.mkInt, rfl⟩⟩⟩⟩
  · simp at hx; rcases hx with rfl | rfl | rfl <;> exact .inl rfl
  · refine xs_cons (x_expr (e_methC O tp k3.gex PyProof.Rows.Boot.«Exception» (by decide) rfl meta_Exc (by decide +kernel) k3.fin rfl KeepsOk.builtin ?_))
    walk_at "mine"
    refine k_excinit (od := none) tp k3.ex getM1 ?_
    refine ⟨rfl, ?_⟩
    refine xs_st [(e, .raw (ExI 52 none))] (by simp [setM]) ?_
    refine xs_cons (x_setexc tp k3.ex k3.tkm ?_)
    walk_at "mine"
    refine ⟨e, rfl, .inl ⟨getM1, fun dx hne => ?_⟩⟩
    refine xs_st [(dx, .dict [("message", .str m)]), (e, .raw (ExI 52 (some dx)))] (by simp [setM, setK]) ?_
    refine xs_cons (x_setexc tp k3.ex k3.tks ?_)
    walk_at "mine"
    refine ⟨e, rfl, .inr ⟨dx, _, by rw [getM2 hne]; exact getM1, getM1, by simp, ?_⟩⟩
    refine xs_nil ?_
    refine ⟨[(e, .raw (ExI 52 (some dx)))], ⟨rfl, dx, rfl⟩, fun q hq => ?_, by simp⟩
    simp at hq; subst hq
    simp [setM, hne]
end
end Mine
end
section
open PySem PySem.W PySem.Spec PySem.Calls PyProof.Rows
namespace Mine
/-! find_member -/
local macro_rules | `(tactic| walk_at "mine") => `(tactic| repeat (first
  | with_reducible refine es_nil ?_
  | (with_reducible refine es_cons ?_ ?he; (case he => with_unfolding_all rfl))
  | with_reducible refine e_str ?_
  | with_reducible refine e_int ?_
  | with_reducible refine e_bool ?_
  | with_reducible refine e_none ?_
  | with_reducible refine e_tup ?_
  | with_reducible refine e_sub ?_
  | (with_reducible refine s_tup0 ?_ ?hl ?hs; (case hl => first | (simp; done) | (simp; omega) | omega); (case hs => (intro _ _; with_unfolding_all rfl)))
  | (with_reducible refine s_tup1 ?_ ?hl ?hs; (case hl => first | (simp; done) | (simp; omega) | omega); (case hs => (intro _ _; with_unfolding_all rfl)))
  | (with_reducible refine s_tup2 ?_ ?hl ?hs; (case hl => first | (simp; done) | (simp; omega) | omega); (case hs => (intro _ _; with_unfolding_all rfl)))
  | (with_reducible refine And.intro (show List.length _ ≤ sizeLine from ?hz) ?_; (case hz => simp [sizeLine_eq]))
  | with_reducible refine thn_ret ?_
  | refine e_loc (by assumption) rfl ?_))

set_option maxHeartbeats 1000000
/-- the members that a level holds -/
noncomputable def memsHere (W : Str → Option Def) (name : Str) (h : Here) : List PV := h.flatMap fun r => (r.1.toDef W).mems r.2 name
/-- the first level that holds some -/
noncomputable def search (W : Str → Option Def) (name : Str) : Nat → Here → List Str → Option (List PV)
  | 0, _, _ => none
  | n + 1, h, seen => if h = [] then some [] else if memsHere W name h = [] then search W name n (hereNext W (seenAfter seen h) h) (seenAfter seen h) else some (memsHere W name h)
/-- what find_member gives: none is a NameFault -/
noncomputable def isField : PV → Bool
  | .tup (.str s :: _) => s == "field"
  | _ => false
noncomputable def foundOf (ptr : Bool) : List PV → Option PV
  | [] => some .none
  | [p] => some (if ptr && !isField p then .none else p)
  | _ => none
/-! levels stay small -/
structure TOk (W : Str → Option Def) (t : Told) : Prop where
  ok : t.ok W
  rows : ∀ rows ms, t.toDef W = .struct rows ms → rows.length ≤ 8
  faces : ∀ fs, t.toDef W = .iface fs → fs.length ≤ 8
  embs : ∀ q ∈ (t.toDef W).embs, (W q.1).isSome
theorem TOk.name {W : Str → Option Def} (hW : WOk W) {p : Str} (h : (W p).isSome) : TOk W (.name p) := by
  obtain ⟨d, hd⟩ := Option.isSome_iff_exists.mp h
  have e : (Told.name p).toDef W = d := by simp [Told.toDef, hd]
  refine ⟨h, fun rows ms q => (hW.rows p rows ms (by rw [hd, ← e, q])).1, fun fs q => hW.faces p fs (by rw [hd, ← e, q]), fun q hq => ?_⟩
  rw [e] at hq
  obtain ⟨d', h', _⟩ := hW.closed p d hd q hq
  rw [h']; rfl
structure Fit (W : Str → Option Def) (i : Nat) (h : Here) (seen : List Str) : Prop where
  ok : ∀ r ∈ h, TOk W r.1 ∧ r.2.length ≤ i
  len : h.length ≤ 8 ^ i
  nd : seen.Nodup
  sl : seen.length ≤ 8 ^ i
theorem embs_le {W : Str → Option Def} {t : Told} (h : TOk W t) : (t.toDef W).embs.length ≤ 8 := Def.embs_len h.rows
theorem next_len {W : Str → Option Def} {s : List Str} {h : Here} (hk : ∀ r ∈ h, TOk W r.1) : (hereNext W s h).length ≤ h.length * 8 :=
  flatMap_len fun r hr => by
    unfold nextOf
    rw [List.length_map]
    exact Nat.le_trans (List.length_filter_le _ _) (embs_le (hk r hr))
theorem Fit.step {W : Str → Option Def} (hW : WOk W) {i : Nat} {h : Here} {seen s' : List Str} (f : Fit W i h seen) : Fit W (i + 1) (hereNext W s' h) (seenAfter seen h) := by
  have e : 8 ^ (i + 1) = 8 ^ i * 8 := Nat.pow_succ ..
  refine ⟨fun r hr => ?_, ?_, seenAfter_nodup f.nd, ?_⟩
  · obtain ⟨r0, h0, hr⟩ := List.mem_flatMap.mp hr
    obtain ⟨q, hq, rfl⟩ := List.mem_map.mp hr
    have hq' := (List.mem_filter.mp hq).1
    obtain ⟨a, b⟩ := f.ok r0 h0
    refine ⟨TOk.name hW (a.embs q hq'), ?_⟩
    simp; exact b
  · have := next_len (s := s') (fun r hr => (f.ok r hr).1)
    have := f.len
    omega
  · have := seenAfter_len (h := h) (seen := seen)
    have := f.len; have := f.sl
    omega
theorem mems_len {W : Str → Option Def} {t : Told} (h : TOk W t) (steps : List PV) (name : Str) : ((t.toDef W).mems steps name).length ≤ 8 := by
  unfold Def.mems
  split
  · simp
  · split
    · rename_i rows ms e
      cases (fieldAt rows name 0) <;> simp
    · rename_i fs e
      rw [List.length_map]
      exact Nat.le_trans (List.length_filter_le _ _) (h.faces fs e)
    · simp
theorem memsHere_len {W : Str → Option Def} {name : Str} {h : Here} (hk : ∀ r ∈ h, TOk W r.1) : (memsHere W name h).length ≤ h.length * 8 :=
  flatMap_len fun r hr => mems_len (hk r hr) _ _
theorem memsHere_take {W : Str → Option Def} {name : Str} {h : Here} {i : Nat} {r : Told × List PV} (e : h[i]? = some r) : memsHere W name (h.take (i + 1)) = memsHere W name (h.take i) ++ (r.1.toDef W).mems r.2 name := by
  unfold memsHere
  rw [List.take_add_one, e, List.flatMap_append]; simp
section
variable {prog : Program} {w : World} {b₀ : Heap} {K : Frag} {n : Nat}
theorem KFn.mkX {C : Addr} {PostX : List (Addr × MO) → Prop} {f : Addr} {name qual : Str} {st : Stmt} {ps : List PV} {env₀ : List (Str × PV)} {S : List (Addr × MO)} {Post : PV → List (Addr × MO) → Prop}
    (k : KFn K f name qual st) (tp : Tp b₀ K) (xs : List Str) (he : env₀ = xs.zip ps)
    (hbind : ∀ doc pm an cdv ct (vs : List Value), vs.length = ps.length → bindArgs (fnX name qual (stP st) (stB st) (stS st) [] .none .none doc pm an cdv ct) ⟨vs, []⟩ = pure (xs.zip vs))
    (hnd : xs.Nodup)
    (hkind : ∀ m, ∀ x ∈ xs, (stS st).names.lookup x = some .local ∨ ((stS st).names.lookup x = some .cell ∧ ((cellsFrom m (stS st).names []).lookup x).isSome = true))
    (hcn : ∀ m, ((cellsFrom m (stS st).names []).map (·.1)).Nodup)
    (hbody : ∀ (A : Around) (outer : List Env) (L : Addr) (cdv : Value), (fxOf prog w b₀ A outer (envX qual (stS st) L f cdv (cellsFrom (L + 1) (stS st).names []))).Ok n →
      ExsX (fxOf prog w b₀ A outer (envX qual (stS st) L f cdv (cellsFrom (L + 1) (stS st).names []))) (stB st) ⟨env₀, S⟩ (Done Post) (DoneX C L PostX))
    (hco : (stS st).isCoroutine = false) (hgen : (stS st).isGenerator = false) (hk : (stS st).kind = .function) :
    FnTX prog w b₀ (n + 1) (.ref f) ps S Post C PostX := by
  obtain ⟨oc, od, doc, pm, an, cdv, ct, osl, ho, hc⟩ := k
  subst he
  exact FnTX.mk tp ho hc (fun s b vs _ _ _ rs => binds_plain rs (hbind doc pm an cdv ct vs rs.length) s) (zip_sub.nodup hnd) (fun m x hx => hkind m x.1 (zip_sub.subset (List.mem_map_of_mem hx))) hcn (fun A outer L => hbody A outer L cdv) hco hgen hk

end
section
variable {Φ : Fx} {E : Value → Shared → Prop} {σ : Sy} {n : Nat} {K : Frag}
/-- Levels(world, told) -/
theorem k_levels (k : KOk K) (O : Φ.Ok (n + 4)) (tp : Tp Φ.b₀ K) {dx : Addr} {t : Told} {Post : PV → Sy → Prop} (h : ∀ lx sn, Post (.inst 137 lx) ⟨σ.env, (sn, .dict []) :: (lx, .dict (lvD dx [(t, [])] sn)) :: σ.st⟩) : CallT Φ E (.ref 137) [.inst 218 dx, t.pv] σ Post :=
  k_make (Mid := fun lx st' => ∃ sn, st' = [(sn, .dict []), (lx, .dict (lvD dx [(t, [])] sn))]) (st := []) (rest := σ.st) O tp (k.cls 137 (by decide)).mki (k.meth (137, "__init__", 127) (by decide)).1 (beq_iff_eq.mp (k.meth (137, "__init__", 127) (by decide)).2.1) (.refl _)
    (fun dx => fn_levels_init k tp) fun dx st' e => by obtain ⟨sn, rfl⟩ := e; exact h dx sn
end
end Mine
end
section
open PySem PySem.W PySem.Spec PySem.Calls PyProof.Rows
namespace Mine
/-! find_member, walked -/
local macro_rules | `(tactic| walk_at "mine") => `(tactic| repeat (first
  | with_reducible refine es_nil ?_
  | (with_reducible refine es_cons ?_ ?he; (case he => with_unfolding_all rfl))
  | with_reducible refine e_str ?_
  | with_reducible refine e_int ?_
  | with_reducible refine e_bool ?_
  | with_reducible refine e_none ?_
  | with_reducible refine e_tup ?_
  | with_reducible refine e_sub ?_
  | (with_reducible refine s_tup0 ?_ ?hl ?hs; (case hl => first | (simp; done) | (simp; omega) | omega); (case hs => (intro _ _; with_unfolding_all rfl)))
  | (with_reducible refine s_tup1 ?_ ?hl ?hs; (case hl => first | (simp; done) | (simp; omega) | omega); (case hs => (intro _ _; with_unfolding_all rfl)))
  | (with_reducible refine s_tup2 ?_ ?hl ?hs; (case hl => first | (simp; done) | (simp; omega) | omega); (case hs => (intro _ _; with_unfolding_all rfl)))
  | (with_reducible refine And.intro (show List.length _ ≤ sizeLine from ?hz) ?_; (case hz => simp [sizeLine_eq]))
  | with_reducible refine thn_ret ?_
  | refine e_loc (by assumption) rfl ?_))

set_option maxHeartbeats 1000000
section
variable {Φ : Fx} {σ : Sy} {n : Nat}
theorem TX.nd {α β : Type} {m : Sem α} {R : Bs → α → β → Prop} {Post : β → Sy → Prop} {PX : PV → Sy → Prop} (h : (σ.st.map (·.1)).Nodup → TX Φ m R σ Post PX) : TX Φ m R σ Post PX :=
  TX.mk fun b s Q E C k kx => (h C.nd).run b s Q E C k kx
theorem TX.weak {α β : Type} {σ' : Sy} {m : Sem α} {R : Bs → α → β → Prop} {Post : β → Sy → Prop} {PX : PV → Sy → Prop} (w : Weak σ' σ) (h : TX Φ m R σ' Post PX) : TX Φ m R σ Post PX :=
  TX.mk fun b s Q E C k kx => h.run b s Q E (C.weak w) (fun β σ'' b' h' tk' a p C' X r => k β σ'' b' h' tk' a p C' ((Ext.weak w).trans X) r) fun p σ'' b' h' tk' v q C' X r => kx p σ'' b' h' tk' v q C' ((Ext.weak w).trans X) r
end
theorem TX.monoX {Φ : Fx} {σ : Sy} {α β : Type} {m : Sem α} {R : Bs → α → β → Prop} {Post : β → Sy → Prop} {PX PX' : PV → Sy → Prop} (k : ∀ p σ, PX' p σ → PX p σ) (h : TX Φ m R σ Post PX') : TX Φ m R σ Post PX :=
  TX.mk fun b s Q E C q kx => h.run b s Q E C q fun p σ' b' h' tk' v x => kx p σ' b' h' tk' v (k _ _ x)
section
variable {prog : Program} {w : World} {b₀ : Heap} {K : Frag} {n : Nat}
theorem mem_shape {W : Str → Option Def} {name : Str} {h : Here} {p : PV} (hp : p ∈ memsHere W name h) : ∃ x l, p = .tup (.str x :: l) ∧ l.length ≤ 10 := by
  obtain ⟨r, _, hp⟩ := List.mem_flatMap.mp hp
  unfold Def.mems at hp
  split at hp
  · simp at hp; subst hp; exact ⟨_, _, rfl, by simp⟩
  · split at hp
    · simp at hp
      obtain ⟨q, _, _, rfl⟩ := hp
      exact ⟨_, _, rfl, by simp⟩
    · obtain ⟨q, _, rfl⟩ := List.mem_map.mp hp
      exact ⟨_, _, rfl, by simp⟩
    · cases hp
noncomputable def givenBy (W : Str → Option Def) (l : Look) (f : List PV) : Option PV :=
  match startOf W l with
  | none => some .none
  | some (_, ptr) => foundOf ptr f
theorem fn_find_member (k : KOk K) (k3 : KOk3 K) (tp : Tp b₀ K) {W : Str → Option Def} {dx nd : Addr} {wd nm : List (Str × PV)} (s : WS W dx nd wd nm) (hW : WOk W) {l : Look} (hl : l.ok W) {m : Nat} (hm : m ≤ 5) {name : Str} (hnl : name.length ≤ 1000) {f : List PV}
    (hf : ∀ t ptr, startOf W l = some (t, ptr) → TOk W t ∧ search W name m [(t, [])] [] = some f) :
    FnTX prog w b₀ (n + 8) (.ref 155) [.inst 218 dx, l.pv, .str name] (wst dx nd wd nm) (fun r st' => st' = wst dx nd wd nm ∧ givenBy W l f = some r) 52 (fun st' => st' = wst dx nd wd nm ∧ givenBy W l f = none) := by
  refine k.f155.mkX tp ["world", "told", "name"] rfl (fun doc pm an cdv ct vs hv => ?_) (by decide) (fun m x hx => ?_) (fun m => List.nodup_nil) (fun A outer L cdv O => ?_) rfl rfl rfl
  · obtain ⟨a, b, c, rfl⟩ := len3 hv
    rfl
  · simp at hx; rcases hx with rfl | rfl | rfl <;> exact .inl rfl
  · have c137 := k.cls 137 (by decide)
    have O6 := O
    refine xx_of fun E => x_assign O (.inl rfl) (e_call tp (k.callee O tp "start_type" 148 (by decide) rfl) ?_)
    show Evs _ _ _ ⟨[("world", .inst 218 dx), ("told", l.pv), ("name", .str name)], wst dx nd wd nm⟩ _
    walk_at "mine"
    refine callT_ro O (fn_start_type k tp s hl) (fun _ h => h) (nodup2 s.ne) fun r hr => ?_
    subst hr
    refine xx_cons (xx_if fun E => t_cmp ?_)
    walk_at "mine"
    cases hst : startOf W l with
    | none =>
      have hg : givenBy W l f = some .none := by unfold givenBy; rw [hst]
      refine ⟨true, c_is_none rfl, ⟨fun _ => ?_, fun z => (nomatch z)⟩⟩
      refine xx_of fun E => x_ret ?_
      walk_at "mine"
      exact ⟨wst dx nd wd nm, ⟨rfl, hg⟩, fun q hq => hq, nodup2 s.ne⟩
    | some tq =>
      obtain ⟨t, ptr⟩ := tq
      obtain ⟨tok, hs⟩ := hf t ptr hst
      have hg : givenBy W l f = foundOf ptr f := by unfold givenBy; rw [hst]
      refine ⟨false, c_is_none rfl, ⟨fun z => (nomatch z), fun _ => ?_⟩⟩
      refine xx_nil ?_
      refine xx_of fun E => x_assign O (.inl rfl) (e_call tp (k.callee O tp "Levels" 137 (by decide) rfl) ?_)
      unfold startPV
      walk_at "mine"
      refine k_levels (n := n + 3) k O tp fun lx sn => ?_
      refine TX.nd fun hnd => ?_
      have ap : Apart lx sn dx nd := by
        have hnd' : ([sn, lx, dx, nd] : List Addr).Nodup := hnd
        simp at hnd'
        obtain ⟨⟨h1, h2, h3⟩, ⟨h4, h5⟩, h6⟩ := hnd'
        exact ⟨Ne.symm h1, h4, h5, h2, h3, h6⟩
      refine TX.weak (σ' := ⟨[("levels", .inst 137 lx), ("begun", .tup [t.pv, .bool ptr]), ("name", .str name), ("world", .inst 218 dx)], lst lx sn dx nd [(t, [])] [] wd nm⟩) ⟨?_, ?_, ap.nd⟩ ?_
      · intro q hq; simp at hq; rcases hq with rfl | rfl | rfl | rfl <;> rfl
      · intro q hq; simp at hq ⊢; rcases hq with rfl | rfl | rfl | rfl <;> simp [seenPV]
      refine xx_cons (TX.monoX (PX' := OutX 52 L fun more => (∃ ex, more = ex ++ wst dx nd wd nm) ∧ givenBy W l f = none) (fun p σ hp => ?_) (xx_while O rfl rfl (fun m' σ => ∃ i h seen, i + m' = m ∧ Fit W i h seen ∧ search W name m' h seen = some f ∧ σ.st = lst lx sn dx nd h seen wd nm ∧
        σ.env.lookup ("levels" : Str) = some (.inst 137 lx) ∧ σ.env.lookup ("begun" : Str) = some (.tup [t.pv, .bool ptr]) ∧ σ.env.lookup ("name" : Str) = some (.str name) ∧ σ.env.lookup ("world" : Str) = some (.inst 218 dx))
        m ⟨0, [(t, [])], [], by omega, ⟨fun r hr => ?_, by simp, by simp, by simp⟩, hs, rfl, rfl, rfl, rfl, rfl⟩ fun m' σ' hI E' => ?_))
      · obtain ⟨e, T, more, rfl, hst', ⟨⟨ex, rfl⟩, hno⟩, hnd'⟩ := hp
        refine ⟨e, T, wst dx nd wd nm, rfl, ⟨rfl, hno⟩, fun q hq => ?_, ?_⟩
        · rw [hst']; simp at hq; rcases hq with rfl | rfl | rfl | rfl <;> simp
        · rw [hst'] at hnd'
          refine List.Nodup.sublist ?_ hnd'
          refine List.Sublist.map _ ?_
          exact ((List.sublist_append_right ex _).cons_cons _).cons_cons _
      · simp at hr; subst hr; exact ⟨tok, Nat.le_refl _⟩
      · obtain ⟨env, st⟩ := σ'
        obtain ⟨i, h, seen, him, fit, hsr, h1, h2, h3, h4, h5⟩ := hI
        dsimp only at h1 h2 h3 h4 h5
        subst h1
        refine t_cmp (e_attr tp (e_loc O h2 ?_))
        refine ⟨137, _, .list (herePV h), .var getM1, c137, (k.attr (137, "here") (by decide)).1, rfl, rfl, ?_⟩
        refine e_list (es_nil ⟨by simp, ?_⟩)
        refine ⟨!(herePV h).isEmpty, c_ne_nil O .fix rfl, ⟨fun hc => ?_, fun hc => ?_⟩⟩
        · have hne : h ≠ [] := fun z => by subst z; cases hc
          cases m' with
          | zero => cases hsr
          | succ m' =>
            have hsr' : (if memsHere W name h = [] then search W name m' (hereNext W (seenAfter seen h) h) (seenAfter seen h) else some (memsHere W name h)) = some f := by
              rw [search, if_neg hne] at hsr; exact hsr
            refine xx_of fun E => x_assign O (.inl rfl) (e_listM (es_nil ⟨by simp, fun fa => ?_⟩))
            refine TX.nd fun hnd2 => ?_
            have hfa : fa ≠ lx ∧ fa ≠ sn ∧ fa ≠ dx ∧ fa ≠ nd := by
              have hn : ([fa, lx, sn, dx, nd] : List Addr).Nodup := hnd2
              simp at hn
              exact ⟨hn.1.1, hn.1.2.1, hn.1.2.2.1, hn.1.2.2.2⟩
            refine xx_of fun E => x_for (it_list O (e_attr tp (e_loc O (by rw [lookup_put, if_neg (by decide)]; exact h2) ?_)))
            refine ⟨137, _, .list (herePV h), .var (by rw [getM2 hfa.1]; exact getM1), c137, (k.attr (137, "here") (by decide)).1, rfl, rfl, _, rfl, .inl ⟨_, _, rfl⟩, ?_⟩
            refine ⟨fun i σ => σ.st = (fa, .list (memsHere W name (h.take i))) :: lst lx sn dx nd h seen wd nm ∧ σ.env.lookup ("found" : Str) = some (.ref fa) ∧ σ.env.lookup ("levels" : Str) = some (.inst 137 lx) ∧ σ.env.lookup ("begun" : Str) = some (.tup [t.pv, .bool ptr]) ∧ σ.env.lookup ("name" : Str) = some (.str name) ∧ σ.env.lookup ("world" : Str) = some (.inst 218 dx),
              ⟨rfl, rfl, by rw [lookup_put, if_neg (by decide)]; exact h2, by rw [lookup_put, if_neg (by decide)]; exact h3, by rw [lookup_put, if_neg (by decide)]; exact h4, by rw [lookup_put, if_neg (by decide)]; exact h5⟩, fun E' j p σ' hp hI => ?_, fun σ' hI => ?_⟩
            · obtain ⟨env', st⟩ := σ'
              obtain ⟨g1, g2, g3, g4, g5, g6⟩ := hI
              dsimp only at g1 g2 g3 g4 g5 g6
              subst g1
              unfold herePV at hp
              rw [List.getElem?_map] at hp
              obtain ⟨⟨t', steps⟩, hr, rfl⟩ := Option.map_eq_some_iff.mp hp
              have tk' := fit.ok _ (List.mem_of_getElem? hr)
              refine a_name O (.inl rfl) ?_
              refine xs_cons (x_expr (e_meth tp (e_loc O (by rw [lookup_put, if_neg (by decide)]; exact g2) ?_)))
              refine ⟨.builtin "list.extend", .builtin, m_list (.var getM1) PySem.F.slot_list_extend PySem.F.type_list_extend, ?_⟩
              refine es_cons (e_call tp (k.callee O tp "members_at" 106 (by decide) rfl) ?_)
              refine es_cons (e_loc O (by rw [lookup_put, if_neg (by decide)]; exact g6) (es_cons (e_loc O rfl (es_cons (e_loc O (by rw [lookup_put, if_neg (by decide)]; exact g5) (es_nil ?_))))))
              refine callT_ro O (fn_members_at (n := n + 5) k tp s tk'.1.ok (steps := steps) (Nat.lt_of_le_of_lt tk'.2 (by omega)) (name := name) fun fs hfs => Nat.lt_of_le_of_lt (tk'.1.faces fs hfs) (by decide)) (fun q hq => .tail _ (.tail _ (.tail _ hq))) (nodup2 s.ne) fun r hr' => ?_
              subst hr'
              refine es_nil ?_
              have l1 := memsHere_len (name := name) (h := h.take j) fun r hr => (fit.ok r (List.mem_of_mem_take hr)).1
              have l2 := mems_len tk'.1 steps name
              have l3 : (h.take j).length ≤ 8 ^ 5 := Nat.le_trans (by rw [List.length_take]; exact Nat.min_le_right _ _) (Nat.le_trans fit.len (Nat.pow_le_pow_right (by omega) (by omega)))
              refine k_extend getM1 (by have : (8 : Nat) ^ 5 = 32768 := by decide
                                        omega) ?_
              refine ⟨rfl, ?_⟩
              refine xs_nil ⟨?_, by rw [lookup_put, if_neg (by decide)]; exact g2, by rw [lookup_put, if_neg (by decide)]; exact g3, by rw [lookup_put, if_neg (by decide)]; exact g4, by rw [lookup_put, if_neg (by decide)]; exact g5, by rw [lookup_put, if_neg (by decide)]; exact g6⟩
              rw [memsHere_take hr]
              simp [setM]
            · obtain ⟨env', st⟩ := σ'
              obtain ⟨g1, g2, g3, g4, g5, g6⟩ := hI
              dsimp only at g1 g2 g3 g4 g5 g6
              rw [show (herePV h).length = h.length by simp [herePV], List.take_length] at g1
              subst g1
              refine xx_cons (xx_if fun E => t_cmp (e_call tp (k.calleeB O tp "len" (.builtin "len") (by simp [bltList]) rfl KeepsOk.builtin rfl) (es_cons (e_loc O g2 (es_nil ?_)))))
              have l1 := memsHere_len (name := name) (h := h) fun r hr => (fit.ok r hr).1
              have l3 : h.length ≤ 8 ^ 5 := Nat.le_trans fit.len (Nat.pow_le_pow_right (by omega) (by omega))
              have l4 : (8 : Nat) ^ 5 = 32768 := by decide
              refine k_len (.var getM1) (by omega) ?_
              refine e_int ?_
              refine ⟨_, c_gt_int, ⟨fun hc => ?_, fun hc => ?_⟩⟩
              · have hc' : 1 < (memsHere W name h).length := by have := of_decide_eq_true hc; omega
                have hne' : memsHere W name h ≠ [] := fun z => by rw [z] at hc'; cases hc'
                rw [if_neg hne'] at hsr'
                have hno : givenBy W l f = none := by
                  rw [hg, ← Option.some.inj hsr']
                  match memsHere W name h, hc' with
                  | _ :: _ :: _, _ => rfl
                refine xx_cons (x_raise O tp k3.ex fun E => e_call tp (callee_g O tp k3.gnf k3.knf rfl) (es_cons (e_bin (e_str (e_loc O g5 (b_sadd (by rw [sizeLine_eq, show (Str.ofString "ambiguous: ").length = 11 from rfl]; omega) (es_nil ?_)))))))
                exact k_exc (n := n + 6) O tp k3.ex k3.init k3.t36 (by simp) (fun e => fn_exc_init k3 tp) fun e st' hmid => by
                  obtain ⟨dx, rfl⟩ := hmid
                  exact ⟨e, dx, _, rfl, rfl, ⟨[_, _, _], rfl⟩, hno⟩
              · refine xx_nil ?_
                refine xx_cons (xx_if fun E => t_cmp (e_loc O g2 (e_list (es_nil ⟨by simp, ?_⟩))))
                refine ⟨_, c_ne_nil O (.var getM1) rfl, ⟨fun hc2 => ?_, fun hc2 => ?_⟩⟩
                · obtain ⟨p, hp1⟩ : ∃ p, memsHere W name h = [p] := by
                    match hq : memsHere W name h with
                    | [] => rw [hq] at hc2; cases hc2
                    | [p] => exact ⟨p, rfl⟩
                    | _ :: _ :: _ => rw [hq] at hc; exact absurd (of_decide_eq_false hc) (by simp; omega)
                  have hf1 : f = [p] := by
                    rw [if_neg (by rw [hp1]; simp), hp1] at hsr'
                    exact (Option.some.inj hsr').symm
                  obtain ⟨hd, tl, rfl, htl⟩ := mem_shape (p := p) (W := W) (name := name) (h := h) (by rw [hp1]; exact .head _)
                  refine xx_of fun E => x_ret (e_ifexp (t_boolop (ta_and (t_bool (e_sub (e_loc O g4 (e_int ?_)))))))
                  refine s_tup (i := 1) rfl (by simp) ?_
                  refine ⟨ptr, rfl, fun hpt => ?_, fun hpt => ?_⟩
                  · refine ta_and (t_cmp (e_sub (e_sub (e_loc O g2 (e_int ?_)))))
                    refine s_listM (i := 0) getM1 (by decide) (by decide) (by rw [hp1]; rfl) ?_
                    refine e_int ?_
                    refine s_tup (i := 0) rfl (by simp; omega) ?_
                    refine e_str ?_
                    refine ⟨_, c_ne_str, fun hc3 => ?_, fun hc3 => ?_⟩
                    · refine ta_and_nil ⟨fun _ => ?_, fun z => (nomatch z)⟩
                      refine e_none ?_
                      refine ⟨wst dx nd wd nm, ⟨rfl, ?_⟩, fun q hq => .tail _ (.tail _ (.tail _ hq)), nodup2 s.ne⟩
                      rw [hg, hf1, hpt]
                      show some (if (true && !(hd == "field")) = true then PV.none else _) = _
                      have : (hd == ("field" : Str)) = false := by simpa using hc3
                      rw [this]; rfl
                    · refine ⟨fun z => (nomatch z), fun _ => ?_⟩
                      refine e_sub (e_loc O g2 (e_int ?_))
                      refine s_listM (i := 0) getM1 (by decide) (by decide) (by rw [hp1]; rfl) ?_
                      refine ⟨wst dx nd wd nm, ⟨rfl, ?_⟩, fun q hq => .tail _ (.tail _ (.tail _ hq)), nodup2 s.ne⟩
                      rw [hg, hf1, hpt]
                      show some (if (true && !(hd == "field")) = true then PV.none else _) = _
                      have : (hd == ("field" : Str)) = true := by simpa using hc3
                      rw [this]; rfl
                  · refine ⟨fun z => (nomatch z), fun _ => ?_⟩
                    refine e_sub (e_loc O g2 (e_int ?_))
                    refine s_listM (i := 0) getM1 (by decide) (by decide) (by rw [hp1]; rfl) ?_
                    refine ⟨wst dx nd wd nm, ⟨rfl, ?_⟩, fun q hq => .tail _ (.tail _ (.tail _ hq)), nodup2 s.ne⟩
                    rw [hg, hf1, hpt]
                    rfl
                · have hz : memsHere W name h = [] := by
                    cases hq : memsHere W name h with
                    | nil => rfl
                    | cons _ _ => rw [hq] at hc2; cases hc2
                  rw [if_pos hz] at hsr'
                  refine xx_nil ?_
                  refine xx_of fun E => x_expr (e_meth0 tp (e_loc O g3 ⟨.ref 134, .of (k.meth (137, "go_on", 134) (by decide)).2.2, m_own tp (.var (by rw [getM2 hfa.1]; exact getM1)) c137 (k.meth (137, "go_on", 134) (by decide)).1 (k.meth (137, "go_on", 134) (by decide)).2.1 rfl, ?_⟩))
                  have hbig : ∀ s' h', h'.length ≤ h.length → (∀ r ∈ h', r ∈ h) → (hereNext W s' h').length ≤ 1000000 := fun s' h' a b => by
                    have := next_len (s := s') (h := h') fun r hr => (fit.ok r (b r hr)).1
                    omega
                  have sl : seen.length ≤ 8 ^ 5 := Nat.le_trans fit.sl (Nat.pow_le_pow_right (by omega) (by omega))
                  refine callT_of O (fn_go_on (n := n + 3) k tp s ap (fun r hr => ⟨(fit.ok r hr).1.ok, Nat.lt_of_le_of_lt (fit.ok r hr).2 (by omega)⟩) (fun r hr rows ms e => Nat.lt_of_le_of_lt ((fit.ok r hr).1.rows rows ms e) (by decide)) fit.nd (by omega) hbig) (st := lst lx sn dx nd h seen wd nm) (rest := [(fa, .list (memsHere W name h))]) (List.perm_append_singleton _ _).symm fun r st' hx => ?_
                  obtain ⟨rfl, rfl⟩ := hx
                  refine ⟨rfl, ?_⟩
                  refine TX.weak (σ' := ⟨[("levels", .inst 137 lx), ("begun", .tup [t.pv, .bool ptr]), ("name", .str name), ("world", .inst 218 dx)], lst lx sn dx nd (hereNext W (seenAfter seen h) h) (seenAfter seen h) wd nm⟩) ⟨?_, fun q hq => List.mem_append_left _ hq, ap.nd⟩ ?_
                  · intro q hq; simp at hq; rcases hq with rfl | rfl | rfl | rfl
                    · exact g3
                    · exact g4
                    · exact g5
                    · exact g6
                  · exact xx_nil ⟨m', Nat.lt_succ_self _, i + 1, _, _, by omega, fit.step hW, hsr', rfl, rfl, rfl, rfl, rfl⟩
        · have hz : h = [] := by
            cases h with
            | nil => rfl
            | cons r h => cases hc
          subst hz
          have hfe : f = [] := by
            cases m' with
            | zero => cases hsr
            | succ m' => rw [search, if_pos rfl] at hsr; exact (Option.some.inj hsr).symm
          subst hfe
          refine xx_of fun E => x_ret ?_
          walk_at "mine"
          refine ⟨wst dx nd wd nm, ⟨rfl, by rw [hg]; rfl⟩, fun q hq => .tail _ (.tail _ hq), nodup2 s.ne⟩
end
end Mine
end
section
open PySem PySem.W PySem.Spec PySem.Calls PyProof.Rows
namespace Mine
/-! _law_told -/
local macro_rules | `(tactic| walk_at "mine") => `(tactic| repeat (first
  | with_reducible refine es_nil ?_
  | (with_reducible refine es_cons ?_ ?he; (case he => with_unfolding_all rfl))
  | with_reducible refine e_str ?_
  | with_reducible refine e_int ?_
  | with_reducible refine e_bool ?_
  | with_reducible refine e_none ?_
  | with_reducible refine e_tup ?_
  | with_reducible refine e_sub ?_
  | (with_reducible refine s_tup0 ?_ ?hl ?hs; (case hl => first | (simp; done) | (simp; omega) | omega); (case hs => (intro _ _; with_unfolding_all rfl)))
  | (with_reducible refine s_tup1 ?_ ?hl ?hs; (case hl => first | (simp; done) | (simp; omega) | omega); (case hs => (intro _ _; with_unfolding_all rfl)))
  | (with_reducible refine s_tup2 ?_ ?hl ?hs; (case hl => first | (simp; done) | (simp; omega) | omega); (case hs => (intro _ _; with_unfolding_all rfl)))
  | (with_reducible refine And.intro (show List.length _ ≤ sizeLine from ?hz) ?_; (case hz => simp [sizeLine_eq]))
  | with_reducible refine thn_ret ?_
  | refine e_loc (by assumption) rfl ?_))

set_option maxHeartbeats 1000000
section
variable {prog : Program} {w : World} {b₀ : Heap} {K : Frag} {n : Nat}
noncomputable def toldPV : Option PV → PV
  | none => .str "two"
  | some p => p
theorem fn_law_told (k : KOk K) (k3 : KOk3 K) (tp : Tp b₀ K) {W : Str → Option Def} {dx nd : Addr} {wd nm : List (Str × PV)} (s : WS W dx nd wd nm) (hW : WOk W) {l : Look} (hl : l.ok W) {m : Nat} (hm : m ≤ 5) {name : Str} (hnl : name.length ≤ 1000) {f : List PV}
    (hf : ∀ t ptr, startOf W l = some (t, ptr) → TOk W t ∧ search W name m [(t, [])] [] = some f) :
    FnT prog w b₀ (n + 9) (.ref 274) [.inst 218 dx, l.pv, .str name] (wst dx nd wd nm) fun r st' => st' = wst dx nd wd nm ∧ r = toldPV (givenBy W l f) := by
  refine k.f274.mk tp ["world", "told", "name"] rfl (fun doc pm an cdv ct vs hv => ?_) (by decide) (fun m x hx => ?_) (fun m => List.nodup_nil) (fun A outer L cdv E O => ?_) rfl rfl rfl
  · obtain ⟨a, b, c, rfl⟩ := len3 hv
    rfl
  · simp at hx; rcases hx with rfl | rfl | rfl <;> exact .inl rfl
  · show Exs _ _ _ ⟨[("world", .inst 218 dx), ("told", l.pv), ("name", .str name)], wst dx nd wd nm⟩ _
    refine xs_cons (x_try (PM := fun st' => st' = wst dx nd wd nm ∧ givenBy W l f = none) O tp k3.ex rfl k3.gnf rfl rfl rfl ?_ fun env pre st hp => ?_)
    · refine xx_cons (x_retX (e_callX tp (k.callee O tp "find_member" 155 (by decide) rfl) fun E => ?_))
      walk_at "mine"
      refine callTX_all O (fn_find_member (n := n) k k3 tp s hW hl hm hnl hf) fun r st' hr => ?_
      obtain ⟨rfl, hr⟩ := hr
      refine ⟨by simp, wst dx nd wd nm, ⟨rfl, by rw [hr]; rfl⟩, fun q hq => hq, nodup2 s.ne⟩
    · obtain ⟨rfl, hno⟩ := hp
      exact ⟨wst dx nd wd nm, ⟨rfl, by rw [hno]; rfl⟩, fun q hq => List.mem_append_right _ hq, nodup2 s.ne⟩
end
end Mine
end
section
open PySem PySem.W PySem.Spec PySem.Calls PyProof.Rows
namespace Mine
/-! the plain law: the levels of the search against all paths -/
noncomputable abbrev isIn (s : List Str) (r : Str × List PV) : Bool := !(s.contains r.1)
noncomputable def toHere (r : Str × List PV) : Told × List PV := (.name r.1, r.2)
theorem fieldAt_none {name : Str} {r : Rows} : ∀ {k : Nat}, name ∉ r.map (·.1) → fieldsAll r name k = [] := by
  induction r with
  | nil => intro k _; rfl
  | cons q r ih =>
    intro k h
    obtain ⟨x, t⟩ := q
    rw [fieldsAll, if_neg (by intro z; exact h (by rw [beq_iff_eq.mp z]; exact .head _))]
    exact ih fun z => h (.tail _ z)
theorem fieldAt_all {name : Str} {r : Rows} : ∀ {k : Nat}, (r.map (·.1)).Nodup → (fieldAt r name k).toList = fieldsAll r name k := by
  induction r with
  | nil => intro k _; rfl
  | cons q r ih =>
    intro k h
    obtain ⟨x, t⟩ := q
    rw [List.map_cons, List.nodup_cons] at h
    rw [fieldAt, fieldsAll]
    by_cases e : (x == name) = true
    · rw [if_pos e, if_pos e, fieldAt_none (by rw [← beq_iff_eq.mp e]; exact h.1)]; rfl
    · rw [if_neg e, if_neg e]; exact ih h.2
theorem mems_all {d : Def} {steps : List PV} {name : Str} (h : (d.rows.map (·.1)).Nodup) : d.mems steps name = d.memsAll steps name := by
  unfold Def.mems Def.memsAll
  cases d.meths.lookup name with
  | some m => rfl
  | none =>
    cases d with
    | struct rows ms =>
      have := fieldAt_all (name := name) (k := 0) (show (rows.map (·.1)).Nodup from h)
      show ((fieldAt rows name 0).map (fieldMem steps)).toList = (fieldsAll rows name 0).map (fieldMem steps)
      rw [← this]
      cases fieldAt rows name 0 <;> rfl
    | iface fs => rfl
    | ptr p => rfl
/-- whether a type has a member does not lean on the steps -/
theorem memsAll_nil {d : Def} {s s' : List PV} {name : Str} (h : d.memsAll s name = []) : d.memsAll s' name = [] := by
  unfold Def.memsAll at h ⊢
  split
  · rename_i e; rw [e] at h; cases h
  · rename_i e
    rw [e] at h
    cases d with
    | struct rows ms => dsimp only at h ⊢; rw [List.map_eq_nil_iff] at h ⊢; exact h
    | iface fs => dsimp only at h ⊢; rw [List.map_eq_nil_iff] at h ⊢; exact h
    | ptr p => rfl
theorem flatMap_filter {α β : Type} {f : α → List β} {c : α → Bool} : ∀ {l : List α}, (∀ x ∈ l, c x = false → f x = []) → (l.filter c).flatMap f = l.flatMap f
  | [], _ => rfl
  | x :: l, h => by
    have ih := flatMap_filter (l := l) fun y hy => h y (.tail _ hy)
    rw [List.filter_cons]
    cases e : c x with
    | true => rw [if_pos rfl, List.flatMap_cons, List.flatMap_cons, ih]
    | false => rw [if_neg (by decide), List.flatMap_cons, ih, h x (.head _) e]; rfl
theorem flatMap_congr' {α β : Type} {f g : α → List β} : ∀ {l : List α}, (∀ x ∈ l, f x = g x) → l.flatMap f = l.flatMap g
  | [], _ => rfl
  | x :: l, h => by rw [List.flatMap_cons, List.flatMap_cons, h x (.head _), flatMap_congr' fun y hy => h y (.tail _ hy)]
theorem filter_flatMap' {α β : Type} {f : α → List β} {c : β → Bool} : ∀ {l : List α}, (l.flatMap f).filter c = l.flatMap fun x => (f x).filter c
  | [] => rfl
  | x :: l => by rw [List.flatMap_cons, List.flatMap_cons, List.filter_append, filter_flatMap']
theorem map_flatMap' {α β γ : Type} {f : α → List β} {c : β → γ} : ∀ {l : List α}, (l.flatMap f).map c = l.flatMap fun x => (f x).map c
  | [] => rfl
  | x :: l => by rw [List.flatMap_cons, List.flatMap_cons, List.map_append, map_flatMap']
theorem flatMap_map' {α β γ : Type} {f : β → List γ} {c : α → β} : ∀ {l : List α}, (l.map c).flatMap f = l.flatMap fun x => f (c x)
  | [] => rfl
  | x :: l => by rw [List.map_cons, List.flatMap_cons, List.flatMap_cons, flatMap_map']
theorem nodup_len : ∀ {l m : List Str}, l.Nodup → (∀ x ∈ l, x ∈ m) → l.length ≤ m.length
  | [], _, _, _ => Nat.zero_le _
  | x :: l, m, hn, h => by
    rw [List.nodup_cons] at hn
    have hx := h x (.head _)
    have := nodup_len (l := l) (m := m.erase x) hn.2 fun y hy => (List.mem_erase_of_ne (by rintro rfl; exact hn.1 hy)).mpr (h y (.tail _ hy))
    rw [List.length_erase_of_mem hx] at this
    have := List.length_pos_of_mem hx
    rw [List.length_cons]
    omega
theorem seenAfter_mem {h : Here} : ∀ {seen : List Str} {q : Str}, q ∈ seenAfter seen h ↔ q ∈ seen ∨ ∃ r ∈ h, r.1 = .name q := by
  induction h with
  | nil => intro seen q; simp [seenAfter]
  | cons r h ih =>
    intro seen q
    show q ∈ seenAfter (addSeen seen r.1) h ↔ _
    rw [ih]
    have : q ∈ addSeen seen r.1 ↔ q ∈ seen ∨ r.1 = .name q := by
      obtain ⟨t, st⟩ := r
      cases t with
      | name p =>
        show q ∈ (if p ∈ seen then seen else seen ++ [p]) ↔ _
        split
        · rename_i hp
          constructor
          · exact .inl
          · rintro (z | z)
            · exact z
            · cases z; exact hp
        · rw [List.mem_append, List.mem_singleton]
          constructor
          · rintro (z | z)
            · exact .inl z
            · exact .inr (by rw [z])
          · rintro (z | z)
            · exact .inl z
            · cases z; exact .inr rfl
      | rows rs =>
        show q ∈ seen ↔ _
        constructor
        · exact .inl
        · rintro (z | z)
          · exact z
          · cases z
    rw [this]
    constructor
    · rintro ((z | z) | ⟨x, hx, z⟩)
      · exact .inl z
      · exact .inr ⟨r, .head _, z⟩
      · exact .inr ⟨x, .tail _ hx, z⟩
    · rintro (z | ⟨x, hx, z⟩)
      · exact .inl (.inl z)
      · rcases List.mem_cons.mp hx with rfl | hx
        · exact .inl (.inr z)
        · exact .inr ⟨x, hx, z⟩
section
variable {W : Str → Option Def} {p : Str}
theorem mem_next {i : Nat} {r : Str × List PV} (hr : r ∈ paths W p i) {q : Str × PV} (hq : q ∈ (defOf W r.1).embs) : (q.1, r.2 ++ [q.2]) ∈ paths W p (i + 1) :=
  List.mem_flatMap.mpr ⟨r, hr, List.mem_map.mpr ⟨q, hq, rfl⟩⟩
/-- the state of the search before level i -/
structure At (W : Str → Option Def) (p name : Str) (names : List Str) (i : Nat) (h : Here) (seen : List Str) : Prop where
  here : h = ((paths W p i).filter (isIn seen)).map toHere
  nd : seen.Nodup
  sub : ∀ t ∈ seen, t ∈ names
  from_ : ∀ t ∈ seen, ∃ j, j < i ∧ ∃ r ∈ paths W p j, r.1 = t
  all : ∀ j, j < i → ∀ r ∈ paths W p j, r.1 ∈ seen
  len : h ≠ [] → i ≤ seen.length
  none : ∀ j, j < i → foundAt W p name j = []
variable {name : Str} {names : List Str} {i : Nat} {h : Here} {seen : List Str}
theorem At.quiet (a : At W p name names i h seen) {t : Str} (ht : t ∈ seen) (s : List PV) : (defOf W t).memsAll s name = [] := by
  obtain ⟨j, hj, r, hr, rfl⟩ := a.from_ t ht
  have := a.none j hj
  unfold foundAt foundIn at this
  rw [List.flatMap_eq_nil_iff] at this
  exact memsAll_nil (this r hr)
theorem At.embs (a : At W p name names i h seen) {t : Str} (ht : t ∈ seen) {q : Str × PV} (hq : q ∈ (defOf W t).embs) : q.1 ∈ seen ∨ ∃ r ∈ paths W p i, r.1 = q.1 := by
  obtain ⟨j, hj, r, hr, rfl⟩ := a.from_ t ht
  have hn := mem_next hr hq
  by_cases e : j + 1 = i
  · subst e; exact .inr ⟨_, hn, rfl⟩
  · exact .inl (a.all (j + 1) (by omega) _ hn)
theorem At.found (wo : WOk W) (hp : ∃ d, W p = some d ∧ ∀ x, d ≠ .ptr x) (a : At W p name names i h seen) : memsHere W name h = foundAt W p name i := by
  unfold memsHere foundAt foundIn
  rw [a.here, flatMap_map']
  rw [flatMap_congr' (g := fun r => (defOf W r.1).memsAll r.2 name)]
  · refine flatMap_filter fun r hr e => ?_
    have : r.1 ∈ seen := by
      have e' : (!(seen.contains r.1)) = false := e
      rw [Bool.not_eq_false'] at e'
      exact List.contains_iff_mem.mp e'
    exact a.quiet this _
  · intro r hr
    obtain ⟨⟨d, hd, _⟩, _⟩ := paths_ok wo hp i r (List.mem_filter.mp hr).1
    have e : defOf W r.1 = d := by simp [defOf, hd]
    show (defOf W r.1).mems r.2 name = (defOf W r.1).memsAll r.2 name
    rw [e]
    refine mems_all ?_
    cases d with
    | struct rows ms => exact (wo.rows _ _ _ hd).2
    | iface fs => exact List.nodup_nil
    | ptr q => exact List.nodup_nil
theorem At.step (wo : WOk W) (hp : ∃ d, W p = some d ∧ ∀ x, d ≠ .ptr x) (hn : ∀ q d, W q = some d → (∀ x, d ≠ .ptr x) → q ∈ names) (a : At W p name names i h seen) (h0 : foundAt W p name i = []) :
    At W p name names (i + 1) (hereNext W (seenAfter seen h) h) (seenAfter seen h) := by
  have mem : ∀ q, q ∈ seenAfter seen h ↔ q ∈ seen ∨ ∃ r ∈ paths W p i, r.1 = q := fun q => by
    rw [seenAfter_mem]
    constructor
    · rintro (z | ⟨r, hr, e⟩)
      · exact .inl z
      · rw [a.here] at hr
        obtain ⟨r', hr', rfl⟩ := List.mem_map.mp hr
        exact .inr ⟨r', (List.mem_filter.mp hr').1, by cases e; rfl⟩
    · rintro (z | ⟨r, hr, rfl⟩)
      · exact .inl z
      · by_cases e : r.1 ∈ seen
        · exact .inl e
        · refine .inr ⟨toHere r, ?_, rfl⟩
          rw [a.here]
          refine List.mem_map_of_mem (List.mem_filter.mpr ⟨hr, ?_⟩)
          show (!(seen.contains r.1)) = true
          rw [Bool.not_eq_true']
          cases z : seen.contains r.1 with
          | false => rfl
          | true => exact absurd (List.contains_iff_mem.mp z) e
  refine ⟨?_, seenAfter_nodup a.nd, fun t ht => ?_, fun t ht => ?_, fun j hj r hr => ?_, fun hne => ?_, fun j hj => ?_⟩
  · show hereNext W (seenAfter seen h) h = ((pathsNext W (paths W p i)).filter _).map toHere
    unfold hereNext pathsNext
    rw [filter_flatMap', map_flatMap']
    have : ∀ s, h.flatMap (nextOf W s) = ((paths W p i).filter (isIn seen)).flatMap fun r => nextOf W s (toHere r) := fun s => by
      rw [← flatMap_map' (f := nextOf W s) (c := toHere), ← a.here]
    rw [this]
    rw [flatMap_congr' (g := fun r => (((defOf W r.1).embs.map fun q => (q.1, r.2 ++ [q.2])).filter (isIn (seenAfter seen h))).map toHere)]
    · refine flatMap_filter fun r hr e => ?_
      have ht : r.1 ∈ seen := by
        have e' : (!(seen.contains r.1)) = false := e
        rw [Bool.not_eq_false'] at e'
        exact List.contains_iff_mem.mp e'
      rw [List.map_eq_nil_iff, List.filter_eq_nil_iff]
      intro x hx
      obtain ⟨q, hq, rfl⟩ := List.mem_map.mp hx
      have : q.1 ∈ seenAfter seen h := (mem q.1).mpr (a.embs ht hq)
      show ¬ ((!((seenAfter seen h).contains q.1)) = true)
      rw [List.contains_iff_mem.mpr this]; decide
    · intro r hr
      show nextOf W (seenAfter seen h) (toHere r) = _
      unfold nextOf
      rw [List.filter_map, List.map_map]
      rfl
  · rcases (mem t).mp ht with z | ⟨r, hr, rfl⟩
    · exact a.sub t z
    · obtain ⟨⟨d, hd, hd'⟩, _⟩ := paths_ok wo hp i r hr
      exact hn _ d hd hd'
  · rcases (mem t).mp ht with z | ⟨r, hr, rfl⟩
    · obtain ⟨j, hj, x⟩ := a.from_ t z
      exact ⟨j, by omega, x⟩
    · exact ⟨i, by omega, r, hr, rfl⟩
  · rcases Nat.lt_succ_iff_lt_or_eq.mp hj with z | rfl
    · exact (mem _).mpr (.inl (a.all j z r hr))
    · exact (mem _).mpr (.inr ⟨r, hr, rfl⟩)
  · have hh : h ≠ [] := fun z => hne (by rw [z]; rfl)
    have l := a.len hh
    have : seen.length + 1 ≤ (seenAfter seen h).length := by
      match hx : h with
      | [] => exact absurd rfl hh
      | r :: h' =>
        have hr : r ∈ ((paths W p i).filter (isIn seen)).map toHere := by rw [← a.here]; exact .head _
        obtain ⟨r', hr', rfl⟩ := List.mem_map.mp hr
        have hc : (!(seen.contains r'.1)) = true := (List.mem_filter.mp hr').2
        have hns : r'.1 ∉ seen := fun z => by rw [List.contains_iff_mem.mpr z] at hc; cases hc
        exact nodup_len (l := r'.1 :: seen) (List.nodup_cons.mpr ⟨hns, a.nd⟩) fun x hx => by
          rcases List.mem_cons.mp hx with rfl | hx
          · exact seenAfter_mem.mpr (.inr ⟨_, .head _, rfl⟩)
          · exact seenAfter_mem.mpr (.inl hx)
    omega
  · rcases Nat.lt_succ_iff_lt_or_eq.mp hj with z | rfl
    · exact a.none j z
    · exact h0
/-- nothing is left: no path finds any more -/
theorem At.over (a : At W p name names i [] seen) : ∀ j, foundAt W p name j = [] := by
  have cl : ∀ j, ∀ r ∈ paths W p (i + j), r.1 ∈ seen := by
    intro j
    have base : ∀ r ∈ paths W p i, r.1 ∈ seen := fun r hr => by
      have e := a.here.symm
      rw [List.map_eq_nil_iff, List.filter_eq_nil_iff] at e
      have := e r hr
      by_cases z : r.1 ∈ seen
      · exact z
      · refine absurd ?_ this
        show (!(seen.contains r.1)) = true
        cases y : seen.contains r.1 with
        | false => rfl
        | true => exact absurd (List.contains_iff_mem.mp y) z
    induction j with
    | zero => exact base
    | succ j ih =>
      intro r hr
      obtain ⟨r', hr', hx⟩ := List.mem_flatMap.mp (show r ∈ pathsNext W (paths W p (i + j)) from hr)
      obtain ⟨q, hq, rfl⟩ := List.mem_map.mp hx
      rcases a.embs (ih r' hr') hq with z | ⟨r2, hr2, e⟩
      · exact z
      · show q.1 ∈ seen
        rw [← e]; exact base r2 hr2
  intro j
  by_cases hj : j < i
  · exact a.none j hj
  · have e : i + (j - i) = j := by omega
    have := cl (j - i)
    rw [e] at this
    unfold foundAt foundIn
    rw [List.flatMap_eq_nil_iff]
    exact fun r hr => a.quiet (this r hr) _
theorem At.last (wo : WOk W) (hp : ∃ d, W p = some d ∧ ∀ x, d ≠ .ptr x) (hn : ∀ q d, W q = some d → (∀ x, d ≠ .ptr x) → q ∈ names) (hl : names.length ≤ 4) (hi : 4 ≤ i) (a : At W p name names i h seen) : h = [] := by
  match hx : h with
  | [] => rfl
  | r :: h' =>
    exfalso
    have hr : r ∈ ((paths W p i).filter (isIn seen)).map toHere := by rw [← a.here]; exact .head _
    obtain ⟨r', hr', rfl⟩ := List.mem_map.mp hr
    have hc : (!(seen.contains r'.1)) = true := (List.mem_filter.mp hr').2
    have hns : r'.1 ∉ seen := fun z => by rw [List.contains_iff_mem.mpr z] at hc; cases hc
    have l1 := nodup_len (l := r'.1 :: seen) (m := names) (List.nodup_cons.mpr ⟨hns, a.nd⟩) fun x hx => by
      rcases List.mem_cons.mp hx with rfl | hx
      · obtain ⟨⟨d, hd, hd'⟩, _⟩ := paths_ok wo hp i r' (List.mem_filter.mp hr').1
        exact hn _ d hd hd'
      · exact a.sub x hx
    have l2 := a.len (by simp)
    rw [List.length_cons] at l1
    omega
theorem search_from (wo : WOk W) (hp : ∃ d, W p = some d ∧ ∀ x, d ≠ .ptr x) (hn : ∀ q d, W q = some d → (∀ x, d ≠ .ptr x) → q ∈ names) (hl : names.length ≤ 4) : ∀ (m i : Nat) (h : Here) (seen : List Str), i + m = 4 → At W p name names i h seen → search W name (m + 1) h seen = some (lawFound W p name)
  | m, i, h, seen, e, a => by
    rw [search]
    by_cases hh : h = []
    · subst hh
      rw [if_pos rfl, lawFound_none fun j _ => a.over j]
    · rw [if_neg hh]
      by_cases hm : memsHere W name h = []
      · rw [if_pos hm]
        have h0 := (a.found wo hp).symm.trans hm
        match m with
        | 0 => exact absurd (a.last wo hp hn hl (by omega)) hh
        | m + 1 => exact search_from wo hp hn hl m (i + 1) _ _ (by omega) (a.step wo hp hn h0)
      · rw [if_neg hm]
        have hf := a.found wo hp
        have hi : i < 4 := Nat.lt_of_not_le fun z => hh (a.last wo hp hn hl z)
        rw [lawFound_at hi a.none (by rw [← hf]; exact hm), hf]
/-- find_member's search finds what the law finds -/
theorem search_law (wo : WOk W) (hp : ∃ d, W p = some d ∧ ∀ x, d ≠ .ptr x) (hn : ∀ q d, W q = some d → (∀ x, d ≠ .ptr x) → q ∈ names) (hl : names.length ≤ 4) (name : Str) : search W name 5 [(.name p, [])] [] = some (lawFound W p name) :=
  search_from (names := names) wo hp hn hl 4 0 _ _ rfl ⟨rfl, List.nodup_nil, fun _ h => (nomatch h), fun _ h => (nomatch h), fun j hj => absurd hj (by omega), fun _ => Nat.zero_le _, fun j hj => absurd hj (by omega)⟩
end
end Mine
end
section
open PySem PySem.W PySem.Spec PySem.Calls PyProof.Rows
namespace Mine
/-! the law's worlds -/
noncomputable def nameL : List Str := ["m.A", "m.B", "m.C", "m.D"]
noncomputable def fnL : List Str := ["f", "g", "h"]
section
variable {Φ : Fx} {E : Value → Shared → Prop} {σ : Sy} {n : Nat} {K : Frag}
theorem k_one (k : KOk K) (O : Φ.Ok (n + 2)) (tp : Tp Φ.b₀ K) {sr : Addr} {a c : Nat} {qs : List PV} {Post : PV → Sy → Prop} (ht : 0 < qs.length) (ht2 : qs.length < 1000) (hc : c < 2147483647) (hg : getM sr σ.st = some (srcPV a c))
    (h : ∀ (a' c' : Nat) (r : PV), c' < 2147483647 → r ∈ qs → Post r ⟨σ.env, setM sr (srcPV a' c') σ.st⟩) : CallT Φ E (.ref 243) [.ref sr, .list qs] σ Post :=
  callT_set (P := fun r st' => ∃ a' c' : Nat, r ∈ qs ∧ c' < 2147483647 ∧ st' = [(sr, srcPV a' c')]) O ((fn_one k tp ht ht2 hc).mono (Nat.le_refl _) fun r st' h => ⟨by obtain ⟨_, _, _, _, rfl⟩ := h; rfl, h⟩)
    (fun q hq => by rw [List.mem_singleton.mp hq]; exact getM_mem hg) (by simp) fun r st' p _ => by
      obtain ⟨a', c', hr, hc', rfl⟩ := p
      exact h a' c' r hc' hr
end
/-- the store of a world that is made -/
noncomputable abbrev bst (sr dx nd : Addr) (a c : Nat) (nm : List (Str × PV)) : List (Addr × MO) := [(sr, srcPV a c), (dx, .dict (wd0 nd)), (nd, .dict nm)]
noncomputable abbrev hst (md ml sr dx nd : Addr) (ms : List (Str × Meth)) (rs : Rows) (a c : Nat) (nm : List (Str × PV)) : List (Addr × MO) := (md, .dict (methsPV ms)) :: (ml, .list (rs.map rowPV)) :: bst sr dx nd a c nm
noncomputable def Ap3 (sr dx nd : Addr) : Prop := sr ≠ dx ∧ sr ≠ nd ∧ dx ≠ nd
structure Ap5 (md ml sr dx nd : Addr) : Prop where
  a : md ≠ ml
  b : md ≠ sr
  c : md ≠ dx
  d : md ≠ nd
  e : ml ≠ sr
  f : ml ≠ dx
  g : ml ≠ nd
  h : Ap3 sr dx nd
theorem Ap5.of {md ml sr dx nd : Addr} (h : ([md, ml, sr, dx, nd] : List Addr).Nodup) : Ap5 md ml sr dx nd := by
  simp at h
  obtain ⟨⟨h1, h2, h3, h4⟩, ⟨h5, h6, h7⟩, ⟨h8, h9⟩, h10⟩ := h
  exact ⟨h1, h2, h3, h4, h5, h6, h7, h8, h9, h10⟩
section
variable {md ml sr dx nd : Addr} {ms ms' : List (Str × Meth)} {rs rs' : Rows} {a c a' c' : Nat} {nm : List (Str × PV)} {mo : MO}
theorem Ap3.set_sr : setM sr (srcPV a' c') (bst sr dx nd a c nm) = bst sr dx nd a' c' nm := by simp [setM]
theorem Ap3.get_sr : getM sr (bst sr dx nd a c nm) = some (srcPV a c) := by simp [getM]
theorem Ap3.get_dx (p : Ap3 sr dx nd) : getM dx (bst sr dx nd a c nm) = some (.dict (wd0 nd)) := by simp [getM, p.1]
theorem Ap3.get_nd (p : Ap3 sr dx nd) : getM nd (bst sr dx nd a c nm) = some (.dict nm) := by simp [getM, p.2.1, p.2.2]
theorem Ap5.set_sr (p : Ap5 md ml sr dx nd) : setM sr (srcPV a' c') (hst md ml sr dx nd ms rs a c nm) = hst md ml sr dx nd ms rs a' c' nm := by simp [setM, p.b, p.e]
theorem Ap5.get_sr (p : Ap5 md ml sr dx nd) : getM sr (hst md ml sr dx nd ms rs a c nm) = some (srcPV a c) := by simp [getM, p.b, p.e]
theorem Ap5.get_md : getM md (hst md ml sr dx nd ms rs a c nm) = some (.dict (methsPV ms)) := by simp [getM]
theorem Ap5.get_ml (p : Ap5 md ml sr dx nd) : getM ml (hst md ml sr dx nd ms rs a c nm) = some (.list (rs.map rowPV)) := by simp [getM, p.a]
theorem Ap5.get_dx (p : Ap5 md ml sr dx nd) : getM dx (hst md ml sr dx nd ms rs a c nm) = some (.dict (wd0 nd)) := by simp [getM, p.c, p.f, p.h.1]
theorem Ap5.set_ml (p : Ap5 md ml sr dx nd) (e : mo = .list (rs'.map rowPV)) : setM ml mo (hst md ml sr dx nd ms rs a c nm) = hst md ml sr dx nd ms rs' a c nm := by subst e; simp [setM, p.a]
theorem Ap5.set_md (e : mo = .dict (methsPV ms')) : setM md mo (hst md ml sr dx nd ms rs a c nm) = hst md ml sr dx nd ms' rs a c nm := by subst e; simp [setM]
end
/-! what a definition of the law keeps to -/
noncomputable def MethOk (m : Meth) : Prop := m.func ∈ funcsPV ∧ PyData.strOk m.key = true
structure DOk (d : Def) : Prop where
  np : ∀ x, d ≠ .ptr x
  embs : ∀ q ∈ d.embs, q.1 ∈ nameL
  rows : ∀ rows ms, d = .struct rows ms → rows.length ≤ 8 ∧ (rows.map (·.1)).Nodup
  faces : ∀ fs, d = .iface fs → fs.length ≤ 8 ∧ ∀ q ∈ fs, q.2 ∈ funcsPV
  meths : ∀ m ∈ d.meths, MethOk m.2
structure LawW (W : Str → Option Def) (i : Nat) : Prop where
  dom : ∀ p, (W p).isSome ↔ p ∈ nameL.take i
  ok : ∀ p d, W p = some d → DOk d
  st : ∀ p ∈ nameL.take 2, ∀ d, W p = some d → ∃ rows ms, d = .struct rows ms
noncomputable def upd (W : Str → Option Def) (p : Str) (d : Def) : Str → Option Def := fun q => if q = p then some d else W q
theorem setK_lookup {k x : Str} {v : PV} : ∀ {l : List (Str × PV)}, (setK k v l).lookup x = if x = k then some v else l.lookup x
  | [] => by rw [setK, lookup_put]
  | (y, q) :: l => by
    rw [setK]
    by_cases h : y = k
    · subst h
      rw [if_pos rfl, lookup_put, lookup_put]
      by_cases e : x = y
      · rw [if_pos e, if_pos e]
      · rw [if_neg e, if_neg e, if_neg e]
    · rw [if_neg h, lookup_put, setK_lookup, lookup_put]
      by_cases e : x = y
      · rw [if_pos e, if_neg (by rw [e]; exact h), if_pos e]
      · rw [if_neg e, if_neg e]
theorem setK_mem {k : Str} {v : PV} {l : List (Str × PV)} {x : Str} (h : x ∈ (setK k v l).map (·.1)) : x = k ∨ x ∈ l.map (·.1) := by
  induction l with
  | nil => simp [setK] at h; exact .inl h
  | cons q l ih =>
    obtain ⟨y, q⟩ := q
    rw [setK] at h
    split at h
    · rename_i e
      rcases List.mem_cons.mp h with h | h
      · exact .inl ((show x = y from h).trans e)
      · exact .inr (.tail _ h)
    · rcases List.mem_cons.mp h with h | h
      · exact .inr (by rw [show x = y from h]; exact .head _)
      · rcases ih h with h | h
        · exact .inl h
        · exact .inr (.tail _ h)
theorem setK_nodup {k : Str} {v : PV} {l : List (Str × PV)} (h : (l.map (·.1)).Nodup) : ((setK k v l).map (·.1)).Nodup := by
  induction l with
  | nil => simp [setK]
  | cons q l ih =>
    obtain ⟨y, q⟩ := q
    rw [List.map_cons, List.nodup_cons] at h
    rw [setK]
    split
    · rename_i e
      subst e
      exact List.nodup_cons.mpr ⟨h.1, h.2⟩
    · rename_i e
      refine List.nodup_cons.mpr ⟨fun z => ?_, ih h.2⟩
      rcases setK_mem z with z | z
      · exact e z
      · exact h.1 z
theorem WS.put {W : Str → Option Def} {dx nd : Addr} {wd nm : List (Str × PV)} (s : WS W dx nd wd nm) (p : Str) (d : Def) : WS (upd W p d) dx nd wd (setK p (d.row p) nm) := by
  refine ⟨s.named, s.base, fun q e h => ?_, s.ne⟩
  rw [setK_lookup]
  unfold upd at h
  by_cases z : q = p
  · rw [if_pos z] at h ⊢; subst z; cases h; rfl
  · rw [if_neg z] at h ⊢; exact s.rows q e h
theorem LawW.put {W : Str → Option Def} {i : Nat} {p : Str} {d : Def} (l : LawW W i) (hp : nameL[i]? = some p) (o : DOk d) (hs : i < 2 → ∃ rows ms, d = .struct rows ms) : LawW (upd W p d) (i + 1) := by
  refine ⟨fun q => ?_, fun q e h => ?_, fun q hq e h => ?_⟩
  · rw [List.take_add_one, hp, List.mem_append]
    unfold upd
    by_cases z : q = p
    · rw [if_pos z]; simp [z]
    · rw [if_neg z, l.dom]; simp [z]
  · unfold upd at h
    by_cases z : q = p
    · rw [if_pos z] at h; cases h; exact o
    · rw [if_neg z] at h; exact l.ok q e h
  · unfold upd at h
    by_cases z : q = p
    · rw [if_pos z] at h; cases h
      by_cases hi : i < 2
      · exact hs hi
      · exfalso
        subst z
        match i, hi, hp with
        | 2, _, hp => cases hp; revert hq; decide
        | 3, _, hp => cases hp; revert hq; decide
        | i + 4, _, hp => simp [nameL] at hp
    · rw [if_neg z] at h; exact l.st q hq e h
theorem LawW.nil : LawW (fun _ => none) 0 := ⟨fun p => by simp, fun _ _ h => (nomatch h), fun _ _ _ h => (nomatch h)⟩
theorem LawW.wok {W : Str → Option Def} (l : LawW W 4) : WOk W := by
  refine ⟨fun p d h q hq => ?_, fun p rows ms h => (l.ok p _ h).rows rows ms rfl, fun p fs h => ((l.ok p _ h).faces fs rfl).1⟩
  have hn := (l.ok p d h).embs q hq
  obtain ⟨d', hd⟩ := Option.isSome_iff_exists.mp ((l.dom q.1).mpr hn)
  exact ⟨d', hd, (l.ok _ _ hd).np⟩
/-! what the names of the frame say -/
structure EnvA (env : List (Str × PV)) (sr dx : Addr) (ks : List Bool) : Prop where
  src : env.lookup ("source" : Str) = some (.ref sr)
  wld : env.lookup ("world" : Str) = some (.inst 218 dx)
  nms : env.lookup ("names" : Str) = some (.list (nameL.map .str))
  kds : env.lookup ("kinds" : Str) = some (.list (ks.map .bool))
structure EnvB (env : List (Str × PV)) (md ml sr dx : Addr) (ks : List Bool) (i : Nat) : Prop extends EnvA env sr dx ks where
  kk : env.lookup ("k" : Str) = some (.int i)
  rws : env.lookup ("rows" : Str) = some (.ref ml)
  mth : env.lookup ("methods" : Str) = some (.ref md)
theorem EnvA.put {env : List (Str × PV)} {sr dx : Addr} {ks : List Bool} (e : EnvA env sr dx ks) {x : Str} {p : PV} (h : x ∉ (["source", "world", "names", "kinds"] : List Str) := by decide) : EnvA ((x, p) :: env) sr dx ks := by
  have g : ∀ y ∈ (["source", "world", "names", "kinds"] : List Str), ((x, p) :: env).lookup y = env.lookup y := fun y hy => by
    rw [lookup_put, if_neg (by rintro rfl; exact h hy)]
  exact ⟨(g _ (by decide)).trans e.src, (g _ (by decide)).trans e.wld, (g _ (by decide)).trans e.nms, (g _ (by decide)).trans e.kds⟩
theorem EnvB.put {env : List (Str × PV)} {md ml sr dx : Addr} {ks : List Bool} {i : Nat} (e : EnvB env md ml sr dx ks i) {x : Str} {p : PV} (h : x ∉ (["source", "world", "names", "kinds", "k", "rows", "methods"] : List Str) := by decide) : EnvB ((x, p) :: env) md ml sr dx ks i := by
  have g : ∀ y ∈ (["source", "world", "names", "kinds", "k", "rows", "methods"] : List Str), ((x, p) :: env).lookup y = env.lookup y := fun y hy => by
    rw [lookup_put, if_neg (by rintro rfl; exact h hy)]
  exact ⟨⟨(g _ (by decide)).trans e.src, (g _ (by decide)).trans e.wld, (g _ (by decide)).trans e.nms, (g _ (by decide)).trans e.kds⟩, (g _ (by decide)).trans e.kk, (g _ (by decide)).trans e.rws, (g _ (by decide)).trans e.mth⟩
/-! methods by their names -/
theorem sub_fn {l : List Str} (h : l.Sublist fnL) : sortedS l = true ∧ l.Nodup ∧ ∀ x ∈ l, x ∈ fnL := by
  have nd : l.Nodup := h.nodup (by decide)
  refine ⟨?_, nd, fun x hx => h.subset hx⟩
  unfold fnL at h
  clear nd
  rcases List.sublist_cons_iff.mp h with h1 | ⟨r1, e1, h1⟩ <;> rcases List.sublist_cons_iff.mp h1 with h2 | ⟨r2, e2, h2⟩ <;> rcases List.sublist_cons_iff.mp h2 with h3 | ⟨r3, e3, h3⟩ <;> (have h4 := List.sublist_nil.mp h3; subst_vars; decide)
theorem setK_new {k : Str} {v : PV} : ∀ {l : List (Str × PV)}, k ∉ l.map (·.1) → setK k v l = l ++ [(k, v)]
  | [], _ => rfl
  | (y, q) :: l, h => by
    rw [setK, if_neg (by rintro rfl; exact h (.head _)), setK_new fun z => h (.tail _ z)]; rfl
theorem methsPV_keys (ms : List (Str × Meth)) : (methsPV ms).map (·.1) = ms.map (·.1) := by simp [methsPV, Function.comp_def]
theorem range_item {N i : Nat} {q : PV} (hq : ((List.range N).map fun i : Nat => PV.int (i : Int))[i]? = some q) : i < N ∧ q = .int i := by
  have hrl : ((List.range N).map fun i : Nat => PV.int (i : Int)).length = N := by simp
  have hi : i < N := by
    rcases Nat.lt_or_ge i N with h | h
    · exact h
    · rw [List.getElem?_eq_none (by rw [hrl]; exact h)] at hq; cases hq
  refine ⟨hi, ?_⟩
  rw [List.getElem?_map, List.getElem?_range hi] at hq
  exact (Option.some.inj hq).symm
end Mine
end
section
open PySem PySem.W PySem.Spec PySem.Calls PyProof.Rows
namespace Mine
/-! _law_world, its parts -/
local macro_rules | `(tactic| walk_at "mine") => `(tactic| repeat (first
  | with_reducible refine es_nil ?_
  | (with_reducible refine es_cons ?_ ?he; (case he => with_unfolding_all rfl))
  | with_reducible refine e_str ?_
  | with_reducible refine e_int ?_
  | with_reducible refine e_bool ?_
  | with_reducible refine e_none ?_
  | with_reducible refine e_tup ?_
  | with_reducible refine e_sub ?_
  | (with_reducible refine s_tup0 ?_ ?hl ?hs; (case hl => first | (simp; done) | (simp; omega) | omega); (case hs => (intro _ _; with_unfolding_all rfl)))
  | (with_reducible refine s_tup1 ?_ ?hl ?hs; (case hl => first | (simp; done) | (simp; omega) | omega); (case hs => (intro _ _; with_unfolding_all rfl)))
  | (with_reducible refine s_tup2 ?_ ?hl ?hs; (case hl => first | (simp; done) | (simp; omega) | omega); (case hs => (intro _ _; with_unfolding_all rfl)))
  | (with_reducible refine And.intro (show List.length _ ≤ sizeLine from ?hz) ?_; (case hz => simp [sizeLine_eq]))
  | with_reducible refine thn_ret ?_
  | refine e_loc (by assumption) rfl ?_))

set_option maxHeartbeats 1000000
section
variable {Φ : Fx} {E : Value → Shared → Prop} {σ : Sy} {n : Nat} {K : Frag}
theorem k_takeF (k : KOk K) (O : Φ.Ok (n + 1)) (tp : Tp Φ.b₀ K) {sr : Addr} {a c top : Nat} {Post : PV → Sy → Prop} {F : Nat → Nat → List (Addr × MO)} (ht : 0 < top) (ht2 : top < 1000) (hc : c < 2147483647) (hg : getM sr σ.st = some (srcPV a c))
    (hF : ∀ a' c', setM sr (srcPV a' c') σ.st = F a' c') (h : ∀ a' c' d : Nat, c' < 2147483647 → d < top → Post (.int d) ⟨σ.env, F a' c'⟩) : CallT Φ E (.ref 236) [.ref sr, .int top] σ Post :=
  k_take k O tp ht ht2 hc hg fun a' c' d hc' hd => by rw [hF]; exact h a' c' d hc' hd
theorem k_oneF (k : KOk K) (O : Φ.Ok (n + 2)) (tp : Tp Φ.b₀ K) {sr : Addr} {a c : Nat} {qs : List PV} {Post : PV → Sy → Prop} {F : Nat → Nat → List (Addr × MO)} (ht : 0 < qs.length) (ht2 : qs.length < 1000) (hc : c < 2147483647) (hg : getM sr σ.st = some (srcPV a c))
    (hF : ∀ a' c', setM sr (srcPV a' c') σ.st = F a' c') (h : ∀ (a' c' : Nat) (r : PV), c' < 2147483647 → r ∈ qs → Post r ⟨σ.env, F a' c'⟩) : CallT Φ E (.ref 243) [.ref sr, .list qs] σ Post :=
  k_one k O tp ht ht2 hc hg fun a' c' r hc' hr => by rw [hF]; exact h a' c' r hc' hr
theorem e_frzF {e : Expr} {Post : PV → Sy → Prop} (h : Ev Φ E e σ fun p σ₁ => ∃ a mo p' st', getM a σ₁.st = some mo ∧ Frz a mo p p' ∧ delM a σ₁.st = st' ∧ Post p' ⟨σ₁.env, st'⟩) : Ev Φ E e σ Post :=
  e_frz (h.mono fun _ _ ⟨a, mo, p', _, hg, f, hd, q⟩ => ⟨a, mo, p', hg, f, by rw [hd]; exact q⟩)
theorem T.sub {α β : Type} {m : Sem α} {R : Bs → α → β → Prop} {Post : β → Sy → Prop} {e : List (Str × PV)} {st st' : List (Addr × MO)} (hm : ∀ q ∈ st', q ∈ st) (hn : (st'.map (·.1)).Nodup) (h : T Φ E m R ⟨e, st'⟩ Post) : T Φ E m R ⟨e, st⟩ Post :=
  T.mk fun b s Q C k => h.run b s Q (C.permute hm hn) fun β σ' b' h' tk' a p C' X r => k β σ' b' h' tk' a p C' ((Ext.permute hm).trans X) r
end
theorem Ap3.nd {sr dx nd : Addr} (p : Ap3 sr dx nd) {a c : Nat} {nm : List (Str × PV)} : ((bst sr dx nd a c nm).map (·.1)).Nodup := by simp [p.1, p.2.1, p.2.2]
noncomputable def forB : Stmt → List Stmt
  | .For _ _ body _ _ => body
  | _ => []
noncomputable abbrev lwB : List Stmt := forB (atN (stB (atN mainB 23)) 2)
noncomputable abbrev envW (L : Addr) (cdv : Value) : Env := envX "_law_world" (stS (atN mainB 23)) L 248 cdv (cellsFrom (L + 1) (stS (atN mainB 23)).names [])
theorem nameL_len {p : Str} (h : p ∈ nameL) : p.length = 3 := by
  have : ∀ p ∈ nameL, p.length = 3 := by decide
  exact this p h
theorem key_ok : ∀ p ∈ nameL, ∀ x ∈ fnL, PyData.strOk (p ++ "." ++ x) = true := by decide +kernel
theorem fnL_len {p : Str} (h : p ∈ fnL) : p.length = 1 := by
  have : ∀ p ∈ fnL, p.length = 1 := by decide
  exact this p h
section
variable {prog : Program} {w : World} {b₀ : Heap} {K : Frag} {n : Nat} {A : Around} {outer : List Env} {L : Addr} {cdv : Value} {E : Value → Shared → Prop}
variable {md ml sr dx nd : Addr} {nm : List (Str × PV)} {ks : List Bool} {i : Nat} {a c : Nat} {env : List (Str × PV)} {Post : PF → Sy → Prop}
theorem lw_methods (k : KOk K) (tp : Tp b₀ K) (O : (fxOf prog w b₀ A outer (envW L cdv)).Ok (n + 5)) (ap : Ap5 md ml sr dx nd) (eb : EnvB env md ml sr dx ks i) (hc : c < 2147483647) {p : Str} (hp : nameL[i]? = some p) {rest : List Stmt}
    (h : ∀ env' ms (a c : Nat), EnvB env' md ml sr dx ks i → c < 2147483647 → (ms.map (·.1)).Sublist fnL → (∀ m ∈ ms, MethOk m.2) → Exs (fxOf prog w b₀ A outer (envW L cdv)) E rest ⟨env', hst md ml sr dx nd ms [] a c nm⟩ Post) :
    Exs (fxOf prog w b₀ A outer (envW L cdv)) E (atN lwB 1 :: rest) ⟨env, hst md ml sr dx nd [] [] a c nm⟩ Post := by
  have hpm := List.mem_of_getElem? hp
  have hpl := nameL_len hpm
  have hi : i < 4 := by
    rcases Nat.lt_or_ge i 4 with h | h
    · exact h
    · rw [List.getElem?_eq_none h] at hp; cases hp
  have ct := k.callee O tp "_law_take" 236 (by decide) rfl
  refine xs_cons (x_for (it_list O (e_list ?_)))
  walk_at "mine"
  refine ⟨_, rfl, .inl ⟨_, _, rfl⟩, ?_⟩
  refine ⟨fun j σ => ∃ ms a c, σ.st = hst md ml sr dx nd ms [] a c nm ∧ c < 2147483647 ∧ (ms.map (·.1)).Sublist (fnL.take j) ∧ (∀ m ∈ ms, MethOk m.2) ∧ EnvB σ.env md ml sr dx ks i, ⟨[], a, c, rfl, hc, List.Sublist.refl _, fun _ h => (nomatch h), eb⟩, fun E' j q σ' hq hI => ?_, fun σ' hI => ?_⟩
  · obtain ⟨env, st⟩ := σ'
    obtain ⟨ms, a, c, h1, hc, hsub, hfn, eb⟩ := hI
    dsimp only at h1 eb
    subst h1
    change (fnL.map PV.str)[j]? = some q at hq
    rw [List.getElem?_map] at hq
    obtain ⟨x, hx, rfl⟩ := Option.map_eq_some_iff.mp hq
    have htk : fnL.take (j + 1) = fnL.take j ++ [x] := by rw [List.take_add_one, hx]; rfl
    have hxl := fnL_len (List.mem_of_getElem? hx)
    refine a_name O (.inl rfl) ?_
    have eb' := eb.put (x := "name") (p := .str x)
    refine xs_cons (x_if (t_cmp (e_call tp ct (es_cons (e_loc O eb'.src (es_cons (e_int (es_nil ?_))))))))
    refine k_takeF (top := 3) k O tp (by omega) (by omega) hc ap.get_sr (fun _ _ => ap.set_sr) fun a1 c1 d hc1 hd => ?_
    refine e_int ⟨_, c_eq_int, ⟨fun h0 => ?_, fun h0 => ?_⟩⟩
    · refine xs_cons (x_setdict (e_tup (es_cons (e_cmp (e_call tp ct (es_cons (e_loc O eb'.src (es_cons (e_int (es_nil ?_))))))))))
      refine k_takeF (top := 2) k O tp (by omega) (by omega) hc1 ap.get_sr (fun _ _ => ap.set_sr) fun a2 c2 d2 hc2 hd2 => ?_
      refine e_int ⟨_, c_eq_int, ?_⟩
      refine es_cons (e_call tp (k.callee O tp "_law_one" 243 (by decide) rfl) (es_cons (e_loc O eb'.src (es_cons (e_call0 tp (k.callee O tp "_law_funcs" 255 (by decide) rfl) ?_)))))
      refine callT_pure (n := n + 5) O (fn_funcs k tp) (es_nil ?_)
      refine k_oneF k O tp (by decide) (by decide) hc2 ap.get_sr (fun _ _ => ap.set_sr) fun a3 c3 r hc3 hr => ?_
      refine es_cons (e_bin (e_bin (e_sub (e_loc O eb'.nms (e_loc O eb'.kk ?_)))))
      refine s_list (i := i) (p := .str p) (by omega) (by omega) (by simp [hp]) ?_
      refine e_str (b_sadd (by rw [hpl, sizeLine_eq]; decide) ?_)
      refine e_loc O rfl (b_sadd (by rw [hxl, sizeLine_eq]; show (p ++ _).length + 1 ≤ _; rw [Str.length_append, hpl]; decide) (es_nil ⟨by simp [sizeLine_eq], ?_⟩))
      have hnk : x ∉ (methsPV ms).map (·.1) := by
        rw [methsPV_keys]
        intro z
        have nd : (fnL.take (j + 1)).Nodup := (List.take_sublist _ _).nodup (by decide)
        rw [htk, List.nodup_append] at nd
        exact nd.2.2 x (hsub.subset z) x (.head _) rfl
      have hnd : ((methsPV ms).map (·.1)).Nodup := by rw [methsPV_keys]; exact (hsub.trans (List.take_sublist _ _)).nodup (by decide)
      have hml : (methsPV ms).length ≤ 3 := by
        have := hsub.length_le
        rw [List.length_map, List.length_take] at this
        rw [methsPV, List.length_map]
        exact Nat.le_trans this (Nat.min_le_right _ _)
      refine e_loc O eb'.mth (e_loc O rfl ⟨md, x, methsPV ms, rfl, rfl, Ap5.get_md, hnd, by rw [sizeLine_eq]; omega, ?_⟩)
      refine xs_st (hst md ml sr dx nd (ms ++ [(x, ⟨(d2 : Int) == 0, r, p ++ "." ++ x⟩)]) [] a3 c3 nm) (Ap5.set_md (by rw [setK_new hnk]; simp [methsPV, Meth.pv])) ?_
      refine xs_nil (xs_nil ⟨_, a3, c3, rfl, hc3, ?_, fun m hm => ?_, eb'⟩)
      · rw [htk, List.map_append]; exact hsub.append (List.Sublist.refl _)
      · rcases List.mem_append.mp hm with hm | hm
        · exact hfn m hm
        · rw [List.mem_singleton.mp hm]; exact ⟨hr, key_ok p hpm x (List.mem_of_getElem? hx)⟩
    · refine xs_nil (xs_nil ⟨ms, a1, c1, rfl, hc1, ?_, hfn, eb'⟩)
      rw [htk]; exact hsub.trans (List.sublist_append_left _ _)
  · obtain ⟨env, st⟩ := σ'
    obtain ⟨ms, a, c, h1, hc, hsub, hfn, eb⟩ := hI
    dsimp only at h1 eb
    subst h1
    exact h env ms a c eb hc hsub hfn
end
end Mine
end
section
open PySem PySem.W PySem.Spec PySem.Calls PyProof.Rows
namespace Mine
/-! _law_world, further parts -/
local macro_rules | `(tactic| walk_at "mine") => `(tactic| repeat (first
  | with_reducible refine es_nil ?_
  | (with_reducible refine es_cons ?_ ?he; (case he => with_unfolding_all rfl))
  | with_reducible refine e_str ?_
  | with_reducible refine e_int ?_
  | with_reducible refine e_bool ?_
  | with_reducible refine e_none ?_
  | with_reducible refine e_tup ?_
  | with_reducible refine e_sub ?_
  | (with_reducible refine s_tup0 ?_ ?hl ?hs; (case hl => first | (simp; done) | (simp; omega) | omega); (case hs => (intro _ _; with_unfolding_all rfl)))
  | (with_reducible refine s_tup1 ?_ ?hl ?hs; (case hl => first | (simp; done) | (simp; omega) | omega); (case hs => (intro _ _; with_unfolding_all rfl)))
  | (with_reducible refine s_tup2 ?_ ?hl ?hs; (case hl => first | (simp; done) | (simp; omega) | omega); (case hs => (intro _ _; with_unfolding_all rfl)))
  | (with_reducible refine And.intro (show List.length _ ≤ sizeLine from ?hz) ?_; (case hz => simp [sizeLine_eq]))
  | with_reducible refine thn_ret ?_
  | refine e_loc (by assumption) rfl ?_))

set_option maxHeartbeats 1000000
theorem look1 {x z : Str} {p r : PV} (h : List.lookup z [(x, p)] = some r) : z = x ∧ r = p := by
  rw [lookup_put] at h
  by_cases e1 : z = x
  · rw [if_pos e1] at h; cases h; exact ⟨e1, rfl⟩
  · rw [if_neg e1] at h; cases h
theorem lookup_nodup {α : Type} {l : List (Str × α)} {q : Str × α} (hn : (l.map (·.1)).Nodup) (h : q ∈ l) : l.lookup q.1 = some q.2 := by
  induction l with
  | nil => cases h
  | cons y l ih =>
    obtain ⟨y, v⟩ := y
    rw [List.map_cons, List.nodup_cons] at hn
    rw [lookup_cons']
    rcases List.mem_cons.mp h with rfl | h
    · rw [if_pos rfl]
    · rw [if_neg fun (z : q.1 = y) => hn.1 (z ▸ List.mem_map_of_mem (f := (·.1)) h)]
      exact ih hn.2 h
theorem methsPV_get {ms : List (Str × Meth)} (hn : (ms.map (·.1)).Nodup) {q : Str × Meth} (h : q ∈ ms) : (methsPV ms).lookup q.1 = some q.2.pv := by
  rw [methsPV_lookup, lookup_nodup hn h]; rfl
section
variable {prog : Program} {w : World} {b₀ : Heap} {K : Frag} {n : Nat} {A : Around} {outer : List Env} {L : Addr} {cdv : Value} {E : Value → Shared → Prop}
variable {md ml sr dx nd : Addr} {nm : List (Str × PV)} {ks : List Bool} {i : Nat} {a c : Nat} {env : List (Str × PV)} {Post : PF → Sy → Prop} {ms : List (Str × Meth)}
noncomputable def faces (ms : List (Str × Meth)) : List (Str × PV) := ms.map fun q => (q.1, q.2.func)
theorem lw_face (k : KOk K) (tp : Tp b₀ K) (O : (fxOf prog w b₀ A outer (envW L cdv)).Ok (n + 5)) (ap : Ap5 md ml sr dx nd) (eb : EnvB env md ml sr dx ks i) {p : Str} (hp : nameL[i]? = some p) {kb : Bool} (hk : ks[i]? = some kb)
    (hms : (ms.map (·.1)).Sublist fnL) (hnm : (nm.map (·.1)).Nodup) (hnl : nm.length ≤ 100) {rest : List Stmt}
    (h1 : ∀ env', kb = true → EnvB env' md ml sr dx ks i → Post .cont ⟨env', bst sr dx nd a c (setK p ((Def.iface (faces ms)).row p) nm)⟩)
    (h2 : kb = false → Exs (fxOf prog w b₀ A outer (envW L cdv)) E rest ⟨env, hst md ml sr dx nd ms [] a c nm⟩ Post) :
    Exs (fxOf prog w b₀ A outer (envW L cdv)) E (atN lwB 2 :: rest) ⟨env, hst md ml sr dx nd ms [] a c nm⟩ Post := by
  have hi : i < 4 := by
    rcases Nat.lt_or_ge i 4 with h | h
    · exact h
    · rw [List.getElem?_eq_none h] at hp; cases hp
  obtain ⟨hso, hnd, hmem⟩ := sub_fn hms
  have hml : ms.length ≤ 3 := by
    have := hms.length_le
    rw [List.length_map] at this
    exact this
  refine xs_cons (x_if (t_bool (e_sub (e_loc O eb.kds (e_loc O eb.kk ?_)))))
  refine s_list (i := i) (p := .bool kb) (by omega) (by omega) (by simp [hk]) ⟨kb, rfl, fun ht => ?_, fun hf => ?_⟩
  · refine xs_cons (x_assign O (.inl rfl) (e_call tp (k.calleeB O tp "tuple" (.type "tuple") (by simp [bltList]) rfl .type rfl) (es_cons (e_comp (cl := [("methods", L + 2)]) (fe := [("methods", .ref md)]) O ⟨?_, ?_, ?_, rfl⟩ (by rfl) ?_ ?_ ?_))))
    · intro x c hx
      simp at hx
      obtain ⟨rfl, rfl⟩ := hx; rfl
    · simp
    · intro C x p hx
      obtain ⟨rfl, rfl⟩ := look1 hx
      exact ⟨_, rfl, .inl rfl, .inl rfl⟩
    · simp (decide := true)
    · simp (decide := true)
    · refine it_list O (e_call tp (k.calleeB O tp "sorted" (.builtin "sorted") (by simp [bltList]) rfl .builtin rfl) (es_cons (e_loc O eb.mth (es_nil ?_))))
      refine k_sorted (S := fnL) (kvs := methsPV ms) O (.var Ap5.get_md) (by rw [methsPV_keys]; exact hnd) (by rw [methsPV, List.length_map]; omega) (by decide) (by decide) (by rw [methsPV_keys]; exact hmem) (by rw [methsPV_keys]; exact hso) ?_
      refine ⟨_, rfl, .inl ⟨_, _, rfl⟩, ?_⟩
      have hlen : ((methsPV ms).map (·.1)).map PV.str = ms.map fun q => PV.str q.1 := by rw [methsPV_keys, List.map_map]; rfl
      rw [hlen]
      refine ⟨?_, ?_, fun i' acc st => i' ≤ ms.length ∧ st = hst md ml sr dx nd ms [] a c nm ∧ acc = (faces (ms.take i')).map ifPV, ?_, ⟨Nat.zero_le _, rfl, rfl⟩, ?_, ?_⟩
      · intro x p hx
        obtain ⟨rfl, rfl⟩ := look1 hx
        exact eb.mth
      · intro x c hx p hp
        simp at hx
        obtain ⟨rfl, _⟩ := hx
        have : some (PV.ref md) = some p := eb.mth.symm.trans hp
        exact this
      · rintro i' acc st ⟨h1', _, rfl⟩
        rw [List.length_map, faces, List.length_map, List.length_take, sizeLine_eq]
        omega
      · intro C E' i' z acc st O' hz hI
        obtain ⟨h1', rfl, h3'⟩ := hI
        rw [List.getElem?_map] at hz
        obtain ⟨q, hq, rfl⟩ := Option.map_eq_some_iff.mp hz
        have hlt : i' < ms.length := by
          rcases Nat.lt_or_ge i' ms.length with h | h
          · exact h
          · rw [List.getElem?_eq_none h] at hq; cases hq
        have htk : ms.take (i' + 1) = ms.take i' ++ [q] := by rw [List.take_add_one, hq]; rfl
        refine a_name O' (.inl rfl) (tests_nil ⟨fun z => (nomatch z), fun _ => ?_⟩)
        refine e_tup (es_cons (e_loc O' rfl (es_cons (e_sub (e_sub (e_loc O' rfl (e_loc O' rfl ?_)))))))
        refine s_dict (.var Ap5.get_md) (methsPV_get hnd (List.mem_of_getElem? hq)) ?_
        unfold Meth.pv
        walk_at "mine"
        refine ⟨⟨hlt, rfl, ?_⟩, ?_⟩
        · rw [h3', htk]; simp [faces, ifPV]
        · intro y p hy
          obtain ⟨rfl, rfl⟩ := look1 hy
          rfl
      · rintro acc st ⟨_, rfl, rfl⟩
        rw [List.length_map, List.take_length]
        refine es_nil (k_tuple .fix (by rw [List.length_map, faces, List.length_map, sizeLine_eq]; omega) ?_)
        have eb' := eb.put (x := "told") (p := .tup ((faces ms).map ifPV))
        refine xs_cons (x_setdict (e_frzF (e_call tp (k.callee O tp "NamedRow" 175 (by decide) rfl) (es_cons (e_sub (e_loc O eb'.nms (e_loc O eb'.kk ?_)))))))
        refine s_list (i := i) (p := .str p) (by omega) (by omega) (by simp [hp]) ?_
        refine es_cons (e_str (es_cons (e_tup (es_cons (e_str (es_cons (e_loc O rfl (es_nil ⟨by simp [sizeLine_eq], es_cons (e_dict0 (es_nil ?_))⟩))))))))
        refine k_row (n := n + 3) k O tp fun ox => ?_
        refine ⟨ox, _, (Def.iface (faces ms)).row p, hst md ml sr dx nd ms [] a c nm, getM1, .inst rfl, by simp [delM], ?_⟩
        refine e_attr tp (e_loc O eb'.wld ⟨218, wd0 nd, .ref nd, .var ap.get_dx, k.cls 218 (by decide), (k.attr (218, "named") (by decide)).1, rfl, rfl, ?_⟩)
        refine e_sub (e_loc O eb'.nms (e_loc O eb'.kk ?_))
        refine s_list (i := i) (p := .str p) (by omega) (by omega) (by simp [hp]) ?_
        refine ⟨nd, p, nm, rfl, rfl, by simp [getM, ap.d, ap.g, ap.h.2.1, ap.h.2.2], hnm, by rw [sizeLine_eq]; omega, ?_⟩
        refine T.sub (st' := bst sr dx nd a c (setK p ((Def.iface (faces ms)).row p) nm)) (fun q hq => ?_) ap.h.nd ?_
        · simp [setM, ap.d, ap.g, ap.h.2.1, ap.h.2.2]
          simp at hq
          rcases hq with rfl | rfl | rfl <;> simp
        · refine xs_cons (x_cont ?_)
          exact h1 _ ht eb'
  · exact xs_nil (h2 hf)
end
end Mine
end
section
open PySem PySem.W PySem.Spec PySem.Calls PyProof.Rows
namespace Mine
/-! _law_world, further parts -/
local macro_rules | `(tactic| walk_at "mine") => `(tactic| repeat (first
  | with_reducible refine es_nil ?_
  | (with_reducible refine es_cons ?_ ?he; (case he => with_unfolding_all rfl))
  | with_reducible refine e_str ?_
  | with_reducible refine e_int ?_
  | with_reducible refine e_bool ?_
  | with_reducible refine e_none ?_
  | with_reducible refine e_tup ?_
  | with_reducible refine e_sub ?_
  | (with_reducible refine s_tup0 ?_ ?hl ?hs; (case hl => first | (simp; done) | (simp; omega) | omega); (case hs => (intro _ _; with_unfolding_all rfl)))
  | (with_reducible refine s_tup1 ?_ ?hl ?hs; (case hl => first | (simp; done) | (simp; omega) | omega); (case hs => (intro _ _; with_unfolding_all rfl)))
  | (with_reducible refine s_tup2 ?_ ?hl ?hs; (case hl => first | (simp; done) | (simp; omega) | omega); (case hs => (intro _ _; with_unfolding_all rfl)))
  | (with_reducible refine And.intro (show List.length _ ≤ sizeLine from ?hz) ?_; (case hz => simp [sizeLine_eq]))
  | with_reducible refine thn_ret ?_
  | refine e_loc (by assumption) rfl ?_))

set_option maxHeartbeats 1000000
noncomputable def shortL : List Str := ["A", "B", "C", "D"]
theorem short_of {d : Nat} (hd : d < 4) : ∃ p x, nameL[d]? = some p ∧ shortL[d]? = some x ∧ Txt.slice p (some 2) none = x ∧ p.length = 3 := by
  match d, hd with
  | 0, _ => exact ⟨"m.A", "A", rfl, rfl, by decide, by decide⟩
  | 1, _ => exact ⟨"m.B", "B", rfl, rfl, by decide, by decide⟩
  | 2, _ => exact ⟨"m.C", "C", rfl, rfl, by decide, by decide⟩
  | 3, _ => exact ⟨"m.D", "D", rfl, rfl, by decide, by decide⟩
noncomputable def plainL : List Str := ["a", "b"]
/-- rows while they are made -/
structure RsOk (rs : Rows) (j m : Nat) : Prop where
  len : rs.length ≤ m
  nd : (rs.map (·.1)).Nodup
  emb : ∀ r ∈ rs, ∀ p b, r.2 = .emb p b → p ∈ nameL
  nm : ∀ r ∈ rs, r.1 ∈ shortL ++ plainL.take j
section
variable {prog : Program} {w : World} {b₀ : Heap} {K : Frag} {n : Nat} {A : Around} {outer : List Env} {L : Addr} {cdv : Value} {E : Value → Shared → Prop}
variable {md ml sr dx nd : Addr} {nm : List (Str × PV)} {ks : List Bool} {i : Nat} {a c : Nat} {env : List (Str × PV)} {Post : PF → Sy → Prop} {ms : List (Str × Meth)}
theorem lw_embs (k : KOk K) (tp : Tp b₀ K) (O : (fxOf prog w b₀ A outer (envW L cdv)).Ok (n + 5)) (ap : Ap5 md ml sr dx nd) (eb : EnvB env md ml sr dx ks i) (hc : c < 2147483647) (hkl : ks.length = 4) {rest : List Stmt}
    (h : ∀ env' rs (a c : Nat), EnvB env' md ml sr dx ks i → c < 2147483647 → RsOk rs 0 2 → Exs (fxOf prog w b₀ A outer (envW L cdv)) E rest ⟨env', hst md ml sr dx nd ms rs a c nm⟩ Post) :
    Exs (fxOf prog w b₀ A outer (envW L cdv)) E (atN lwB 3 :: rest) ⟨env, hst md ml sr dx nd ms [] a c nm⟩ Post := by
  have ct := k.callee O tp "_law_take" 236 (by decide) rfl
  refine xs_cons (x_for (it_range O tp (k.blt ("range", .type "range") (by simp [bltList])) rfl rfl (e_call tp (k.callee O tp "_law_one" 243 (by decide) rfl) (es_cons (e_loc O eb.src (es_cons (e_list ?_)))))))
  walk_at "mine"
  refine k_oneF k O tp (by decide) (by decide) hc ap.get_sr (fun _ _ => ap.set_sr) fun a1 c1 r hc1 hr => ?_
  obtain ⟨N, hN, rfl⟩ : ∃ N : Nat, N ≤ 2 ∧ r = .int N := by
    simp at hr
    rcases hr with rfl | rfl | rfl
    · exact ⟨1, by omega, rfl⟩
    · exact ⟨2, by omega, rfl⟩
    · exact ⟨0, by omega, rfl⟩
  refine ⟨N, rfl, by omega, ?_⟩
  refine ⟨fun j σ => ∃ rs a c, j ≤ N ∧ σ.st = hst md ml sr dx nd ms rs a c nm ∧ c < 2147483647 ∧ RsOk rs 0 j ∧ EnvB σ.env md ml sr dx ks i, ⟨[], a1, c1, Nat.zero_le _, rfl, hc1, ⟨Nat.le_refl _, List.nodup_nil, fun _ h => (nomatch h), fun _ h => (nomatch h)⟩, eb⟩, fun E' j q σ' hq hI => ?_, fun σ' hI => ?_⟩
  · obtain ⟨env, st⟩ := σ'
    obtain ⟨rs, a, c, hj, h1, hc, ro, eb⟩ := hI
    dsimp only at h1 eb
    subst h1
    obtain ⟨hjN, rfl⟩ := range_item hq
    refine a_name O (.inl rfl) ?_
    have eb' := eb.put (x := "turn") (p := .int j)
    refine xs_cons (x_assign O (.inl rfl) (e_call tp ct (es_cons (e_loc O eb'.src (es_cons (e_int (es_nil ?_)))))))
    refine k_takeF (top := 4) k O tp (by omega) (by omega) hc ap.get_sr (fun _ _ => ap.set_sr) fun a1 c1 d hc1 hd => ?_
    have eb2 := eb'.put (x := "other") (p := .int d)
    obtain ⟨p, x, hp, hx, hpx, hpl⟩ := short_of hd
    refine xs_cons (x_assign O (.inl rfl) (T.mono (Post' := fun z σ₁ => ∃ (b : Bool) (a c : Nat), c < 2147483647 ∧ z = .bool b ∧ σ₁ = ⟨("other", .int d) :: ("turn", .int j) :: env, hst md ml sr dx nd ms rs a c nm⟩) (e_and2 (e_not (e_sub (e_loc O eb2.kds (e_loc O rfl ?_))))) fun z σ₁ hz => ?_))
    · obtain ⟨kb, hkb⟩ : ∃ kb, ks[d]? = some kb := ⟨_, List.getElem?_eq_getElem (by omega)⟩
      refine s_list (i := d) (p := .bool kb) (by omega) (by omega) (by simp [hkb]) ⟨kb, rfl, _, rfl, fun _ => ?_, fun _ => ⟨false, a1, c1, hc1, rfl, rfl⟩⟩
      refine e_or2 (e_cmp (e_loc O rfl (e_loc O eb2.kk ⟨_, c_le_int, _, rfl, fun _ => ⟨true, a1, c1, hc1, rfl, rfl⟩, fun _ => ?_⟩)))
      refine e_cmp (e_call tp ct (es_cons (e_loc O eb2.src (es_cons (e_int (es_nil ?_))))))
      refine k_takeF (top := 3) k O tp (by omega) (by omega) hc1 ap.get_sr (fun _ _ => ap.set_sr) fun a2 c2 d2 hc2 hd2 => ?_
      exact e_int ⟨_, c_eq_int, _, a2, c2, hc2, rfl, rfl⟩
    · obtain ⟨b, a2, c2, hc2, rfl, rfl⟩ := hz
      have eb3 := eb2.put (x := "is_pointer") (p := .bool b)
      have hnm : ∀ {e : List (Str × PV)}, EnvB e md ml sr dx ks i → ((nameL.map PV.str)[(d : Int).toNat]? = some (PV.str p)) := fun _ => by simp [hp]
      refine xs_cons (x_assign O (.inl rfl) (e_tup (es_cons (e_str (es_cons (e_sub (e_loc O eb3.nms (e_loc O rfl ?_))))))))
      refine s_list (i := d) (p := .str p) (by omega) (by omega) (hnm eb3) (es_nil ⟨by simp [sizeLine_eq], ?_⟩)
      have eb4 := eb3.put (x := "told") (p := named p)
      refine xs_cons (x_if (t_cmp (e_from (e_sub (e_loc O eb4.nms (e_loc O rfl ?_))))))
      refine s_list (i := d) (p := .str p) (by omega) (by omega) (hnm eb4) ⟨p, rfl, by rw [hpl, sizeLine_eq]; omega, ?_⟩
      rw [hpx]
      refine e_compM (cl := []) (fe := []) O ⟨?_, ?_, ?_, rfl⟩ (by rfl) ?_ ?_ ?_
      · intro x c hx; cases hx
      · simp
      · intro C x p hx; cases hx
      · simp (decide := true)
      · simp (decide := true)
      refine it_listM O (e_loc O eb4.rws ⟨ml, _, rfl, ap.get_ml, ?_⟩)
      have hrl : (rs.map rowPV).length = rs.length := List.length_map _
      have hr2 := ro.len
      refine ⟨?_, ?_, fun i' acc st => i' ≤ rs.length ∧ st = hst md ml sr dx nd ms rs a2 c2 nm ∧ acc = ((rs.take i').map (·.1)).map PV.str, ?_, ?_, ⟨Nat.zero_le _, rfl, rfl⟩, ?_, ?_⟩
      · intro x p hx; cases hx
      · intro x c hx; cases hx
      · rintro i' acc st ⟨h1', _, rfl⟩
        rw [List.length_map, List.length_map, List.length_take, sizeLine_eq]
        omega
      · rintro i' acc st ⟨_, rfl, _⟩
        exact ap.get_ml
      · intro C E' i' z acc st O' hz hI
        obtain ⟨h1', rfl, h3'⟩ := hI
        rw [List.getElem?_map] at hz
        obtain ⟨q, hq, rfl⟩ := Option.map_eq_some_iff.mp hz
        have hlt : i' < rs.length := by
          rcases Nat.lt_or_ge i' rs.length with h | h
          · exact h
          · rw [List.getElem?_eq_none h] at hq; cases hq
        have htk : rs.take (i' + 1) = rs.take i' ++ [q] := by rw [List.take_add_one, hq]; rfl
        refine a_name O' (.inl rfl) (tests_nil ⟨fun z => (nomatch z), fun _ => ?_⟩)
        refine e_sub (e_loc O' rfl (e_int ?_))
        unfold rowPV
        walk_at "mine"
        refine ⟨⟨hlt, rfl, ?_⟩, fun y p hy => (nomatch hy)⟩
        rw [h3', htk]; simp
      rintro acc st ⟨_, rfl, rfl⟩
      rw [hrl, List.take_length]
      refine ⟨_, c_notin_strs O rfl, ⟨fun ht => ?_, fun hf => ?_⟩⟩
      · have hni : x ∉ rs.map (·.1) := fun z => by
          have : (rs.map (·.1)).any (· == x) = true := List.any_eq_true.mpr ⟨x, z, by simp⟩
          rw [this] at ht; cases ht
        refine xs_cons (x_expr (e_meth tp (e_loc O eb4.rws ⟨.builtin "list.append", .builtin, m_list (.var ap.get_ml) PySem.F.slot_list_append PySem.F.type_list_append, ?_⟩)))
        refine es_cons (e_tup (es_cons (e_from (e_sub (e_loc O eb4.nms (e_loc O rfl ?_))))))
        refine s_list (i := d) (p := .str p) (by omega) (by omega) (hnm eb4) ⟨p, rfl, by rw [hpl, sizeLine_eq]; omega, ?_⟩
        rw [hpx]
        refine es_cons (T.mono (Post' := fun z σ₁ => z = RT.pv (.emb p b) ∧ σ₁ = ⟨("told", named p) :: ("is_pointer", .bool b) :: ("other", .int d) :: ("turn", .int j) :: env, hst md ml sr dx nd ms rs a2 c2 nm⟩) (e_ifexp (t_bool (e_loc O rfl ⟨b, rfl, fun hb => ?_, fun hb => ?_⟩))) fun z σ₁ hz => ?_)
        · subst hb
          refine e_tup (es_cons (e_str (es_cons (e_loc O rfl (es_nil ⟨by simp [sizeLine_eq], rfl, rfl⟩)))))
        · subst hb
          exact e_loc O rfl ⟨rfl, rfl⟩
        · obtain ⟨rfl, rfl⟩ := hz
          refine es_cons (e_bool (es_nil ⟨by simp [sizeLine_eq], es_nil ?_⟩))
          refine k_append ap.get_ml (by rw [hrl, sizeLine_eq]; omega) ⟨rfl, ?_⟩
          refine xs_st (hst md ml sr dx nd ms (rs ++ [(x, .emb p b)]) a2 c2 nm) (ap.set_ml (by simp [rowPV, RT.isEmb])) ?_
          refine xs_nil (xs_nil ⟨_, a2, c2, hjN, rfl, hc2, ⟨by simp; omega, ?_, fun r hr q b' e => ?_, fun r hr => ?_⟩, eb4⟩)
          · rw [List.map_append, List.nodup_append]
            refine ⟨ro.nd, by simp, fun y hy z hz e => hni ?_⟩
            simp at hz
            rw [← hz, ← e]; exact hy
          · rcases List.mem_append.mp hr with hr | hr
            · exact ro.emb r hr q b' e
            · rw [List.mem_singleton.mp hr] at e; cases e; exact List.mem_of_getElem? hp
          · rcases List.mem_append.mp hr with hr | hr
            · exact ro.nm r hr
            · rw [List.mem_singleton.mp hr]; exact List.mem_append_left _ (List.mem_of_getElem? hx)
      · exact xs_nil (xs_nil ⟨rs, a2, c2, hjN, rfl, hc2, ⟨by have := ro.len; omega, ro.nd, ro.emb, ro.nm⟩, eb4⟩)
  · obtain ⟨env, st⟩ := σ'
    obtain ⟨rs, a, c, hj, h1, hc, ro, eb⟩ := hI
    dsimp only at h1 eb
    subst h1
    rw [List.length_map, List.length_range] at ro
    exact h env rs a c eb hc ⟨by have := ro.len; omega, ro.nd, ro.emb, ro.nm⟩
end
end Mine
end
section
open PySem PySem.W PySem.Spec PySem.Calls PyProof.Rows
namespace Mine
/-! _law_world, last parts -/
local macro_rules | `(tactic| walk_at "mine") => `(tactic| repeat (first
  | with_reducible refine es_nil ?_
  | (with_reducible refine es_cons ?_ ?he; (case he => with_unfolding_all rfl))
  | with_reducible refine e_str ?_
  | with_reducible refine e_int ?_
  | with_reducible refine e_bool ?_
  | with_reducible refine e_none ?_
  | with_reducible refine e_tup ?_
  | with_reducible refine e_sub ?_
  | (with_reducible refine s_tup0 ?_ ?hl ?hs; (case hl => first | (simp; done) | (simp; omega) | omega); (case hs => (intro _ _; with_unfolding_all rfl)))
  | (with_reducible refine s_tup1 ?_ ?hl ?hs; (case hl => first | (simp; done) | (simp; omega) | omega); (case hs => (intro _ _; with_unfolding_all rfl)))
  | (with_reducible refine s_tup2 ?_ ?hl ?hs; (case hl => first | (simp; done) | (simp; omega) | omega); (case hs => (intro _ _; with_unfolding_all rfl)))
  | (with_reducible refine And.intro (show List.length _ ≤ sizeLine from ?hz) ?_; (case hz => simp [sizeLine_eq]))
  | with_reducible refine thn_ret ?_
  | refine e_loc (by assumption) rfl ?_))

set_option maxHeartbeats 1000000
theorem embs_mem {rs : Rows} : ∀ {k : Nat} {q : Str × PV}, q ∈ embs rs k → ∃ r ∈ rs, ∃ b, r.2 = .emb q.1 b := by
  induction rs with
  | nil => intro k q h; cases h
  | cons r rs ih =>
    intro k q h
    obtain ⟨x, t⟩ := r
    cases t with
    | plain =>
      obtain ⟨r, hr, e⟩ := ih (show q ∈ embs rs (k + 1) from h)
      exact ⟨r, .tail _ hr, e⟩
    | emb p b =>
      rcases List.mem_cons.mp (show q ∈ (p, stepPV k b) :: embs rs (k + 1) from h) with rfl | h
      · exact ⟨_, .head _, b, rfl⟩
      · obtain ⟨r, hr, e⟩ := ih h
        exact ⟨r, .tail _ hr, e⟩
theorem RsOk.dok {rs : Rows} {j m : Nat} (o : RsOk rs j m) (hm : m ≤ 8) {ms : List (Str × Meth)} (hf : ∀ m ∈ ms, MethOk m.2) : DOk (.struct rs ms) := by
  refine ⟨fun x e => (nomatch e), fun q hq => ?_, fun rows ms' e => ?_, fun fs e => (nomatch e), hf⟩
  · obtain ⟨r, hr, b, e⟩ := embs_mem (show q ∈ embs rs 0 from hq)
    exact o.emb r hr _ b e
  · cases e; exact ⟨by have := o.len; omega, o.nd⟩
theorem faces_dok {ms : List (Str × Meth)} (hs : (ms.map (·.1)).Sublist fnL) (hf : ∀ m ∈ ms, MethOk m.2) : DOk (.iface (faces ms)) := by
  refine ⟨fun x e => (nomatch e), fun q hq => (nomatch hq), fun rows ms' e => (nomatch e), fun fs e => ?_, fun m hm => (nomatch hm)⟩
  cases e
  refine ⟨?_, fun q hq => ?_⟩
  · have := hs.length_le
    rw [List.length_map] at this
    rw [faces, List.length_map]
    exact Nat.le_trans this (by decide)
  · obtain ⟨m, hm, rfl⟩ := List.mem_map.mp hq
    exact (hf m hm).1
section
variable {prog : Program} {w : World} {b₀ : Heap} {K : Frag} {n : Nat} {A : Around} {outer : List Env} {L : Addr} {cdv : Value} {E : Value → Shared → Prop}
variable {md ml sr dx nd : Addr} {nm : List (Str × PV)} {ks : List Bool} {i : Nat} {a c : Nat} {env : List (Str × PV)} {Post : PF → Sy → Prop} {ms : List (Str × Meth)} {rs : Rows}
theorem lw_plain (k : KOk K) (tp : Tp b₀ K) (O : (fxOf prog w b₀ A outer (envW L cdv)).Ok (n + 5)) (ap : Ap5 md ml sr dx nd) (eb : EnvB env md ml sr dx ks i) (hc : c < 2147483647) (ro : RsOk rs 0 2) {rest : List Stmt}
    (h : ∀ env' rs (a c : Nat), EnvB env' md ml sr dx ks i → c < 2147483647 → RsOk rs 2 4 → Exs (fxOf prog w b₀ A outer (envW L cdv)) E rest ⟨env', hst md ml sr dx nd ms rs a c nm⟩ Post) :
    Exs (fxOf prog w b₀ A outer (envW L cdv)) E (atN lwB 4 :: rest) ⟨env, hst md ml sr dx nd ms rs a c nm⟩ Post := by
  have ct := k.callee O tp "_law_take" 236 (by decide) rfl
  refine xs_cons (x_for (it_list O (e_list ?_)))
  walk_at "mine"
  refine ⟨_, rfl, .inl ⟨_, _, rfl⟩, ?_⟩
  refine ⟨fun j σ => ∃ rs a c, j ≤ 2 ∧ σ.st = hst md ml sr dx nd ms rs a c nm ∧ c < 2147483647 ∧ RsOk rs j (2 + j) ∧ EnvB σ.env md ml sr dx ks i, ⟨rs, a, c, Nat.zero_le _, rfl, hc, ro, eb⟩, fun E' j q σ' hq hI => ?_, fun σ' hI => ?_⟩
  · obtain ⟨env, st⟩ := σ'
    obtain ⟨rs, a, c, hj, h1, hc, ro, eb⟩ := hI
    dsimp only at h1 eb
    subst h1
    change (plainL.map PV.str)[j]? = some q at hq
    rw [List.getElem?_map] at hq
    obtain ⟨x, hx, rfl⟩ := Option.map_eq_some_iff.mp hq
    have hj2 : j < 2 := by
      rcases Nat.lt_or_ge j 2 with h | h
      · exact h
      · rw [List.getElem?_eq_none h] at hx; cases hx
    have htk : plainL.take (j + 1) = plainL.take j ++ [x] := by rw [List.take_add_one, hx]; rfl
    have hrl : (rs.map rowPV).length = rs.length := List.length_map _
    have hr2 := ro.len
    refine a_name O (.inl rfl) ?_
    have eb' := eb.put (x := "name") (p := .str x)
    have more : ∀ r, r ∈ shortL ++ plainL.take j → r ∈ shortL ++ plainL.take (j + 1) := fun r hr => by
      rw [htk, ← List.append_assoc]; exact List.mem_append_left _ hr
    refine xs_cons (x_if (t_cmp (e_call tp ct (es_cons (e_loc O eb'.src (es_cons (e_int (es_nil ?_))))))))
    refine k_takeF (top := 4) k O tp (by omega) (by omega) hc ap.get_sr (fun _ _ => ap.set_sr) fun a1 c1 d hc1 hd => ?_
    refine e_int ⟨_, c_eq_int, ⟨fun h0 => ?_, fun h0 => ?_⟩⟩
    · refine xs_cons (x_expr (e_meth tp (e_loc O eb'.rws ⟨.builtin "list.insert", .builtin, m_list (.var ap.get_ml) PySem.F.slot_list_insert PySem.F.type_list_insert, ?_⟩)))
      refine es_cons (e_call tp ct (es_cons (e_loc O eb'.src (es_cons (e_bin (e_call tp (k.calleeB O tp "len" (.builtin "len") (by simp [bltList]) rfl .builtin rfl) (es_cons (e_loc O eb'.rws (es_nil ?_)))))))))
      refine k_len (.var ap.get_ml) (by rw [hrl]; omega) (e_int (b_add (es_nil ?_)))
      have ecast : ((rs.map rowPV).length : Int) + 1 = ((rs.length + 1 : Nat) : Int) := by rw [hrl]; simp
      rw [ecast]
      refine k_takeF (top := rs.length + 1) k O tp (by omega) (by omega) hc1 ap.get_sr (fun _ _ => ap.set_sr) fun a2 c2 d2 hc2 hd2 => ?_
      refine es_cons (e_tup (es_cons (e_loc O rfl (es_cons (e_tup (es_cons (e_str (es_nil ⟨by simp [sizeLine_eq], es_cons (e_bool (es_nil ⟨by simp [sizeLine_eq], es_nil ?_⟩))⟩))))))))
      refine k_insert ap.get_ml (by rw [hrl]; omega) (by rw [hrl]; omega) ⟨rfl, ?_⟩
      have hperm : (rs.take d2 ++ (x, RT.plain) :: rs.drop d2).Perm ((x, RT.plain) :: rs) := by
        have := List.perm_middle (a := (x, RT.plain)) (l₁ := rs.take d2) (l₂ := rs.drop d2)
        rwa [List.take_append_drop] at this
      refine xs_st (hst md ml sr dx nd ms (rs.take d2 ++ (x, .plain) :: rs.drop d2) a2 c2 nm) (ap.set_ml (by simp [rowPV, RT.isEmb, RT.pv, List.map_take, List.map_drop])) ?_
      refine xs_nil (xs_nil ⟨_, a2, c2, hj2, rfl, hc2, ⟨?_, ?_, fun r hr p b e => ?_, fun r hr => ?_⟩, eb'⟩)
      · rw [hperm.length_eq, List.length_cons]; omega
      · rw [(hperm.map _).nodup_iff, List.map_cons, List.nodup_cons]
        refine ⟨fun z => ?_, ro.nd⟩
        obtain ⟨r, hr, e⟩ := List.mem_map.mp z
        have := ro.nm r hr
        rw [show r.1 = x from e] at this
        revert this
        match j, hj2, hx with
        | 0, _, hx => cases hx; decide
        | 1, _, hx => cases hx; decide
      · rcases List.mem_cons.mp (hperm.mem_iff.mp hr) with rfl | hr
        · cases e
        · exact ro.emb r hr p b e
      · rcases List.mem_cons.mp (hperm.mem_iff.mp hr) with rfl | hr
        · rw [htk]; simp
        · exact more _ (ro.nm r hr)
    · exact xs_nil (xs_nil ⟨rs, a1, c1, hj2, rfl, hc1, ⟨by omega, ro.nd, ro.emb, fun r hr => more _ (ro.nm r hr)⟩, eb'⟩)
  · obtain ⟨env, st⟩ := σ'
    obtain ⟨rs, a, c, hj, h1, hc, ro, eb⟩ := hI
    dsimp only at h1 eb
    subst h1
    exact h env rs a c eb hc ro
theorem lw_put (k : KOk K) (tp : Tp b₀ K) (O : (fxOf prog w b₀ A outer (envW L cdv)).Ok (n + 5)) (ap : Ap5 md ml sr dx nd) (eb : EnvB env md ml sr dx ks i) {p : Str} (hp : nameL[i]? = some p) (hrs : rs.length ≤ 8)
    (hnm : (nm.map (·.1)).Nodup) (hnl : nm.length ≤ 100)
    (h : Post .next ⟨env, bst sr dx nd a c (setK p ((Def.struct rs ms).row p) nm)⟩) :
    Exs (fxOf prog w b₀ A outer (envW L cdv)) E [atN lwB 5] ⟨env, hst md ml sr dx nd ms rs a c nm⟩ Post := by
  have hi : i < 4 := by
    rcases Nat.lt_or_ge i 4 with h | h
    · exact h
    · rw [List.getElem?_eq_none h] at hp; cases hp
  have hrl : (rs.map rowPV).length = rs.length := List.length_map _
  refine xs_cons (x_setdict (e_frzF (e_call tp (k.callee O tp "NamedRow" 175 (by decide) rfl) (es_cons (e_sub (e_loc O eb.nms (e_loc O eb.kk ?_)))))))
  refine s_list (i := i) (p := .str p) (by omega) (by omega) (by simp [hp]) ?_
  refine es_cons (e_str (es_cons (e_tup (es_cons (e_str (es_cons (e_call tp (k.calleeB O tp "tuple" (.type "tuple") (by simp [bltList]) rfl .type rfl) (es_cons (e_loc O eb.rws (es_nil ?_))))))))))
  refine k_tuple (.var ap.get_ml) (by rw [hrl, sizeLine_eq]; omega) (es_nil ⟨by simp [sizeLine_eq], ?_⟩)
  refine es_cons (e_frzF (e_loc O eb.mth ⟨md, _, .dict (methsPV ms), (ml, .list (rs.map rowPV)) :: bst sr dx nd a c nm, Ap5.get_md, .ref, by simp [delM], es_nil ?_⟩))
  refine k_row (n := n + 3) k O tp fun ox => ?_
  refine ⟨ox, _, (Def.struct rs ms).row p, (ml, .list (rs.map rowPV)) :: bst sr dx nd a c nm, getM1, .inst rfl, by simp [delM], ?_⟩
  refine e_attr tp (e_loc O eb.wld ⟨218, wd0 nd, .ref nd, .var (by simp [getM, ap.f, ap.h.1]), k.cls 218 (by decide), (k.attr (218, "named") (by decide)).1, rfl, rfl, ?_⟩)
  refine e_sub (e_loc O eb.nms (e_loc O eb.kk ?_))
  refine s_list (i := i) (p := .str p) (by omega) (by omega) (by simp [hp]) ?_
  refine ⟨nd, p, nm, rfl, rfl, by simp [getM, ap.g, ap.h.2.1, ap.h.2.2], hnm, by rw [sizeLine_eq]; omega, ?_⟩
  refine T.sub (st' := bst sr dx nd a c (setK p ((Def.struct rs ms).row p) nm)) (fun q hq => ?_) ap.h.nd ?_
  · simp [setM, ap.g, ap.h.2.1, ap.h.2.2]
    simp at hq
    rcases hq with rfl | rfl | rfl <;> simp
  · exact xs_nil h
end
end Mine
end
section
open PySem PySem.W PySem.Spec PySem.Calls PyProof.Rows
namespace Mine
/-! _law_world, the whole -/
local macro_rules | `(tactic| walk_at "mine") => `(tactic| repeat (first
  | with_reducible refine es_nil ?_
  | (with_reducible refine es_cons ?_ ?he; (case he => with_unfolding_all rfl))
  | with_reducible refine e_str ?_
  | with_reducible refine e_int ?_
  | with_reducible refine e_bool ?_
  | with_reducible refine e_none ?_
  | with_reducible refine e_tup ?_
  | with_reducible refine e_sub ?_
  | (with_reducible refine s_tup0 ?_ ?hl ?hs; (case hl => first | (simp; done) | (simp; omega) | omega); (case hs => (intro _ _; with_unfolding_all rfl)))
  | (with_reducible refine s_tup1 ?_ ?hl ?hs; (case hl => first | (simp; done) | (simp; omega) | omega); (case hs => (intro _ _; with_unfolding_all rfl)))
  | (with_reducible refine s_tup2 ?_ ?hl ?hs; (case hl => first | (simp; done) | (simp; omega) | omega); (case hs => (intro _ _; with_unfolding_all rfl)))
  | (with_reducible refine And.intro (show List.length _ ≤ sizeLine from ?hz) ?_; (case hz => simp [sizeLine_eq]))
  | with_reducible refine thn_ret ?_
  | refine e_loc (by assumption) rfl ?_))

set_option maxHeartbeats 1000000
section
variable {prog : Program} {w : World} {b₀ : Heap} {K : Frag} {n : Nat}
theorem fn_law_world (k : KOk K) (k2 : KOk2 K) (tp : Tp b₀ K) {sr : Addr} {a c : Nat} (hc : c < 2147483647) :
    FnT prog w b₀ (n + 6) (.ref 248) [.ref sr] [(sr, srcPV a c)] fun r st' => ∃ (dx nd : Addr) (nm : List (Str × PV)) (W : Str → Option Def) (a' c' : Nat),
      r = .inst 218 dx ∧ c' < 2147483647 ∧ WS W dx nd (wd0 nd) nm ∧ LawW W 4 ∧ (nm.map (·.1)).Nodup ∧ nm.length ≤ 8 ∧ st' = bst sr dx nd a' c' nm := by
  refine k.f248.mk tp ["source"] rfl (fun doc pm an cdv ct vs hv => ?_) (by decide) (fun m x hx => ?_) (fun m => (by decide : (["methods", "source"] : List Str).Nodup)) (fun A outer L cdv E O => ?_) rfl rfl rfl
  · obtain ⟨x, rfl⟩ := len1 hv
    rfl
  · simp at hx; subst hx; exact .inr ⟨rfl, rfl⟩
  · refine xs_cons (x_unpackS (xs := ["world", "names"]) O (fun x hx => by simp at hx; rcases hx with rfl | rfl <;> exact .inl rfl) ?_)
    refine e_tup (es_cons (e_call0 tp (k.callee O tp "World" 218 (by decide) rfl) (k_world (n := n) k k2 O tp fun dx nd => ?_)))
    refine es_cons (e_list ?_)
    walk_at "mine"
    refine ⟨_, rfl, rfl, ?_⟩
    refine T.nd fun hnd3 => ?_
    have ap : Ap3 sr dx nd := by
      have h : ([nd, dx, sr] : List Addr).Nodup := hnd3
      simp at h
      exact ⟨Ne.symm h.2, Ne.symm h.1.2, Ne.symm h.1.1⟩
    refine T.sub (st' := bst sr dx nd a c rows0) (fun q hq => by simp at hq; rcases hq with rfl | rfl | rfl <;> simp) ap.nd ?_
    refine xs_cons (x_comp (cl := [("source", L + 1)]) (fe := [("source", .ref sr)]) O ⟨?_, ?_, ?_, rfl⟩ (by rfl) ?_ ?_ rfl (by rfl) ?_)
    · intro x c hx
      simp at hx
      obtain ⟨rfl, rfl⟩ := hx; rfl
    · simp
    · intro C x p hx
      obtain ⟨rfl, rfl⟩ := look1 hx
      exact ⟨_, rfl, .inl rfl, .inl rfl⟩
    · simp (decide := true)
    · simp (decide := true)
    refine it_range O tp (k.blt ("range", .type "range") (by simp [bltList])) rfl rfl ?_
    walk_at "mine"
    refine ⟨4, rfl, by omega, ?_⟩
    refine ⟨?_, ?_, fun i acc st => ∃ (a c : Nat) (ks : List Bool), i ≤ 4 ∧ c < 2147483647 ∧ st = bst sr dx nd a c rows0 ∧ ks.length = i ∧ (∀ j, j < 2 → j < i → ks[j]? = some false) ∧ acc = ks.map .bool, ?_, ⟨a, c, [], Nat.zero_le _, hc, rfl, rfl, fun j _ h => absurd h (Nat.not_lt_zero _), rfl⟩, ?_, ?_⟩
    · intro x p hx
      obtain ⟨rfl, rfl⟩ := look1 hx
      rfl
    · intro x c hx p hp
      simp at hx
      obtain ⟨rfl, _⟩ := hx
      exact hp
    · rintro i acc st ⟨a, c, ks, h4, _, _, hl, _, rfl⟩
      rw [List.length_map, hl, sizeLine_eq]
      omega
    · intro C E' i p acc st O' hq hI
      obtain ⟨a, c, ks, h4, hc, rfl, hl, hks, rfl⟩ := hI
      obtain ⟨hi, rfl⟩ := range_item hq
      have nx : ∀ kb : Bool, (i < 2 → kb = false) → ∀ j, j < 2 → j < i + 1 → (ks ++ [kb])[j]? = some false := fun kb hkb j h2 hj => by
        rcases Nat.lt_succ_iff_lt_or_eq.mp hj with z | rfl
        · rw [List.getElem?_append_left (by omega)]; exact hks j h2 z
        · rw [List.getElem?_append_right (by omega), hl, Nat.sub_self]; simp [hkb h2]
      refine a_name O' (.inl rfl) (tests_nil ⟨fun z => (nomatch z), fun _ => ?_⟩)
      refine e_and2 (e_cmp (e_call tp (k.callee O' tp "_law_take" 236 (by decide) rfl) (es_cons (e_loc O' rfl (es_cons (e_int (es_nil ?_)))))))
      refine k_takeF (top := 5) k O' tp (by omega) (by omega) hc Ap3.get_sr (fun _ _ => Ap3.set_sr) fun a1 c1 d hc1 hd => ?_
      refine e_int ⟨_, c_eq_int, _, rfl, fun h0 => ?_, fun h0 => ?_⟩
      · refine e_cmp (e_loc O' rfl (e_int ⟨_, c_gt_int, ⟨a1, c1, ks ++ [decide ((i : Int) > 1)], hi, hc1, rfl, by simp [hl], nx _ fun h2 => ?_, by simp⟩, ?_⟩))
        · rw [decide_eq_false]; omega
        · intro y p hy
          obtain ⟨rfl, rfl⟩ := look1 hy
          rfl
      · refine ⟨⟨a1, c1, ks ++ [false], hi, hc1, rfl, by simp [hl], nx _ fun h2 => rfl, by simp⟩, ?_⟩
        intro y p hy
        obtain ⟨rfl, rfl⟩ := look1 hy
        rfl
    · rintro acc st ⟨a, c, ks, _, hc, rfl, hkl, hks, rfl⟩
      rw [List.length_map, List.length_range] at hkl hks
      refine xs_cons (x_for (it_range O tp (k.blt ("range", .type "range") (by simp [bltList])) rfl rfl ?_))
      walk_at "mine"
      refine ⟨4, rfl, by omega, ?_⟩
      refine ⟨fun i σ => ∃ W a c nm, i ≤ 4 ∧ c < 2147483647 ∧ σ.st = bst sr dx nd a c nm ∧ WS W dx nd (wd0 nd) nm ∧ LawW W i ∧ (nm.map (·.1)).Nodup ∧ nm.length ≤ 4 + i ∧ EnvA σ.env sr dx ks,
        ⟨fun _ => none, a, c, rows0, Nat.zero_le _, hc, rfl, ⟨rfl, rfl, fun _ _ h => (nomatch h), ap.2.2⟩, LawW.nil, by decide, Nat.le_refl _, ⟨rfl, rfl, rfl, rfl⟩⟩, fun E' i q σ' hq hI => ?_, fun σ' hI => ?_⟩
      · obtain ⟨env, st⟩ := σ'
        obtain ⟨W, a, c, nm, h4, hc, h1, s, lw, hnm, hnl, ea⟩ := hI
        dsimp only at h1 ea
        subst h1
        obtain ⟨hi, rfl⟩ := range_item hq
        obtain ⟨p, hp⟩ : ∃ p, nameL[i]? = some p := ⟨_, List.getElem?_eq_getElem (show i < nameL.length from hi)⟩
        obtain ⟨kb, hkb⟩ : ∃ kb, ks[i]? = some kb := ⟨_, List.getElem?_eq_getElem (by omega)⟩
        have len' : ∀ (v : PV), (setK p v nm).length ≤ 4 + (i + 1) := fun v => by have := setK_length p v nm; omega
        refine a_name O (.inl rfl) ?_
        refine xs_cons (x_unpack (xs := ["rows", "methods"]) O (fun x hx => by
          simp at hx
          rcases hx with rfl | rfl
          · exact .inl rfl
          · exact .inr ⟨rfl, _, rfl⟩) (.cons binds_name (.cons binds_name .nil)) ?_)
        refine e_tup (es_cons (e_listM (es_nil ⟨by simp, fun ml => es_cons (e_dictM fun md => es_nil ⟨by simp [sizeLine_eq], _, rfl, rfl, ?_⟩)⟩)))
        refine T.nd fun hnd5 => ?_
        have ap5 : Ap5 md ml sr dx nd := Ap5.of hnd5
        have eb : EnvB (("methods", .ref md) :: ("rows", .ref ml) :: ("k", .int i) :: env) md ml sr dx ks i := ⟨ea.put.put.put, rfl, rfl, rfl⟩
        refine lw_methods k tp O ap5 eb hc hp fun env ms a c eb hc hsub hfn => ?_
        refine lw_face k tp O ap5 eb hp hkb hsub hnm (by omega) (fun env' ht eb' => ?_) fun hf => ?_
        · refine ⟨_, a, c, _, hi, hc, rfl, s.put p _, lw.put hp (faces_dok hsub hfn) fun h2 => ?_, setK_nodup hnm, len' _, eb'.toEnvA⟩
          rw [hks i h2 hi] at hkb
          cases hkb; cases ht
        · refine lw_embs k tp O ap5 eb hc hkl fun env rs a c eb hc ro => ?_
          refine lw_plain k tp O ap5 eb hc ro fun env rs a c eb hc ro => ?_
          refine lw_put k tp O ap5 eb hp (Nat.le_trans ro.len (by decide)) hnm (by omega) ?_
          exact ⟨_, a, c, _, hi, hc, rfl, s.put p _, lw.put hp (ro.dok (by decide) hfn) fun h2 => ⟨_, _, rfl⟩, setK_nodup hnm, len' _, eb.toEnvA⟩
      · obtain ⟨env, st⟩ := σ'
        obtain ⟨W, a, c, nm, h4, hc, h1, s, lw, hnm, hnl, ea⟩ := hI
        dsimp only at h1 ea
        subst h1
        rw [List.length_map, List.length_range] at lw hnl
        refine xs_cons (x_ret (e_loc O ea.wld (thn_ret ?_)))
        exact .ret (bst sr dx nd a c nm) ⟨dx, nd, nm, W, a, c, rfl, hc, s, lw, hnm, hnl, rfl⟩ (fun q hq => hq) ap.nd
end
end Mine
end
section
open PySem PySem.W PySem.Spec PySem.Calls PyProof.Rows
namespace Mine
/-! plain values: what is compared -/
noncomputable def Pl (k : Nat) (p : PV) : Prop := ∃ d, toPy p = some d ∧ d.canLay0 = true ∧ d.depth ≤ k
theorem Pl.none {k : Nat} : Pl k .none := ⟨.none, rfl, by simp [PyData.canLay0], by simp [PyData.depth]⟩
theorem Pl.bool {k : Nat} {b : Bool} : Pl k (.bool b) := ⟨.bool b, rfl, by simp [PyData.canLay0], by simp [PyData.depth]⟩
theorem Pl.int {k : Nat} {i : Int} : Pl k (.int i) := ⟨.int i, rfl, by simp [PyData.canLay0], by simp [PyData.depth]⟩
theorem Pl.str {k : Nat} {x : Str} (h : PyData.strOk x = true) : Pl k (.str x) := ⟨.str x, rfl, by simp [PyData.canLay0, h], by simp [PyData.depth]⟩
theorem Pl.tup {k : Nat} {ps : List PV} (h : ∀ p ∈ ps, Pl k p) : Pl (k + 1) (.tup ps) := by
  have all : ∃ ds, toPys ps = some ds ∧ PyData.canLayAll0 ds = true ∧ PyData.depthAll ds ≤ k := by
    induction ps with
    | nil => exact ⟨[], rfl, by simp [PyData.canLayAll0], by simp [PyData.depthAll]⟩
    | cons p ps ih =>
      obtain ⟨d, e1, e2, e3⟩ := h p (.head _)
      obtain ⟨ds, f1, f2, f3⟩ := ih fun q hq => h q (.tail _ hq)
      exact ⟨d :: ds, by simp [toPys, e1, f1], by simp [PyData.canLayAll0, e2, f2], by simp [PyData.depthAll]; omega⟩
  obtain ⟨ds, f1, f2, f3⟩ := all
  exact ⟨.tuple ds, by simp [toPy, f1], by simpa [PyData.canLay0] using f2, by simp [PyData.depth]; omega⟩
theorem Pl.mono {k m : Nat} {p : PV} (h : Pl k p) (hk : k ≤ m) : Pl m p := by
  obtain ⟨d, a, b, c⟩ := h
  exact ⟨d, a, b, Nat.le_trans c hk⟩
theorem Pl.shaped {k : Nat} {p : PV} (h : Pl k p) (hk : k ≤ 64 := by decide) : ∃ d, toPy p = some d ∧ SeqAt.shaped d = true ∧ PyData.eqv d d = true := by
  obtain ⟨d, a, b, c⟩ := h
  refine ⟨d, a, ?_, PySem.SeqAt.eqv_refl d b⟩
  unfold SeqAt.shaped
  rw [b, decide_eq_true (Nat.le_trans c hk)]; rfl
theorem stepPl (j : Nat) (b : Bool) : Pl 1 (stepPV j b) := .tup fun p hp => by
  simp at hp
  rcases hp with rfl | rfl
  · exact .int
  · exact .bool
theorem strOk_nameL : ∀ p ∈ nameL, PyData.strOk p = true := by decide +kernel
theorem rtPl {t : RT} (h : ∀ p b, t = .emb p b → p ∈ nameL) : Pl 2 t.pv := by
  cases t with
  | plain => exact Pl.mono (k := 1) (.tup fun p hp => by simp at hp; subst hp; exact .str (by decide +kernel)) (by decide)
  | emb p b =>
    have hp := strOk_nameL p (h p b rfl)
    have n1 : Pl 1 (named p) := .tup fun q hq => by
      simp at hq
      rcases hq with rfl | rfl
      · exact .str (by decide +kernel)
      · exact .str hp
    cases b with
    | false => exact n1.mono (by decide)
    | true =>
      refine Pl.tup (k := 1) fun q hq => ?_
      simp at hq
      rcases hq with rfl | rfl
      · exact .str (by decide +kernel)
      · exact n1
theorem funcPl {p : PV} (h : p ∈ funcsPV) : Pl 3 p := by
  have e0 : Pl 3 fn0 := ⟨_, rfl, by decide +kernel, by decide +kernel⟩
  have e1 : Pl 3 fn1 := ⟨_, rfl, by decide +kernel, by decide +kernel⟩
  simp [funcsPV] at h
  rcases h with rfl | rfl
  · exact e0
  · exact e1
theorem embs_step {rs : Rows} : ∀ {k : Nat} {q : Str × PV}, q ∈ embs rs k → ∃ j b, q.2 = stepPV j b := by
  induction rs with
  | nil => intro k q h; cases h
  | cons r rs ih =>
    intro k q h
    obtain ⟨x, t⟩ := r
    cases t with
    | plain => exact ih (show q ∈ embs rs (k + 1) from h)
    | emb p b =>
      rcases List.mem_cons.mp (show q ∈ (p, stepPV k b) :: embs rs (k + 1) from h) with rfl | h
      · exact ⟨k, b, rfl⟩
      · exact ih h
theorem embs_of {rs : Rows} {x p : Str} {b : Bool} : ∀ {k : Nat}, (x, .emb p b) ∈ rs → ∃ q ∈ embs rs k, q.1 = p := by
  induction rs with
  | nil => intro k h; cases h
  | cons r rs ih =>
    intro k h
    obtain ⟨y, t⟩ := r
    rcases List.mem_cons.mp h with e | h
    · cases e
      exact ⟨_, .head _, rfl⟩
    · obtain ⟨q, hq, e⟩ := ih (k := k + 1) h
      cases t with
      | plain => exact ⟨q, hq, e⟩
      | emb p' b' => exact ⟨q, .tail _ hq, e⟩
theorem paths_steps {W : Str → Option Def} {p : Str} : ∀ n, ∀ r ∈ paths W p n, ∀ s ∈ r.2, ∃ j b, s = stepPV j b
  | 0, r, hr, s, hs => by
    rw [paths, List.mem_singleton] at hr
    subst hr
    cases hs
  | n + 1, r, hr, s, hs => by
    obtain ⟨r', hr', hx⟩ := List.mem_flatMap.mp (show r ∈ pathsNext W (paths W p n) from hr)
    obtain ⟨q, hq, rfl⟩ := List.mem_map.mp hx
    rcases List.mem_append.mp hs with hs | hs
    · exact paths_steps n r' hr' s hs
    · rw [List.mem_singleton] at hs
      subst hs
      rw [Def.embs_rows] at hq
      exact embs_step hq
theorem memsAll_pl {d : Def} (o : DOk d) {steps : List PV} (hs : ∀ s ∈ steps, ∃ j b, s = stepPV j b) {name : Str} (hn : PyData.strOk name = true) {m : PV} (h : m ∈ d.memsAll steps name) :
    Pl 5 m ∧ ∃ hd tl, m = .tup (.str hd :: tl) ∧ tl.length ≤ 10 := by
  have st : Pl 2 (.tup steps) := .tup fun s hs' => by obtain ⟨j, b, rfl⟩ := hs s hs'; exact stepPl j b
  unfold Def.memsAll at h
  split at h
  · rename_i mm e
    rw [List.mem_singleton] at h
    subst h
    have mo := o.meths _ (mem_of_lookup e)
    refine ⟨Pl.mono (k := 4) (.tup fun p hp => ?_) (by decide), _, _, rfl, by simp⟩
    simp at hp
    rcases hp with rfl | rfl | rfl | rfl | rfl
    · exact .str (by decide +kernel)
    · exact st.mono (by decide)
    · exact .str mo.2
    · exact .bool
    · exact funcPl mo.1
  · cases d with
    | struct rows ms =>
      obtain ⟨q, hq, rfl⟩ := List.mem_map.mp h
      obtain ⟨i, x, hx, _⟩ := fieldsAll_mem hq
      refine ⟨Pl.mono (k := 4) (.tup fun p hp => ?_) (by decide), _, _, rfl, by simp⟩
      simp at hp
      rcases hp with rfl | rfl | rfl
      · exact .str (by decide +kernel)
      · refine Pl.mono (k := 2) (.tup fun s hs' => ?_) (by decide)
        rcases List.mem_append.mp hs' with hs' | hs'
        · obtain ⟨j, b, rfl⟩ := hs s hs'; exact stepPl j b
        · rw [List.mem_singleton.mp hs']; exact stepPl _ _
      · refine (rtPl fun p b e => ?_).mono (by decide)
        have hm := List.mem_of_getElem? hx
        rw [e] at hm
        obtain ⟨q', hq', rfl⟩ := embs_of (k := 0) hm
        exact o.embs q' hq'
    | iface fs =>
      obtain ⟨q, hq, rfl⟩ := List.mem_map.mp h
      have hf := (o.faces fs rfl).2 q (List.mem_filter.mp hq).1
      refine ⟨Pl.mono (k := 4) (.tup fun p hp => ?_) (by decide), _, _, rfl, by simp⟩
      simp at hp
      rcases hp with rfl | rfl | rfl | rfl
      · exact .str (by decide +kernel)
      · exact st.mono (by decide)
      · exact .str hn
      · exact funcPl hf
    | ptr p => cases h
theorem lawFound_mem {W : Str → Option Def} {p name : Str} {m : PV} (h : m ∈ lawFound W p name) : ∃ i, m ∈ foundAt W p name i := by
  unfold lawFound at h
  cases e : ((List.range 4).map (foundAt W p name)).find? fun l => !l.isEmpty with
  | none => rw [e] at h; cases h
  | some l =>
    rw [e] at h
    have := List.mem_of_find?_eq_some e
    obtain ⟨i, _, rfl⟩ := List.mem_map.mp this
    exact ⟨i, h⟩
theorem lawFound_pl {W : Str → Option Def} (wo : WOk W) {p : Str} (hp : ∃ d, W p = some d ∧ ∀ x, d ≠ .ptr x) (dok : ∀ p d, W p = some d → (∀ x, d ≠ .ptr x) → DOk d) {name : Str} (hn : PyData.strOk name = true) {m : PV} (h : m ∈ lawFound W p name) :
    Pl 5 m ∧ ∃ hd tl, m = .tup (.str hd :: tl) ∧ tl.length ≤ 10 := by
  obtain ⟨i, h⟩ := lawFound_mem h
  obtain ⟨r, hr, hm⟩ := List.mem_flatMap.mp h
  obtain ⟨⟨d, hd, hd'⟩, _⟩ := paths_ok wo hp i r hr
  have e : defOf W r.1 = d := by simp [defOf, hd]
  rw [e] at hm
  exact memsAll_pl (dok _ d hd hd') (paths_steps i r hr) hn hm
section
variable {Φ : Fx} {E : Value → Shared → Prop} {σ : Sy} {n : Nat}
theorem c_ne_same {k : Nat} {p : PV} (O : Φ.Ok n) (h : Pl k p) (hk : k ≤ 64 := by decide) : CmpT Φ E .NotEq p p σ false := by
  obtain ⟨d, a, b, c⟩ := h.shaped hk
  exact c_ne_py O a a b b (by rw [c]; rfl)
theorem c_eq_tupstr {k : Nat} {ps : List PV} {x : Str} (O : Φ.Ok n) (h : Pl k (.tup ps)) (hx : PyData.strOk x = true) (hk : k ≤ 64 := by decide) : CmpT Φ E .Eq (.tup ps) (.str x) σ false := by
  obtain ⟨d, a, b, c⟩ := h.shaped hk
  obtain ⟨d2, a2, b2, c2⟩ := (Pl.str (k := 0) hx).shaped
  refine c_eq_py O a a2 b b2 ?_
  simp only [toPy, Option.map_eq_some_iff] at a
  obtain ⟨ds, _, rfl⟩ := a
  simp only [toPy, Option.some.injEq] at a2
  subst a2
  simp [PyData.eqv]
theorem c_eq_nil {k : Nat} {qs : List PV} (O : Φ.Ok n) (h : ∀ p ∈ qs, Pl k p) (hk : k < 64 := by decide) : CmpT Φ E .Eq (.list qs) (.list []) σ qs.isEmpty := by
  have hl : ∀ {qs : List PV}, (∀ p ∈ qs, Pl k p) → ∃ ds, toPy (.list qs) = some (.list ds) ∧ SeqAt.shaped (.list ds) = true ∧ ds.isEmpty = qs.isEmpty := fun {qs} h => by
    obtain ⟨d, a, b, c⟩ := Pl.tup h
    simp only [toPy, Option.map_eq_some_iff] at a
    obtain ⟨ds, e, rfl⟩ := a
    refine ⟨ds, by simp [toPy, e], ?_, ?_⟩
    · unfold SeqAt.shaped
      have b' : (PyData.list ds).canLay0 = true := by simpa [PyData.canLay0] using b
      have c' : (PyData.list ds).depth ≤ 64 := by simp only [PyData.depth] at c ⊢; omega
      rw [b', decide_eq_true c']; rfl
    · cases qs with
      | nil => simp [toPys] at e; subst e; rfl
      | cons q qs =>
        simp only [toPys, Option.bind_eq_some_iff, Option.map_eq_some_iff] at e
        obtain ⟨d, _, l, _, rfl⟩ := e
        rfl
  obtain ⟨ds, e1, e2, e3⟩ := hl h
  obtain ⟨ds', f1, f2, f3⟩ := hl (qs := []) fun _ h => nomatch h
  refine c_eq_py O e1 f1 e2 f2 ?_
  rw [← e3]
  obtain rfl : ds' = [] := List.isEmpty_iff.mp f3
  cases ds <;> simp [PyData.eqv, PyData.eqvAll]
end
end Mine
end
section
open PySem PySem.W PySem.Spec PySem.Calls PyProof.Rows
namespace Mine
/-! the law's worlds, as the law asks them -/
structure LawOk (W : Str → Option Def) : Prop where
  wok : WOk W
  names : ∀ q d, W q = some d → (∀ x, d ≠ .ptr x) → q ∈ nameL
  dok : ∀ p d, W p = some d → (∀ x, d ≠ .ptr x) → DOk d
  st : ∀ p ∈ nameL.take 2, ∃ rows ms, W p = some (.struct rows ms)
theorem LawW.lawOk {W : Str → Option Def} (l : LawW W 4) : LawOk W := by
  refine ⟨l.wok, fun q d h _ => ?_, fun p d h _ => l.ok p d h, fun p hp => ?_⟩
  · have := (l.dom q).mp (by rw [h]; rfl)
    exact this
  · have hn : p ∈ nameL.take 4 := List.mem_of_mem_take (i := 2) hp
    obtain ⟨d, hd⟩ := Option.isSome_iff_exists.mp ((l.dom p).mpr hn)
    obtain ⟨rows, ms, rfl⟩ := l.st p hp d hd
    exact ⟨rows, ms, hd⟩
theorem LawW.lawOkP {W : Str → Option Def} (l : LawW W 4) : LawOk (upd W "m.P" (.ptr "m.A")) := by
  have nP : ("m.P" : Str) ∉ nameL := by decide
  have at_ : ∀ q, q ∈ nameL → upd W "m.P" (.ptr "m.A") q = W q := fun q hq => by
    unfold upd; rw [if_neg]; rintro rfl; exact nP hq
  have un : ∀ q d, upd W "m.P" (.ptr "m.A") q = some d → (∀ x, d ≠ .ptr x) → W q = some d ∧ q ≠ "m.P" := fun q d h hx => by
    unfold upd at h
    by_cases z : q = "m.P"
    · rw [if_pos z] at h; cases h; exact absurd rfl (hx _)
    · rw [if_neg z] at h; exact ⟨h, z⟩
  have L := l.lawOk
  refine ⟨⟨fun p d h q hq => ?_, fun p rows ms h => ?_, fun p fs h => ?_⟩, fun q d h hx => ?_, fun p d h hx => ?_, fun p hp => ?_⟩
  · cases d with
    | ptr x => cases hq
    | struct rows ms =>
      have h' := (un p _ h fun x e => nomatch e).1
      obtain ⟨d', hd, hx⟩ := L.wok.closed p _ h' q hq
      exact ⟨d', by rw [at_ _ (L.names _ _ hd hx)]; exact hd, hx⟩
    | iface fs => cases hq
  · exact L.wok.rows p rows ms (un p _ h fun x e => nomatch e).1
  · exact L.wok.faces p fs (un p _ h fun x e => nomatch e).1
  · exact L.names q d (un q d h hx).1 hx
  · exact L.dok p d (un p d h hx).1 hx
  · obtain ⟨rows, ms, h⟩ := L.st p hp
    exact ⟨rows, ms, by rw [at_ p (List.mem_of_mem_take hp)]; exact h⟩
section
variable {W : Str → Option Def} (L : LawOk W) {p name : Str} (hp : p ∈ nameL.take 2)
include L hp
theorem LawOk.has : ∃ d, W p = some d ∧ ∀ x, d ≠ .ptr x := by
  obtain ⟨rows, ms, h⟩ := L.st p hp
  exact ⟨_, h, fun x e => nomatch e⟩
theorem LawOk.tok : TOk W (.name p) := by
  obtain ⟨rows, ms, h⟩ := L.st p hp
  exact TOk.name L.wok (by rw [h]; rfl)
theorem LawOk.search : search W name 5 [(.name p, [])] [] = some (lawFound W p name) := search_law (names := nameL) L.wok (L.has hp) L.names (by decide) name
theorem LawOk.start : startOf W (.at (.name p)) = some (.name p, false) ∧ startOf W (.ptr p) = some (.name p, false) := by
  obtain ⟨rows, ms, h⟩ := L.st p hp
  simp [startOf, h]
end
theorem lawFound_len {W : Str → Option Def} (L : LawOk W) {p name : Str} (hp : p ∈ nameL.take 2) : (lawFound W p name).length ≤ 5000 := by
  have at_ : ∀ i, i < 4 → (foundAt W p name i).length ≤ 5000 := fun i hi => by
    have plen := paths_len L.wok (L.has hp) i
    have p8 : 8 ^ i ≤ 8 ^ 3 := Nat.pow_le_pow_right (by decide) (by omega)
    have e8 : (8 : Nat) ^ 3 = 512 := rfl
    have : (foundAt W p name i).length ≤ (paths W p i).length * 8 := by
      refine flatMap_len fun r hr => ?_
      obtain ⟨⟨d, hd, _⟩, _⟩ := paths_ok L.wok (L.has hp) i r hr
      have e : defOf W r.1 = d := by simp [defOf, hd]
      rw [e]
      refine Def.memsAll_len ?_ fun fs e => L.wok.faces r.1 fs (by rw [hd, e])
      cases d with
      | struct rows ms => exact (L.wok.rows r.1 rows ms hd).1
      | iface fs => exact Nat.zero_le _
      | ptr x => exact Nat.zero_le _
    omega
  unfold lawFound
  cases e : ((List.range 4).map (foundAt W p name)).find? fun l => !l.isEmpty with
  | none => exact Nat.zero_le _
  | some l =>
    have := List.mem_of_find?_eq_some e
    obtain ⟨i, hi, rfl⟩ := List.mem_map.mp this
    exact at_ i (List.mem_range.mp hi)
/-- what is due -/
noncomputable def duePV : List PV → PV
  | [] => .none
  | [q] => q
  | _ => .str "two"
theorem due_told (f : List PV) : toldPV (foundOf false f) = duePV f := by
  match f with
  | [] => rfl
  | [q] => rfl
  | _ :: _ :: _ => rfl
noncomputable def duePV' (f : List PV) : PV := toldPV (foundOf true f)
theorem two_ok : PyData.strOk "two" = true := by decide +kernel
theorem due_pl {f : List PV} (h : ∀ q ∈ f, Pl 5 q) : Pl 5 (duePV f) := by
  match f with
  | [] => exact .none
  | [q] => exact h q (.head _)
  | _ :: _ :: _ => exact .str two_ok
theorem due_pl' {f : List PV} (h : ∀ q ∈ f, Pl 5 q) : Pl 5 (duePV' f) := by
  match f with
  | [] => exact .none
  | [q] =>
    show Pl 5 (if true && !isField q then .none else q)
    split
    · exact .none
    · exact h q (.head _)
  | _ :: _ :: _ => exact .str two_ok
/-! the last world of the law -/
noncomputable def lastDef (p : Str) : Def := .struct [] [("f", ⟨false, fn0, p ++ ".f"⟩)]
noncomputable def lastW : Str → Option Def := upd (upd (fun _ => none) "m.A" (lastDef "m.A")) "m.B" (lastDef "m.B")
noncomputable def bothR : Rows := [("A", .emb "m.A" false), ("B", .emb "m.B" true)]
theorem last_cases {q : Str} {d : Def} (h : lastW q = some d) : ∃ p, d = lastDef p := by
  unfold lastW upd at h
  split at h
  · cases h; exact ⟨_, rfl⟩
  · split at h
    · cases h; exact ⟨_, rfl⟩
    · cases h
theorem last_wok : WOk lastW := by
  refine ⟨fun p d h q hq => ?_, fun p rows ms h => ?_, fun p fs h => ?_⟩
  · obtain ⟨p', rfl⟩ := last_cases h; cases hq
  · obtain ⟨p', e⟩ := last_cases h; cases e; exact ⟨by decide, by decide⟩
  · obtain ⟨p', e⟩ := last_cases h; cases e
theorem last_tok : TOk lastW (.rows bothR) := by
  refine ⟨trivial, fun rows ms e => ?_, fun fs e => (nomatch e), fun q hq => ?_⟩
  · cases e; decide
  · have hq' : q ∈ [(("m.A" : Str), stepPV 0 false), (("m.B" : Str), stepPV 1 true)] := hq
    simp at hq'
    rcases hq' with rfl | rfl
    · rfl
    · rfl
theorem last_B : search lastW "B" 5 [(.rows bothR, [])] [] = some [.tup [.str "field", .tup [stepPV 1 false], ptrTo (named "m.B")]] := by
  rfl
theorem last_f : ∃ a b l, search lastW "f" 5 [(.rows bothR, [])] [] = some (a :: b :: l) := by
  exact ⟨_, _, _, rfl⟩
end Mine
end
section
open PySem PySem.W PySem.Spec PySem.Calls PyProof.Rows
namespace Mine
/-! law, its parts -/
local macro_rules | `(tactic| walk_at "mine") => `(tactic| repeat (first
  | with_reducible refine es_nil ?_
  | (with_reducible refine es_cons ?_ ?he; (case he => with_unfolding_all rfl))
  | with_reducible refine e_str ?_
  | with_reducible refine e_int ?_
  | with_reducible refine e_bool ?_
  | with_reducible refine e_none ?_
  | with_reducible refine e_tup ?_
  | with_reducible refine e_sub ?_
  | (with_reducible refine s_tup0 ?_ ?hl ?hs; (case hl => first | (simp; done) | (simp; omega) | omega); (case hs => (intro _ _; with_unfolding_all rfl)))
  | (with_reducible refine s_tup1 ?_ ?hl ?hs; (case hl => first | (simp; done) | (simp; omega) | omega); (case hs => (intro _ _; with_unfolding_all rfl)))
  | (with_reducible refine s_tup2 ?_ ?hl ?hs; (case hl => first | (simp; done) | (simp; omega) | omega); (case hs => (intro _ _; with_unfolding_all rfl)))
  | (with_reducible refine And.intro (show List.length _ ≤ sizeLine from ?hz) ?_; (case hz => simp [sizeLine_eq]))
  | with_reducible refine thn_ret ?_
  | refine e_loc (by assumption) rfl ?_))

set_option maxHeartbeats 1000000
/-- what the names of a frame say -/
noncomputable def Has (env kvs : List (Str × PV)) : Prop := ∀ q ∈ kvs, env.lookup q.1 = some q.2
theorem Has.put {env kvs : List (Str × PV)} (h : Has env kvs) {x : Str} {p : PV} (hx : x ∉ kvs.map (·.1) := by simp only [List.map_cons, List.map_nil]; decide) : Has ((x, p) :: env) kvs := fun q hq => by
  rw [lookup_put, if_neg fun (z : q.1 = x) => hx (z ▸ List.mem_map_of_mem (f := (·.1)) hq)]
  exact h q hq
theorem Has.cons {env kvs : List (Str × PV)} (h : Has env kvs) {x : Str} {p : PV} (hx : x ∉ kvs.map (·.1) := by simp only [List.map_cons, List.map_nil]; decide) : Has ((x, p) :: env) ((x, p) :: kvs) := fun q hq => by
  rcases List.mem_cons.mp hq with rfl | hq
  · rw [lookup_put, if_pos rfl]
  · exact h.put hx q hq
theorem Has.tail {env kvs : List (Str × PV)} {q : Str × PV} (h : Has env (q :: kvs)) : Has env kvs := fun r hr => h r (.tail _ hr)
noncomputable abbrev law28 : Stmt := atN mainB 28
noncomputable abbrev lawB1 : List Stmt := forB (atN (stB law28) 0)
noncomputable abbrev lawB2 : List Stmt := forB (atN lawB1 2)
noncomputable abbrev lawB3 : List Stmt := forB (atN lawB2 1)
noncomputable abbrev lawB5 : List Stmt := forB (atN lawB1 4)
noncomputable abbrev envL (L fa : Addr) (cdv : Value) : Env := envX "law" (stS law28) L fa cdv []
section
variable {Φ : Fx} {E : Value → Shared → Prop} {σ : Sy} {n : Nat} {K : Frag}
theorem k_told (k : KOk K) (k3 : KOk3 K) (O : Φ.Ok (n + 9)) (tp : Tp Φ.b₀ K) {W : Str → Option Def} {dx nd : Addr} {wd nm : List (Str × PV)} (s : WS W dx nd wd nm) (hW : WOk W) {l : Look} (hl : l.ok W) {name : Str} (hnl : name.length ≤ 1000) {f : List PV} {Post : PV → Sy → Prop} {v : PV}
    (hf : ∀ t ptr, startOf W l = some (t, ptr) → TOk W t ∧ search W name 5 [(t, [])] [] = some f) (hm : ∀ q ∈ wst dx nd wd nm, q ∈ σ.st) (hv : toldPV (givenBy W l f) = v) (h : Post v σ) :
    CallT Φ E (.ref 274) [.inst 218 dx, l.pv, .str name] σ Post :=
  callT_ro O (fn_law_told k k3 tp s hW hl (Nat.le_refl 5) hnl hf) hm (nodup2 s.ne) fun r hr => by subst hr; rw [hv]; exact h
end
section
variable {prog : Program} {w : World} {b₀ : Heap} {K : Frag} {n : Nat} {A : Around} {outer : List Env} {L fa : Addr} {cdv : Value} {E : Value → Shared → Prop}
variable {sr dx nd : Addr} {nm : List (Str × PV)} {a c : Nat} {env : List (Str × PV)} {Post : PF → Sy → Prop} {W : Str → Option Def}
/-- one thing asked of a type, and of a pointer to it -/
theorem law_ask (k : KOk K) (k3 : KOk3 K) (tp : Tp b₀ K) (O : (fxOf prog w b₀ A outer (envL L fa cdv)).Ok (n + 9)) (Lw : LawOk W) (s : WS W dx nd (wd0 nd) nm) {p x : Str} (hp : p ∈ nameL.take 2) (hx : PyData.strOk x = true) (hxl : x.length ≤ 10)
    {rows : Rows} {ms : List (Str × Meth)}
    (he : Has env [("wanted", .str x), ("base", structPV rows), ("told", named p), ("world", .inst 218 dx)])
    (h : ∀ v1 v2, Post .next ⟨("due", v2) :: ("members", v1) :: env, bst sr dx nd a c nm⟩) :
    Exs (fxOf prog w b₀ A outer (envL L fa cdv)) E lawB3 ⟨env, bst sr dx nd a c nm⟩ Post := by
  have hpl := fun q hq => (lawFound_pl Lw.wok (Lw.has hp) Lw.dok hx (m := q) hq).1
  have hfl := lawFound_len (name := x) Lw hp
  have hsrch := Lw.search hp (name := x)
  have hst := Lw.start hp
  have hdue := due_pl hpl
  have hasn : (W p).isSome = true := by obtain ⟨rows, ms, h⟩ := Lw.st p hp; rw [h]; rfl
  have hpn : p.length = 3 := nameL_len (List.mem_of_mem_take hp)
  have g1 := he _ (.head _)
  have g2 := he _ (.tail _ (.head _))
  have g3 := he _ (.tail _ (.tail _ (.head _)))
  have g4 := he _ (.tail _ (.tail _ (.tail _ (.head _))))
  dsimp only at g1 g2 g3 g4
  generalize hF : lawFound W p x = f at *
  have cld := k.callee O tp "_law_told" 274 (by decide) rfl
  refine xs_cons (x_assign O (.inl rfl) (e_call tp (k.callee O tp "_law_found" 267 (by decide) rfl) (es_cons (e_loc O g4 (es_cons (e_loc O g3 (es_cons (e_loc O g1 (es_nil ?_)))))))))
  refine callT_ro O (fn_found (n := n + 7) k tp s Lw.wok (Lw.has hp)) (fun q hq => .tail _ hq) (nodup2 s.ne) fun r hr => ?_
  rw [hF] at hr
  subst hr
  refine xs_cons (x_assign O (.inl rfl) (T.mono (Post' := fun z σ₁ => z = duePV f ∧ σ₁ = ⟨("members", .list f) :: env, bst sr dx nd a c nm⟩) (e_ifexp (t_cmp (e_loc O rfl (e_list (es_nil ⟨by simp [sizeLine_eq], _, c_eq_nil O hpl, ⟨fun hc => ?_, fun hc => ?_⟩⟩))))) fun z σ₁ hz => ?_))
  · refine e_none ⟨?_, rfl⟩
    obtain rfl := List.isEmpty_iff.mp hc
    rfl
  · refine e_ifexp (t_cmp (e_call tp (k.calleeB O tp "len" (.builtin "len") (by simp [bltList]) rfl .builtin rfl) (es_cons (e_loc O rfl (es_nil ?_)))))
    refine k_len .fix (by omega) (e_int ⟨_, c_eq_int, ⟨fun h1 => ?_, fun h1 => ?_⟩⟩)
    · have h1' : f.length = 1 := by have := beq_iff_eq.mp h1; omega
      obtain ⟨q, rfl⟩ := len1 h1'
      exact e_sub (e_loc O rfl (e_int (s_list (i := 0) (p := q) (by decide) (by decide) rfl ⟨rfl, rfl⟩)))
    · refine e_str ⟨?_, rfl⟩
      match f, hc, h1 with
      | _ :: _ :: _, _, _ => rfl
      | [q], _, h1 => simp at h1
  obtain ⟨rfl, rfl⟩ := hz
  have he2 : Has (("due", duePV f) :: ("members", .list f) :: env) [("wanted", .str x), ("base", structPV rows), ("told", named p), ("world", .inst 218 dx)] := he.put.put
  have g1' := he2 _ (.head _)
  have g2' := he2 _ (.tail _ (.head _))
  have g3' := he2 _ (.tail _ (.tail _ (.head _)))
  have g4' := he2 _ (.tail _ (.tail _ (.tail _ (.head _))))
  dsimp only at g1' g2' g3' g4'
  refine xs_cons (x_if (t_cmp (e_call tp cld (es_cons (e_loc O g4' (es_cons (e_loc O g3' (es_cons (e_loc O g1' (es_nil ?_))))))))))
  refine k_told k k3 O tp s Lw.wok (l := Look.«at» (.name p)) (v := duePV f) (f := f) (by exact hasn) (by omega) (fun t ptr e => ?_) (fun q hq => .tail _ hq) ?_ ?_
  · have e' := hst.1.symm.trans e
    cases e'
    exact ⟨Lw.tok hp, hsrch⟩
  · rw [← due_told]; unfold givenBy; rw [hst.1]
  refine e_loc O rfl ⟨false, c_ne_same O hdue, ⟨fun z => (nomatch z), fun _ => ?_⟩⟩
  refine xs_nil (xs_cons (x_if (t_cmp (e_call tp cld (es_cons (e_loc O g4' (es_cons (e_tup (es_cons (e_str (es_cons (e_loc O g3' (es_nil ⟨by simp [sizeLine_eq], es_cons (e_loc O g1' (es_nil ?_))⟩)))))))))))))
  refine k_told k k3 O tp s Lw.wok (l := .ptr p) (v := duePV f) (f := f) (by exact hasn) (by omega) (fun t ptr e => ?_) (fun q hq => .tail _ hq) ?_ ?_
  · have e' := hst.2.symm.trans e
    cases e'
    exact ⟨Lw.tok hp, hsrch⟩
  · rw [← due_told]; unfold givenBy; rw [hst.2]
  refine e_ifexp (t_cmp (e_sub (e_loc O g2' (e_int ?_))))
  unfold structPV
  walk_at "mine"
  refine ⟨false, c_eq_str, ⟨fun z => (nomatch z), fun _ => ?_⟩⟩
  refine e_loc O rfl ⟨false, c_ne_same O hdue, ⟨fun z => (nomatch z), fun _ => ?_⟩⟩
  exact xs_nil (xs_nil (h _ _))
end
end Mine
end
section
open PySem PySem.W PySem.Spec PySem.Calls PyProof.Rows
namespace Mine
/-! law, further parts -/
local macro_rules | `(tactic| walk_at "mine") => `(tactic| repeat (first
  | with_reducible refine es_nil ?_
  | (with_reducible refine es_cons ?_ ?he; (case he => with_unfolding_all rfl))
  | with_reducible refine e_str ?_
  | with_reducible refine e_int ?_
  | with_reducible refine e_bool ?_
  | with_reducible refine e_none ?_
  | with_reducible refine e_tup ?_
  | with_reducible refine e_sub ?_
  | (with_reducible refine s_tup0 ?_ ?hl ?hs; (case hl => first | (simp; done) | (simp; omega) | omega); (case hs => (intro _ _; with_unfolding_all rfl)))
  | (with_reducible refine s_tup1 ?_ ?hl ?hs; (case hl => first | (simp; done) | (simp; omega) | omega); (case hs => (intro _ _; with_unfolding_all rfl)))
  | (with_reducible refine s_tup2 ?_ ?hl ?hs; (case hl => first | (simp; done) | (simp; omega) | omega); (case hs => (intro _ _; with_unfolding_all rfl)))
  | (with_reducible refine And.intro (show List.length _ ≤ sizeLine from ?hz) ?_; (case hz => simp [sizeLine_eq]))
  | with_reducible refine thn_ret ?_
  | refine e_loc (by assumption) rfl ?_))

set_option maxHeartbeats 1000000
section
variable {prog : Program} {w : World} {b₀ : Heap} {K : Frag} {n : Nat} {A : Around} {outer : List Env} {L fa : Addr} {cdv : Value} {E : Value → Shared → Prop}
variable {sr dx nd : Addr} {nm : List (Str × PV)} {a c : Nat} {env : List (Str × PV)} {Post : PF → Sy → Prop} {W : Str → Option Def}
/-- one thing asked of a name of a pointer -/
theorem law_ask2 (k : KOk K) (k3 : KOk3 K) (tp : Tp b₀ K) (O : (fxOf prog w b₀ A outer (envL L fa cdv)).Ok (n + 9)) (Lw : LawOk W) (hP : W "m.P" = some (.ptr "m.A")) (s : WS W dx nd (wd0 nd) nm) {x : Str} (hx : PyData.strOk x = true) (hxl : x.length ≤ 10)
    (he : Has env [("wanted", .str x), ("world", .inst 218 dx)])
    (h : ∀ v1 v2 v3, Post .next ⟨("due", v3) :: ("due", v2) :: ("members", v1) :: env, bst sr dx nd a c nm⟩) :
    Exs (fxOf prog w b₀ A outer (envL L fa cdv)) E lawB5 ⟨env, bst sr dx nd a c nm⟩ Post := by
  have hp : ("m.A" : Str) ∈ nameL.take 2 := by decide
  have hpl := fun q hq => lawFound_pl Lw.wok (Lw.has hp) Lw.dok hx (m := q) hq
  have hfl := lawFound_len (name := x) Lw hp
  have hsrch := Lw.search hp (name := x)
  have hst : startOf W (Look.«at» (.name "m.P")) = some (.name "m.A", true) := by simp [startOf, hP]
  have hasn : (W "m.P").isSome = true := by rw [hP]; rfl
  have g1 := he _ (.head _)
  have g2 := he _ (.tail _ (.head _))
  dsimp only at g1 g2
  generalize hF : lawFound W "m.A" x = f at *
  have hdue := due_pl fun q hq => (hpl q hq).1
  have hdue' := due_pl' fun q hq => (hpl q hq).1
  refine xs_cons (x_assign O (.inl rfl) (e_call tp (k.callee O tp "_law_found" 267 (by decide) rfl) (es_cons (e_loc O g2 (es_cons (e_tup (es_cons (e_str (es_cons (e_str (es_nil ⟨by simp [sizeLine_eq], es_cons (e_loc O g1 (es_nil ?_))⟩)))))))))))
  refine callT_ro O (fn_found (n := n + 7) k tp s Lw.wok (Lw.has hp)) (fun q hq => .tail _ hq) (nodup2 s.ne) fun r hr => ?_
  rw [hF] at hr
  subst hr
  refine xs_cons (x_assign O (.inl rfl) (T.mono (Post' := fun z σ₁ => z = duePV f ∧ σ₁ = ⟨("members", .list f) :: env, bst sr dx nd a c nm⟩) (e_ifexp (t_cmp (e_loc O rfl (e_list (es_nil ⟨by simp [sizeLine_eq], _, c_eq_nil O fun q hq => (hpl q hq).1, ⟨fun hc => ?_, fun hc => ?_⟩⟩))))) fun z σ₁ hz => ?_))
  · refine e_none ⟨?_, rfl⟩
    obtain rfl := List.isEmpty_iff.mp hc
    rfl
  · refine e_ifexp (t_cmp (e_call tp (k.calleeB O tp "len" (.builtin "len") (by simp [bltList]) rfl .builtin rfl) (es_cons (e_loc O rfl (es_nil ?_)))))
    refine k_len .fix (by omega) (e_int ⟨_, c_eq_int, ⟨fun h1 => ?_, fun h1 => ?_⟩⟩)
    · have h1' : f.length = 1 := by have := beq_iff_eq.mp h1; omega
      obtain ⟨q, rfl⟩ := len1 h1'
      exact e_sub (e_loc O rfl (e_int (s_list (i := 0) (p := q) (by decide) (by decide) rfl ⟨rfl, rfl⟩)))
    · refine e_str ⟨?_, rfl⟩
      match f, hc, h1 with
      | _ :: _ :: _, _, _ => rfl
      | [q], _, h1 => simp at h1
  obtain ⟨rfl, rfl⟩ := hz
  refine xs_cons (x_assign O (.inl rfl) (T.mono (Post' := fun z σ₁ => z = duePV' f ∧ σ₁ = ⟨("due", duePV f) :: ("members", .list f) :: env, bst sr dx nd a c nm⟩) (e_ifexp (t_boolop (ta_or (t_cmp (e_loc O rfl (e_none ?_)))))) fun z σ₁ hz => ?_))
  · match f, hpl with
    | [], _ => exact ⟨true, c_is_none rfl, ⟨fun _ => ⟨fun _ => e_loc O rfl ⟨rfl, rfl⟩, fun z => (nomatch z)⟩, fun z => (nomatch z)⟩⟩
    | [q], hpl =>
      obtain ⟨hq, hd, tl, rfl, htl⟩ := hpl q (.head _)
      refine ⟨false, c_is_none rfl, ⟨fun z => (nomatch z), fun _ => ?_⟩⟩
      refine ta_or (t_cmp (e_loc O rfl (e_str ⟨false, c_eq_tupstr O hq two_ok, ⟨fun z => (nomatch z), fun _ => ?_⟩⟩)))
      refine ta_or (t_cmp (e_sub (e_loc O rfl (e_int (s_tup (i := 0) (p := .str hd) rfl (by simp; omega) (e_str ⟨_, c_eq_str, ⟨fun hc => ⟨fun _ => ?_, fun z => (nomatch z)⟩, fun hc => ta_or_nil ⟨fun z => (nomatch z), fun _ => ?_⟩⟩⟩))))))
      · refine e_loc O rfl ⟨?_, rfl⟩
        show _ = (if (true && !(hd == ("field" : Str))) = true then PV.none else _)
        rw [hc]; rfl
      · refine e_none ⟨?_, rfl⟩
        show _ = (if (true && !(hd == ("field" : Str))) = true then PV.none else _)
        rw [hc]; rfl
    | q1 :: q2 :: l, _ =>
      refine ⟨false, c_is_none rfl, ⟨fun z => (nomatch z), fun _ => ?_⟩⟩
      refine ta_or (t_cmp (e_loc O rfl (e_str ⟨_, c_eq_str, ⟨fun _ => ⟨fun _ => e_loc O rfl ⟨rfl, rfl⟩, fun z => (nomatch z)⟩, fun z => ?_⟩⟩)))
      exact absurd z (by decide)
  obtain ⟨rfl, rfl⟩ := hz
  have he2 : Has (("due", duePV' f) :: ("due", duePV f) :: ("members", .list f) :: env) [("wanted", .str x), ("world", .inst 218 dx)] := he.put.put.put
  have g1' := he2 _ (.head _)
  have g2' := he2 _ (.tail _ (.head _))
  dsimp only at g1' g2'
  refine xs_cons (x_if (t_cmp (e_call tp (k.callee O tp "_law_told" 274 (by decide) rfl) (es_cons (e_loc O g2' (es_cons (e_tup (es_cons (e_str (es_cons (e_str (es_nil ⟨by simp [sizeLine_eq], es_cons (e_loc O g1' (es_nil ?_))⟩))))))))))))
  refine k_told k k3 O tp s Lw.wok (l := Look.«at» (.name "m.P")) (v := duePV' f) (f := f) (by exact hasn) (by omega) (fun t ptr e => ?_) (fun q hq => .tail _ hq) ?_ ?_
  · have e' := hst.symm.trans e
    cases e'
    exact ⟨Lw.tok hp, hsrch⟩
  · unfold duePV' givenBy; rw [hst]
  refine e_loc O rfl ⟨false, c_ne_same O hdue', ⟨fun z => (nomatch z), fun _ => ?_⟩⟩
  exact xs_nil (xs_nil (h _ _ _))
end
end Mine
end
section
open PySem PySem.W PySem.Spec PySem.Calls PyProof.Rows
namespace Mine
/-! law, a turn -/
local macro_rules | `(tactic| walk_at "mine") => `(tactic| repeat (first
  | with_reducible refine es_nil ?_
  | (with_reducible refine es_cons ?_ ?he; (case he => with_unfolding_all rfl))
  | with_reducible refine e_str ?_
  | with_reducible refine e_int ?_
  | with_reducible refine e_bool ?_
  | with_reducible refine e_none ?_
  | with_reducible refine e_tup ?_
  | with_reducible refine e_sub ?_
  | (with_reducible refine s_tup0 ?_ ?hl ?hs; (case hl => first | (simp; done) | (simp; omega) | omega); (case hs => (intro _ _; with_unfolding_all rfl)))
  | (with_reducible refine s_tup1 ?_ ?hl ?hs; (case hl => first | (simp; done) | (simp; omega) | omega); (case hs => (intro _ _; with_unfolding_all rfl)))
  | (with_reducible refine s_tup2 ?_ ?hl ?hs; (case hl => first | (simp; done) | (simp; omega) | omega); (case hs => (intro _ _; with_unfolding_all rfl)))
  | (with_reducible refine And.intro (show List.length _ ≤ sizeLine from ?hz) ?_; (case hz => simp [sizeLine_eq]))
  | with_reducible refine thn_ret ?_
  | refine e_loc (by assumption) rfl ?_))

set_option maxHeartbeats 1000000
noncomputable def wantL : List Str := ["a", "f", "g", "D", "b", "h", "C", "z"]
theorem want_ok : ∀ x ∈ wantL, PyData.strOk x = true ∧ x.length ≤ 10 := by decide +kernel
section
variable {prog : Program} {w : World} {b₀ : Heap} {K : Frag} {n : Nat} {A : Around} {outer : List Env} {L fa : Addr} {cdv : Value} {E : Value → Shared → Prop}
variable {env : List (Str × PV)} {Post : PF → Sy → Prop}
theorem law_turn (k : KOk K) (k2 : KOk2 K) (k3 : KOk3 K) (tp : Tp b₀ K) (O : (fxOf prog w b₀ A outer (envL L fa cdv)).Ok (n + 9)) {l : Addr} {vs : List Value} {ns : List Int} (hL : b₀.IsList l vs.toArray) (hI : IntsAre vs ns) (hlen : ns.length < 1000) {j : Nat} (hj : j < 10)
    (he : Has env [("k", .int j), ("script", .ref l)])
    (h : ∀ env', Has env' [("script", .ref l)] → Post .next ⟨env', []⟩) :
    Exs (fxOf prog w b₀ A outer (envL L fa cdv)) E lawB1 ⟨env, []⟩ Post := by
  have c218 := k.cls 218 (by decide)
  have c175 := k.cls 175 (by decide)
  refine xs_cons (x_assign O (.inl rfl) (e_call tp (k.callee O tp "_law_pool" 229 (by decide) rfl) (es_cons (e_loc O (he _ (.tail _ (.head _))) (es_cons (e_loc O (he _ (.head _)) (es_nil ?_)))))))
  refine callT_of (n := n + 9) (st := []) (rest := []) O (fn_pool (n := n + 8) k tp hL hI hlen hj) (.refl _) fun r st' hr => ?_
  obtain ⟨sr, a, c, rfl, hc, rfl⟩ := hr
  have he := he.tail.cons (x := "source") (p := .ref sr)
  refine xs_cons (x_assign O (.inl rfl) (e_call tp (k.callee O tp "_law_world" 248 (by decide) rfl) (es_cons (e_loc O rfl (es_nil ?_)))))
  refine callT_of (n := n + 9) (st := [(sr, srcPV a c)]) (rest := []) O (fn_law_world (n := n + 3) k k2 tp hc) (.refl _) fun r st' hr => ?_
  obtain ⟨dx, nd, nm, W, a1, c1, rfl, hc1, s, lw, hnm, hnl, rfl⟩ := hr
  have he := he.cons (x := "world") (p := .inst 218 dx)
  refine xs_st (bst sr dx nd a1 c1 nm) rfl ?_
  refine T.nd fun hnd3 => ?_
  have ap : Ap3 sr dx nd := by
    have h : ([sr, dx, nd] : List Addr).Nodup := hnd3
    simp at h
    exact ⟨h.1.1, h.1.2, h.2⟩
  have Lw := lw.lawOk
  refine xs_cons (x_for (it_list O (e_list ?_)))
  walk_at "mine"
  refine ⟨_, rfl, .inl ⟨_, _, rfl⟩, ?_⟩
  refine ⟨fun i σ => ∃ a c, c < 2147483647 ∧ σ.st = bst sr dx nd a c nm ∧ Has σ.env [("world", .inst 218 dx), ("source", .ref sr), ("script", .ref l)], ⟨a1, c1, hc1, rfl, he⟩, fun E' i q σ' hq hI => ?_, fun σ' hI => ?_⟩
  · obtain ⟨env, st⟩ := σ'
    obtain ⟨a, c, hc, h1, he⟩ := hI
    dsimp only at h1 he
    subst h1
    change ((nameL.take 2).map PV.str)[i]? = some q at hq
    rw [List.getElem?_map] at hq
    obtain ⟨p, hp, rfl⟩ := Option.map_eq_some_iff.mp hq
    have hpm := List.mem_of_getElem? hp
    obtain ⟨rows, ms, hW⟩ := Lw.st p hpm
    refine a_name O (.inl rfl) ?_
    have he := he.put (x := "name") (p := .str p)
    refine xs_cons (x_unpackS (xs := ["told", "base"]) O (fun x hx => by simp at hx; rcases hx with rfl | rfl <;> exact .inl rfl) ?_)
    refine e_tup (es_cons (e_tup (es_cons (e_str (es_cons (e_loc O rfl (es_nil ⟨by simp [sizeLine_eq], ?_⟩)))))))
    refine es_cons (e_attr tp (e_sub (e_attr tp (e_loc O (he _ (.head _)) ⟨218, wd0 nd, .ref nd, .var ap.get_dx, c218, (k.attr (218, "named") (by decide)).1, s.named, rfl, ?_⟩))))
    refine e_loc O rfl (s_dict (.var ap.get_nd) (s.rows p _ hW) ⟨175, _, structPV rows, .fix, c175, (k.attr (175, "underlying") (by decide)).1, rfl, rfl, es_nil ⟨by simp [sizeLine_eq], _, rfl, rfl, ?_⟩⟩)
    have he := (he.cons (x := "told") (p := named p)).cons (x := "base") (p := structPV rows)
    have hE : Has (("told", named p) :: ("base", structPV rows) :: ("name", .str p) :: env) [("base", structPV rows), ("told", named p), ("world", .inst 218 dx), ("source", .ref sr), ("script", .ref l)] := fun q hq => by
      have := he q hq
      rw [lookup_put, lookup_put] at this ⊢
      by_cases z : q.1 = "told"
      · rw [if_pos z]
        rw [if_neg (by rw [z]; decide), if_pos z] at this
        exact this
      · rw [if_neg z]
        rw [if_neg z] at this
        exact this
    refine xs_cons (x_for (it_list O (e_list (es_cons (e_str (es_cons (e_str (es_cons (e_str (es_cons (e_str (es_cons (e_call tp (k.callee O tp "_law_one" 243 (by decide) rfl) (es_cons (e_loc O (hE _ (.tail _ (.tail _ (.tail _ (.head _))))) (es_cons (e_list ?_)))))))))))))))))
    walk_at "mine"
    refine k_oneF (n := n + 7) k O tp (by decide) (by decide) hc Ap3.get_sr (fun _ _ => Ap3.set_sr) fun a2 c2 r hc2 hr => ?_
    refine es_nil ⟨by simp [sizeLine_eq], _, rfl, .inl ⟨_, _, rfl⟩, ?_⟩
    refine ⟨fun i σ => σ.st = bst sr dx nd a2 c2 nm ∧ Has σ.env [("base", structPV rows), ("told", named p), ("world", .inst 218 dx), ("source", .ref sr), ("script", .ref l)], ⟨rfl, hE⟩, fun E'' i q σ' hq hI => ?_, fun σ' hI => ?_⟩
    · obtain ⟨env, st⟩ := σ'
      obtain ⟨h1, he⟩ := hI
      dsimp only at h1 he
      subst h1
      obtain ⟨x, hx, rfl⟩ : ∃ x, x ∈ wantL ∧ q = .str x := by
        have := List.mem_of_getElem? hq
        simp at this hr
        rcases this with rfl | rfl | rfl | rfl | rfl
        · exact ⟨_, by decide, rfl⟩
        · exact ⟨_, by decide, rfl⟩
        · exact ⟨_, by decide, rfl⟩
        · exact ⟨_, by decide, rfl⟩
        · rcases hr with rfl | rfl | rfl | rfl <;> exact ⟨_, by decide, rfl⟩
      obtain ⟨x1, x2⟩ := want_ok x hx
      refine a_name O (.inl rfl) ?_
      have he2 := he.cons (x := "wanted") (p := .str x)
      refine law_ask (ms := ms) k k3 tp O Lw s hpm x1 x2 (fun q hq => he2 q (List.mem_of_mem_take (i := 4) hq)) fun v1 v2 => ?_
      exact ⟨rfl, ((he.put (x := "wanted") (p := .str x)).put (x := "members") (p := v1)).put (x := "due") (p := v2)⟩
    · obtain ⟨env, st⟩ := σ'
      obtain ⟨h1, he⟩ := hI
      dsimp only at h1 he
      subst h1
      exact xs_nil ⟨a2, c2, hc2, rfl, he.tail.tail⟩
  · obtain ⟨env, st⟩ := σ'
    obtain ⟨a, c, hc, h1, he⟩ := hI
    dsimp only at h1 he
    subst h1
    refine xs_cons (x_setdict (e_frzF (e_call tp (k.callee O tp "NamedRow" 175 (by decide) rfl) (es_cons (e_str (es_cons (e_str (es_cons (e_tup (es_cons (e_str (es_cons (e_tup (es_cons (e_str (es_cons (e_str (es_nil ⟨by simp [sizeLine_eq], es_nil ⟨by simp [sizeLine_eq], es_cons (e_dict0 (es_nil ?_))⟩⟩))))))))))))))))))
    refine k_row (n := n + 7) k O tp fun ox => ?_
    refine ⟨ox, _, (Def.ptr "m.A").row "m.P", bst sr dx nd a c nm, getM1, .inst rfl, by simp [delM], ?_⟩
    refine e_attr tp (e_loc O (he _ (.head _)) ⟨218, wd0 nd, .ref nd, .var ap.get_dx, c218, (k.attr (218, "named") (by decide)).1, s.named, rfl, ?_⟩)
    refine e_str ⟨nd, "m.P", nm, rfl, rfl, ap.get_nd, hnm, by rw [sizeLine_eq]; omega, ?_⟩
    refine xs_st (bst sr dx nd a c (setK "m.P" ((Def.ptr "m.A").row "m.P") nm)) (by simp [setM, ap.2.1, ap.2.2]) ?_
    have LwP := lw.lawOkP
    have sP := s.put "m.P" (.ptr "m.A")
    have hP : upd W "m.P" (.ptr "m.A") "m.P" = some (.ptr "m.A") := if_pos rfl
    refine xs_cons (x_for (it_list O (e_list ?_)))
    walk_at "mine"
    refine ⟨_, rfl, .inl ⟨_, _, rfl⟩, ?_⟩
    refine ⟨fun i σ => σ.st = bst sr dx nd a c (setK "m.P" ((Def.ptr "m.A").row "m.P") nm) ∧ Has σ.env [("world", .inst 218 dx), ("source", .ref sr), ("script", .ref l)], ⟨rfl, he⟩, fun E' i q σ' hq hI => ?_, fun σ' hI => ?_⟩
    · obtain ⟨env, st⟩ := σ'
      obtain ⟨h1, he⟩ := hI
      dsimp only at h1 he
      subst h1
      obtain ⟨x, hx, rfl⟩ : ∃ x, x ∈ wantL ∧ q = .str x := by
        have := List.mem_of_getElem? hq
        simp at this
        rcases this with rfl | rfl <;> exact ⟨_, by decide, rfl⟩
      obtain ⟨x1, x2⟩ := want_ok x hx
      refine a_name O (.inl rfl) ?_
      have he2 := he.cons (x := "wanted") (p := .str x)
      refine law_ask2 k k3 tp O LwP hP sP x1 x2 (fun q hq => he2 q (List.mem_of_mem_take (i := 2) hq)) fun v1 v2 v3 => ?_
      exact ⟨rfl, (((he.put (x := "wanted") (p := .str x)).put (x := "members") (p := v1)).put (x := "due") (p := v2)).put (x := "due") (p := v3)⟩
    · obtain ⟨env, st⟩ := σ'
      obtain ⟨h1, he⟩ := hI
      dsimp only at h1 he
      subst h1
      exact T.sub (st' := []) (fun _ h => nomatch h) List.nodup_nil (xs_nil (h env he.tail.tail))
end
end Mine
end
section
open PySem PySem.W PySem.Spec PySem.Calls PyProof.Rows
namespace Mine
/-! law, the end and the whole -/
local macro_rules | `(tactic| walk_at "mine") => `(tactic| repeat (first
  | with_reducible refine es_nil ?_
  | (with_reducible refine es_cons ?_ ?he; (case he => with_unfolding_all rfl))
  | with_reducible refine e_str ?_
  | with_reducible refine e_int ?_
  | with_reducible refine e_bool ?_
  | with_reducible refine e_none ?_
  | with_reducible refine e_tup ?_
  | with_reducible refine e_sub ?_
  | (with_reducible refine s_tup0 ?_ ?hl ?hs; (case hl => first | (simp; done) | (simp; omega) | omega); (case hs => (intro _ _; with_unfolding_all rfl)))
  | (with_reducible refine s_tup1 ?_ ?hl ?hs; (case hl => first | (simp; done) | (simp; omega) | omega); (case hs => (intro _ _; with_unfolding_all rfl)))
  | (with_reducible refine s_tup2 ?_ ?hl ?hs; (case hl => first | (simp; done) | (simp; omega) | omega); (case hs => (intro _ _; with_unfolding_all rfl)))
  | (with_reducible refine And.intro (show List.length _ ≤ sizeLine from ?hz) ?_; (case hz => simp [sizeLine_eq]))
  | with_reducible refine thn_ret ?_
  | refine e_loc (by assumption) rfl ?_))

set_option maxHeartbeats 1000000
noncomputable def lastWj : Nat → Str → Option Def
  | 0 => fun _ => none
  | 1 => upd (fun _ => none) "m.A" (lastDef "m.A")
  | _ => lastW
theorem lastWj_step {j : Nat} {p : Str} (hp : (nameL.take 2)[j]? = some p) : upd (lastWj j) p (lastDef p) = lastWj (j + 1) := by
  match j, hp with
  | 0, hp => cases hp; rfl
  | 1, hp => cases hp; rfl
noncomputable def memB : PV := .tup [.str "field", .tup [stepPV 1 false], ptrTo (named "m.B")]
theorem memB_pl : Pl 5 memB := ⟨_, rfl, by decide +kernel, by decide +kernel⟩
section
variable {prog : Program} {w : World} {b₀ : Heap} {K : Frag} {n : Nat} {A : Around} {outer : List Env} {L fa : Addr} {cdv : Value} {E : Value → Shared → Prop}
variable {env : List (Str × PV)} {Post : PF → Sy → Prop}
theorem law_end (k : KOk K) (k2 : KOk2 K) (k3 : KOk3 K) (tp : Tp b₀ K) (O : (fxOf prog w b₀ A outer (envL L fa cdv)).Ok (n + 9)) (h : ∀ σ, Post (.ret (.bool true)) σ) :
    Exs (fxOf prog w b₀ A outer (envL L fa cdv)) E ((stB law28).drop 1) ⟨env, []⟩ Post := by
  have c218 := k.cls 218 (by decide)
  refine xs_cons (x_assign O (.inl rfl) (e_call0 tp (k.callee O tp "World" 218 (by decide) rfl) (k_world (n := n + 4) k k2 O tp fun dx nd => ?_)))
  refine T.nd fun hnd => ?_
  have hne : dx ≠ nd := by
    have h : ([nd, dx] : List Addr).Nodup := hnd
    simp at h
    exact Ne.symm h
  refine T.sub (st' := wst dx nd (wd0 nd) rows0) (fun q hq => by simp at hq; rcases hq with rfl | rfl <;> simp) (nodup2 hne) ?_
  refine xs_cons (x_for (it_list O (e_list ?_)))
  walk_at "mine"
  refine ⟨_, rfl, .inl ⟨_, _, rfl⟩, ?_⟩
  refine ⟨fun j σ => ∃ nm, σ.st = wst dx nd (wd0 nd) nm ∧ WS (lastWj j) dx nd (wd0 nd) nm ∧ (nm.map (·.1)).Nodup ∧ nm.length ≤ 4 + j ∧ j ≤ 2 ∧ Has σ.env [("world", .inst 218 dx)],
    ⟨rows0, rfl, ⟨rfl, rfl, fun _ _ h => (nomatch h), hne⟩, by decide, Nat.le_refl _, Nat.zero_le _, fun q hq => by rw [List.mem_singleton.mp hq]; rfl⟩, fun E' j q σ' hq hI => ?_, fun σ' hI => ?_⟩
  · obtain ⟨env, st⟩ := σ'
    obtain ⟨nm, h1, s, hnm, hnl, hj, he⟩ := hI
    dsimp only at h1 he
    subst h1
    change ((nameL.take 2).map PV.str)[j]? = some q at hq
    rw [List.getElem?_map] at hq
    obtain ⟨p, hp, rfl⟩ := Option.map_eq_some_iff.mp hq
    have hpl : p.length = 3 := nameL_len (List.mem_of_mem_take (List.mem_of_getElem? hp))
    have hj2 : j < 2 := by
      rcases Nat.lt_or_ge j 2 with h | h
      · exact h
      · rw [List.getElem?_eq_none h] at hp; cases hp
    have hst := lastWj_step hp
    refine a_name O (.inl rfl) ?_
    have he := he.put (x := "name") (p := .str p)
    refine xs_cons (x_setdict (e_frzF (e_call tp (k.callee O tp "NamedRow" 175 (by decide) rfl) (es_cons (e_loc O rfl (es_cons (e_str (es_cons (e_tup (es_cons (e_str (es_cons (e_tup (es_nil ⟨by simp [sizeLine_eq], es_nil ⟨by simp [sizeLine_eq], ?_⟩⟩))))))))))))))
    refine es_cons (e_frzF (e_dict1 fun D => p_cons (e_str ⟨_, rfl, e_tup (es_cons (e_bool (es_cons (e_sub (e_call0 tp (k.callee O tp "_law_funcs" 255 (by decide) rfl) ?_)))))⟩)))
    refine callT_pure (n := n + 9) O (fn_funcs (n := n + 8) k tp) ?_
    refine e_int (s_list (i := 0) (p := fn0) (by decide) (by decide) rfl ?_)
    refine es_cons (e_bin (e_loc O rfl (e_str (b_sadd (by rw [hpl, sizeLine_eq]; decide) (es_nil ⟨by simp [sizeLine_eq], ?_⟩)))))
    refine p_nil ⟨getM1, by simp, D, .dict (methsPV (lastDef p).meths), .dict (methsPV (lastDef p).meths), wst dx nd (wd0 nd) nm, ?_, .ref, ?_, es_nil ?_⟩
    · simp [setM, getM, methsPV, lastDef, Def.meths, Meth.pv]
    · simp [setM, delM]
    refine k_row (n := n + 7) k O tp fun ox => ?_
    refine ⟨ox, _, (lastDef p).row p, wst dx nd (wd0 nd) nm, getM1, .inst rfl, by simp [delM], ?_⟩
    refine e_attr tp (e_loc O (he _ (.head _)) ⟨218, wd0 nd, .ref nd, .var getM1, c218, (k.attr (218, "named") (by decide)).1, s.named, rfl, ?_⟩)
    refine e_loc O rfl ⟨nd, p, nm, rfl, rfl, by rw [getM2 hne]; exact getM1, hnm, by rw [sizeLine_eq]; omega, ?_⟩
    refine xs_st (wst dx nd (wd0 nd) (setK p ((lastDef p).row p) nm)) (by simp [setM, hne]) ?_
    have := setK_length p ((lastDef p).row p) nm
    exact xs_nil ⟨_, rfl, hst ▸ s.put p (lastDef p), setK_nodup hnm, by omega, hj2, he⟩
  · obtain ⟨env, st⟩ := σ'
    obtain ⟨nm, h1, s, hnm, hnl, hj, he⟩ := hI
    dsimp only at h1 he
    subst h1
    have s : WS lastW dx nd (wd0 nd) nm := s
    refine xs_cons (x_assign O (.inl rfl) (e_tup ?_))
    walk_at "mine"
    have he := he.cons (x := "both") (p := structPV bothR)
    refine xs_cons (x_if (t_cmp (e_call tp (k.callee O tp "_law_told" 274 (by decide) rfl) (es_cons (e_loc O (he _ (.tail _ (.head _))) (es_cons (e_loc O (he _ (.head _)) (es_cons (e_str (es_nil ?_))))))))))
    refine k_told k k3 O tp s last_wok (l := Look.«at» (.rows bothR)) (v := memB) (f := [memB]) (by trivial) (by decide) (fun t ptr e => ?_) (fun q hq => hq) rfl ?_
    · cases e
      exact ⟨last_tok, last_B⟩
    refine e_tup (es_cons (e_str (es_cons (e_tup (es_cons (e_tup (es_cons (e_int (es_cons (e_bool (es_nil ⟨by simp [sizeLine_eq], es_nil ⟨by simp [sizeLine_eq], ?_⟩⟩)))))))))))
    refine es_cons (e_sub (e_sub (e_sub (e_loc O (he _ (.head _)) (e_int ?_)))))
    refine s_tup (i := 1) (p := .tup (bothR.map rowPV)) rfl (by simp) (e_int (s_tup (i := 1) (p := rowPV ("B", .emb "m.B" true)) rfl (by simp [bothR]) (e_int (s_tup (i := 1) (p := ptrTo (named "m.B")) rfl (by simp) (es_nil ⟨by simp [sizeLine_eq], ?_⟩)))))
    refine ⟨false, c_ne_same O memB_pl, ⟨fun z => (nomatch z), fun _ => ?_⟩⟩
    refine xs_nil (xs_cons (x_ret (e_cmp (e_call tp (k.callee O tp "_law_told" 274 (by decide) rfl) (es_cons (e_loc O (he _ (.tail _ (.head _))) (es_cons (e_loc O (he _ (.head _)) (es_cons (e_str (es_nil ?_)))))))))))
    obtain ⟨m1, m2, ml, hf⟩ := last_f
    refine k_told k k3 O tp s last_wok (l := Look.«at» (.rows bothR)) (v := .str "two") (f := m1 :: m2 :: ml) (by trivial) (by decide) (fun t ptr e => ?_) (fun q hq => hq) rfl ?_
    · cases e
      exact ⟨last_tok, hf⟩
    refine e_str ⟨_, c_eq_str, ?_⟩
    exact h _
theorem law_body (k : KOk K) (k2 : KOk2 K) (k3 : KOk3 K) (tp : Tp b₀ K) (O : (fxOf prog w b₀ A outer (envL L fa cdv)).Ok (n + 9)) {l : Addr} {vs : List Value} {ns : List Int} (hL : b₀.IsList l vs.toArray) (hI : IntsAre vs ns) (hlen : ns.length < 1000) :
    Exs (fxOf prog w b₀ A outer (envL L fa cdv)) E (stB law28) ⟨[("script", .ref l)], []⟩ fun f _ => f = .ret (.bool true) := by
  have hvl : vs.length = ns.length := hI.length
  have he : Has [("script", .ref l)] [("script", .ref l)] := fun q hq => by rw [List.mem_singleton.mp hq]; rfl
  refine xs_cons (x_for (it_range O tp (k.blt ("range", .type "range") (by simp [bltList])) rfl rfl ?_))
  refine e_call tp (k.calleeB O tp "max" (.builtin "max") (by simp [bltList]) rfl .builtin rfl) (es_cons (e_int (es_cons (e_call tp (k.calleeB O tp "min" (.builtin "min") (by simp [bltList]) rfl .builtin rfl) (es_cons (e_call tp (k.calleeB O tp "len" (.builtin "len") (by simp [bltList]) rfl .builtin rfl) (es_cons (e_loc O rfl (es_nil ?_)))))))))
  refine k_len_in hL (by omega) ?_
  refine es_cons (e_int (es_nil (k_min O (es_nil (k_max O ?_)))))
  have hN : ∃ N : Nat, (if (if (2 : Int) < (vs.length : Int) then (2 : Int) else (vs.length : Int)) > 1 then (if (2 : Int) < (vs.length : Int) then (2 : Int) else (vs.length : Int)) else 1) = (N : Int) ∧ N ≤ 2 := by
    by_cases h2 : (2 : Int) < (vs.length : Int)
    · exact ⟨2, by rw [if_pos h2]; rfl, by omega⟩
    · rw [if_neg h2]
      by_cases h1 : (vs.length : Int) > 1
      · exact ⟨vs.length, by rw [if_pos h1], by omega⟩
      · exact ⟨1, by rw [if_neg h1]; rfl, by omega⟩
  obtain ⟨N, hN, hN2⟩ := hN
  rw [hN]
  refine ⟨N, rfl, by omega, ?_⟩
  refine ⟨fun i σ => σ.st = [] ∧ Has σ.env [("script", .ref l)], ⟨rfl, he⟩, fun E' i q σ' hq hI' => ?_, fun σ' hI' => ?_⟩
  · obtain ⟨env, st⟩ := σ'
    obtain ⟨h1, he⟩ := hI'
    dsimp only at h1 he
    subst h1
    obtain ⟨hi, rfl⟩ := range_item hq
    refine a_name O (.inl rfl) ?_
    exact law_turn k k2 k3 tp O hL hI hlen (by omega) (he.cons (x := "k") (p := .int i)) fun env' he' => ⟨rfl, he'⟩
  · obtain ⟨env, st⟩ := σ'
    obtain ⟨h1, he⟩ := hI'
    dsimp only at h1 he
    subst h1
    exact law_end k k2 k3 tp O fun σ => rfl
end
end Mine
end
section
open PySem PySem.W PySem.Spec PySem.Calls PyProof.Rows
namespace Mine
/-! the law's body, run from the head's state -/
theorem law_run {prog : Program} {w : World} {K : Frag} {h₀ : Heap} {s : Shared} {L fa : Addr} {cd : Value} {l : Addr} {vs : List Value} {ns : List Int} {p : Program} {loose : List Str} {mg mb : Str → Option Value} {m : Str → Option Value} {Q : Flow → Shared → Prop} {E : Value → Shared → Prop}
    (F : Fr h₀ L s.heap m) (hm : m "script" = some (.ref l)) (X : K.In h₀) (T : TopRead p loose mg mb h₀) (hL : h₀.IsList l vs.toArray) (hI : IntsAre vs ns) (hlen : ns.length < 1000)
    (k : KOk K) (k2 : KOk2 K) (k3 : KOk3 K) (q : ∀ h' tk', (∀ b o, h₀.get? b = some o → h'.get? b = some o) → Q (.ret (.bool true)) { s with heap := h', toks := tk' }) :
    wpAny (model prog w) (callerA.deeper (envX "law" (stS law28) L fa cd [])) (execs (stB law28) (envX "law" (stS law28) L fa cd [])) Q E s := by
  have tp : Tp h₀ K := ⟨X, p, loose, mg, mb, T⟩
  have O : (fxOf prog w h₀ callerA [] (envL L fa cd)).Ok (1 + 9) := by
    refine ⟨rfl, rfl, rfl, rfl, rfl, ?_, ?_, List.nodup_nil⟩
    · show 1 + claimMargin + 1 + 4 * 10 < recursionLimit; decide
    · show 4 + 3 + 200 + 32 * 10 < cLine; decide
  have nL : h₀.get? L = none := Heap.get?_none_of_le F.above
  obtain ⟨oL, es, ep, eL, dL, rL⟩ := id F.ns
  have C : Cx (fxOf prog w h₀ callerA [] (envL L fa cd)) ⟨[("script", .ref l)], []⟩ h₀.get? s.heap := by
    refine ⟨F.keep, .refl _, ⟨m, F.ns, fun x pv e => ?_⟩, fun x c hx => (nomatch hx), nL, fun q hq => (nomatch hq), List.nodup_nil, fun env he => ?_, ?_⟩
    · obtain ⟨rfl, rfl⟩ := look1 e
      exact .inl ⟨rfl, _, hm, Rep.mkRef⟩
    · rw [List.mem_singleton.mp he]
      exact ⟨(by decide : (stS law28).kind ≠ .module), L, oL, rfl, nL, eL, fun vs e => by rw [dL] at e; cases e⟩
    · obtain ⟨o, _, _, e, _⟩ := T.g
      exact ⟨o, e⟩
  refine (law_body (E := E) k k2 k3 tp O hL hI hlen).run h₀.get? s _ C fun pf σ' b' h' tk' fl hP C' X' r => ?_
  subst hP
  cases fl with
  | ret v =>
    obtain rfl := Rep.boolI (b := b') (P := w.params) r
    exact q h' tk' fun b o e => C'.sub _ _ (C'.low _ _ e)
  | _ => exact False.elim r
theorem post_true (l : OpenLaw) {a d : List WData} : l.row.claim.post a (.bool true) d = true := by
  show (WShape.has [] (.bool true) .bool && WTm.holds [] (.eq .res (.lit (.bool true))) { args := a, res := some (.bool true), after := d }) = true
  unfold WTm.holds
  have e : PySem.W.same (.bool true) (.bool true) = true := by decide +kernel
  simp [WShape.has, WTm.value, WShape.arms, e]
theorem all_cons {α : Type} {p : α → Prop} {a : α} {l : List α} (h : p a) (hs : ∀ q ∈ l, p q) : ∀ q ∈ a :: l, p q := fun q hq => by
  rcases List.mem_cons.mp hq with rfl | hq
  · exact h
  · exact hs q hq
theorem all_nil {α : Type} {p : α → Prop} : ∀ q ∈ ([] : List α), p q := fun _ h => nomatch h
end Mine
end
open PySem PySem.W PySem.Spec PySem.Calls PyProof.Rows Mine
/-! names taken ahead: so the lines of the head lay no second copies of the written state, which would take the compiled file past its lid -/
namespace Mine.all
theorem tw17053130121481772103 : True := trivial
theorem tw397829171339713761 : True := trivial
theorem tw4818641064637329869 : True := trivial
theorem tw16644902639655322133 : True := trivial
theorem tw3357559941945735724 : True := trivial
theorem tw9385597778382524922 : True := trivial
theorem tw5002070824922625533 : True := trivial
theorem tw9600454056292803967 : True := trivial
theorem tw17360653242477243975 : True := trivial
theorem tw17523770736405063376 : True := trivial
theorem tw6946980451890315270 : True := trivial
theorem tw15618092478124507917 : True := trivial
theorem tw8968355716326206664 : True := trivial
theorem tw1081408078033650336 : True := trivial
theorem tw12150867744131226072 : True := trivial
theorem tw2863937026978368667 : True := trivial
theorem tw3630066180865283129 : True := trivial
theorem tw3282140407130366615 : True := trivial
theorem tw8225692313971065461 : True := trivial
theorem tw5718967094426423161 : True := trivial
theorem tw15248031165874397040 : True := trivial
theorem tw6772256407509377421 : True := trivial
theorem tw4613487602407358717 : True := trivial
theorem tw2690882624139800689 : True := trivial
theorem tw13320810954380615167 : True := trivial
theorem tw16665526110328478529 : True := trivial
theorem tw4831860214510110302 : True := trivial
theorem tw10677670038743541358 : True := trivial
theorem tw10323370424266482742 : True := trivial
theorem tw2286941943676669977 : True := trivial
theorem tw3586251380002802234 : True := trivial
theorem tw2997595627926355555 : True := trivial
theorem tw12381699962588209086 : True := trivial
theorem tw15849158762323818722 : True := trivial
theorem tw18440353960458814819 : True := trivial
theorem tw29985565223642888 : True := trivial
theorem tw10649901628825759099 : True := trivial
theorem tw16779862611959906862 : True := trivial
theorem tw3260867284072667098 : True := trivial
theorem tw1768962640154500726 : True := trivial
theorem tw10696458614491829572 : True := trivial
theorem tw9111709882147129655 : True := trivial
theorem tw11961059351148515626 : True := trivial
theorem tw13423135486485445016 : True := trivial
theorem tw3505695551076227089 : True := trivial
theorem tw8711421783369662179 : True := trivial
theorem tw10393596885623623503 : True := trivial
theorem tw2531900633515307401 : True := trivial
theorem tw5815207240830897808 : True := trivial
theorem tw13057232943065969744 : True := trivial
theorem tw4302931102428780990 : True := trivial
theorem tw201708328148552895 : True := trivial
theorem tw10389294372677164839 : True := trivial
theorem tw18120535436291149196 : True := trivial
theorem tw9496632788025766839 : True := trivial
theorem tw898707613593260451 : True := trivial
theorem tw12428716410969305734 : True := trivial
theorem tw11736780227944870738 : True := trivial
theorem tw225468126006155290 : True := trivial
theorem tw5362506446432344171 : True := trivial
theorem tw12447178028490564450 : True := trivial
theorem tw14721843458392949018 : True := trivial
theorem tw14832659646925512398 : True := trivial
theorem tw9642480246203547912 : True := trivial
theorem tw9397017562490477109 : True := trivial
theorem tw16739844878667351699 : True := trivial
theorem tw15059917014629022394 : True := trivial
theorem tw7205895575636617080 : True := trivial
theorem tw15968848678202421516 : True := trivial
theorem tw9022205114861038860 : True := trivial
theorem tw1088589479996732829 : True := trivial
theorem tw8316665608867782698 : True := trivial
theorem tw9764797518255496921 : True := trivial
theorem tw16694476904998839863 : True := trivial
theorem tw11051709101105081487 : True := trivial
theorem tw3583278330241179797 : True := trivial
theorem tw13370487131934946175 : True := trivial
theorem tw1323426155142419162 : True := trivial
theorem tw14994050371291808472 : True := trivial
theorem tw2479237469882504799 : True := trivial
theorem tw9285670843845949155 : True := trivial
theorem tw16747629065405408630 : True := trivial
theorem tw11084693905056812178 : True := trivial
theorem tw15670805634923389295 : True := trivial
theorem tw9133701021851612117 : True := trivial
theorem tw525001674005675781 : True := trivial
theorem tw5377772837010204750 : True := trivial
theorem tw8111057081096800836 : True := trivial
theorem tw2044195238379697640 : True := trivial
theorem tw16573077582942348641 : True := trivial
theorem tw3239841934065285509 : True := trivial
theorem tw7957553974722075628 : True := trivial
theorem tw18291108133853008933 : True := trivial
theorem tw8108845850537571710 : True := trivial
theorem tw2412950195513398651 : True := trivial
theorem tw8203446524507428889 : True := trivial
theorem tw14883968960377749705 : True := trivial
theorem tw15145278206449419223 : True := trivial
theorem tw13283931332471535325 : True := trivial
theorem tw11573567738276184859 : True := trivial
theorem tw18124843273605240230 : True := trivial
theorem tw15575253945988166476 : True := trivial
theorem tw5747321363474778693 : True := trivial
theorem tw17740860788197283744 : True := trivial
theorem tw4965207536615798822 : True := trivial
theorem tw3140866203998610647 : True := trivial
theorem tw8013882960148741844 : True := trivial
theorem tw4814944892674192296 : True := trivial
theorem tw5888963250497168203 : True := trivial
theorem tw14970210157437980911 : True := trivial
theorem tw7657994479303150727 : True := trivial
theorem tw3108443244893856389 : True := trivial
theorem tw3185962312253278316 : True := trivial
theorem tw282994513109133150 : True := trivial
theorem tw17260577670642009320 : True := trivial
theorem tw3832104259330054055 : True := trivial
theorem tw11446199593928302625 : True := trivial
theorem tw16452380345478319946 : True := trivial
theorem tw4645612490112672357 : True := trivial
theorem tw1327343985113690801 : True := trivial
theorem tw11273133048781285286 : True := trivial
theorem tw8096221689764760052 : True := trivial
theorem tw3804168243799541492 : True := trivial
theorem tw1075291646940621582 : True := trivial
theorem tw13132907815185506690 : True := trivial
theorem tw6189357195160471388 : True := trivial
theorem tw12304872625307995750 : True := trivial
theorem tw200952908838891698 : True := trivial
theorem tw15198316981687975854 : True := trivial
theorem tw11242623580682996947 : True := trivial
theorem tw14099800850047386279 : True := trivial
theorem tw9900696922168193843 : True := trivial
theorem tw17368901067910498557 : True := trivial
theorem tw6178583632892115015 : True := trivial
theorem tw5440085390276978291 : True := trivial
theorem tw2972125363121769464 : True := trivial
theorem tw15081044799308232511 : True := trivial
theorem tw15541118713287057729 : True := trivial
theorem tw8401958774316805891 : True := trivial
theorem tw2020152571437148077 : True := trivial
theorem tw10175558820241607032 : True := trivial
theorem tw8282734559531598150 : True := trivial
theorem tw7686242042924871683 : True := trivial
theorem tw4786962568827011835 : True := trivial
theorem tw2406872565856053176 : True := trivial
theorem tw2627396739876165418 : True := trivial
theorem tw3949192924188805160 : True := trivial
theorem tw3443626597506986169 : True := trivial
theorem tw9976896545867408452 : True := trivial
theorem tw8670540905479144303 : True := trivial
theorem tw12540455083557110006 : True := trivial
theorem tw10559529623256829277 : True := trivial
theorem tw6888782338466086140 : True := trivial
theorem tw11116879363250112325 : True := trivial
theorem tw5689438673786977140 : True := trivial
theorem tw14648276583578725374 : True := trivial
theorem tw4515135292898193881 : True := trivial
theorem tw7785168158365692624 : True := trivial
theorem tw13042374122123996364 : True := trivial
theorem tw6849123771955923804 : True := trivial
theorem tw10587560488923977431 : True := trivial
theorem tw6405578165278201989 : True := trivial
theorem tw12784588452913835247 : True := trivial
theorem tw10681620039792923934 : True := trivial
theorem tw14648097213134440425 : True := trivial
theorem tw2750322548573693319 : True := trivial
theorem tw5615934883764171431 : True := trivial
theorem tw16457593375850944212 : True := trivial
theorem tw3448833343719912132 : True := trivial
theorem tw11784725038316003381 : True := trivial
theorem tw3477183460249832127 : True := trivial
theorem tw5854907428364158380 : True := trivial
theorem tw15284455985751111415 : True := trivial
theorem tw10277526245819850656 : True := trivial
theorem tw10942295900298899174 : True := trivial
theorem tw17106608494224303150 : True := trivial
theorem tw14849280956162755979 : True := trivial
theorem tw13270532327374429287 : True := trivial
theorem tw7899379758991183832 : True := trivial
theorem tw17899929404969355535 : True := trivial
theorem tw596421839371371174 : True := trivial
theorem tw15305453227285626446 : True := trivial
theorem tw17717444079117462278 : True := trivial
theorem tw14204109254541194217 : True := trivial
theorem tw12180536567876656950 : True := trivial
theorem tw14539000326390715668 : True := trivial
theorem tw7062720368445256129 : True := trivial
theorem tw6393532188824929214 : True := trivial
theorem tw14647661154017913664 : True := trivial
theorem tw11251942243311171533 : True := trivial
theorem tw7238125184777875665 : True := trivial
theorem tw2235618017368140517 : True := trivial
theorem tw10331167273965929257 : True := trivial
theorem tw4835796080096327916 : True := trivial
theorem tw12254430714555821875 : True := trivial
theorem tw7824222052329908659 : True := trivial
theorem tw8838840417862019655 : True := trivial
theorem tw11536899603342547138 : True := trivial
theorem tw2013830700403712203 : True := trivial
theorem tw13338274903956020161 : True := trivial
theorem tw14984247238865676675 : True := trivial
theorem tw10705108097460422218 : True := trivial
theorem tw3165661143165402847 : True := trivial
theorem tw13769819675578578284 : True := trivial
theorem tw9305783451064888827 : True := trivial
theorem tw16987476370533704557 : True := trivial
theorem tw15076152544538823220 : True := trivial
theorem tw3855190133869164905 : True := trivial
theorem tw8026366407565007962 : True := trivial
theorem tw5543487718492105064 : True := trivial
theorem tw14444207656584330654 : True := trivial
theorem tw6656463916972431421 : True := trivial
theorem tw4907521953547317329 : True := trivial
theorem tw10034031380863371641 : True := trivial
theorem tw3527972740633252992 : True := trivial
theorem tw6900727353157573822 : True := trivial
theorem tw18068929663759586442 : True := trivial
theorem tw16838893715234930207 : True := trivial
theorem tw12892600551074114502 : True := trivial
theorem tw17314943208353570444 : True := trivial
theorem tw11639333894188339638 : True := trivial
theorem tw17772726858579744284 : True := trivial
theorem tw5103548895888603802 : True := trivial
theorem tw15176617289070330970 : True := trivial
theorem tw2711446468545577505 : True := trivial
theorem tw5555718599999811639 : True := trivial
theorem tw14124840197023413450 : True := trivial
theorem tw10252965763247687682 : True := trivial
theorem tw7916160540357663616 : True := trivial
theorem tw200202858802481044 : True := trivial
theorem tw14288127532215574351 : True := trivial
theorem tw12563031120210811263 : True := trivial
theorem tw3020832510069240704 : True := trivial
theorem tw2496985677507960046 : True := trivial
theorem tw4258606087713283508 : True := trivial
theorem tw10658958392246782621 : True := trivial
theorem tw5750698986362780913 : True := trivial
theorem tw14848961488311411958 : True := trivial
theorem tw8789357946953759264 : True := trivial
theorem tw15888951733556516598 : True := trivial
theorem tw6648324312943424196 : True := trivial
theorem tw15105651507014581045 : True := trivial
theorem tw3835962111665225711 : True := trivial
theorem tw9743695723290020096 : True := trivial
theorem tw13288577186741363895 : True := trivial
theorem tw15451204947285891726 : True := trivial
theorem tw1973140245219671491 : True := trivial
theorem tw9514876090768664877 : True := trivial
theorem tw15766547542915688834 : True := trivial
theorem tw13928513891281363954 : True := trivial
theorem tw8857914048673524507 : True := trivial
theorem tw8322597137079436277 : True := trivial
theorem tw15926794790568321017 : True := trivial
theorem tw1694654335647164047 : True := trivial
theorem tw7193976414177721783 : True := trivial
theorem tw12015869672667152473 : True := trivial
theorem tw10316705163991428254 : True := trivial
theorem tw12588980310967471357 : True := trivial
theorem tw4634341240264483431 : True := trivial
theorem tw15151187641303801864 : True := trivial
theorem tw4942582282674782268 : True := trivial
theorem tw15097909243742831393 : True := trivial
theorem tw13100642850353945058 : True := trivial
theorem tw4561188658046838414 : True := trivial
theorem tw17933553581876595578 : True := trivial
theorem tw16444899576201249432 : True := trivial
theorem tw16739083755425606968 : True := trivial
theorem tw14701963045326077753 : True := trivial
theorem tw11093295523969242068 : True := trivial
theorem tw44263415142174766 : True := trivial
theorem tw11488495728068971930 : True := trivial
theorem tw7234240908195146063 : True := trivial
theorem tw4847766330237268548 : True := trivial
end Mine.all
set_option Elab.async true in
set_option maxRecDepth 100000 in
set_option maxHeartbeats 8000000 in
theorem Mine.all : PySem.Challenge.rw_on0016_01.Holds := by
  w_on
  o_law
  k_head
  (case hw => w_witness2)
  k_go0
  refine law_run (by assumption) ?mineM (by assumption) (topRead_of (by with_reducible assumption)) (by assumption) (by assumption) ?mineL ?mineA ?mineB ?mineC ?mineQ
  case mineM => rfl
  case mineL => omega
  case mineA =>
    refine ⟨?_, ?_, ?_, ?_, ?_, by k_is, ?_, ?_, ?_, ?_, ?_, ?_, ?_, ?_, ?_, ?_, ?_, ?_, ?_, ?_, ?_, ?_, ?_, ?_, ?_, ?_⟩
    · unfold globList
      (repeat (refine all_cons ⟨by k_is, by k_is⟩ ?_)); exact all_nil
    · unfold bltList
      (repeat (refine all_cons (by k_is) ?_)); exact all_nil
    · unfold attrList
      (repeat (refine all_cons ⟨by k_is, by k_is⟩ ?_)); exact all_nil
    · unfold methList
      (repeat (refine all_cons ⟨by k_is, by k_is, by k_is⟩ ?_)); exact all_nil
    · unfold clsList
      (repeat (refine all_cons ⟨by k_is, by k_is, by k_is, by k_is, by k_is, by k_is⟩ ?_)); exact all_nil
    all_goals exact ⟨_, _, _, _, _, _, _, _, by k_is, by k_is⟩
  case mineB => exact ⟨⟨_, _, _, _, _, _, _, _, by k_is, by k_is⟩, ⟨_, _, by k_is, rfl⟩⟩
  case mineC =>
    refine ⟨⟨⟨_, _, _, _, _, _, _, _, _, _, _, _, _, _, by k_is⟩, by decide, by decide, by decide, by decide, by decide, fun self => ?_, by k_is⟩, ⟨_, _, _, _, _, _, _, _, by k_is, by k_is⟩, ⟨_, _, _, by k_is, rfl⟩, by k_is, by k_is, by k_is, by k_is, by k_is, by k_is, by k_is, by k_is⟩
    rw [refuseLoop_ref, refuseLoop_ref]
    exact refuse_exc self
  case mineQ =>
    intro h' tk' hk
    refine ⟨.inl ⟨.bool true, .bool true, [], rfl, fun _ => rfl, .bool true, ?_, fun _ => ⟨List.nodup_nil, fun _ z => nomatch z⟩⟩, hk, rfl, by assumption⟩
    exact post_true _
theorem PySem.Challenge.cw_on0016_01_holds : PySem.Challenge.rw_on0016_01.Holds :=
  Mine.all
