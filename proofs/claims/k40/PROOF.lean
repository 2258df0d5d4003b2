import PyProof.Rows.All
import Wide.All
import OpenK.AllK
import Wide.FinOn
import HandS.ForMost
import HandS.Strs
import HandS.SetFor
import HandS.TupSets
import HandS.SortRule
import KE.KDictCopyH
import KE.KDictSum
import HandS.Conv
import HandS.DictTup
import KE.KDictDisplayH
import KE.GoesEnum
import KE.GoesNew
import KE.KRevSl
import HandS.Style
import HandS.Walk
import HandS.Evl
import HandS.Defaults
import HandS.IsInst
import HandS.TupAny
import HandS.TupLe
import HandS.Deep
import PySem.Challenge.RW_latchdoors_k40_whole_rounds
import HandS.TupLen
import KE.KStateDown
import Lean
import HandS.WordsExc
import HandS.Head0
import HandS.Head1
import HandS.Head2
import HandS.HeadEnd
import HandS.HeadHook1
import HandS.HeadHook2
set_option Elab.async false
set_option linter.all false
set_option maxRecDepth 100000
set_option maxHeartbeats 3200000
/-! sets of ints from a list or a tuple of ints, as a call by values -/
namespace LD
open PySem PySem.Spec PyProof.Rows L2

/-- the empty set object as it is laid -/
abbrev bareSet (w : World) : Obj := { cls := .type "set", dict := none, data := .set #[] 0 (.fresh 0 0 (!w.params.followText "set-order")) }
section
variable {P : Program} {w : World} {A : Around} {E : Value → Shared → Prop} {s : Shared}
/-- set(l), l a list of ints: what SetFor tells of a tuple -/
theorem setOfList {l : Addr} {its : Array Value} (ns : List Int) {Q : Value → Shared → Prop} (noEx : A.handled = none) (isL : s.heap.IsList l its) (hit : IntsAre its.toList ns) (few : ns.length + 1 < scanBound)
    (k : ∀ (h' : Heap) (tk c : Nat), SetR w h' s.heap.objs.size (fun j => decide (j ∈ ns)) c → c ≤ ns.length → (∀ b o, s.heap.get? b = some o → h'.get? b = some o) → Q (.ref s.heap.objs.size) { s with heap := h', toks := tk }) :
    wpAny (model P w) A (call (.type "set") [.ref l]) Q E s := by
  have cnt : its.size = ns.length := (Array.length_toList (xs := its)).symm.trans (IntsAre.length hit)
  obtain ⟨cd, tails, mro⟩ := F.called_set.mro
  have made := F.called_set.made; have subs := F.called_set.sub; have nt := F.called_set.notType; have cc := F.called_set.canCreate; have tc := F.typeCall_set_1 (.ref l)
  refine wpAny_call (codeAny_of_tree (show wpAny _ _ (callAny (.type "set") _) _ _ _ from wpAny_pure ⟨Code.quiet_builtin _ (by decide +kernel), codeAny_builtin PySem.F.entry_type_call ?_⟩))
  rw [Around.under_plain (weight_type_call_type "set" [.ref l] []) rfl]
  repeat (any_goals (first | assumption | wp_step))
  generalize hA1 : s.heap.objs.size = a at k
  have lS : l < a := by
    obtain ⟨o, ho, _⟩ := isL
    rw [← hA1]; exact Heap.lt_size ho
  refine codeAny_mono (code_set_led1 (w := w) (.ref l) (E := E) (Q₁ := fun obj s₁ => obj = .ref a ∧ s₁ = { s with heap := s.heap.push (bareSet w) }) ⟨by rw [hA1], rfl⟩) fun r s₁ hr => ?_
  rcases r with e | (_ | obj | _ | _) <;> try exact hr.elim
  · exact hr
  obtain ⟨rfl, rfl⟩ := hr
  have at0 : (s.heap.push (bareSet w)).get? a = some (bareSet w) := by rw [← hA1]; exact Heap.get?_push_size _ rfl
  have ty0 : Shared.TypeIs { s with heap := s.heap.push (bareSet w) } (.ref a) "set" := ⟨_, at0, rfl⟩
  have li := F.called_set.init.lookup; have bi := F.called_set.init.bind (.ref a)
  repeat (any_goals (first | assumption | wp_step))
  refine codeAny_mono (codeAny_call_builtin (R := wants (fun r s₂ => r = .none ∧ ∃ h' tk c, s₂ = { s with heap := h', toks := tk } ∧ SetR w h' a (fun j => decide (j ∈ ns)) c ∧ c ≤ ns.length ∧ ∀ b o, s.heap.get? b = some o → h'.get? b = some o) E)
    F.called_set.init.plain F.entry_set_init (check_set_init_1 ty0 ?_)) fun r₂ s₂ hr₂ => ?_
  · obtain ⟨ol, hol, hcl, nl, hdl⟩ := isL
    obtain ⟨oc, od, odt, osl⟩ := ol
    obtain rfl : oc = .type "list" := hcl
    obtain rfl : odt = .seq its nl := hdl
    have at1 : (s.heap.push (bareSet w)).get? l = some { cls := .type "list", dict := od, data := .seq its nl, slots := osl } := Heap.get?_push_of_some _ hol
    have isL1 : (s.heap.push (bareSet w)).IsList l its := ⟨_, at1, rfl, nl, rfl⟩
    have sa := F.sub_list_set; have sb := F.sub_list_frozenset; have sd : (Value.type "list" == Value.type "dict") = false := by decide
    unfold Builtin.«set.__init__» noKeywords Builtin.Frozenset.updateFrom
    generalize hPI : pyIter = PI
    wp_walk
    subst hPI
    refine wpAny_pyIter_list isL1 (wpAny_bind (wpAny_runValue ?_))
    have sz1 : (s.heap.push (bareSet w)).objs.size = a + 1 := by rw [Heap.size_push, hA1]
    have neI : l ≠ (s.heap.push (bareSet w)).objs.size := by rw [sz1]; exact Nat.ne_of_lt (Nat.lt_succ_of_lt lS)
    have noS : a ∉ [(s.heap.push (bareSet w)).objs.size, l] := by
      rw [sz1]; simp only [List.mem_cons, List.not_mem_nil, or_false, not_or]
      exact ⟨Nat.ne_of_lt (Nat.lt_succ_self _), Nat.ne_of_gt lS⟩
    refine set_update_ints ((Walks.list (A := A.in1.in1.in1) (by simp [noEx]) _ l neI its).toS) a noS ns cnt few (fun i v hv => ?_) (its.size - 0) 0 _ (by omega) (Nat.zero_le _) ⟨⟨_, Heap.get?_push_size _ rfl, rfl, rfl⟩, (isL1.push _)⟩ ⟨0, Nat.le_refl 0, setR_new_at (Heap.get?_push_of_some _ at0)⟩ ?_
    · have hi : i < ns.length := by rw [← cnt]; exact (Array.getElem?_eq_some_iff.mp hv).1
      obtain ⟨t, e⟩ := PyProof.Rows.IntsAre.int_at hit i v (by rw [Array.getElem?_toList]; exact hv)
      exact ⟨ns[i], t, List.getElem?_eq_getElem hi, by rw [e, List.getD_eq_getElem?_getD, List.getElem?_eq_getElem hi] <;> rfl⟩
    · intro s' c' mv hc' hS'
      obtain ⟨h', g2, d', tk', os'⟩ := s'
      obtain rfl : g2 = s.gens := mv.gens
      obtain rfl : d' = s.drawn := mv.drawn
      obtain rfl : os' = s.os := mv.os
      rw [cnt] at hc'
      refine wpAny_pure (show wpAny _ _ (ret Value.none) _ _ _ from wpAny_pure ⟨rfl, h', tk', c', rfl, hS', hc', fun b o e => ?_⟩)
      have hb0 : b < a := by rw [← hA1]; exact Heap.lt_size e
      refine mv.heap b o ?_ (Heap.get?_push_of_some _ (Heap.get?_push_of_some _ e))
      rw [sz1]; simp only [List.mem_cons, List.not_mem_nil, or_false, not_or]
      exact ⟨Nat.ne_of_lt hb0, Nat.ne_of_lt (Nat.lt_succ_of_lt hb0)⟩
  · rcases r₂ with e | (_ | r | _ | _) <;> try exact hr₂.elim
    · exact hr₂
    obtain ⟨rfl, h', tk, c', rfl, hS', hc', keep⟩ := hr₂
    repeat (any_goals (first | assumption | wp_step))
    exact k _ _ _ hS' hc' keep
end
section
variable {X : Cx}
/-- set(xs), xs a list or a tuple of fewer than 64 ints -/
def rSetI (K : PySem.W.Frag) (w : World) : List V → Hp → VK → Prop := fun xs H Q => ∃ (l : Addr) (ns : List Int), xs = [V.ref l] ∧ (SqL K H l (ns.map V.int) ∨ SqT K H l (ns.map V.int)) ∧ ns.length < 64 ∧
  ∀ a c, H a = none → c ≤ ns.length → Q (.ref a) (upd H a (SetO w a (fun j => decide (j ∈ ns)) c))
theorem cr_setI (hc : X.calm = true) : CallR X (.type "set") (rSetI X.K X.w) := by
  intro pins s σ H xs us Q I r h
  obtain ⟨l, ns, rfl, hl, few, q⟩ := h
  rw [Vals.ref1 r]
  have hn : H s.heap.objs.size = none := I.hok.fresh (Nat.le_refl _)
  have fin : ∀ (h' : Heap) (tk c : Nat), SetR X.w h' s.heap.objs.size (fun j => decide (j ∈ ns)) c → c ≤ ns.length → (∀ b o, s.heap.get? b = some o → h'.get? b = some o) → EP X pins σ Q (.ref s.heap.objs.size) { s with heap := h', toks := tk } :=
    fun h' tk c R hc' kp => ⟨.ref s.heap.objs.size, _, I.laid (t' := tk) kp (Nat.le_refl _) (setO_new R), rfl, q _ c hn hc'⟩
  rcases hl with hl | hl
  · obtain ⟨its, rv, pl, hz⟩ := I.list hl
    exact setOfList ns (I.ok.hd hc) pl.isList (by simpa using rv.ints) (by unfold scanBound; omega) fin
  · obtain ⟨its, rv, pl, hz⟩ := I.tuple hl
    exact call_set_tupI ns (I.ok.hd hc) pl (by simpa using rv.ints) (by unfold scanBound; omega) fin
end
end LD
set_option Elab.async false
set_option linter.all false
set_option maxRecDepth 100000
set_option maxHeartbeats 3200000
set_option autoImplicit false
/-! sorted of a list of tuples of ints of any lengths -/
namespace LD
open PySem PySem.Spec PyProof.Rows L2
open TS (TupInts intsOf)

theorem lexLt_asym : ∀ a b : List Int, HT.lexLt a b = true → HT.lexLt b a = false
  | [], [], h => by cases h
  | [], _ :: _, _ => rfl
  | _ :: _, [], h => by cases h
  | x :: xs, y :: ys, h => by
    rw [HT.lexLt_cons] at h ⊢
    by_cases e : x = y
    · rw [if_pos e] at h; rw [if_pos e.symm]; exact lexLt_asym xs ys h
    · rw [if_neg e] at h; rw [if_neg (Ne.symm e)]
      have := of_decide_eq_true h
      exact decide_eq_false (by omega)
theorem lexLt_tr : ∀ a b c : List Int, HT.lexLt b a = false → HT.lexLt c b = false → HT.lexLt c a = false
  | [], _, [], _, _ => rfl
  | [], _, _ :: _, _, _ => rfl
  | _ :: _, [], _, h, _ => by cases h
  | _ :: _, _ :: _, [], _, h => by cases h
  | x :: xs, y :: ys, z :: zs, h1, h2 => by
    rw [HT.lexLt_cons] at h1 h2 ⊢
    by_cases e1 : y = x <;> by_cases e2 : z = y
    · rw [if_pos e1] at h1; rw [if_pos e2] at h2; rw [if_pos (e2.trans e1)]; exact lexLt_tr xs ys zs h1 h2
    · rw [if_neg e2] at h2
      have := of_decide_eq_false h2
      rw [if_neg (by omega)]; exact decide_eq_false (by omega)
    · rw [if_neg e1] at h1
      have := of_decide_eq_false h1
      rw [if_neg (by omega)]; exact decide_eq_false (by omega)
    · rw [if_neg e1] at h1; rw [if_neg e2] at h2
      have a1 := of_decide_eq_false h1; have a2 := of_decide_eq_false h2
      rw [if_neg (by omega)]; exact decide_eq_false (by omega)
theorem swo_tups (h : Heap) : SrtO.Swo fun u v => HT.lexLt (intsOf h u) (intsOf h v) := ⟨fun x y => lexLt_asym _ _, fun x y z => lexLt_tr _ _ _⟩

section
variable {prog : Program} {w : World} {A : Around} {E : Value → Shared → Prop} {s : Shared} {M : Model}
/-- the first items, none of an empty one -/
theorem firstsAny : ∀ (vs : List Value) (nss : List (List Int)) {Q : List (Option Value) → Shared → Prop}, Paired (fun v ns => TupInts s.heap v ns) vs nss →
    (∀ fs : List (Option Value), Paired (fun (o : Option Value) (ns : List Int) => o.isSome = !ns.isEmpty) fs nss → Q fs s) → wpAny M A (vs.mapM firstOfTuple') Q E s
  | [], _, Q, .nil, h => by rw [List.mapM_nil]; exact wpAny_pure (h [] .nil)
  | v :: vs, ns :: nss, Q, .cons t r, h => by
    obtain ⟨a, xs, rfl, ⟨o, ho, hc, n, hd⟩, hi⟩ := t
    rw [List.mapM_cons, PySem.W.kas_first_eq]
    refine wpAny_bind (wpAny_bind (PySem.W.Looks.here (show PySem.W.Looks M s.heap (typeOf (.ref a)) o.cls from (PySem.W.Looks.ld ho).andThen .now) ?_))
    rw [hc, if_neg (by first | decide | simp)]
    refine wpAny_bind (listItems_at ho hd (wpAny_pure (wpAny_bind (firstsAny vs nss (Q := fun bs s' => wpAny M A (pure (xs[0]? :: bs)) Q E s') r fun fs hf => wpAny_pure (h _ (.cons ?_ hf))))))
    have e : xs.size = ns.length := by rw [← IntsAre.length hi, Array.length_toList]
    cases ns with
    | nil => simp only [List.length_nil] at e; simp [e]
    | cons z zs => simp only [List.length_cons] at e; simp [e]

theorem lexInts {fin : Bool} {b : Bool} {Q : Bool → Shared → Prop} : ∀ {us ws : List Value} {ns ms : List Int} (i : Nat), IntsAre us ns → IntsAre ws ms → fin = decide (us.length < ws.length) → Q (HT.lexLt ns ms) s →
    PySem.W.KatLex prog w A b fin Q (us.zip ws) i s
  | _, _, _, _, i, .nil, .nil, hf, h => by rw [hf]; exact h
  | _, _, _, _, i, .nil, .cons m u hj, hf, h => by
    rw [hf]
    show Q (decide (0 < _ + 1)) s
    rw [decide_eq_true (Nat.succ_pos _)]; exact h
  | _, _, _, _, i, .cons n t hi, .nil, hf, h => by rw [hf]; exact h
  | _, _, _, _, i, .cons n t hi, .cons m u hj, hf, h => by
    rw [HT.lexLt_cons] at h
    rw [List.zip_cons_cons]
    refine PySem.W.kat_cons (SeqAt.EqAt.int_int n t m u prog w _ _ (PySem.W.kat_go (fun e1 => ?_) fun e1 => ?_))
    · have ex : n = m := by simpa using e1
      rw [if_pos ex] at h
      exact PySem.W.kat_yes (lexInts (i + 1) hi hj (by rw [hf]; simp) h)
    · have ex : ¬ n = m := by simpa using e1
      rw [if_neg ex] at h
      refine PySem.W.kat_no ?_
      rcases Bool.eq_false_or_eq_true (b && i == 0) with q | q <;> rw [q]
      · exact oneLt_int h
      · exact PySem.W.kat_one _ _ (PyProof.Rows.lt_int h)
end
section
variable {prog : Program} {w : World} {A : Around} {E : Value → Shared → Prop} {s : Shared}
theorem tup_lt {u v : Value} {ns ms : List Int} {Q : Value → Shared → Prop} (hu : A.units < cLine) (x : TupInts s.heap u ns) (y : TupInts s.heap v ms) (h : Q (.bool (HT.lexLt ns ms)) s) : wpAny (model prog w) A (compareOp .Lt u v) Q E s := by
  obtain ⟨a, xs, rfl, hx, hi⟩ := x
  obtain ⟨b, ys, rfl, hy, hj⟩ := y
  exact HT.lt_tupInts hx hy hi hj hu h
theorem cmp_general {u v : Value} {ns ms : List Int} {Q : Bool → Shared → Prop} (hu : A.units < cLine) (x : TupInts s.heap u ns) (y : TupInts s.heap v ms) (h : Q (HT.lexLt ns ms) s) : wpAny (model prog w) A (keyLt' general' u v) Q E s := by
  show wpAny (model prog w) A (oneLt' false u v) Q E s
  exact PySem.W.kat_one _ _ (tup_lt hu x y h)
theorem cmp_one {u v : Value} {ns ms : List Int} {Q : Bool → Shared → Prop} (hu : A.units < cLine) (x : TupInts s.heap u ns) (y : TupInts s.heap v ms) (h : Q (HT.lexLt ns ms) s) : wpAny (model prog w) A (keyLt' oneType' u v) Q E s := by
  obtain ⟨a, xs, rfl, ⟨⟨c1, d1, t1, l1⟩, ho, hc, n, hd⟩, hi⟩ := x
  obtain ⟨b, ys, rfl, ⟨⟨c2, d2, t2, l2⟩, ho2, hc2, n2, hd2⟩, hj⟩ := y
  simp only at hc hd hc2 hd2
  subst hc hd hc2 hd2
  show wpAny (model prog w) A (oneLt' true _ _) Q E s
  rw [oneLt'_eq]
  simp only [if_true]
  refine wpAny_bind (wpAny_cRoomFor hu ?_)
  refine wpAny_bind (wpAny_callSpecialIfBound?_slot ⟨_, ho, rfl⟩ PySem.F.slot_tuple_lt (call_meets PySem.F.slot_tuple_lt ⟨_, ho, rfl⟩ PySem.F.entry_tuple_lt (PySem.F.args_tuple_lt_2 _ _) (HT.tuple_lt_ints a b xs ys n n2 d1 d2 l1 l2 ns ms hi hj) ⟨ho, ho2, ?_⟩))
  exact wpAny_truthy_bool h
theorem cmp_tups {u v : Value} {ns ms : List Int} {Q : Bool → Shared → Prop} {b : Bool} (x : TupInts s.heap u ns) (y : TupInts s.heap v ms) (h : Q (HT.lexLt ns ms) s) : wpAny (model prog w) A (keyLt' (tuples' b) u v) Q E s := by
  obtain ⟨a, xs, rfl, ⟨o, ho, hc, n, hd⟩, hi⟩ := x
  obtain ⟨c, ys, rfl, ⟨o2, ho2, hc2, n2, hd2⟩, hj⟩ := y
  exact PySem.W.kat_lt ho hd ho2 hd2 (lexInts 0 hi hj (by rw [Array.length_toList, Array.length_toList]) h)
theorem Paired_of {α β : Type} {F : α → β → Prop} {f : α → β} : ∀ {l : List α}, (∀ x ∈ l, F x (f x)) → Paired F l (l.map f)
  | [], _ => .nil
  | x :: l, h => .cons (h x List.mem_cons_self) (Paired_of fun y hy => h y (List.mem_cons_of_mem _ hy))
theorem some_of_pair {β : Type} {p : β → Bool} : ∀ {fs : List (Option Value)} {l : List β}, Paired (fun o x => o.isSome = p x) fs l → fs.all (·.isSome) = l.all p
  | _, _, .nil => rfl
  | _, _, .cons h r => by rw [List.all_cons, List.all_cons, h, some_of_pair r]
/-- all tuples filled: their firsts -/
theorem katOf {h : Heap} : ∀ (vs : List Value) (nss : List (List Int)), Paired (fun v ns => TupInts h v ns) vs nss → nss.all (fun ns => !ns.isEmpty) = true → ∃ fs : List Value, PySem.W.KatTups h vs fs ∧ fs.length = vs.length ∧ ∀ f ∈ fs, ∃ i t, f = Value.int i t
  | _, _, .nil, _ => ⟨[], trivial, rfl, fun f hf => absurd hf (by simp)⟩
  | _, _, .cons (b := ns) t r, e => by
    rw [List.all_cons, Bool.and_eq_true] at e
    obtain ⟨fs, k1, k2, k3⟩ := katOf _ _ r e.2
    obtain ⟨a, xs, rfl, ⟨o, ho, hc, n, hd⟩, hi⟩ := t
    obtain ⟨xl⟩ := xs
    cases hi with
    | nil => cases e.1
    | cons z u hi =>
      refine ⟨_ :: fs, PySem.W.KatTups.cons ho hc hd (f := .int z u) (by rfl) k1, by rw [List.length_cons, List.length_cons, k2], fun f hf => ?_⟩
      rcases List.mem_cons.mp hf with e | hf
      · exact ⟨z, u, e⟩
      · exact k3 f hf
theorem pair_mem {α β : Type} {F : α → β → Prop} : ∀ {l : List α} {m : List β} {x : α}, Paired F l m → x ∈ l → ∃ y, F x y
  | _, _, _, .nil, h => absurd h (by simp)
  | _, _, _, .cons t r, h => by
    rcases List.mem_cons.mp h with e | h
    · exact ⟨_, e ▸ t⟩
    · exact pair_mem r h
/-- tuples, some of them empty: the kind goes by the first one -/
theorem kind_mixed {vs : List Value} {n0 : List Int} {nss : List (List Int)} {Q : SortKind → Shared → Prop} {M : Model} (pr : Paired (fun v ns => TupInts s.heap v ns) vs (n0 :: nss)) (hall : (n0 :: nss).all (fun ns => !ns.isEmpty) = false)
    (h : Q (if n0.isEmpty = true then oneType' else general') s) : wpAny M A (keyKind' vs.toArray) Q E s := by
  rw [PyProof.Rows.kat_kind_eq, List.mapM_toArray, map_eq_pure_bind]
  refine wpAny_bind (wpAny_bind (firstsAny vs (n0 :: nss) pr fun fs hf => wpAny_pure ?_))
  have e1 : fs.all (·.isSome) = false := (some_of_pair hf).trans hall
  have e2 : (fs.toArray.all fun x => x.isSome) = false := by rw [List.all_toArray]; exact e1
  rw [e2, if_neg (by simp)]
  cases hf with
  | @cons o _ fr _ h1 hr =>
  have e3 : ((o :: fr).toArray[0]?.bind id) = o := by simp
  rw [e3]
  cases q : n0.isEmpty with
  | false =>
    rw [q] at h1 h
    rw [if_pos (show o.isSome = true from h1)]
    exact wpAny_pure h
  | true =>
    rw [q] at h1 h
    rw [if_neg (by rw [h1]; simp)]
    have all : ∀ v ∈ vs, PySem.W.Looks M s.heap (typeOf v) (.type "tuple") := fun v hv => by
      obtain ⟨ns, a, xs, rfl, ⟨o, ho, hc, n, hd⟩, _⟩ := pair_mem pr hv
      have l : PySem.W.Looks M s.heap (typeOf (.ref a)) o.cls := (PySem.W.Looks.ld ho).andThen .now
      rw [hc] at l
      exact l
    rw [oneTypeOnly'_eq, List.mapM_toArray, map_eq_pure_bind]
    refine wpAny_bind (wpAny_bind (wpAny_bind (PySem.W.kas_mapM (r := Value.type "tuple") _ (fun v hv Q' hq => (all v hv).here hq) (wpAny_pure ?_))))
    have hv0 : ∃ v vr, vs = v :: vr := by
      cases pr with
      | cons t r => exact ⟨_, _, rfl⟩
    obtain ⟨v, vr, rfl⟩ := hv0
    have hall2 : ((List.map (fun _ => Value.type "tuple") (v :: vr)).toArray.all fun x => x == Value.type "tuple") = true := by
      simp only [List.all_toArray, List.all_map, List.all_eq_true]
      intro _ _
      rfl
    have h0 : (List.map (fun _ => Value.type "tuple") (v :: vr)).toArray[0]? = some (Value.type "tuple") := by simp
    rw [h0]
    simp only [hall2, if_true]
    exact wpAny_pure (wpAny_pure h)
theorem tups_sortable {a : Addr} {vs : List Value} (h2 : 2 ≤ vs.length) (hp : ∀ v ∈ vs, TupInts s.heap v (intsOf s.heap v)) (ha : ∀ o, s.heap.get? a = some o → o.cls ≠ .type "tuple") (hu : A.units < cLine) :
    SrtO.SortableO prog w A s a vs fun u v => HT.lexLt (intsOf s.heap u) (intsOf s.heap v) := by
  intro h' keep
  have hp' : ∀ v ∈ vs, TupInts h' v (intsOf s.heap v) := fun v hm => (hp v hm).keeps fun b o e c => keep b o (fun z => by subst z; exact ha o e c) e
  have pr := Paired_of (f := fun v => intsOf s.heap v) hp'
  by_cases hall : (vs.map fun v => intsOf s.heap v).all (fun ns => !ns.isEmpty) = true
  · obtain ⟨fs, k1, k2, k3⟩ := katOf vs _ pr hall
    refine ⟨tuples' true, fun Q E hq => ?_, fun p q hm hm' => cmp_tups (s := { s with heap := h' }) (hp' _ hm) (hp' _ hm') ⟨rfl, rfl⟩⟩
    refine PySem.W.kat_kind (s := { s with heap := h' }) (T := .type "int") k1 (by omega) (fun f hm => ?_) (by rfl) ?_
    · obtain ⟨x, t, rfl⟩ := k3 f hm
      exact PySem.W.Looks.now
    · have e : (Value.type "int" != Value.type "tuple") = true := by first | decide +kernel | rfl | decide
      rw [e]
      exact hq
  · have many : ∀ (κ : SortKind), (κ = general' ∨ κ = oneType') → SrtO.Cmp prog w A { s with heap := h' } κ (fun p => p.1 ∈ vs) (SrtO.lt2 fun u v => HT.lexLt (intsOf s.heap u) (intsOf s.heap v)) := fun κ hκ p q hm hm' => by
      rcases hκ with rfl | rfl
      · exact cmp_general (s := { s with heap := h' }) hu (hp' _ hm) (hp' _ hm') ⟨rfl, rfl⟩
      · exact cmp_one (s := { s with heap := h' }) hu (hp' _ hm) (hp' _ hm') ⟨rfl, rfl⟩
    have hall' : (vs.map fun v => intsOf s.heap v).all (fun ns => !ns.isEmpty) = false := by
      cases q : (vs.map fun v => intsOf s.heap v).all (fun ns => !ns.isEmpty) with
      | false => rfl
      | true => exact absurd q hall
    obtain ⟨v0, vr, rfl⟩ : ∃ v0 vr, vs = v0 :: vr := by
      cases vs with
      | nil => simp at h2
      | cons v0 vr => exact ⟨v0, vr, rfl⟩
    rw [List.map_cons] at pr hall'
    refine ⟨_, fun Q E hq => kind_mixed (s := { s with heap := h' }) pr hall' hq, many _ ?_⟩
    split
    · exact .inr rfl
    · exact .inl rfl
end
section
variable {X : Cx}
/-- sorted(xs), xs a list of tuples of ints, told by their values -/
def rSortAny (K : PySem.W.Frag) : List V → Hp → VK → Prop := fun vs H Q => ∃ (a : Addr) (xs : List V), vs = [V.ref a] ∧ SqL K H a xs ∧ (∀ x ∈ xs, ∃ ns, TupI K H x ns) ∧ ∀ (ys : List V) (p : Addr), ys.Perm xs → H p = none → Q (.ref p) (upd H p (.lst ys))
theorem cr_sortAny (hu : X.A.units + 2 < cLine) : CallR X (.builtin "sorted") (rSortAny X.K) := by
  intro pins s σ H vs us Q I r h
  obtain ⟨a, xs, rfl, hs, hx, q⟩ := h
  obtain ⟨its, rv, hl, hz⟩ := I.list hs
  rw [Vals.ref1 r]
  obtain ⟨e1, e2⟩ := bkV_refs rv fun x m => by
    obtain ⟨ns, t, e, _⟩ := hx x m
    exact ⟨t, e⟩
  have raw : ∀ v ∈ its, ∃ ns, TupInts s.heap v ns := fun v hv => by
    obtain ⟨t, rfl⟩ := e2 v hv
    have hm : V.ref t ∈ xs := by rw [e1]; exact List.mem_map.mpr ⟨_, hv, rfl⟩
    obtain ⟨ns, t', e, ht⟩ := hx _ hm
    cases e
    exact ⟨ns, tupI_raw I ht⟩
  refine SrtO.sorted_ord (ltv := fun u v => HT.lexLt (intsOf s.heap u) (intsOf s.heap v)) (swo_tups s.heap) hl.isList (by rw [← rv.length]; exact hz) (fun h2 h₁ d hd kk => ?_) fun out hs hb => ?_
  · have k2 : ∀ v ∈ its, intsOf h₁ v = intsOf s.heap v := fun v hv => by
      obtain ⟨ns, t⟩ := raw v hv
      rw [t.ints, (t.keeps fun b o e _ => (kk b o e).2).ints]
    have S := tups_sortable (prog := X.prog) (w := X.w) (A := X.A.in1.in1) (s := { s with heap := h₁ }) (a := d) h2 (fun v hv => by
      obtain ⟨ns, t⟩ := raw v hv
      have t2 := t.keeps fun b o e _ => (kk b o e).2
      have e := t2.ints
      show TupInts h₁ v (intsOf h₁ v)
      rw [e]; exact t2) (fun o e c => by
      have e' : some o = some (seqObj "list" its.toArray 0) := e.symm.trans hd
      cases e'
      exact absurd (Value.type.inj c) (by decide)) hu
    intro h' keep
    obtain ⟨κ, S1, S2⟩ := S h' keep
    refine ⟨κ, S1, fun p q hm hm' => ?_⟩
    have c := S2 p q hm hm'
    show wpAny _ _ _ (fun r s' => s' = _ ∧ r = HT.lexLt (intsOf s.heap p.1) (intsOf s.heap q.1)) _ _
    rw [← k2 _ hm, ← k2 _ hm']
    exact c
  · obtain ⟨ep, he'⟩ := PyProof.Rows.sortedAll_at s.heap its out.toArray
    have pm := hb.perm
    have h3 : ∀ u ∈ out, ∃ a, u = Value.ref a := fun u hu => e2 u (pm.mem_iff.mp hu)
    have hp : (out.map bkV).Perm xs := by rw [e1]; exact pm.map bkV
    refine ⟨.ref _, upd H (s.heap.objs.size + 1) (.lst (out.map bkV)), I.laid (t' := s.toks) (fun _ _ => PyProof.Rows.sortedAll_old) (Nat.le_succ _) ⟨by rw [hp.length_eq]; exact hz, out, ep, bkV_vals h3, he'⟩, rfl, q _ _ hp (I.hok.fresh (Nat.le_succ _))⟩
end
end LD
set_option Elab.async false
set_option linter.all false
set_option maxRecDepth 100000
set_option maxHeartbeats 3200000
set_option autoImplicit false
/-! d.keys() of a dict whose keys are tuples, as a value; sorted of it -/
namespace LD
open PySem PySem.Spec PyProof.Rows L2
open TS (TupInts intsOf)

section
variable {prog : Program} {w : World} {A : Around} {E : Value → Shared → Prop} {s : Shared} {T : String} {r d : Addr} {n : Nat} {P : Nat → Value → Prop} {OK : Heap → Prop}
/-- collecting such a source, the heap's growth told -/
theorem collectSrc {R : List Value → Shared → Prop} (K : PySem.W.KdlSrc prog w T r d n P OK) (hh : A.handled = none) (ok : OK s.heap) (hn : n ≤ sizeLine)
    (k : ∀ (h' : Heap) (tk : Nat) (acc : Array Value), (∀ b o, s.heap.get? b = some o → h'.get? b = some o) → s.heap.objs.size < h'.objs.size → ItemsOf P acc n → R acc.toList { s with heap := h', toks := tk }) :
    wpAny (model prog w) A (collect (.ref r)) R E s := by
  have lt := K.there _ ok
  have new : (s.heap.push { cls := .type "list", data := .seq ([] : List Value).toArray }).get? s.heap.objs.size = some { cls := .type "list", data := .seq #[] } := Heap.get?_push_size _ rfl
  have run := PySem.W.kdl_extend (A := A) (s := { s with heap := s.heap.push { cls := .type "list", data := .seq ([] : List Value).toArray } }) (res := .ref s.heap.objs.size)
    (R := fun (q : Result) (s' : Shared) => q = .ok (.ret (.ref s.heap.objs.size)) ∧ ∃ (o : Obj), s'.heap.get? s.heap.objs.size = some o ∧ wpAny (model prog w) A (load s.heap.objs.size >>= fun (o : Obj) => (match o.data with
      | .seq xs _ => pure xs.toList
      | _ => unsupported "internal:collect" : Sem (List Value))) R E s')
    K hh (K.keep _ _ ok fun b _ o e => Heap.get?_push_of_some _ e) _ (Nat.ne_of_gt lt.1) (Nat.ne_of_gt lt.2) 0 new
    (fun h' tk acc' c' kp at' it => ⟨rfl, _, at', wpAny_bind (wpAny_load at' (wpAny_pure (k h' tk acc' (fun b o e => kp b o (Nat.ne_of_lt (Heap.lt_size e)) (Heap.get?_push_of_some _ e)) (Heap.lt_size at') it)))⟩) hn
  unfold collect
  refine wpAny_bind (wpAny_runValue (codeAny_builtin entry_proto_collect' ?_))
  rw [Around.under_plainId PySem.F.plain_proto_collect _]
  refine show wpAny _ A.in1 (newList [] >>= fun l => again (.builtin "list.__iadd__" ⟨[l, .ref r], []⟩)) _ _ s from wpAny_bind (wpAny_newObj_type (wpAny_pure ⟨plainId_quiet PySem.F.plain_list_iadd _, codeAny_builtin entry_list_iadd' ?_⟩))
  rw [Around.under_plainId PySem.F.plain_list_iadd _]
  refine wpAny_mono run (fun fin s' x => ?_) fun e s' x => ?_
  · cases fin with
    | done f =>
      obtain ⟨e, o, at', z⟩ := x
      cases e
      exact z
    | again c₁ =>
      refine ⟨x.1, codeAny_mono x.2 fun q s₂ y => ?_⟩
      obtain ⟨rfl, o, at', z⟩ := y
      exact z
  · cases x.1
end
section
variable {X : Cx}
def keysO (p d : Addr) : HO := .ext fun h => PySem.W.KdlKeysView h p d
theorem keysO_ok {P : Program} {w : World} {H : Hp} {h : Heap} {p d : Addr} (e : h.get? p = some { cls := .type "dict_keys", data := .fields #[.ref d] }) : ObjOk P w H h p (keysO p d) :=
  ⟨⟨_, e, rfl, rfl⟩, ⟨_, e⟩, fun _ _ x k => let ⟨o, ho, r⟩ := x; ⟨o, k o ho, r⟩⟩
def rKeysT : V → List V → Hp → VK → Prop := fun x xs H Q => ∃ (a : Addr) (kvs : List (List L2.Key × V)), x = .ref a ∧ xs = [] ∧ H a = some (.dT kvs) ∧ ∀ p, H p = none → Q (.ref p) (upd H p (keysO p a))
theorem mt_keysT : MtR X "dict.keys" rKeysT := by
  intro pins s σ H x xs v us Q I rx rxs h
  obtain ⟨a, kvs, rfl, rfl, ha, q⟩ := h
  cases rx
  cases rxs
  obtain ⟨z, hd, ks, rel, o, es, ep, ho, hx, hdat, rest⟩ := dt_of I.hok ha
  have raw : s.heap.DictRaw a es ep := ⟨o, ho, hx, hdat⟩
  refine call_meetsIn PySem.F.slot_dict_keys raw.typeIs PySem.F.entry_dict_keys (PySem.F.args_dict_keys_1 _) (meets_dict_keys_raw a hd) ⟨⟨es, ep, raw⟩, ?_⟩
  exact ⟨.ref s.heap.objs.size, _, I.laid (t' := s.toks) (fun b u e => Heap.get?_push_of_some _ e) (Nat.le_refl _) (keysO_ok (Heap.get?_push_size _ rfl)), rfl, q _ (I.hok.fresh (Nat.le_refl _))⟩

/-- sorted(view of the keys), the keys tuples of ints: a new list of the very key tuples, in some order -/
def rSortKeys : List V → Hp → VK → Prop := fun vs H Q => ∃ (p a : Addr) (kvs : List (List L2.Key × V)), vs = [.ref p] ∧ H p = some (keysO p a) ∧ H a = some (.dT kvs) ∧ (∀ kv ∈ kvs, ∃ ns : List Int, kv.1 = ns.map Sum.inl) ∧
  ∀ (bs : List Addr) (ys : List V) (q : Addr), IsKeys H kvs bs → ys.Perm (bs.map V.ref) → H q = none → Q (.ref q) (upd H q (.lst ys))
theorem keys_ints {H : Hp} {h : Heap} {P : Program} {w : World} (ok : HOk P w H h) : ∀ {kvs : List (List L2.Key × V)} {bs : List Addr}, IsKeys H kvs bs → (∀ kv ∈ kvs, ∃ ns : List Int, kv.1 = ns.map Sum.inl) → ∀ b ∈ bs, ∃ ns, TupInts h (.ref b) ns
  | _, _, .nil, _, b, hb => absurd hb (by simp)
  | kv :: kvs, _, .cons (b := c) t r, hk, b, hb => by
    rcases List.mem_cons.mp hb with e | hb
    · subst e
      obtain ⟨ns, e⟩ := hk kv List.mem_cons_self
      have t' : H b = some (.tup (kv.1.map kV)) := t
      rw [e, List.map_map] at t'
      obtain ⟨_, its, rv, ht⟩ := (show ObjOk P w H h b (.tup (ns.map (kV ∘ Sum.inl))) from ok b _ t')
      have rv' : Vals (ns.map V.int) its := rv
      exact ⟨ns, b, its.toArray, rfl, ht, by simpa using rv'.ints⟩
    · exact keys_ints ok r (fun kv' m => hk kv' (List.mem_cons_of_mem _ m)) b hb
theorem cr_sortKeys (hc : X.calm = true) (hu : X.A.units + 3 < cLine) : CallR X (.builtin "sorted") rSortKeys := by
  intro pins s σ H vs us Q I r h
  obtain ⟨p, a, kvs, rfl, hp, ha, hk, q⟩ := h
  rw [Vals.ref1 r]
  obtain ⟨z, hd, ks, rel, o, es, ep, ho, hx, hdat, he, hn⟩ := dt_of I.hok ha
  have view : PySem.W.KdlKeysView s.heap p a := (I.hok p _ hp).1
  have raw : s.heap.DictRaw a es ep := ⟨o, ho, hx, hdat⟩
  have l1 : es.size = ks.length := size_of_entries he
  have l2 : kvs.length = ks.length := Paired.length rel
  have ik := isKeys_of rel
  have ti := keys_ints I.hok ik hk
  refine Calls.call_function_entry kind_sorted plain_sorted entry_sorted (args_sorted1 _) ?_
  unfold Builtin.«sorted»
  refine wpAny_bind (m := checkCount "sorted" 1 1 _) (wpAny_pure (wpAny_bind ?_))
  refine collectSrc (KdlSrc.rawKeys (r := p) (d := a) (es := es) (ep := ep)) (I.ok.hd hc) ⟨view, raw⟩ (by omega) fun h' tk acc kp sz it => ?_
  have ea : acc.toList = (ks.map fun x => x.2.1).map Value.ref := by
    rw [List.map_map]
    have hl : acc.toList.length = ks.length := by rw [Array.length_toList, it.1]; exact l1
    refine List.ext_getElem (by rw [List.length_map]; exact hl) fun j h1 h2 => ?_
    rw [List.getElem_map]
    have hj : acc[j]? = some acc.toList[j] := by rw [← Array.getElem?_toList]; exact List.getElem?_eq_getElem h1
    obtain ⟨hi, hv⟩ := it.2 j _ hj
    have qe := entry_at he j
    rw [Array.getElem?_eq_getElem hi, List.getElem?_eq_getElem (by rw [List.length_map] at h2; exact h2)] at qe
    have e2 := Option.some.inj qe
    rw [hv, e2] <;> rfl
  generalize hbs : (ks.map fun x => x.2.1) = bs at ik ti ea
  have lb : bs.length = ks.length := by rw [← hbs, List.length_map]
  refine wpAny_bind (wpAny_newList ?_ (by rw [ea, List.length_map, lb]; omega))
  have hL : (h'.push (seqObj "list" acc.toList.toArray 0)).get? h'.objs.size = some (seqObj "list" acc.toList.toArray 0) := Heap.get?_push_size _ rfl
  rw [ea] at hL
  have ti2 : ∀ v ∈ bs.map Value.ref, ∃ ns, TupInts s.heap v ns ∧ TupInts (h'.push (seqObj "list" (bs.map Value.ref).toArray 0)) v ns := fun v hv => by
    obtain ⟨b, hb, rfl⟩ := List.mem_map.mp hv
    obtain ⟨ns, t⟩ := ti b hb
    exact ⟨ns, t, t.keeps fun c ob e _ => Heap.get?_push_of_some _ (kp _ _ e)⟩
  have lz : (bs.map Value.ref).length ≤ sizeLine := by rw [List.length_map, lb]; omega
  dsimp only
  rw [ea]
  refine wpAny_bind (wpAny_holding (wpAny_call_entry slot_list_sort ⟨_, hL, rfl⟩ entry_list_sort (SrtO.list_sort_ord (swo_tups _) hL lz (fun h2 => tups_sortable (s := { s with heap := h'.push (seqObj "list" (bs.map Value.ref).toArray 0), toks := tk }) h2 (fun v hv => ?_) (fun ob e c => ?_) ?_) fun out _ hs => ⟨_, rfl, ?_⟩) (args_list_sort _)))
  · obtain ⟨ns, _, t⟩ := ti2 v hv
    have e := t.ints
    show TupInts _ v (intsOf (h'.push (seqObj "list" (bs.map Value.ref).toArray 0)) v)
    rw [e]; exact t
  · have e' : some ob = some (seqObj "list" (bs.map Value.ref).toArray 0) := e.symm.trans hL
    cases e'
    exact absurd (Value.type.inj c) (by decide)
  · show X.A.units + 1 + 1 < cLine; omega
  · refine wpAny_pure ⟨_, rfl, ?_⟩
    have pm := hs.perm
    obtain ⟨ep2, hout⟩ := sortedHeap_at (vs := bs.map Value.ref) (out := out.toArray) hL
    have h3 : ∀ u ∈ out, ∃ a, u = Value.ref a := fun u hu => by
      obtain ⟨b, _, e⟩ := List.mem_map.mp (pm.mem_iff.mp hu)
      exact ⟨b, e.symm⟩
    have pm2 : (out.map bkV).Perm (bs.map V.ref) := by
      have := pm.map bkV
      rw [List.map_map] at this
      exact this
    refine ⟨.ref _, upd H h'.objs.size (.lst (out.map bkV)), I.laid (t' := tk) (fun b ob e => ?_) (Nat.le_of_lt sz) ⟨by rw [pm2.length_eq, List.length_map, lb]; omega, out, ep2, bkV_vals h3, hout⟩, rfl, q bs _ _ ik pm2 (I.hok.fresh (Nat.le_of_lt sz))⟩
    have hb := kp b ob e
    have hlt := Heap.lt_size hb
    show (sortedHeap (h'.push (seqObj "list" (bs.map Value.ref).toArray 0)) h'.objs.size (bs.map Value.ref) out.toArray).get? b = some ob
    rw [sortedHeap_old (Nat.ne_of_lt hlt) (by rw [size_push']; exact Nat.lt_succ_of_lt hlt)]
    exact Heap.get?_push_of_some _ hb
end
end LD
set_option Elab.async false
set_option linter.all false
set_option maxRecDepth 100000
set_option maxHeartbeats 3200000
set_option autoImplicit false
/-! {t: e} with one tuple as its key -/
namespace LD
open PySem PySem.Spec PyProof.Rows L2
def tDisp1 (tk tv : TE) : TE := fun σ H Q => ∀ p, H p = none → tk σ (upd H p (.dT [])) fun x H1 => tv σ H1 fun y H2 => H2 p = some (.dT []) ∧ ∃ (b : Addr) (ks : List L2.Key), x = .ref b ∧ H2 b = some (.tup (ks.map kV)) ∧ Q (.ref p) (upd H2 p (.dT [(ks, y)]))
theorem pe_disp1 {X : Cx} {k v : Expr} {pos : Pos} {tk tv : TE} (hu : X.A.units + 1 < cLine) (hk : PE X k tk) (hv : PE X v tv) : PE X (.Dict [some k] [v] pos) (tDisp1 tk tv) := by
  refine ⟨fun pins s σ H Q I q => ?_⟩
  have hn := I.hok.fresh (Nat.le_refl s.heap.objs.size)
  have I1 := I.laid (a := s.heap.objs.size) (o := .dT []) (h' := s.heap.push { cls := .type "dict", data := .dict #[] }) (t' := s.toks) (fun _ _ q => Heap.get?_push_of_some _ q) (Nat.le_refl _) (dt_empty s.heap I.big)
  rw [arm_eval_Dict, zip_pairTrees [some k] [v] X.env pos rfl rfl, dictDisplay_pairs _ (by simp [pairTrees]) (by simp [pairTrees])]
  refine wpAny_bind (wpAny_standAt (wpAny_bind (wpAny_subDictH (knd := tupleKind (mixKind X.prog X.w)) (show X.A.units < cLine by omega) (by simp [pairTrees]) ?_)))
  refine pairTrees_cons_walk (thn (hk.run pins _ σ _ _ I1 (q _ hn)) fun u s1 ⟨x, H1, I2, rx, q1⟩ => thn (hv.run pins s1 σ H1 _ I2 q1) fun z s2 ⟨y, H2, I3, ry, e0, b, ks, ex, eb, q2⟩ => pairTrees_nil_walk ?_)
  subst ex
  obtain rfl : u = Value.ref b := rx
  obtain ⟨_, hd, vs0, r0, dd⟩ := dt_of I3.hok e0
  cases r0
  refine ⟨[(ks, b, z)], ⟨rfl, rfl, key_of I3.hok eb, trivial⟩, dd, fun h' tk dd' hs => wpAny_pure ⟨.ref s.heap.objs.size, _, ?_, rfl, q2⟩⟩
  obtain ⟨qo, es, ep, hq, h2, h3, h4, _, h5⟩ := dd'
  refine (d_write (t' := tk) I3 (by rw [e0]; exact True.intro) hs ⟨qo, hq⟩ ⟨by rw [sizeLine_eq]; simp, hd, _, Paired.cons ⟨rfl, ?_, ry⟩ .nil, qo, es, ep, hq, h2, h3, h4, h5⟩)
  rw [upd_ne (ne_of eb e0 (fun z => nomatch z))]
  exact eb
end LD
set_option Elab.async false
set_option linter.all false
set_option maxRecDepth 100000
set_option maxHeartbeats 3200000
set_option autoImplicit false
/-! t[::-1] of a tuple; for i, x in enumerate(t), t a tuple -/
namespace LD
open PySem PySem.Spec PyProof.Rows L2

/-! ### t[::-1] -/
section
variable {prog : Program} {w : World} {A : Around} {E : Value → Shared → Prop} {s : Shared}
theorem places_back (n : Nat) : Builtin.Slice.slicePlaces ((n : Int) - 1) (-1) (-1) = n := by
  have e1 : ((n : Int) - 1 - -1 - 1) / (- -1) + 1 = (n : Int) := by
    rw [show (- -1 : Int) = 1 by decide, Int.ediv_one]; omega
  unfold Builtin.Slice.slicePlaces
  rw [if_neg (by decide : ¬ ((-1 : Int) > 0)), e1]
  by_cases h : (n : Int) - 1 > -1
  · rw [if_pos h]; omega
  · rw [if_neg h]; omega
theorem fm_congr {α β : Type} {f g : α → Option β} : ∀ {l : List α}, (∀ x ∈ l, f x = g x) → l.filterMap f = l.filterMap g
  | [], _ => rfl
  | x :: l, h => by
    have t := fm_congr (l := l) fun y hy => h y (List.mem_cons_of_mem _ hy)
    rw [List.filterMap_cons, List.filterMap_cons, h x List.mem_cons_self, t]
theorem pick_back (xs : Array Value) : ((List.range xs.size).filterMap fun (k : Nat) => xs[(((xs.size : Int) - 1) + (k : Int) * (-1)).toNat]?).toArray = xs.toList.reverse.toArray := by
  have e1 : (List.range xs.size).filterMap (fun (k : Nat) => xs[(((xs.size : Int) - 1) + (k : Int) * (-1)).toNat]?) = ((List.range xs.size).map fun k => xs.size - 1 - k).filterMap (xs[·]?) := by
    rw [List.filterMap_map]
    refine fm_congr fun k hk => ?_
    have := List.mem_range.mp hk
    have e : (((xs.size : Int) - 1) + (k : Int) * (-1)).toNat = xs.size - 1 - k := by omega
    show xs[_]? = xs[xs.size - 1 - k]?
    rw [e]
  rw [e1, PySem.W.krv_range, List.filterMap_reverse, PySem.W.krv_all]
theorem applied_back {sl : Addr} {vs : Value} {n : Nat} {Q : Int × Int × Nat → Shared → Prop} (hs : s.heap.IsSliceOf sl .none .none vs) (ps : IsPart vs (some (-1))) (h : Q ((n : Int) - 1, -1, n) s) :
    wpAny (model prog w) A (Builtin.Slice.sliceApplied (.ref sl) (pure (n : Int))) Q E s := by
  obtain ⟨os, hos, hcs, hds⟩ := id hs
  unfold Builtin.Slice.sliceApplied Builtin.Slice.sliceFields
  refine wpAny_bind (wpAny_bind (wpAny_field hos hds (x := .none) rfl (wpAny_bind (wpAny_field hos hds (x := .none) rfl (wpAny_bind (wpAny_field hos hds (x := vs) rfl (wpAny_pure ?_)))))))
  refine wpAny_bind (HT.slicePart_ ps ?_)
  refine show wpAny _ _ (if ((-1 : Int) == 0) = true then _ else _) _ _ s from ?_
  rw [if_neg (by decide)]
  refine wpAny_bind (slicePart_none (wpAny_bind (slicePart_none (wpAny_bind (wpAny_pure ?_)))))
  show wpAny _ _ (pure (((n : Int) - 1), (-1 : Int), Builtin.Slice.slicePlaces ((n : Int) - 1) (-1) (-1))) _ _ s
  rw [places_back]
  exact wpAny_pure h
theorem getItem_back {t sl : Addr} {items : Array Value} {vs : Value} {Q : Value → Shared → Prop} (ht : IsTup s.heap t items) (hs : s.heap.IsSliceOf sl .none .none vs) (ps : IsPart vs (some (-1)))
    (h : Q (.ref s.heap.objs.size) { s with heap := s.heap.push { cls := .type "tuple", data := .seq items.toList.reverse.toArray } }) (hsz : items.size ≤ sizeLine) : wpAny (model prog w) A (getItem (.ref t) (.ref sl)) Q E s := by
  have small : sizeOk (.seq items.toList.reverse.toArray) := by
    show items.toList.reverse.toArray.size ≤ sizeLine
    rw [List.size_toArray, List.length_reverse, Array.length_toList]; exact hsz
  obtain ⟨os, hos, hcs, hds⟩ := id hs
  have hTs : s.TypeIs (.ref sl) "slice" := ⟨os, hos, hcs⟩
  unfold getItem
  try with_reducible refine wpAny_holding ?_
  first | refine wpAny_bind (wpAny_pure ?_) | skip
  refine wpAny_bind (wpAny_sequenceKey ht.typeIs (by decide) (wpAny_bind (wpAny_callSpecial?_slot (name := Str.ofString "__getitem__") ht.typeIs PyProof.Rows.slot_tuple_getitem (wpAny_call_entry PyProof.Rows.slot_tuple_getitem ht.typeIs entry_tuple_getitem ?_ (args_tuple_getitem _ _)))))
  refine show wpAny _ _ (Builtin.Tuple.tupleItemsOf (.ref t) >>= _) _ _ s from wpAny_bind (tupleItemsOf_ ht (wpAny_bind (wpAny_typeOf hTs ?_)))
  rw [if_pos (by decide)]
  refine wpAny_bind (applied_back hs ps ?_)
  refine show wpAny _ _ (if (((items.size : Int) - 1) == 0 && (-1 : Int) == 1 && items.size == items.size) = true then _ else _) _ _ s from ?_
  rw [if_neg (by simp), pick_back]
  first
    | exact wpAny_bind (m := Builtin.Tuple.tupleExact _) (wpAny_newObj_type (wpAny_pure ⟨_, rfl, wpAny_pure h⟩) small)
    | exact wpAny_bind (wpAny_bind (m := Builtin.Tuple.tupleExact _) (wpAny_newObj_type (wpAny_pure (wpAny_pure ⟨_, rfl, wpAny_pure h⟩)) small))
end
def tRevT (K : PySem.W.Frag) (te : TE) : TE := fun σ H Q => te σ H fun x H1 => ∃ a xs, x = .ref a ∧ SqT K H1 a xs ∧ ∀ p, H1 p = none → Q (.ref p) (upd H1 p (.tup xs.reverse))
theorem pe_revT {X : Cx} {e : Expr} {te : TE} {k : Nat} {p1 p2 p3 pos : Pos} (he : PE X e te) : PE X (.Subscript e (.Slice none none (some (.UnaryOp .USub (.Constant (.int 1) k p1) p2)) p3) pos) (tRevT X.K te) := by
  refine ⟨fun pins s σ H Q I h => Subscript_ (thn (he.run pins s σ H _ I h) fun v s1 ⟨x, H1, I1, r1, a, xs, ex, hx, q⟩ => ?_)⟩
  subst ex
  cases r1
  have back : PO X (some (.UnaryOp .USub (.Constant (.int 1) k p1) p2)) (tPart (tUn (rU fun i => .int (-i)) (tC (.int 1)))) := po_some (pe_un un_neg pe_int)
  refine wpAny_Slice (thn (po_none.run pins s1 σ H1 (fun o H2 => o = none ∧ H2 = H1) I1 ⟨rfl, rfl⟩) fun vl s2 ⟨l, H2, I2, pl, el, e2⟩ => ?_)
  subst el e2
  cases pl
  refine thn (po_none.run pins s2 σ H2 (fun o H3 => o = none ∧ H3 = H2) I2 ⟨rfl, rfl⟩) fun vu s3 ⟨u, H3, I3, pu, eu, e3⟩ => ?_
  subst eu e3
  cases pu
  refine thn (back.run pins s3 σ H3 (fun o H4 => o = some (-1) ∧ H4 = H3) I3 ⟨1, rfl, -1, rfl, rfl, rfl⟩) fun vs s4 ⟨o, H4, I4, ps, eo, e4⟩ => ?_
  subst eo e4
  have I5 : Inv X pins σ H4 { s4 with heap := s4.heap.push { cls := .type "slice", data := .fields #[.none, .none, vs] } } := I4.kept (t' := s4.toks) fun b ob q => Heap.get?_push_of_some _ q
  obtain ⟨its, r, ht, hz⟩ := I5.tuple hx
  have hlen := r.length
  refine show wpAny (model X.prog X.w) X.A (subscriptTail e (.Slice none none (some (.UnaryOp .USub (.Constant (.int 1) k p1) p2)) p3) (.ref a) (.ref s4.heap.objs.size)) (EP X pins σ Q) X.xe { s4 with heap := s4.heap.push { cls := .type "slice", data := .fields #[.none, .none, vs] } } from ?_
  refine tail_any (ops := [.ref a, .ref s4.heap.objs.size]) ht.typeIs PyProof.Rows.slot_tuple_getitem.lookup ?_ (by with_unfolding_all rfl)
  refine getItem_back ht (Heap.IsSliceOf.new _ _ _ vs) ps ?_ (by rw [List.size_toArray]; omega)
  exact ⟨.ref _, _, I5.laid (t' := s4.toks) (o := .tup xs.reverse) (fun b ob q => Heap.get?_push_of_some _ q) (Nat.le_refl _) ⟨by rw [List.length_reverse]; exact hz, _, r.reverse, IsTup.new _ _⟩, rfl, q _ (I5.hok.fresh (Nat.le_refl _))⟩

/-! ### enumerate(t) -/
section
set_option maxHeartbeats 6400000
theorem meetsEnum1 {v : Value} {o : Obj} {H : Heap → Prop} (B : Begins v o H) :
    Meets (Builtin.«enumerate.__new__» ⟨[.type "enumerate", v], []⟩) (fun _ R s => H s.heap ∧
      R (.ok (.ret (.ref (s.heap.push o).objs.size))) { s with heap := (s.heap.push o).push { cls := .type "enumerate", data := .fields #[.none, .bool false, .ref s.heap.objs.size, rawInt 0, .none, .none] } }) :=
  .of_wp fun prog w A R s h => by
    obtain ⟨hp, g, d, tk, os⟩ := s
    obtain ⟨h1, h⟩ := h
    have hsub := sub_enumerate
    have go : ∀ {A' : Around} {E : Value → Shared → Prop} {Q : Value → Shared → Prop}, Q (.ref hp.objs.size) ⟨hp.push o, g, d, tk, os⟩ → wpAny (model prog w) A' (pyIter v) Q E ⟨hp, g, d, tk, os⟩ :=
      fun q => B.iter prog w _ _ ⟨hp, g, d, tk, os⟩ _ h1 q
    wp_walk using go
    refine wpAny_stack_any fun st => wpAny_pure ?_
    split
    · rename_i c _ _ _ _ _
      cases (c == Value.type "enumerate")
      · wp_walk using go
        exact ⟨_, rfl, h⟩
      · wp_walk using go
        exact ⟨_, rfl, h⟩
    · wp_walk using go
      exact ⟨_, rfl, h⟩
theorem enumOf {prog : Program} {w : World} {A : Around} {E : Value → Shared → Prop} {s : Shared} {v : Value} {o : Obj} {H : Heap → Prop} {Q : Value → Shared → Prop} (B : Begins v o H) (h1 : H s.heap)
    (h : ∀ h', IsEnum h' (s.heap.objs.size + 1) s.heap.objs.size 0 .none → h'.get? s.heap.objs.size = some o → (∀ b o, s.heap.get? b = some o → h'.get? b = some o) → Q (.ref (s.heap.objs.size + 1)) { s with heap := h' }) :
    wpAny (model prog w) A (call (.type "enumerate") [v]) Q E s := by
  refine callType_new F.called_enumerate (by decide) (F.typeCall_enumerate_1 _) (F.newCall_enumerate_1 _) (fun obj => F.args_object_init_2 obj _) F.entry_enumerate_new (meetsEnum1 B) ⟨h1, ?_⟩
  have hz : (s.heap.push o).objs.size = s.heap.objs.size + 1 := Heap.size_push ..
  refine show _ ∧ _ from ?_
  rw [hz]
  have he : IsEnum ((s.heap.push o).push { cls := .type "enumerate", data := .fields #[.none, .bool false, .ref s.heap.objs.size, rawInt 0, .none, .none] }) (s.heap.objs.size + 1) s.heap.objs.size 0 .none := by
    have q := Heap.get?_push_size (s.heap.push o) (o := { cls := .type "enumerate", data := .fields #[.none, .bool false, .ref s.heap.objs.size, rawInt 0, .none, .none] }) rfl
    rw [hz] at q; exact q
  exact ⟨⟨_, he, rfl⟩, h _ he (Heap.get?_push_of_some _ (Heap.get?_push_size _ B.free)) fun b ob x => Heap.get?_push_of_some _ (Heap.get?_push_of_some _ x)⟩
end
/-- the tuple at a as it stands at each turn, each item in a new pair -/
def Iet (K : PySem.W.Frag) (a : Addr) : It :=
  ⟨fun i H => ∃ (xs : List V) (x : V), SqT K H a xs ∧ xs[i]? = some x, fun i H v H' => ∃ T x, v = .ref T ∧ H T = none ∧ H' = upd H T (.tup [.int (i : Nat), x]) ∧ ∀ xs, SqT K H a xs → xs[i]? = some x, fun i H => ∃ xs : List V, SqT K H a xs ∧ xs.length = i⟩
theorem walk_enumT {K : PySem.W.Frag} {a : Addr} {xs : List V} : Walk (Iet K a) xs.length (fun H => SqT K H a xs) (YPair (fun i => some (.int (i : Nat))) (fun i => xs[i]?)) :=
  ⟨fun i _ hi q => ⟨xs, xs[i], q, by simp [hi]⟩, fun _ q => ⟨xs, q, rfl⟩, fun _ _ _ _ _ q y => let ⟨T, x, e1, e2, e3, e4⟩ := y; ⟨T, _, x, e1, e2, e3, rfl, e4 xs q⟩⟩
theorem turn_enumT {P : Program} {w : World} {K : PySem.W.Frag} {elts : List Expr} {kk : Nat} {tpos : Pos} (a e it : Addr) :
    Turn P w K (.Tuple elts kk tpos) (Iet K a) [e, it] e (fun i h => (∃ old, IsEnum h e it ((i : Nat) : Int) old) ∧ h.IsTupleIter it a i ∧ e ≠ it) where
  mem := by simp
  obj := fun i h st b hb => by
    obtain ⟨⟨old, he⟩, ⟨o, ho, hc, hd⟩, _⟩ := st
    rcases (by simpa using hb : b = e ∨ b = it) with z | z
    · rw [z]; exact ⟨_, he, fun v q => nomatch q⟩
    · rw [z]; exact ⟨o, ho, fun v q => by rw [hd] at q; cases q⟩
  keep := fun i h h' st k => let ⟨⟨old, he⟩, hi, hne⟩ := st; ⟨⟨old, k e (by simp) _ he⟩, hi.at fun o q => k it (by simp) o q, hne⟩
  item := by
    intro X hP hw hK hc i pins s σ H E I hf st hg
    subst hP hw hK
    obtain ⟨⟨old, he⟩, hit, hne⟩ := st
    obtain ⟨xs, x, hq, hx⟩ := hg
    obtain ⟨its, rv, p, hz⟩ := I.tuple hq
    obtain ⟨u, hu, ru⟩ := rv.get hx
    have na : a ≠ e ∧ a ≠ it := by
      have key : ∀ b, b = e ∨ b = it → a ≠ b := fun b hb z => by
        have f := hf b (by simpa using hb)
        rw [← z] at f
        rcases hq with (hq | ⟨ob, hq⟩) | hq
        · rw [f.1] at hq; cases hq
        · rw [f.1] at hq; cases hq
        · exact absurd rfl (fun _ : a = a => by
            obtain ⟨o2, its2, n2, lk, rest⟩ := hq
            have bs := I.ok.mod.kin _ _ lk
            rcases f.2.2.2.1 with z1 | z1
            · exact I.ok.noex _ _ bs z1
            · exact absurd (Nat.lt_of_lt_of_le (Heap.lt_size bs) (Nat.le_trans I.ok.bsz z1)) (Nat.lt_irrefl _))
      exact ⟨key e (.inl rfl), key it (.inr rfl)⟩
    have hlt : i < its.toArray.size := by
      have := (List.getElem?_eq_some_iff.mp hu).1
      simpa using this
    have G := GoesN.enumFrom (prog := X.prog) (w := X.w) (A := X.A) (elts := elts) (x1 := kk) (pos := tpos) 0 (Draws.tuple (A := X.A.in1) (I.ok.hd hc) it a na.2 its.toArray) e hne (by simp [hne, Ne.symm na.1]) (by simp)
    refine G.goes i s (fun v s2 => ∃ x H', Inv X pins σ H' s2 ∧ RelV x v ∧ (Iet X.K a).yld i H x H' ∧ ((∃ old, IsEnum s2.heap e it ((i + 1 : Nat) : Int) old) ∧ s2.heap.IsTupleIter it a (i + 1) ∧ e ≠ it) ∧ ∀ b ∈ [e, it], H' b = none) E hlt ⟨⟨old, by rw [Int.zero_add]; exact he⟩, hit, p⟩ ?_
    rintro v h' tk ⟨T, t, y, rfl, hT, hy, tupT⟩ ⟨⟨old', he'⟩, hit', _⟩ keep _
    have ey : y = u := by
      have q : its.toArray[i]? = some u := by simpa using hu
      rw [q] at hy
      exact (Option.some.inj hy).symm
    subst ey
    rw [Int.zero_add] at tupT he'
    refine ⟨.ref T, upd H T (.tup [.int (i : Nat), x]), I.turnedNew (t' := tk) (ch := [e, it]) keep hf hT ⟨by show 2 ≤ sizeLine; decide, [.int i t, y], .cons ⟨_, rfl⟩ (.cons ru .nil), tupT⟩, rfl, ⟨T, x, rfl, I.hok.fresh hT, rfl, fun ys hy => by rw [I.tuple_inj hy hq]; exact hx⟩, ⟨⟨old', he'⟩, hit', hne⟩, fun b hb => ?_⟩
    have hb' : b < s.heap.objs.size := by
      rcases (by simpa using hb : b = e ∨ b = it) with z | z
      · rw [z]; exact Heap.lt_size he
      · rw [z]; obtain ⟨_, q, _⟩ := hit; exact Heap.lt_size q
    rw [upd_ne (Nat.ne_of_lt (Nat.lt_of_lt_of_le hb' hT))]
    exact (hf b hb).1
  done := by
    intro X hP hw hK hc i pins s σ H E I hf st hg
    subst hP hw hK
    obtain ⟨⟨old, he⟩, hit, hne⟩ := st
    obtain ⟨xs, hq, hx⟩ := hg
    obtain ⟨its, rv, p, hz⟩ := I.tuple hq
    obtain ⟨f0, f1, f2, f3, f4, f5⟩ := hf it (by simp)
    have hl := rv.length
    have na : a ≠ it := fun z => by
      have e1 : its.toArray.size = xs.length := by rw [List.size_toArray]; exact hl.symm
      obtain ⟨o1, h1, c1, _⟩ := p
      obtain ⟨o2, h2, c2, _⟩ := hit
      rw [z, h2] at h1
      cases h1
      rw [c1] at c2
      exact absurd (Value.type.inj c2) (by decide)
    have e1 : its.toArray.size = i := by rw [List.size_toArray, ← hl]; exact hx
    subst e1
    exact wpAny_pyNext_enum_endD (Draws.tuple (A := X.A.in1) (I.ok.hd hc) it a na its.toArray) he ⟨hit, p⟩ fun h' eb => ⟨rfl, I.turned (t' := s.toks) (fun b o hb q => eb b o hb q) f0 f1 f3 f4 f5⟩
  self := fun A i s Q E st h => let ⟨⟨_, he⟩, _⟩ := st; wpAny_pyIter_enum he h
def iEnumT (K : PySem.W.Frag) (ta : TA) : TI := fun σ H R => ta σ H fun vs H1 => ∃ a xs, vs = [.ref a] ∧ SqT K H1 a xs ∧ R (Iet K a) H1
theorem pi_enumT {X : Cx} {e : Expr} {ta : TA} {p pos tpos : Pos} {elts : List Expr} {kk : Nat} (hg : Gl X "enumerate") (hm : X.mg "enumerate" = none) (ha : PA X [e] ta) (hs : starEach [e] X.env = [(false, eval e X.env)] := by rfl) :
    PI X (.Tuple elts kk tpos) (.Call (.Name "enumerate" p) [e] [] pos) (iEnumT X.K ta) := by
  refine ⟨fun pins s σ H R I h => Call_ (ld_blt I hg hm boot_enumerate (PyProof.Rows.callWith_type1 (thn (ha.run pos pins s σ H _ I h) fun us s1 ⟨vs, H1, I1, r1, q1⟩ => ?_) hs rfl))⟩
  obtain ⟨a, xs, ex, hq, q⟩ := q1
  subst ex
  cases r1 with
  | cons r rr =>
    cases rr
    cases r
    obtain ⟨its, rv, p', hz⟩ := I1.tuple hq
    refine enumOf (begins_tuple a its.toArray) p' fun h' he hit hk => wpAny_pyIter_enum he ?_
    have I2 : Inv X pins σ H1 { s1 with heap := h' } := I1.kept (t' := s1.toks) hk
    refine ⟨s1.heap.objs.size + 1, [s1.heap.objs.size + 1, s1.heap.objs.size], _, _, H1, rfl, I2, turn_enumT a (s1.heap.objs.size + 1) s1.heap.objs.size, ⟨⟨.none, he⟩, ⟨_, hit, rfl, rfl⟩, Nat.succ_ne_self _⟩, fun b hb => ?_, q⟩
    have hle : s1.heap.objs.size ≤ b := by
      rcases (by simpa using hb : b = s1.heap.objs.size + 1 ∨ b = s1.heap.objs.size) with z | z
      · rw [z]; exact Nat.le_add_right _ _
      · rw [z]; exact Nat.le_refl _
    exact I1.fpOk hle (I1.hok.fresh hle)
end LD
set_option Elab.async false
set_option linter.all false
set_option maxRecDepth 100000
set_option maxHeartbeats 3200000
set_option autoImplicit false
/-! what stands for what: a value and a heap against plain data, kept while the heap grows; evaluation told by it -/
namespace LD
open PySem PySem.Spec PyProof.Rows L2 Evl

structure Rep where
  p : V → Hp → Prop
  mono : ∀ {v : V} {H H' : Hp}, Ex H H' → p v H → p v H'
abbrev All2 {α β : Type} (F : α → β → Prop) (l : List α) (m : List β) : Prop := Paired F l m
def is (x : V) : Rep := ⟨fun v _ => v = x, fun _ h => h⟩
def IT (ns : List Int) : Rep := ⟨fun v H => ∃ a, v = .ref a ∧ H a = some (.tup (ns.map V.int)), fun e ⟨a, h, q⟩ => ⟨a, h, e _ _ q⟩⟩
def IL (ns : List Int) : Rep := ⟨fun v H => ∃ a, v = .ref a ∧ H a = some (.lst (ns.map V.int)), fun e ⟨a, h, q⟩ => ⟨a, h, e _ _ q⟩⟩
theorem all2_up {α : Type} {R : α → Rep} {H H' : Hp} (e : Ex H H') {xs : List α} {vs : List V} (h : All2 (fun x v => (R x).p v H) xs vs) : All2 (fun x v => (R x).p v H') xs vs := Paired.mapP h fun x _ q => (R x).mono e q
def LR {α : Type} (R : α → Rep) (xs : List α) : Rep := ⟨fun v H => ∃ a vs, v = .ref a ∧ H a = some (.lst vs) ∧ All2 (fun x v => (R x).p v H) xs vs, fun e ⟨a, vs, h, q, r⟩ => ⟨a, vs, h, e _ _ q, all2_up e r⟩⟩
def TR {α : Type} (R : α → Rep) (xs : List α) : Rep := ⟨fun v H => ∃ a vs, v = .ref a ∧ H a = some (.tup vs) ∧ All2 (fun x v => (R x).p v H) xs vs, fun e ⟨a, vs, h, q, r⟩ => ⟨a, vs, h, e _ _ q, all2_up e r⟩⟩
/-- a tuple of two, a tuple | list of these -/
def PR (R S : Rep) : Rep := ⟨fun v H => ∃ a x y, v = .ref a ∧ H a = some (.tup [x, y]) ∧ R.p x H ∧ S.p y H, fun e ⟨a, x, y, h, q, r, s⟩ => ⟨a, x, y, h, e _ _ q, R.mono e r, S.mono e s⟩⟩
/-- some x of which P holds -/
def XR {α : Type} (P : α → Prop) (R : α → Rep) : Rep := ⟨fun v H => ∃ x, P x ∧ (R x).p v H, fun e ⟨x, h, q⟩ => ⟨x, h, (R x).mono e q⟩⟩
abbrev I (n : Int) : Rep := is (.int n)
abbrev B (b : Bool) : Rep := is (.bl b)
def Pt (p : Int × Int) : Rep := IT [p.1, p.2]
def WB (m : Nat) (A : List (Int × Int)) : Rep := PR (I (m : Int)) (TR Pt A)

/-- tuples stand as they stood -/
def ExT (H H' : Hp) : Prop := ∀ a xs, H a = some (.tup xs) → H' a = some (.tup xs)
theorem ExT.refl (H : Hp) : ExT H H := fun _ _ h => h
theorem ExT.trans {H H1 H2 : Hp} (a : ExT H H1) (b : ExT H1 H2) : ExT H H2 := fun x o h => b x o (a x o h)
theorem ex_tt {H H' : Hp} (e : Ex H H') : ExT H H' := fun a xs h => e a _ h
theorem ExT.upd {H : Hp} {a : Addr} {o o' : HO} (h : H a = some o) (n : ∀ xs, o ≠ .tup xs) : ExT H (upd H a o') := fun b xs e => by
  rw [upd_ne (ne_of e h (fun z => n xs z.symm))]
  exact e
/-- a representation that leans on tuples alone -/
class TM (R : Rep) : Prop where
  t : ∀ {v : V} {H H' : Hp}, ExT H H' → R.p v H → R.p v H'
instance (x : V) : TM (is x) := ⟨fun _ h => h⟩
instance (ns : List Int) : TM (IT ns) := ⟨fun e ⟨a, h, q⟩ => ⟨a, h, e _ _ q⟩⟩
instance (p : Int × Int) : TM (Pt p) := ⟨fun e h => TM.t (R := IT [p.1, p.2]) e h⟩
instance (R S : Rep) [TM R] [TM S] : TM (PR R S) := ⟨fun e ⟨a, x, y, h, q, r, s⟩ => ⟨a, x, y, h, e _ _ q, TM.t e r, TM.t e s⟩⟩
theorem all2_t {α : Type} {R : α → Rep} [∀ x, TM (R x)] {H H' : Hp} (e : ExT H H') {xs : List α} {vs : List V} (h : All2 (fun x v => (R x).p v H) xs vs) : All2 (fun x v => (R x).p v H') xs vs := Paired.mapP h fun _ _ q => TM.t e q
instance {α : Type} (R : α → Rep) [∀ x, TM (R x)] (xs : List α) : TM (TR R xs) := ⟨fun e ⟨a, vs, h, q, r⟩ => ⟨a, vs, h, e _ _ q, all2_t e r⟩⟩
instance (m : Nat) (A : List (Int × Int)) : TM (WB m A) := ⟨fun e h => TM.t (R := PR (I (m : Int)) (TR Pt A)) e h⟩
instance {α : Type} (P : α → Prop) (R : α → Rep) [∀ x, TM (R x)] : TM (XR P R) := ⟨fun e ⟨x, h, q⟩ => ⟨x, h, TM.t e q⟩⟩

theorem all2_ints {H : Hp} : ∀ {ns : List Int} {vs : List V}, All2 (fun n v => (I n).p v H) ns vs ↔ vs = ns.map V.int
  | [], vs => ⟨fun h => by cases h; rfl, fun h => by rw [h]; exact .nil⟩
  | n :: ns, vs => by
    constructor
    · intro h
      cases h with
      | cons a r => rw [List.map_cons, ← all2_ints.mp r, show _ = V.int n from a]
    · intro h
      rw [h]
      exact .cons rfl (all2_ints.mpr rfl)
theorem LR_IL {ns : List Int} {v : V} {H : Hp} : (LR I ns).p v H ↔ (IL ns).p v H :=
  ⟨fun ⟨a, vs, h, q, r⟩ => ⟨a, h, by rw [← all2_ints.mp r]; exact q⟩, fun ⟨a, h, q⟩ => ⟨a, _, h, q, all2_ints.mpr rfl⟩⟩
theorem TR_IT {ns : List Int} {v : V} {H : Hp} : (TR I ns).p v H ↔ (IT ns).p v H :=
  ⟨fun ⟨a, vs, h, q, r⟩ => ⟨a, h, by rw [← all2_ints.mp r]; exact q⟩, fun ⟨a, h, q⟩ => ⟨a, _, h, q, all2_ints.mpr rfl⟩⟩
theorem all2_len {α β : Type} {F : α → β → Prop} {l : List α} {m : List β} (h : All2 F l m) : l.length = m.length := Paired.length h
theorem all2_get {α β : Type} {F : α → β → Prop} : ∀ {l : List α} {m : List β} {i : Nat} {y : β}, All2 F l m → m[i]? = some y → ∃ x, l[i]? = some x ∧ F x y
  | _, _, _, _, .nil, e => by simp at e
  | _, _, 0, _, .cons h _, e => ⟨_, rfl, by
    have := Option.some.inj (show some _ = some _ from e)
    subst this; exact h⟩
  | _, _, i + 1, _, .cons _ r, e => by
    obtain ⟨x, h1, h2⟩ := all2_get r (by simpa using e)
    exact ⟨x, by simpa using h1, h2⟩
theorem all2_snoc {α β : Type} {F : α → β → Prop} {l : List α} {m : List β} {x : α} {y : β} (h : All2 F l m) (q : F x y) : All2 F (l ++ [x]) (m ++ [y]) := Paired.snoc h q

/-! ### evaluation -/
def EvR (te : TE) (σ : L2.St) (H : Hp) (R : Rep) : Prop := ∀ H1, Ex H H1 → ∀ Q : VK, (∀ v H2, Ex H1 H2 → R.p v H2 → Q v H2) → te σ H1 Q
def EvAs (ta : TA) (σ : L2.St) (H : Hp) (Rs : List Rep) : Prop := ∀ H1, Ex H H1 → ∀ Q : List V → Hp → Prop, (∀ vs H2, Ex H1 H2 → All2 (fun (R : Rep) v => R.p v H2) Rs vs → Q vs H2) → ta σ H1 Q
/-- a rule by values: from x, y at H it gives a value of T -/
def R2R (r : R2) (x y : V) (H : Hp) (T : Rep) : Prop := ∀ Q : VK, (∀ v H2, Ex H H2 → T.p v H2 → Q v H2) → r x y H Q
def R1R (r : V → Hp → VK → Prop) (x : V) (H : Hp) (T : Rep) : Prop := ∀ Q : VK, (∀ v H2, Ex H H2 → T.p v H2 → Q v H2) → r x H Q
def RsR (r : List V → Hp → VK → Prop) (vs : List V) (H : Hp) (T : Rep) : Prop := ∀ Q : VK, (∀ v H2, Ex H H2 → T.p v H2 → Q v H2) → r vs H Q
section
variable {K : PySem.W.Frag} {σ : L2.St} {H H' : Hp} {ta tb tc te : TE} {t u : TT} {R S T : Rep}
theorem EvR.up (h : EvR te σ H R) (e : Ex H H') : EvR te σ H' R := fun H1 a Q q => h H1 (e.trans a) Q q
theorem EvAs.up {tA : TA} {Rs : List Rep} (h : EvAs tA σ H Rs) (e : Ex H H') : EvAs tA σ H' Rs := fun H1 a Q q => h H1 (e.trans a) Q q
theorem EvT.up {b : Bool} (h : EvT t σ H b) (e : Ex H H') : EvT t σ H' b := fun H1 a Q q => h H1 (e.trans a) Q q
theorem EvR.to (h : EvR te σ H R) (f : ∀ v H1, Ex H H1 → R.p v H1 → S.p v H1) : EvR te σ H S := fun H1 a Q q => h H1 a Q fun v H2 e r => q v H2 e (f v H2 (a.trans e) r)
theorem er_var {i : Nat} {v : V} (h : σ[i]? = some (some v)) (r : R.p v H) : EvR (tVar i) σ H R := fun H1 e _ q => ⟨v, h, q v H1 (Ex.refl H1) (R.mono e r)⟩
theorem er_c {v : V} : EvR (tC v) σ H (is v) := fun H1 _ _ q => q v H1 (Ex.refl H1) rfl
theorem er_op {r : R2} (ha : EvR ta σ H R) (hb : EvR tb σ H S) (hr : ∀ x y H1, Ex H H1 → R.p x H1 → S.p y H1 → R2R r x y H1 T) : EvR (tOp r ta tb) σ H T := fun H1 e Q q =>
  ha H1 e _ fun x H2 e2 rx => hb H2 (e.trans e2) _ fun y H3 e3 sy => hr x y H3 ((e.trans e2).trans e3) (R.mono e3 rx) sy Q fun v H4 e4 tv => q v H4 ((e2.trans e3).trans e4) tv
theorem er_un {r : V → Hp → VK → Prop} (ha : EvR ta σ H R) (hr : ∀ x H1, Ex H H1 → R.p x H1 → R1R r x H1 T) : EvR (tUn r ta) σ H T := fun H1 e Q q =>
  ha H1 e _ fun x H2 e2 rx => hr x H2 (e.trans e2) rx Q fun v H3 e3 tv => q v H3 (e2.trans e3) tv
theorem ea_nilR : EvAs tNil σ H [] := fun H1 _ _ q => q [] H1 (Ex.refl H1) .nil
theorem all2_reps {Rs : List Rep} {vs : List V} (e : Ex H H') (h : All2 (fun (R : Rep) v => R.p v H) Rs vs) : All2 (fun (R : Rep) v => R.p v H') Rs vs := Paired.mapP h fun R _ q => R.mono e q
theorem ea_consR {tr : TA} {Rs : List Rep} (h : EvR ta σ H R) (hr : EvAs tr σ H Rs) : EvAs (tCons ta tr) σ H (R :: Rs) := fun H1 e _ q =>
  h H1 e _ fun x H2 e2 rx => hr H2 (e.trans e2) _ fun vs H3 e3 rs => q _ H3 (e2.trans e3) (.cons (R.mono e3 rx) rs)
theorem er_cb {r : List V → Hp → VK → Prop} {tA : TA} {Rs : List Rep} (h : EvAs tA σ H Rs) (hr : ∀ vs H1, Ex H H1 → All2 (fun (R : Rep) v => R.p v H1) Rs vs → RsR r vs H1 T) : EvR (tCB r tA) σ H T := fun H1 e Q q =>
  h H1 e _ fun vs H2 e2 rs => hr vs H2 (e.trans e2) rs Q fun v H3 e3 tv => q v H3 (e2.trans e3) tv
theorem er_cb1 {r : List V → Hp → VK → Prop} (h : EvR ta σ H R) (hr : ∀ x H1, Ex H H1 → R.p x H1 → RsR r [x] H1 T) : EvR (tCB r (tCons ta tNil)) σ H T := fun H1 e Q q =>
  h H1 e _ fun x H2 e2 rx => hr x H2 (e.trans e2) rx Q fun v H3 e3 tv => q v H3 (e2.trans e3) tv
def TupOf (Rs : List Rep) : Rep := ⟨fun v H => ∃ a vs, v = .ref a ∧ H a = some (.tup vs) ∧ All2 (fun (R : Rep) v => R.p v H) Rs vs, fun e ⟨a, vs, h, q, r⟩ => ⟨a, vs, h, e _ _ q, all2_reps e r⟩⟩
def LstOf (Rs : List Rep) : Rep := ⟨fun v H => ∃ a vs, v = .ref a ∧ H a = some (.lst vs) ∧ All2 (fun (R : Rep) v => R.p v H) Rs vs, fun e ⟨a, vs, h, q, r⟩ => ⟨a, vs, h, e _ _ q, all2_reps e r⟩⟩
theorem er_tup {tA : TA} {Rs : List Rep} (h : EvAs tA σ H Rs) (hl : Rs.length ≤ 100000) : EvR (tTup tA) σ H (TupOf Rs) := fun H1 e _ q =>
  h H1 e _ fun vs H2 e2 rs => ⟨by rw [← all2_len rs]; exact sz_of hl, fun p hp => q _ _ (e2.trans (Ex.new hp)) ⟨p, vs, rfl, upd_same, all2_reps (Ex.new hp) rs⟩⟩
theorem er_lst {tA : TA} {Rs : List Rep} (h : EvAs tA σ H Rs) (hl : Rs.length ≤ 100000) : EvR (tLst tA) σ H (LstOf Rs) := fun H1 e _ q =>
  h H1 e _ fun vs H2 e2 rs => ⟨by rw [← all2_len rs]; exact sz_of hl, fun p hp => q _ _ (e2.trans (Ex.new hp)) ⟨p, vs, rfl, upd_same, all2_reps (Ex.new hp) rs⟩⟩
theorem tupOf_pair {v : V} (h : (TupOf [R, S]).p v H) : (PR R S).p v H := by
  obtain ⟨a, vs, e, q, r⟩ := h
  cases r with
  | cons h1 r =>
    cases r with
    | cons h2 r =>
      cases r
      exact ⟨a, _, _, e, q, h1, h2⟩
theorem lstOf_ints {ns : List Int} {v : V} (h : (LstOf (ns.map I)).p v H) : (IL ns).p v H := by
  obtain ⟨a, vs, e, q, r⟩ := h
  refine ⟨a, e, ?_⟩
  rw [q]
  have key : ∀ {ns : List Int} {vs : List V}, All2 (fun (R : Rep) v => R.p v H) (ns.map I) vs → vs = ns.map V.int := by
    intro ns
    induction ns with
    | nil => intro vs r; cases r; rfl
    | cons n ns ih =>
      intro vs r
      cases r with
      | cons h1 r => rw [List.map_cons, ← ih r, show _ = V.int n from h1]
  rw [key r]
theorem tupOf_ints {ns : List Int} {v : V} (h : (TupOf (ns.map I)).p v H) : (IT ns).p v H := by
  obtain ⟨a, vs, e, q, r⟩ := h
  refine ⟨a, e, ?_⟩
  rw [q]
  have key : ∀ {ns : List Int} {vs : List V}, All2 (fun (R : Rep) v => R.p v H) (ns.map I) vs → vs = ns.map V.int := by
    intro ns
    induction ns with
    | nil => intro vs r; cases r; rfl
    | cons n ns ih =>
      intro vs r
      cases r with
      | cons h1 r => rw [List.map_cons, ← ih r, show _ = V.int n from h1]
  rw [key r]
theorem er_if {b : Bool} (h : EvT t σ H b) (h1 : b = true → EvR ta σ H R) (h2 : b = false → EvR tb σ H R) : EvR (tIf t ta tb) σ H R := fun H1 e Q q => h H1 e _ fun H2 e2 => by
  cases b with
  | true => exact h1 rfl H2 (e.trans e2) Q fun v H3 e3 => q v H3 (e2.trans e3)
  | false => exact h2 rfl H2 (e.trans e2) Q fun v H3 e3 => q v H3 (e2.trans e3)
theorem et_of {b : Bool} (h : EvR te σ H (B b)) : EvT (tTest te) σ H b := fun H1 e _ q => h H1 e _ fun _ H2 e2 r => ⟨b, r, q H2 e2⟩
theorem et_ofB {b : Bool} (h : EvR te σ H (B b)) : EvT (tB te) σ H b := fun H1 e _ q => h H1 e _ fun _ H2 e2 r => ⟨b, r, q H2 e2⟩
theorem er_B {b c : Bool} (h : EvR te σ H (B b)) (e : b = c) : EvR te σ H (B c) := by rw [← e]; exact h
theorem er_I {m n : Int} (h : EvR te σ H (I m)) (e : m = n) : EvR te σ H (I n) := by rw [← e]; exact h
theorem er_and {a b : Bool} (h1 : EvR ta σ H (B a)) (h2 : a = true → EvR tb σ H (B b)) : EvR (tAndV ta tb) σ H (B (a && b)) := fun H1 e Q q => h1 H1 e _ fun _ H2 e2 r => ⟨a, r, by
  cases a with
  | true => exact iteT (h2 rfl H2 (e.trans e2) Q fun v H3 e3 s => q v H3 (e2.trans e3) s)
  | false => exact iteF (q _ H2 e2 rfl)⟩
theorem er_or {a b : Bool} (h1 : EvR ta σ H (B a)) (h2 : a = false → EvR tb σ H (B b)) : EvR (tOrV ta tb) σ H (B (a || b)) := fun H1 e Q q => h1 H1 e _ fun _ H2 e2 r => ⟨a, r, by
  cases a with
  | true => exact iteT (q _ H2 e2 rfl)
  | false => exact iteF (h2 rfl H2 (e.trans e2) Q fun v H3 e3 s => q v H3 (e2.trans e3) s)⟩
theorem er_not {a : Bool} (h1 : EvR ta σ H (B a)) : EvR (tNotV ta) σ H (B (!a)) := fun H1 e _ q => h1 H1 e _ fun _ H2 e2 r => ⟨a, r, q _ H2 e2 rfl⟩

/-! ### what is walked -/
def Wk {α : Type} (J : It) (xs : List α) (R : α → Rep) (H0 : Hp) : Prop :=
  ∃ Y, Walk J xs.length (fun H => Ex H0 H) Y ∧ ∀ (i : Nat) (H : Hp) (v : V) (H' : Hp), i < xs.length → Ex H0 H → Y i H v H' → Ex H H' ∧ ∃ x, xs[i]? = some x ∧ (R x).p v H'
def EvI {α : Type} (wi : TI) (σ : L2.St) (H : Hp) (xs : List α) (R : α → Rep) : Prop := ∀ H1, Ex H H1 → ∀ C : It → Hp → Prop, (∀ J H2, Ex H1 H2 → Wk J xs R H2 → C J H2) → wi σ H1 C
theorem EvI.up {α : Type} {wi : TI} {xs : List α} {R : α → Rep} (h : EvI wi σ H xs R) (e : Ex H H') : EvI wi σ H' xs R := fun H1 a C c => h H1 (e.trans a) C c
theorem ei_list {α : Type} {xs : List α} {R : α → Rep} (h : EvR te σ H (LR R xs)) : EvI (iList K te) σ H xs R := fun H1 e C c =>
  h H1 e _ fun v H2 e2 ⟨a, vs, ev, hv, r⟩ => ⟨a, ev, ⟨vs, sq_of hv⟩, c _ H2 e2 ⟨YAt vs, by
    have w := walk_list (K := K) (a := a) (xs := vs)
    rw [← all2_len r] at w
    exact w.mono (fun H x => sq_of (x a _ hv)) fun _ _ _ _ _ _ y => y, fun i H3 v H' hi x y => by
    obtain ⟨rfl, y⟩ := y
    obtain ⟨z, h1, h2⟩ := all2_get r y
    exact ⟨Ex.refl _, z, h1, (R z).mono x h2⟩⟩⟩
theorem ei_tup {α : Type} {xs : List α} {R : α → Rep} (h : EvR te σ H (TR R xs)) : EvI (iTup K te) σ H xs R := fun H1 e C c =>
  h H1 e _ fun v H2 e2 ⟨a, vs, ev, hv, r⟩ => ⟨a, ev, ⟨vs, st_of hv⟩, c _ H2 e2 ⟨YAt vs, by
    have w := walk_tup (K := K) (a := a) (xs := vs)
    rw [← all2_len r] at w
    exact w.mono (fun H x => st_of (x a _ hv)) fun _ _ _ _ _ _ y => y, fun i H3 v H' hi x y => by
    obtain ⟨rfl, y⟩ := y
    obtain ⟨z, h1, h2⟩ := all2_get r y
    exact ⟨Ex.refl _, z, h1, (R z).mono x h2⟩⟩⟩
theorem ei_IL {ns : List Int} (h : EvR te σ H (IL ns)) : EvI (iList K te) σ H ns I := ei_list (h.to fun _ _ _ r => LR_IL.mpr r)
theorem ei_IT {ns : List Int} (h : EvR te σ H (IT ns)) : EvI (iTup K te) σ H ns I := ei_tup (h.to fun _ _ _ r => TR_IT.mpr r)
def rng (n : Nat) : List Int := (List.range n).map Int.ofNat
theorem rng_at {n i : Nat} (h : i < n) : (rng n)[i]? = some (i : Int) := by
  unfold rng
  rw [List.getElem?_map, List.getElem?_range h]
  rfl
theorem rng_len (n : Nat) : (rng n).length = n := by unfold rng; rw [List.length_map, List.length_range]
theorem mem_rng {n : Nat} {d : Int} : d ∈ rng n ↔ 0 ≤ d ∧ d < n := by
  unfold rng
  rw [List.mem_map]
  constructor
  · rintro ⟨k, hk, rfl⟩
    have := List.mem_range.mp hk
    exact ⟨Int.natCast_nonneg k, by show (k : Int) < n; omega⟩
  · rintro ⟨h1, h2⟩
    exact ⟨d.toNat, List.mem_range.mpr (by omega), by show ((d.toNat : Nat) : Int) = d; omega⟩
theorem ei_rng {tA : TA} {n : Nat} (hn : n ≤ 100000) (h : EvAs tA σ H [I (n : Int)]) : EvI (iRng1 tA) σ H (rng n) I := fun H1 e C c =>
  h H1 e _ fun vs H2 e2 r => by
    cases r with
    | cons r1 r2 =>
      cases r2
      cases (show _ = V.int (n : Int) from r1)
      refine ⟨(n : Int), rfl, by omega, by omega, c _ H2 e2 ⟨YFn fun i => .int (0 + i), ?_, fun i H3 v H' hi x y => ?_⟩⟩
      · have w := walk_range (lo := 0) (n := n)
        rw [rng_len, Int.toNat_natCast]
        exact w.mono (fun _ _ => trivial) fun _ _ _ _ _ _ y => y
      · obtain ⟨rfl, rfl⟩ := y
        rw [rng_len] at hi
        exact ⟨Ex.refl _, _, rng_at hi, by show V.int (0 + (i : Int)) = V.int i; rw [Int.zero_add]⟩
theorem ei_enumT {α : Type} {xs : List α} {R : α → Rep} {tA : TA} (h : EvAs tA σ H [TR R xs]) : EvI (iEnumT K tA) σ H (xs.zipIdx.map fun p => ((p.2 : Int), p.1)) (fun p => PR (I p.1) (R p.2)) := fun H1 e C c =>
  h H1 e _ fun ws H2 e2 r => by
    cases r with
    | cons r1 r2 =>
      cases r2
      obtain ⟨a, vs, ev, hv, r⟩ := r1
      subst ev
      have hl := all2_len r
      refine ⟨a, vs, rfl, st_of hv, c _ H2 e2 ⟨YPair (fun i => some (.int (i : Nat))) (fun i => vs[i]?), ?_, fun i H3 v H' hi x y => ?_⟩⟩
      · have w := walk_enumT (K := K) (a := a) (xs := vs)
        rw [List.length_map, List.length_zipIdx, hl]
        exact w.mono (fun H x => st_of (x a _ hv)) fun _ _ _ _ _ _ y => y
      · obtain ⟨T, x1, x2, rfl, hT, rfl, q1, q2⟩ := y
        cases q1
        obtain ⟨z, h1, h2⟩ := all2_get r q2
        refine ⟨Ex.new hT, (((i : Nat) : Int), z), ?_, T, _, _, rfl, upd_same, rfl, (R z).mono (x.trans (Ex.new hT)) h2⟩
        rw [List.getElem?_map, List.getElem?_zipIdx, h1]
        simp

/-! ### comprehensions -/
theorem take_filter_map {α β : Type} {xs : List α} {f : α → Bool} {h : α → β} {i : Nat} {x : α} (e : xs[i]? = some x) : (((xs.take (i + 1)).filter f).map h) = ((xs.take i).filter f).map h ++ (if f x = true then [h x] else []) := by
  rw [List.take_add_one, e, Option.toList_some, List.filter_append, List.map_append]
  congr 1
  by_cases q : f x = true
  · rw [if_pos q, List.filter_cons_of_pos q]; rfl
  · rw [if_neg q, List.filter_cons_of_neg q]; rfl
theorem er_lc {α β : Type} {wi : TI} {g : TG} {vs : List Nat} {xs : List α} {R : α → Rep} (f : α → Bool) (h : α → β) (S : β → Rep) [∀ y, TM (S y)] (hi : EvI wi σ H xs R) (hz : xs.length ≤ 40000)
    (turn : ∀ x ∈ xs, ∀ v H1, Ex H H1 → (R x).p v H1 → ∀ Qg : L2.St → Hp → Prop, (∀ σ2 H2, Ex H1 H2 → wipe σ2 vs = wipe σ vs → EvT t σ2 H2 (f x) → (f x = true → EvR te σ2 H2 (S (h x))) → Qg σ2 H2) → g v (wipe σ vs) H1 Qg) :
    EvR (tLc wi g t te vs) σ H (LR S ((xs.filter f).map h)) := fun H1 e Q q => hi H1 e _ fun J H2 e2 ⟨Y, w, hY⟩ D hD => by
  have hH2 := e.trans e2
  refine lc_it w (Y := Y) (fun i H' => ∃ ys, Ex H2 H' ∧ H' D = some (.lst ys) ∧ All2 (fun y v => (S y).p v H') (((xs.take i).filter f).map h) ys) ?_ (fun i H' _ p => let ⟨_, p, _⟩ := p; p) ?_ ?_
  · refine ⟨[], Ex.new hD, upd_same, ?_⟩
    rw [List.take_zero]; exact .nil
  · rintro i v H3 H4 hlt ⟨ys, p1, p2, p3⟩ y
    obtain ⟨e4, x, hx, rv⟩ := hY i H3 v H4 hlt p1 y
    have hm : x ∈ xs := List.mem_of_getElem? hx
    have e24 : Ex H2 H4 := p1.trans e4
    refine turn x hm v H4 (hH2.trans e24) rv _ fun σ2 H5 e5 hw ht he => ⟨hw, ?_⟩
    have e25 := e24.trans e5
    have D5 : H5 D = some (.lst ys) := e5 D _ (e4 D _ p2)
    have small : ys.length ≤ xs.length := by
      rw [← all2_len p3, List.length_map]
      exact Nat.le_trans (List.length_filter_le _ _) (by rw [List.length_take]; omega)
    refine ht H5 (Ex.refl _) _ fun H6 e6 => ?_
    have e26 := e25.trans e6
    cases hf : f x with
    | true =>
      refine iteT (he hf H6 e6 _ fun z H7 e7 hz' => ⟨ys, e7 D _ (e6 D _ D5), sz_lt (by omega), ys ++ [z], Ex.mut (e26.trans e7) hD, upd_same, ?_⟩)
      rw [take_filter_map hx, if_pos hf]
      have D7 : H7 D = some (.lst ys) := e7 D _ (e6 D _ D5)
      have up : ExT H7 (L2.upd H7 D (.lst (ys ++ [z]))) := ExT.upd D7 fun xs q => nomatch q
      exact all2_snoc (all2_t ((ex_tt (e4.trans (e5.trans (e6.trans e7)))).trans up) p3) (TM.t up hz')
    | false =>
      refine iteF ⟨ys, e26, e6 D _ D5, ?_⟩
      rw [take_filter_map hx, hf]
      simp only [Bool.false_eq_true, if_false, List.append_nil]
      exact all2_up (e4.trans (e5.trans e6)) p3
  · rintro H3 ⟨ys, p1, p2, p3⟩
    rw [List.take_length] at p3
    exact q _ H3 (e2.trans p1) ⟨D, ys, rfl, p2, p3⟩
/-- the target a name -/
theorem er_lcN {α β : Type} {wi : TI} {j : Nat} {vs : List Nat} {xs : List α} {R : α → Rep} (f : α → Bool) (h : α → β) (S : β → Rep) [∀ y, TM (S y)] (hi : EvI wi σ H xs R) (hz : xs.length ≤ 40000) (hw : ∀ v, wipe ((wipe σ vs).set j (some v)) vs = wipe σ vs)
    (ht : ∀ x ∈ xs, ∀ v H1, Ex H H1 → (R x).p v H1 → EvT t ((wipe σ vs).set j (some v)) H1 (f x)) (he : ∀ x ∈ xs, ∀ v H1, Ex H H1 → (R x).p v H1 → f x = true → EvR te ((wipe σ vs).set j (some v)) H1 (S (h x))) :
    EvR (tLc wi (gName j) t te vs) σ H (LR S ((xs.filter f).map h)) :=
  er_lc f h S hi hz fun x hx v H1 e r Qg k => k _ H1 (Ex.refl _) (hw v) (ht x hx v H1 e r) (he x hx v H1 e r)
/-- the target a pair of names, the items pairs -/
theorem er_lcP {α β : Type} {wi : TI} {i j : Nat} {vs : List Nat} {xs : List α} {R R' : α → Rep} (f : α → Bool) (h : α → β) (S : β → Rep) [∀ y, TM (S y)] (hi : EvI wi σ H xs fun x => PR (R x) (R' x)) (hz : xs.length ≤ 40000) (hw : ∀ u v, wipe (((wipe σ vs).set i (some u)).set j (some v)) vs = wipe σ vs)
    (ht : ∀ x ∈ xs, ∀ u v H1, Ex H H1 → (R x).p u H1 → (R' x).p v H1 → EvT t (((wipe σ vs).set i (some u)).set j (some v)) H1 (f x)) (he : ∀ x ∈ xs, ∀ u v H1, Ex H H1 → (R x).p u H1 → (R' x).p v H1 → f x = true → EvR te (((wipe σ vs).set i (some u)).set j (some v)) H1 (S (h x))) :
    EvR (tLc wi (gTup K 2 (gCons (gName i) (gCons (gName j) gNil))) t te vs) σ H (LR S ((xs.filter f).map h)) :=
  er_lc f h S hi hz fun x hx v H1 e ⟨a, u, w', ev, q, r, r'⟩ Qg k => ⟨a, [u, w'], ev, st_of q, rfl, u, _, rfl, w', _, rfl, rfl, k _ H1 (Ex.refl _) (hw u w') (ht x hx u w' H1 e r r') (he x hx u w' H1 e r r')⟩
end

/-! ### statements -/
section
variable {K : PySem.W.Frag} {σ : L2.St} {H H' : Hp} {ta tb te : TE} {t u : TT} {R S T : Rep} {D : Ends} {tu tw tz : TS} {g : TG}
theorem sr_asg {i : Nat} (h : EvR te σ H R) (k : ∀ v H1, Ex H H1 → R.p v H1 → D.nx (σ.set i (some v)) H1) : tAsg te (gName i) D σ H := h H (Ex.refl H) _ fun v H1 e r => k v H1 e r
theorem qr_asg {i : Nat} (h : EvR te σ H R) (k : ∀ v H1, Ex H H1 → R.p v H1 → tz D (σ.set i (some v)) H1) : tSeq (tAsg te (gName i)) tz D σ H := sr_asg (D := { D with nx := tz D }) h k
/-- a, b = e, e a tuple of two -/
theorem qr_asg2 {i j : Nat} (h : EvR te σ H (PR R S)) (k : ∀ u v H1, Ex H H1 → R.p u H1 → S.p v H1 → tz D ((σ.set i (some u)).set j (some v)) H1) : tSeq (tAsg te (gTup K 2 (gCons (gName i) (gCons (gName j) gNil)))) tz D σ H :=
  h H (Ex.refl H) _ fun _ H1 e ⟨a, u, v, ev, q, r, s⟩ => ⟨a, [u, v], ev, st_of q, rfl, u, _, rfl, v, _, rfl, rfl, k u v H1 e r s⟩
theorem sr_ret (h : EvR te σ H R) (k : ∀ v H1, Ex H H1 → R.p v H1 → D.rt v H1) : tRet te D σ H := h H (Ex.refl H) _ k
theorem sr_drop (h : EvR te σ H R) (k : ∀ v H1, Ex H H1 → R.p v H1 → D.nx σ H1) : tDrop te D σ H := h H (Ex.refl H) _ k
theorem qr_drop (h : EvR te σ H R) (k : ∀ v H1, Ex H H1 → R.p v H1 → tz D σ H1) : tSeq (tDrop te) tz D σ H := sr_drop (D := { D with nx := tz D }) h k
/-- a for whose body lets the heap grow: Pv by the turn, the slots, the heap -/
theorem sr_for {α : Type} {wi : TI} {xs : List α} {R : α → Rep} (hi : EvI wi σ H xs R) (Pv : Nat → L2.St → Hp → Prop) (h0 : Pv 0 σ H)
    (hs : ∀ i x v σ' H0 H' H'', xs[i]? = some x → Ex H H0 → Ex H0 H' → Pv i σ' H' → Ex H' H'' → (R x).p v H'' → g v σ' H'' fun σ2 H2 => tu { D with nx := fun σ3 H3 => Ex H0 H3 ∧ Pv (i + 1) σ3 H3, ct := fun σ3 H3 => Ex H0 H3 ∧ Pv (i + 1) σ3 H3, bk := D.nx } σ2 H2)
    (mono : ∀ i σ' H' H'', Ex H' H'' → Pv i σ' H' → Pv i σ' H'') (hd : ∀ σ' H', Ex H H' → Pv xs.length σ' H' → D.nx σ' H') : tFor wi g tu D σ H := hi H (Ex.refl H) _ fun J H2 e2 ⟨Y, w, hY⟩ =>
  for_it w (fun i σ' H' => Ex H2 H' ∧ Pv i σ' H') ⟨Ex.refl _, mono _ _ _ _ e2 h0⟩ (fun _ _ _ _ p => p.1) (fun i v σ' H' H'' hi' p y => by
    obtain ⟨e4, x, hx, rv⟩ := hY i H' v H'' hi' p.1 y
    exact hs i x v σ' H2 H' H'' hx e2 p.1 p.2 e4 rv) fun σ' H' p => hd σ' H' (e2.trans p.1) p.2
end
end LD
set_option Elab.async false
set_option linter.all false
set_option maxRecDepth 100000
set_option maxHeartbeats 3200000
set_option autoImplicit false
/-! operators and built-ins by what stands for what; a def and its promise -/
namespace LD
open PySem PySem.Spec PyProof.Rows L2 Evl

section
variable {K : PySem.W.Frag} {σ : L2.St} {H H' : Hp} {ta tb tc te : TE} {t u : TT} {R S T : Rep}
theorem er_int2 {g : Int → Int → V} {i j : Int} (ha : EvR ta σ H (I i)) (hb : EvR tb σ H (I j)) : EvR (tOp (rI0 g) ta tb) σ H (is (g i j)) :=
  er_op ha hb fun _ _ H1 _ e1 e2 Q q => ⟨i, j, e1, e2, q _ H1 (Ex.refl _) rfl⟩
theorem er_int2c {C : Int → Int → Prop} {g : Int → Int → V} {i j : Int} (hc : C i j) (ha : EvR ta σ H (I i)) (hb : EvR tb σ H (I j)) : EvR (tOp (rI C g) ta tb) σ H (is (g i j)) :=
  er_op ha hb fun _ _ H1 _ e1 e2 Q q => ⟨i, j, e1, e2, hc, q _ H1 (Ex.refl _) rfl⟩
theorem er_eqI {i j : Int} (ha : EvR ta σ H (I i)) (hb : EvR tb σ H (I j)) : EvR (tOp rEq ta tb) σ H (B (decide (i = j))) :=
  er_op ha hb fun _ _ H1 _ e1 e2 Q q => by
    cases (show _ = V.int i from e1)
    cases (show _ = V.int j from e2)
    refine ⟨rfl, q _ H1 (Ex.refl _) ?_⟩
    show V.bl _ = V.bl _
    rw [show decide (V.int i = V.int j) = decide (i = j) from decide_eq_decide.mpr ⟨fun h => V.int.inj h, fun h => by rw [h]⟩]
theorem er_neI {i j : Int} (ha : EvR ta σ H (I i)) (hb : EvR tb σ H (I j)) : EvR (tOp rNe ta tb) σ H (B (!decide (i = j))) :=
  er_op ha hb fun _ _ H1 _ e1 e2 Q q => by
    cases (show _ = V.int i from e1)
    cases (show _ = V.int j from e2)
    refine ⟨rfl, q _ H1 (Ex.refl _) ?_⟩
    show V.bl _ = V.bl _
    rw [show decide (V.int i = V.int j) = decide (i = j) from decide_eq_decide.mpr ⟨fun h => V.int.inj h, fun h => by rw [h]⟩]
theorem er_neB {i j : Bool} (ha : EvR ta σ H (B i)) (hb : EvR tb σ H (B j)) : EvR (tOp rNe ta tb) σ H (B (i != j)) :=
  er_op ha hb fun _ _ H1 _ e1 e2 Q q => by
    cases (show _ = V.bl i from e1)
    cases (show _ = V.bl j from e2)
    refine ⟨rfl, q _ H1 (Ex.refl _) ?_⟩
    show V.bl _ = V.bl _
    cases i <;> cases j <;> decide
theorem er_eqB {i j : Bool} (ha : EvR ta σ H (B i)) (hb : EvR tb σ H (B j)) : EvR (tOp rEq ta tb) σ H (B (i == j)) :=
  er_op ha hb fun _ _ H1 _ e1 e2 Q q => by
    cases (show _ = V.bl i from e1)
    cases (show _ = V.bl j from e2)
    refine ⟨rfl, q _ H1 (Ex.refl _) ?_⟩
    show V.bl _ = V.bl _
    cases i <;> cases j <;> decide
/-- x is None, x is not None -/
theorem er_isN {x : V} (ha : EvR ta σ H (is x)) (hb : EvR tb σ H (is .non)) : EvR (tOp (fun x y H Q => y = .non ∧ Q (.bl (decide (x = .non))) H) ta tb) σ H (B (decide (x = .non))) :=
  er_op ha hb fun _ _ H1 _ e1 e2 Q q => ⟨e2, q _ H1 (Ex.refl _) (by rw [show _ = x from e1]; rfl)⟩
theorem er_notN {x : V} (ha : EvR ta σ H (is x)) (hb : EvR tb σ H (is .non)) : EvR (tOp (fun x y H Q => y = .non ∧ Q (.bl (!decide (x = .non))) H) ta tb) σ H (B (!decide (x = .non))) :=
  er_op ha hb fun _ _ H1 _ e1 e2 Q q => ⟨e2, q _ H1 (Ex.refl _) (by rw [show _ = x from e1]; rfl)⟩

/-! ### in -/
theorem flat_ints (ns : List Int) : (ns.map V.int).all flatV = true := by
  rw [List.all_eq_true]
  intro x hx
  obtain ⟨n, _, rfl⟩ := List.mem_map.mp hx
  rfl
theorem inV_ints {n : Int} {ns : List Int} : inV (.int n) (ns.map V.int) = decide (n ∈ ns) := by
  unfold inV
  rw [Bool.eq_iff_iff, List.any_eq_true, decide_eq_true_iff]
  constructor
  · rintro ⟨y, hy, e⟩
    obtain ⟨k, hk, rfl⟩ := List.mem_map.mp hy
    have : k = n := by simpa [eqV] using e
    exact this ▸ hk
  · intro h
    exact ⟨_, List.mem_map.mpr ⟨n, h, rfl⟩, by simp [eqV]⟩
theorem er_in {neg : Bool} {n : Int} {ns : List Int} (ha : EvR ta σ H (I n)) (hb : EvR tb σ H S) (hS : ∀ v H, S.p v H → (IL ns).p v H ∨ (IT ns).p v H) : EvR (tOp (rIn K neg) ta tb) σ H (B (if neg then !decide (n ∈ ns) else decide (n ∈ ns))) :=
  er_op ha hb fun x y H1 _ e1 e2 Q q => by
    cases (show _ = V.int n from e1)
    obtain ⟨p, ep, hp⟩ : ∃ p, y = .ref p ∧ (SqL K H1 p (ns.map V.int) ∨ SqT K H1 p (ns.map V.int)) := by
      rcases hS _ _ e2 with ⟨a, e, h⟩ | ⟨a, e, h⟩
      · exact ⟨a, e, .inl (sq_of h)⟩
      · exact ⟨a, e, .inr (st_of h)⟩
    refine ⟨p, _, ep, hp, rfl, flat_ints ns, ?_⟩
    rw [inV_ints]
    exact q _ H1 (Ex.refl _) rfl
theorem er_inL {n : Int} {ns : List Int} (ha : EvR ta σ H (I n)) (hb : EvR tb σ H (IL ns)) : EvR (tOp (rIn K false) ta tb) σ H (B (decide (n ∈ ns))) := er_in (neg := false) ha hb fun _ _ => .inl
theorem er_inT {n : Int} {ns : List Int} (ha : EvR ta σ H (I n)) (hb : EvR tb σ H (IT ns)) : EvR (tOp (rIn K false) ta tb) σ H (B (decide (n ∈ ns))) := er_in (neg := false) ha hb fun _ _ => .inr
theorem er_niL {n : Int} {ns : List Int} (ha : EvR ta σ H (I n)) (hb : EvR tb σ H (IL ns)) : EvR (tOp (rIn K true) ta tb) σ H (B (!decide (n ∈ ns))) := er_in (neg := true) ha hb fun _ _ => .inl
theorem er_niT {n : Int} {ns : List Int} (ha : EvR ta σ H (I n)) (hb : EvR tb σ H (IT ns)) : EvR (tOp (rIn K true) ta tb) σ H (B (!decide (n ∈ ns))) := er_in (neg := true) ha hb fun _ _ => .inr

/-! ### places -/
theorem er_ix0 (ha : EvR ta σ H (PR R S)) : EvR (tOp (rIxT K) ta (tC (.int 0))) σ H R :=
  er_op ha er_c fun _ _ H1 _ ⟨a, x, y, e, h, r, s⟩ e2 Q q => ⟨a, [x, y], 0, x, e, e2, st_of h, by rfl, q _ H1 (Ex.refl _) r⟩
theorem er_ix1 (ha : EvR ta σ H (PR R S)) : EvR (tOp (rIxT K) ta (tC (.int 1))) σ H S :=
  er_op ha er_c fun _ _ H1 _ ⟨a, x, y, e, h, r, s⟩ e2 Q q => ⟨a, [x, y], 1, y, e, e2, st_of h, by rfl, q _ H1 (Ex.refl _) s⟩
theorem er_ixT {ns : List Int} {i : Int} {k : Nat} {n : Int} (ha : EvR ta σ H (IT ns)) (hb : EvR tb σ H (I i)) (ei : i = (k : Int)) (h : ns[k]? = some n) : EvR (tOp (rIxT K) ta tb) σ H (I n) :=
  er_op ha hb fun _ _ H1 _ ⟨a, e, h'⟩ e2 Q q => ⟨a, _, i, .int n, e, e2, st_of h', by rw [ei]; exact atI_nat (by rw [List.getElem?_map, h]; rfl), q _ H1 (Ex.refl _) rfl⟩
theorem er_ixTR {α : Type} {F : α → Rep} {xs : List α} {i : Int} {k : Nat} {x : α} (ha : EvR ta σ H (TR F xs)) (hb : EvR tb σ H (I i)) (ei : i = (k : Int)) (h : xs[k]? = some x) : EvR (tOp (rIxT K) ta tb) σ H (F x) :=
  er_op ha hb fun _ _ H1 _ ⟨a, vs, e, h', r⟩ e2 Q q => by
    have hk : k < vs.length := by rw [← all2_len r]; exact (List.getElem?_eq_some_iff.mp h).1
    obtain ⟨y, h1, h2⟩ := all2_get r (List.getElem?_eq_getElem hk)
    rw [h] at h1
    cases h1
    exact ⟨a, _, i, vs[k], e, e2, st_of h', by rw [ei]; exact atI_nat (List.getElem?_eq_getElem hk), q _ H1 (Ex.refl _) h2⟩
theorem Pt_IT {p : Int × Int} : Pt p = IT [p.1, p.2] := rfl
theorem Pt_PR {p : Int × Int} {v : V} {H : Hp} : (Pt p).p v H ↔ (PR (I p.1) (I p.2)).p v H :=
  ⟨fun ⟨a, e, h⟩ => ⟨a, _, _, e, h, rfl, rfl⟩, fun ⟨a, x, y, e, h, r, s⟩ => ⟨a, e, by rw [h, show x = V.int p.1 from r, show y = V.int p.2 from s]; rfl⟩⟩

/-! ### len, list, tuple, sorted, set -/
theorem er_lenV {ta : TE} {n : Nat} (ha : EvR ta σ H R) (hR : ∀ v H, R.p v H → ∃ p ys, v = .ref p ∧ (SqL K H p ys ∨ SqT K H p ys) ∧ ys.length = n) :
    EvR (tCB (fun xs H Q => ∃ p ys, xs = [.ref p] ∧ (SqL K H p ys ∨ SqT K H p ys) ∧ Q (.int ys.length) H) (tCons ta tNil)) σ H (I (n : Int)) :=
  er_cb1 ha fun x H1 _ r Q q => by
    obtain ⟨p, ys, rfl, h, rfl⟩ := hR x H1 r
    exact ⟨p, ys, rfl, h, q _ H1 (Ex.refl _) rfl⟩
theorem er_lenIL {ns : List Int} (ha : EvR ta σ H (IL ns)) : EvR (tCB (fun xs H Q => ∃ p ys, xs = [.ref p] ∧ (SqL K H p ys ∨ SqT K H p ys) ∧ Q (.int ys.length) H) (tCons ta tNil)) σ H (I (ns.length : Int)) :=
  er_lenV ha fun v H ⟨a, e, h⟩ => ⟨a, _, e, .inl (sq_of h), by rw [List.length_map]⟩
theorem er_lenIT {ns : List Int} (ha : EvR ta σ H (IT ns)) : EvR (tCB (fun xs H Q => ∃ p ys, xs = [.ref p] ∧ (SqL K H p ys ∨ SqT K H p ys) ∧ Q (.int ys.length) H) (tCons ta tNil)) σ H (I (ns.length : Int)) :=
  er_lenV ha fun v H ⟨a, e, h⟩ => ⟨a, _, e, .inr (st_of h), by rw [List.length_map]⟩
theorem er_lenLR {α : Type} {F : α → Rep} {xs : List α} (ha : EvR ta σ H (LR F xs)) : EvR (tCB (fun xs H Q => ∃ p ys, xs = [.ref p] ∧ (SqL K H p ys ∨ SqT K H p ys) ∧ Q (.int ys.length) H) (tCons ta tNil)) σ H (I (xs.length : Int)) :=
  er_lenV ha fun v H ⟨a, vs, e, h, r⟩ => ⟨a, _, e, .inl (sq_of h), (all2_len r).symm⟩
theorem er_lenPR (ha : EvR ta σ H (PR R S)) : EvR (tCB (fun xs H Q => ∃ p ys, xs = [.ref p] ∧ (SqL K H p ys ∨ SqT K H p ys) ∧ Q (.int ys.length) H) (tCons ta tNil)) σ H (I 2) :=
  er_lenV (n := 2) ha fun v H ⟨a, x, y, e, h, _, _⟩ => ⟨a, _, e, .inr (st_of h), rfl⟩
theorem er_listOf {ns : List Int} (ha : EvR ta σ H S) (hS : ∀ v H, S.p v H → (IL ns).p v H ∨ (IT ns).p v H) :
    EvR (tCB (fun xs H Q => ∃ p ys, xs = [.ref p] ∧ (SqL K H p ys ∨ SqT K H p ys) ∧ ∀ l, H l = none → Q (.ref l) (L2.upd H l (.lst ys))) (tCons ta tNil)) σ H (IL ns) :=
  er_cb1 ha fun x H1 _ r Q q => by
    rcases hS _ _ r with ⟨a, e, h⟩ | ⟨a, e, h⟩
    · exact ⟨a, _, by rw [e], .inl (sq_of h), fun l hl => q _ _ (Ex.new hl) ⟨l, rfl, upd_same⟩⟩
    · exact ⟨a, _, by rw [e], .inr (st_of h), fun l hl => q _ _ (Ex.new hl) ⟨l, rfl, upd_same⟩⟩
theorem er_tupOfL {ns : List Int} (ha : EvR ta σ H (IL ns)) :
    EvR (tCB (fun xs H Q => ∃ p ys, xs = [.ref p] ∧ ((SqL K H p ys ∧ ∀ l, H l = none → Q (.ref l) (L2.upd H l (.tup ys))) ∨ (SqT K H p ys ∧ Q (.ref p) H))) (tCons ta tNil)) σ H (IT ns) :=
  er_cb1 ha fun x H1 _ ⟨a, e, h⟩ Q q => ⟨a, _, by rw [e], .inl ⟨sq_of h, fun l hl => q _ _ (Ex.new hl) ⟨l, rfl, upd_same⟩⟩⟩
theorem er_tupOfLR {α : Type} {F : α → Rep} [∀ x, TM (F x)] {xs : List α} (ha : EvR ta σ H (LR F xs)) :
    EvR (tCB (fun xs H Q => ∃ p ys, xs = [.ref p] ∧ ((SqL K H p ys ∧ ∀ l, H l = none → Q (.ref l) (L2.upd H l (.tup ys))) ∨ (SqT K H p ys ∧ Q (.ref p) H))) (tCons ta tNil)) σ H (TR F xs) :=
  er_cb1 ha fun x H1 _ ⟨a, vs, e, h, r⟩ Q q => ⟨a, _, by rw [e], .inl ⟨sq_of h, fun l hl => q _ _ (Ex.new hl) ⟨l, vs, rfl, upd_same, all2_up (Ex.new hl) r⟩⟩⟩
/-- ascending, the very same -/
def Asc (ns : List Int) : Prop := ns.Pairwise (· < ·)
theorem er_sorted {ns : List Int} (ha : EvR ta σ H (IL ns)) (hz : ns.length < 64) : EvR (tCB (rSorted K) (tCons ta tNil)) σ H (XR (fun ms => ms.Perm ns ∧ ms.Pairwise (· ≤ ·)) IL) :=
  er_cb1 ha fun x H1 _ ⟨a, e, h⟩ Q q => ⟨a, ns, by rw [e], sq_of h, hz, fun ms p pm pw hp => q _ _ (Ex.new hp) ⟨ms, ⟨pm, pw⟩, p, rfl, upd_same⟩⟩
theorem er_sortAny {ss : List (List Int)} (ha : EvR ta σ H (LR IT ss)) : EvR (tCB (rSortAny K) (tCons ta tNil)) σ H (XR (fun ms => ms.Perm ss) (LR IT)) :=
  er_cb1 ha fun x H1 _ ⟨a, vs, e, h, r⟩ Q q => ⟨a, vs, by rw [e], sq_of h, fun v hv => by
    obtain ⟨i, hi⟩ := List.getElem?_of_mem hv
    obtain ⟨s, _, b, e, hb⟩ := all2_get r hi
    exact ⟨s, b, e, st_of hb⟩, fun ys p pm hp => by
      obtain ⟨ms, pm', r'⟩ : ∃ ms : List (List Int), ms.Perm ss ∧ All2 (fun s v => (IT s).p v H1) ms ys := by
        have key : ∀ {ys vs : List V}, ys.Perm vs → ∀ {ss : List (List Int)}, All2 (fun s v => (IT s).p v H1) ss vs → ∃ ms : List (List Int), ms.Perm ss ∧ All2 (fun s v => (IT s).p v H1) ms ys := by
          intro ys vs pm
          induction pm with
          | nil => intro ss r; cases r; exact ⟨[], .refl _, .nil⟩
          | cons x _ ih =>
            intro ss r
            cases r with
            | cons h1 r =>
              obtain ⟨ms, p1, r1⟩ := ih r
              exact ⟨_ :: ms, p1.cons _, .cons h1 r1⟩
          | swap x y l =>
            intro ss r
            cases r with
            | cons h1 r =>
              cases r with
              | cons h2 r => exact ⟨_ :: _ :: _, .swap _ _ _, .cons h2 (.cons h1 r)⟩
          | trans _ _ ih1 ih2 =>
            intro ss r
            obtain ⟨ms, p2, r2⟩ := ih2 r
            obtain ⟨ms', p1, r1⟩ := ih1 r2
            exact ⟨ms', p1.trans p2, r1⟩
        exact key pm r
      exact q _ _ (Ex.new hp) ⟨ms, pm', p, ys, rfl, upd_same, all2_up (Ex.new hp) r'⟩⟩
end
end LD
set_option Elab.async false
set_option linter.all false
set_option maxRecDepth 100000
set_option maxHeartbeats 3200000
set_option autoImplicit false
/-! == of lists and tuples, isinstance, +, sets; a def and its promise -/
namespace LD
open PySem PySem.Spec PyProof.Rows L2 Evl

theorem all2_app {α β : Type} {F : α → β → Prop} : ∀ {l l' : List α} {m m' : List β}, All2 F l m → All2 F l' m' → All2 F (l ++ l') (m ++ m')
  | _, _, _, _, .nil, s => s
  | _, _, _, _, .cons h r, s => .cons h (all2_app r s)
/-! ### data -/
def dL (ns : List Int) : PyData := .list (ns.map PyData.int)
def dT (ns : List Int) : PyData := .tuple (ns.map PyData.int)
def dLT (ss : List (List Int)) : PyData := .list (ss.map dT)
theorem lay_ints : ∀ ns : List Int, PyData.canLayAll0 (ns.map PyData.int) = true
  | [] => by simp [PyData.canLayAll0]
  | n :: ns => by simp [PyData.canLayAll0, PyData.canLay0, lay_ints ns]
theorem depth_ints : ∀ ns : List Int, PyData.depthAll (ns.map PyData.int) ≤ 1
  | [] => by simp [PyData.depthAll]
  | n :: ns => by
    have h := depth_ints ns
    simp only [List.map_cons, PyData.depthAll, PyData.depth]
    omega
theorem dT_lay (ns : List Int) : (dT ns).canLay0 = true := by unfold dT; simp only [PyData.canLay0]; exact lay_ints ns
theorem dT_depth (ns : List Int) : (dT ns).depth ≤ 2 := by
  have h := depth_ints ns
  unfold dT
  simp only [PyData.depth]
  omega
theorem lay_tups : ∀ ss : List (List Int), PyData.canLayAll0 (ss.map dT) = true
  | [] => by simp [PyData.canLayAll0]
  | s :: ss => by simp [PyData.canLayAll0, dT_lay s, lay_tups ss]
theorem depth_tups : ∀ ss : List (List Int), PyData.depthAll (ss.map dT) ≤ 2
  | [] => by simp [PyData.depthAll]
  | s :: ss => by
    have h := depth_tups ss
    have h2 := dT_depth s
    simp only [List.map_cons, PyData.depthAll]
    omega
theorem shaped_of {d : PyData} (h1 : d.canLay0 = true) (h2 : d.depth ≤ 64) : SeqAt.shaped d = true := by
  show (d.canLay0 && decide (d.depth ≤ 64)) = true
  rw [h1, decide_eq_true h2]; rfl
theorem dL_shaped (ns : List Int) : SeqAt.shaped (dL ns) = true := shaped_of (by unfold dL; simp only [PyData.canLay0]; exact lay_ints ns) (by
  have h := depth_ints ns
  unfold dL
  simp only [PyData.depth]
  omega)
theorem dT_shaped (ns : List Int) : SeqAt.shaped (dT ns) = true := shaped_of (dT_lay ns) (Nat.le_trans (dT_depth ns) (by decide))
theorem dLT_shaped (ss : List (List Int)) : SeqAt.shaped (dLT ss) = true := shaped_of (by unfold dLT; simp only [PyData.canLay0]; exact lay_tups ss) (by
  have h := depth_tups ss
  unfold dLT
  simp only [PyData.depth]
  omega)
theorem eqv_ints : ∀ ns ms : List Int, PyData.eqvAll (ns.map PyData.int) (ms.map PyData.int) = decide (ns = ms)
  | [], [] => by simp [PyData.eqvAll]
  | [], _ :: _ => by simp [PyData.eqvAll]
  | _ :: _, [] => by simp [PyData.eqvAll]
  | n :: ns, m :: ms => by
    simp only [List.map_cons, PyData.eqvAll, PyData.eqv, eqv_ints ns ms]
    by_cases h : n = m
    · subst h
      by_cases h2 : ns = ms
      · subst h2; simp
      · simp [h2]
    · simp [h]
theorem eqv_dL (ns ms : List Int) : PyData.eqv (dL ns) (dL ms) = decide (ns = ms) := by
  unfold dL; simp only [PyData.eqv]; exact eqv_ints ns ms
theorem eqv_dT (ns ms : List Int) : PyData.eqv (dT ns) (dT ms) = decide (ns = ms) := by
  unfold dT; simp only [PyData.eqv]; exact eqv_ints ns ms
theorem eqv_tups : ∀ ns ms : List (List Int), PyData.eqvAll (ns.map dT) (ms.map dT) = decide (ns = ms)
  | [], [] => by simp [PyData.eqvAll]
  | [], _ :: _ => by simp [PyData.eqvAll]
  | _ :: _, [] => by simp [PyData.eqvAll]
  | n :: ns, m :: ms => by
    simp only [List.map_cons, PyData.eqvAll, eqv_dT, eqv_tups ns ms]
    by_cases h : n = m
    · subst h
      by_cases h2 : ns = ms
      · subst h2; simp
      · simp [h2]
    · simp [h]
theorem eqv_dLT (ns ms : List (List Int)) : PyData.eqv (dLT ns) (dLT ms) = decide (ns = ms) := by
  unfold dLT; simp only [PyData.eqv]; exact eqv_tups ns ms
section
variable {K : PySem.W.Frag} {H : Hp}
theorem dp_ints : ∀ ns : List Int, DpAll K H (ns.map V.int) (ns.map PyData.int)
  | [] => .nil
  | n :: ns => .cons (.int n) (dp_ints ns)
theorem dp_IL {ns : List Int} {v : V} (h : (IL ns).p v H) : Dp K H v (dL ns) := by
  obtain ⟨a, rfl, h⟩ := h
  exact .lst (sq_of h) (dp_ints ns)
theorem dp_IT {ns : List Int} {v : V} (h : (IT ns).p v H) : Dp K H v (dT ns) := by
  obtain ⟨a, rfl, h⟩ := h
  exact .tup (st_of h) (dp_ints ns)
theorem dp_tups : ∀ {ss : List (List Int)} {vs : List V}, All2 (fun s v => (IT s).p v H) ss vs → DpAll K H vs (ss.map dT)
  | _, _, .nil => .nil
  | _, _, .cons h r => .cons (dp_IT h) (dp_tups r)
theorem dp_LIT {ss : List (List Int)} {v : V} (h : (LR IT ss).p v H) : Dp K H v (dLT ss) := by
  obtain ⟨a, vs, rfl, h, r⟩ := h
  exact .lst (sq_of h) (dp_tups r)
end

section
variable {K : PySem.W.Frag} {σ : L2.St} {H H' : Hp} {ta tb tc te : TE} {t u : TT} {R S T : Rep}
theorem er_eqD {d e : PyData} (ha : EvR ta σ H R) (hb : EvR tb σ H S) (hd : ∀ v H, R.p v H → Dp K H v d) (he : ∀ v H, S.p v H → Dp K H v e) (sd : SeqAt.shaped d = true) (se : SeqAt.shaped e = true) : EvR (tOp (rEqD K) ta tb) σ H (B (PyData.eqv d e)) :=
  er_op ha hb fun _ _ H1 _ r s Q q => ⟨d, e, hd _ _ r, he _ _ s, sd, se, q _ H1 (Ex.refl _) rfl⟩
theorem er_neD {d e : PyData} (ha : EvR ta σ H R) (hb : EvR tb σ H S) (hd : ∀ v H, R.p v H → Dp K H v d) (he : ∀ v H, S.p v H → Dp K H v e) (sd : SeqAt.shaped d = true) (se : SeqAt.shaped e = true) : EvR (tOp (rNeD K) ta tb) σ H (B (!PyData.eqv d e)) :=
  er_op ha hb fun _ _ H1 _ r s Q q => ⟨d, e, hd _ _ r, he _ _ s, sd, se, q _ H1 (Ex.refl _) rfl⟩
theorem er_eqLL {ns ms : List Int} (ha : EvR ta σ H (IL ns)) (hb : EvR tb σ H (IL ms)) : EvR (tOp (rEqD K) ta tb) σ H (B (decide (ns = ms))) :=
  er_B (er_eqD ha hb (fun _ _ => dp_IL) (fun _ _ => dp_IL) (dL_shaped _) (dL_shaped _)) (eqv_dL ns ms)
theorem er_neLL {ns ms : List Int} (ha : EvR ta σ H (IL ns)) (hb : EvR tb σ H (IL ms)) : EvR (tOp (rNeD K) ta tb) σ H (B (!decide (ns = ms))) :=
  er_B (er_neD ha hb (fun _ _ => dp_IL) (fun _ _ => dp_IL) (dL_shaped _) (dL_shaped _)) (by rw [eqv_dL])
theorem nilL {v : V} {H : Hp} (h : (LstOf []).p v H) : (IL []).p v H := lstOf_ints (ns := []) h
theorem nilT {v : V} {H : Hp} (h : (TupOf []).p v H) : (IT []).p v H := tupOf_ints (ns := []) h
/-- xs == [], xs != [] -/
theorem er_eqN {ns : List Int} (ha : EvR ta σ H (IL ns)) (hb : EvR tb σ H (LstOf [])) : EvR (tOp (rEqD K) ta tb) σ H (B (decide (ns = []))) := er_eqLL ha (hb.to fun _ _ _ h => nilL h)
theorem er_neN {ns : List Int} (ha : EvR ta σ H (IL ns)) (hb : EvR tb σ H (LstOf [])) : EvR (tOp (rNeD K) ta tb) σ H (B (!decide (ns = []))) := er_neLL ha (hb.to fun _ _ _ h => nilL h)
theorem er_neNs {ss : List (List Int)} (ha : EvR ta σ H (LR IT ss)) (hb : EvR tb σ H (LstOf [])) : EvR (tOp (rNeD K) ta tb) σ H (B (!decide (ss = []))) :=
  er_B (er_neD ha (hb.to fun _ _ _ h => nilL h) (fun _ _ => dp_LIT) (fun _ _ => dp_IL) (dLT_shaped _) (dL_shaped _)) (by rw [show dL [] = dLT [] from rfl, eqv_dLT])
theorem er_neT {ns : List Int} (ha : EvR ta σ H (IT ns)) (hb : EvR tb σ H (TupOf [])) : EvR (tOp (rNeD K) ta tb) σ H (B (!decide (ns = []))) :=
  er_B (er_neD ha (hb.to fun _ _ _ h => nilT h) (fun _ _ => dp_IT) (fun _ _ => dp_IT) (dT_shaped _) (dT_shaped _)) (by rw [eqv_dT])

/-! ### isinstance -/
def HasT (K : PySem.W.Frag) (R : Rep) (T : String) : Prop := ∀ v H, R.p v H → TyX K H v (.type T)
theorem ty_I {n : Int} : HasT K (I n) "int" := fun v H h => by cases (show v = V.int n from h); exact .base (.int n)
theorem ty_B {b : Bool} : HasT K (B b) "bool" := fun v H h => by cases (show v = V.bl b from h); exact .base (.bl b)
theorem ty_S {s : Str} : HasT K (is (.str s)) "str" := fun v H h => by cases (show v = V.str s from h); exact .base (.str s)
theorem ty_N : HasT K (is .non) "NoneType" := fun v H h => by cases (show v = V.non from h); exact .base .non
theorem ty_IT {ns : List Int} : HasT K (IT ns) "tuple" := fun _ _ ⟨a, e, h⟩ => e ▸ .base (.tup h)
theorem ty_IL {ns : List Int} : HasT K (IL ns) "list" := fun _ _ ⟨a, e, h⟩ => e ▸ .base (.lst h)
theorem ty_PR : HasT K (PR R S) "tuple" := fun _ _ ⟨a, _, _, e, h, _⟩ => e ▸ .base (.tup h)
theorem ty_TR {α : Type} {F : α → Rep} {xs : List α} : HasT K (TR F xs) "tuple" := fun _ _ ⟨a, _, e, h, _⟩ => e ▸ .base (.tup h)
theorem ty_Pt {p : Int × Int} : HasT K (Pt p) "tuple" := ty_IT
theorem er_isi {c T : String} {b : Bool} (ha : EvR ta σ H R) (ht : HasT K R T) (hk : kitB T c = some b := by decide +kernel) : EvR (tCB (rIsi K) (tCons ta (tCons (tC (.ty c)) tNil))) σ H (B b) :=
  er_cb (ea_consR ha (ea_consR er_c ea_nilR)) fun vs H1 _ r Q q => by
    cases r with
    | cons r1 r =>
      cases r with
      | cons r2 r =>
        cases r
        cases (show _ = V.ty c from r2)
        exact ⟨_, _, _, _, b, rfl, .ty c, ht _ _ r1, kit_ty hk, q _ H1 (Ex.refl _) rfl⟩
/-- isinstance(x, (c, d)) -/
theorem er_isi2 {c d T : String} {b : Bool} (ha : EvR ta σ H R) (ht : HasT K R T) (hk : PySem.W.kitAny K (.type T) [.type c, .type d] = some b) : EvR (tCB (rIsiT K) (tCons ta (tCons (tTup (tCons (tC (.ty c)) (tCons (tC (.ty d)) tNil))) tNil))) σ H (B b) :=
  er_cb (ea_consR ha (ea_consR (er_tup (ea_consR er_c (ea_consR er_c ea_nilR)) (by show 2 ≤ 100000; omega)) ea_nilR)) fun vs H1 _ r Q q => by
    cases r with
    | cons r1 r =>
      cases r with
      | cons r2 r =>
        cases r
        obtain ⟨a, ws, rfl, h, r⟩ := r2
        cases r with
        | cons s1 r =>
          cases r with
          | cons s2 r =>
            cases r
            cases (show _ = V.ty c from s1)
            cases (show _ = V.ty d from s2)
            exact ⟨_, a, _, _, _, b, rfl, h, .cons (.ty c) (.cons (.ty d) .nil), ht _ _ r1, hk, q _ H1 (Ex.refl _) rfl⟩
/-- a <= b <= c -/
theorem er_chain {i j k : Int} (ha : EvR ta σ H (I i)) (hb : EvR tb σ H (I j)) (hc : EvR tc σ H (I k)) : EvR (tChain (rI0 fun i j => .bl (decide (i ≤ j))) (rI0 fun i j => .bl (decide (i ≤ j))) ta tb tc) σ H (B (decide (i ≤ j) && decide (j ≤ k))) := fun H1 e Q q =>
  ha H1 e _ fun x H2 e2 r1 => hb H2 (e.trans e2) _ fun y H3 e3 r2 => ⟨i, j, r1, r2, _, rfl, by
    cases h : decide (i ≤ j) with
    | true => exact iteT (hc H3 ((e.trans e2).trans e3) _ fun z H4 e4 r3 => ⟨j, k, r2, r3, q _ H4 ((e2.trans e3).trans e4) (by rw [h]; rfl)⟩)
    | false => exact iteF (q _ H3 (e2.trans e3) (by rw [h]; rfl))⟩

/-! ### + -/
theorem er_catT {ns ms : List Int} (ha : EvR ta σ H (IT ns)) (hb : EvR tb σ H (IT ms)) (hz : ns.length + ms.length ≤ 100000) : EvR (tOp (rCatA K) ta tb) σ H (IT (ns ++ ms)) :=
  er_op ha hb fun _ _ H1 _ ⟨a, e1, h1⟩ ⟨b, e2, h2⟩ Q q => ⟨a, b, _, _, e1, e2, st_of h1, st_of h2, by rw [List.length_map, List.length_map]; exact sz_of hz, fun z => by
    have z' : ns = [] := List.map_eq_nil_iff.mp z
    subst z'
    exact q _ H1 (Ex.refl _) ⟨b, rfl, h2⟩, fun _ z => by
    have z' : ms = [] := List.map_eq_nil_iff.mp z
    subst z'
    rw [List.append_nil] at q
    exact q _ H1 (Ex.refl _) ⟨a, rfl, h1⟩, fun _ _ p hp => q _ _ (Ex.new hp) ⟨p, rfl, by rw [upd_same, List.map_append]⟩⟩
theorem er_catL {α : Type} {F : α → Rep} {xs ys : List α} (ha : EvR ta σ H (LR F xs)) (hb : EvR tb σ H (LR F ys)) (hz : xs.length + ys.length ≤ 100000) : EvR (tOp rCat ta tb) σ H (LR F (xs ++ ys)) :=
  er_op ha hb fun _ _ H1 _ ⟨a, vs, e1, h1, r1⟩ ⟨b, ws, e2, h2, r2⟩ Q q => ⟨a, b, vs, ws, e1, e2, h1, h2, by rw [← all2_len r1, ← all2_len r2]; exact sz_of hz, fun p hp => q _ _ (Ex.new hp) ⟨p, vs ++ ws, rfl, upd_same, by
    exact all2_app (all2_up (Ex.new hp) r1) (all2_up (Ex.new hp) r2)⟩⟩
theorem er_catI {xs ys : List Int} (ha : EvR ta σ H (IL xs)) (hb : EvR tb σ H (IL ys)) (hz : xs.length + ys.length ≤ 100000) : EvR (tOp rCat ta tb) σ H (IL (xs ++ ys)) :=
  (er_catL (F := I) (ha.to fun _ _ _ r => LR_IL.mpr r) (hb.to fun _ _ _ r => LR_IL.mpr r) hz).to fun _ _ _ r => LR_IL.mp r

/-! ### sorted(set(..)) -/
theorem er_sortSet {w : World} {ns : List Int} (ha : EvR ta σ H S) (hS : ∀ v H, S.p v H → (IL ns).p v H ∨ (IT ns).p v H) (hz : ns.length < 64) :
    EvR (tCB (rSortedSet w) (tCons (tCB (rSetI K w) (tCons ta tNil)) tNil)) σ H (XR (fun ms => Asc ms ∧ ∀ k, k ∈ ms ↔ k ∈ ns) IL) := fun H1 e Q q =>
  ha H1 e _ fun x H2 e2 r => by
    obtain ⟨l, el, hl⟩ : ∃ p, x = .ref p ∧ (SqL K H2 p (ns.map V.int) ∨ SqT K H2 p (ns.map V.int)) := by
      rcases hS _ _ r with ⟨a, e, h⟩ | ⟨a, e, h⟩
      · exact ⟨a, e, .inl (sq_of h)⟩
      · exact ⟨a, e, .inr (st_of h)⟩
    exact ⟨l, ns, by rw [el], hl, hz, fun a c hn hc => ⟨a, _, c, rfl, upd_same, by omega, fun ms p h1 h2 h3 hp => q _ _ ((e2.trans (Ex.new hn)).trans (Ex.new hp)) ⟨ms, ⟨h1, fun k => (h2 k).trans (by simp)⟩, p, rfl, upd_same⟩⟩⟩
/-- sorted(set(ps)), ps a list of pairs of ints in [0, 64) -/
def lexP (p q : Int × Int) : Prop := p.1 < q.1 ∨ (p.1 = q.1 ∧ p.2 < q.2)
theorem er_sortSetP {P : Program} {w : World} {ps : List (Int × Int)} (ha : EvR ta σ H (LR Pt ps)) (hz : ps.length < 64) (hb : ∀ p ∈ ps, (0 ≤ p.1 ∧ p.1 < 64) ∧ 0 ≤ p.2 ∧ p.2 < 64) :
    EvR (tCB (rSortedT K P w) (tCons (tCB (rSetOfT K P w) (tCons ta tNil)) tNil)) σ H (XR (fun qs : List (Int × Int) => qs.Pairwise lexP ∧ ∀ p, p ∈ qs ↔ p ∈ ps) (LR Pt)) := fun H1 e Q q =>
  ha H1 e _ fun x H2 e2 rx => by
    obtain ⟨l, vs, el, hl, r⟩ := rx
    obtain ⟨ks, k1, k2⟩ : ∃ ks : List (Addr × List Int), vs = ks.map (fun p => V.ref p.1) ∧ ks.map (·.2) = ps.map (fun p => [p.1, p.2]) ∧ ∀ p ∈ ks, H2 p.1 = some (.tup (p.2.map V.int)) := by
      clear hl hz hb q ha
      induction r with
      | nil => exact ⟨[], rfl, rfl, fun p hp => absurd hp (by simp)⟩
      | @cons p v _ _ h _ ih =>
        obtain ⟨ks, k1, k2, k3⟩ := ih
        obtain ⟨a, rfl, h⟩ := h
        exact ⟨(a, [p.1, p.2]) :: ks, by rw [List.map_cons, ← k1], by rw [List.map_cons, List.map_cons, k2], fun z hz => by
          rcases List.mem_cons.mp hz with e | hz
          · rw [e]; exact h
          · exact k3 z hz⟩
    obtain ⟨k2, k3⟩ := k2
    have kl : ks.length = ps.length := by
      have := congrArg List.length k2
      simpa using this
    have pair : ∀ z ∈ ks, ∃ p ∈ ps, z.2 = [p.1, p.2] := fun z hz => by
      have m : z.2 ∈ ks.map (·.2) := List.mem_map.mpr ⟨z, hz, rfl⟩
      rw [k2] at m
      obtain ⟨p, hp, e⟩ := List.mem_map.mp m
      exact ⟨p, hp, e.symm⟩
    refine ⟨l, ks, by rw [el], by rw [← k1]; exact sq_of hl, fun z hz => st_of (k3 z hz), by omega, fun a L hn h1 h2 => ?_⟩
    have k4 : ∀ z ∈ L, L2.upd H2 a (SetTO P w a L) z.1 = some (.tup (z.2.map V.int)) := fun z hz => by
      rw [upd_ne (ne_of_none (k3 z (h1 z hz)) hn)]
      exact k3 z (h1 z hz)
    refine ⟨a, L, 2, 64, rfl, upd_same, fun z hz => st_of (k4 z hz), by decide, fun z hz => ?_, fun L' o pm nd few pw hp => ?_⟩
    · obtain ⟨p, hp, e⟩ := pair z (h1 z hz)
      have b := hb p hp
      rw [e]
      exact ⟨rfl, fun m hm => by
        rcases List.mem_cons.mp hm with e | hm
        · rw [e]; exact b.1
        · rw [List.mem_singleton.mp hm]; exact b.2⟩
    · have up := Ex.new (H := L2.upd H2 a (SetTO P w a L)) (o := .lst (L'.map fun q => V.ref q.1)) hp
      have mem : ∀ z ∈ L', ∃ p ∈ ps, z.2 = [p.1, p.2] := fun z hz => pair z (h1 z (pm.mem_iff.mp hz))
      refine q _ _ ((e2.trans (Ex.new hn)).trans up) ⟨L'.map (fun z => (z.2.getD 0 0, z.2.getD 1 0)), ⟨?_, fun p => ?_⟩, o, _, rfl, upd_same, ?_⟩
      · rw [List.pairwise_map]
        rw [List.nodup_iff_pairwise_ne, List.pairwise_map] at nd
        refine List.Pairwise.imp_of_mem (fun {y z} hy hz h => ?_) (pw.and nd)
        obtain ⟨p1, m1, e1⟩ := mem y hy
        obtain ⟨p2, m2, e2⟩ := mem z hz
        have b1 := hb p1 m1
        have b2 := hb p2 m2
        obtain ⟨h, ne⟩ := h
        rw [e1, e2] at h ne
        show lexP (y.2.getD 0 0, y.2.getD 1 0) (z.2.getD 0 0, z.2.getD 1 0)
        rw [e1, e2]
        exact pair_lt h ne b1.1 b1.2 b2.1 b2.2
      · rw [List.mem_map]
        constructor
        · rintro ⟨z, hz, e⟩
          obtain ⟨p', hp', e'⟩ := mem z hz
          rw [e'] at e
          have : p' = p := e
          exact this ▸ hp'
        · intro hp'
          have m : [p.1, p.2] ∈ ks.map (·.2) := by rw [k2]; exact List.mem_map.mpr ⟨p, hp', rfl⟩
          obtain ⟨z, hz, e⟩ := List.mem_map.mp m
          have m2 := h2 z hz
          obtain ⟨z', hz', e'⟩ := List.mem_map.mp m2
          refine ⟨z', pm.mem_iff.mpr hz', ?_⟩
          rw [e', e]
          rfl
      · have all : ∀ M : List (Addr × List Int), (∀ z ∈ M, z ∈ L') → All2 (fun (p : Int × Int) v => (Pt p).p v (L2.upd (L2.upd H2 a (SetTO P w a L)) o (.lst (L'.map fun q => V.ref q.1)))) (M.map (fun z => (z.2.getD 0 0, z.2.getD 1 0))) (M.map fun q => V.ref q.1) := by
          intro M
          induction M with
          | nil => intro _; exact .nil
          | cons z M ih =>
            intro hM
            refine .cons ⟨z.1, rfl, ?_⟩ (ih fun y hy => hM y (List.mem_cons_of_mem _ hy))
            have hz := hM z List.mem_cons_self
            obtain ⟨p', _, e'⟩ := mem z hz
            have := up _ _ (k4 z (pm.mem_iff.mp hz))
            show _ = some (HO.tup ([z.2.getD 0 0, z.2.getD 1 0].map V.int))
            rw [this, e']
            rfl
        exact all L' fun _ h => h
end

/-! ### a def and its promise -/
/-- the names that are still the built-ins' -/
structure Names (mg : Str → Option Value) : Prop where
  len : mg "len" = none
  isi : mg "isinstance" = none
  sorted : mg "sorted" = none
  set : mg "set" = none
  list : mg "list" = none
  tuple : mg "tuple" = none
  range : mg "range" = none
  enum : mg "enumerate" = none
  int : mg "int" = none
  bool : mg "bool" = none
  str : mg "str" = none
/-- the def st of the text stands under its name -/
def Raw (K : PySem.W.Frag) (mg : Str → Option Value) (name : Str) (st : Stmt) : Prop := ∃ f fd, FunD K name name (defArgs st) (defBody st) (defScope st) [] [] f fd ∧ mg name = some (.ref f)
/-- it keeps a promise -/
def Def (P : Program) (w : World) (K : PySem.W.Frag) (mg : Str → Option Value) (base : Heap) (name : Str) (k : Nat) (ps : List Str) (sp : Sp) : Prop :=
  ∃ f fd, FnOk P w K mg base CX0 k f fd ps sp ∧ mg name = some (.ref f) ∧ PySem.W.keepIn K (.ref f) = true ∧ Binds K fd ps []
theorem pe_def {X : Cx} {name : Str} {k : Nat} {ps : List Str} {sp : Sp} {e : Expr} {es : List Expr} {t : TA} {p pos : Pos} (D : Def X.prog X.w X.K X.mg X.base name k ps sp) (hr : Room k X.A) (hg : Gl X name) (ha : PA X (e :: es) t) (hdb : (name == ("__debug__" : Str)) = false := by decide)
    (he : starEach (e :: es) X.env = (false, eval e X.env) :: starEach es X.env := by rfl) (hpl : (backTo pos (starEach es X.env)).any (·.1) = false := by rfl) : PE X (.Call (.Name name p) (e :: es) [] pos) (tCall sp [] E0 t) := by
  obtain ⟨f, fd, G, hm, hk, hb⟩ := D
  exact pe_call G hr hg hm hk hb .nil pass0 ha hdb he hpl
/-- arguments that stand for x, a result that stands for res x -/
def fsp {α : Type} (arg : α → List Rep) (pre : α → Prop) (res : α → Rep) : Sp := fun vs H Q _ => ∃ x : α, pre x ∧ All2 (fun (R : Rep) v => R.p v H) (arg x) vs ∧ ∀ v H', Ex H H' → (res x).p v H' → Q v H'
theorem er_def {α : Type} {σ : L2.St} {H : Hp} {arg : α → List Rep} {pre : α → Prop} {res : α → Rep} {tA : TA} {E : XK} (x : α) (hp : pre x) (h : EvAs tA σ H (arg x)) : EvR (tCall (fsp arg pre res) [] E tA) σ H (res x) := fun H1 e Q q =>
  h H1 e _ fun vs H2 e2 rs => ⟨x, hp, by rw [List.append_nil]; exact rs, fun v H3 e3 r => q v H3 (e2.trans e3) r⟩
section
variable {P : Program} {w : World} {K : PySem.W.Frag} {mg : Str → Option Value} {base : Heap}
theorem Def.mk {name : Str} {st : Stmt} {N ps : List Str} {k : Nat} {sp : Sp} (R : Raw K mg name st) (S : FnScope N ps (defScope st))
    (hb : ∀ (kV doc pm : Value) (an : Option Addr) (cdv ct : Value) (us : List Value), us.length = ps.length → bindArgs (PySem.W.fnOf name name (defArgs st) (defBody st) (defScope st) .none kV doc pm an cdv ct) ⟨us, []⟩ = pure (ps.zip us))
    (len : ∀ vs H Q E, sp vs H Q E → vs.length = ps.length)
    (body : ∀ (f : Addr) (cdv : Value) (A : Around) (outer : List Env) (s : Shared) (H : Hp) (vs : List V) (Q : VK) (E : XK), Room k (A.deeper (envOfC name (defScope st) s.heap.objs.size f cdv)) → sp vs H Q E →
      ∃ t, PSs (cxOf CX0 P w K mg base N name (defScope st) f cdv A outer s H E).nox (defBody st) t ∧ t { nx := fun _ H' => Q .non H', rt := Q } (start N vs) H) : Def P w K mg base name (k + 1) ps sp := by
  obtain ⟨f, fd, F, hm⟩ := R
  refine ⟨f, fd, F.ok S len fun cdv A outer s H vs Q E hr h => ?_, hm, F.kp, F.bindsN hb⟩
  obtain ⟨t, h1, h2⟩ := body f cdv A outer s H vs Q E hr h
  exact ⟨t, h1.nox, h2⟩
theorem Def.fn {α : Type} {arg : α → List Rep} {pre : α → Prop} {res : α → Rep} {name : Str} {st : Stmt} {N ps : List Str} {k : Nat} (R : Raw K mg name st) (S : FnScope N ps (defScope st))
    (hb : ∀ (kV doc pm : Value) (an : Option Addr) (cdv ct : Value) (us : List Value), us.length = ps.length → bindArgs (PySem.W.fnOf name name (defArgs st) (defBody st) (defScope st) .none kV doc pm an cdv ct) ⟨us, []⟩ = pure (ps.zip us))
    (len : ∀ x, (arg x).length = ps.length)
    (body : ∀ (f : Addr) (cdv : Value) (A : Around) (outer : List Env) (s : Shared) (H0 : Hp) (E : XK), Room k (A.deeper (envOfC name (defScope st) s.heap.objs.size f cdv)) →
      ∃ t, PSs (cxOf CX0 P w K mg base N name (defScope st) f cdv A outer s H0 E).nox (defBody st) t ∧
        ∀ (x : α) (vs : List V) (H : Hp) (Q : VK), pre x → All2 (fun (R : Rep) v => R.p v H) (arg x) vs → (∀ v H', Ex H H' → (res x).p v H' → Q v H') → t { nx := fun _ H' => Q .non H', rt := Q } (start N vs) H) : Def P w K mg base name (k + 1) ps (fsp arg pre res) :=
  Def.mk R S hb (fun vs H Q E ⟨x, _, r, _⟩ => (all2_len r).symm.trans (len x)) fun f cdv A outer s H vs Q E hr ⟨x, hp, r, q⟩ => by
    obtain ⟨t, h1, h2⟩ := body f cdv A outer s H E hr
    exact ⟨t, h1, h2 x vs H Q hp r q⟩
end
end LD
set_option Elab.async false
set_option linter.all false
set_option maxRecDepth 100000
set_option maxHeartbeats 8000000
set_option autoImplicit false
/-! the package's small defs -/
namespace LD
open PySem PySem.Spec PyProof.Rows L2 Evl

def top (i : Nat) : Stmt := PySem.Challenge.pw_latchdoors_k40_whole_rounds.main.body.getD i (.Pass ⟨0, 0, 0, 0⟩)
structure Wb where
  m : Nat
  A : List (Int × Int)
def wR (W : Wb) : Rep := WB W.m W.A
structure WebOk (W : Wb) : Prop where
  lo : 1 ≤ W.m
  hi : W.m ≤ 5
  asc : W.A.Pairwise lexP
  ok : ∀ p ∈ W.A, (0 ≤ p.1 ∧ p.1 < W.m) ∧ (0 ≤ p.2 ∧ p.2 < W.m) ∧ p.1 ≠ p.2
  few : W.A.length ≤ 25
structure Std (m : Nat) (S : List Int) : Prop where
  asc : Asc S
  ok : ∀ d ∈ S, 0 ≤ d ∧ d < (m : Int)
  few : S.length ≤ 5
def isIn (x : V) (lo hi : Int) : Bool := match x with
  | .int i => decide (lo ≤ i) && decide (i ≤ hi)
  | _ => false
def flat3 : V → Bool
  | .int _ => true
  | .bl _ => true
  | .str _ => true
  | _ => false
section
variable {P : Program} {w : World} {K : PySem.W.Frag} {mg : Str → Option Value} {base : Heap}
theorem vs1 {R : Rep} {vs : List V} {H : Hp} (h : All2 (fun (R : Rep) v => R.p v H) [R] vs) : ∃ a, vs = [a] ∧ R.p a H := by
  cases h with
  | cons h r => cases r; exact ⟨_, rfl, h⟩
theorem vs2 {R S : Rep} {vs : List V} {H : Hp} (h : All2 (fun (R : Rep) v => R.p v H) [R, S] vs) : ∃ a b, vs = [a, b] ∧ R.p a H ∧ S.p b H := by
  cases h with
  | cons h r => obtain ⟨b, rfl, hb⟩ := vs1 r; exact ⟨_, _, rfl, h, hb⟩
theorem vs3 {R S T : Rep} {vs : List V} {H : Hp} (h : All2 (fun (R : Rep) v => R.p v H) [R, S, T] vs) : ∃ a b c, vs = [a, b, c] ∧ R.p a H ∧ S.p b H ∧ T.p c H := by
  cases h with
  | cons h r => obtain ⟨b, c, rfl, hb, hc⟩ := vs2 r; exact ⟨_, _, _, rfl, h, hb, hc⟩

/-! ### is_in -/
abbrev p_is_in : Sp := fsp (fun x : V × Int × Int => [is x.1, I x.2.1, I x.2.2]) (fun x => flat3 x.1 = true) (fun x => B (isIn x.1 x.2.1 x.2.2))
theorem sc_is_in : FnScope ["value", "least", "most"] ["value", "least", "most"] (defScope (top 5)) := ⟨rfl, rfl, rfl, by decide +kernel, rfl, by decide +kernel, by decide +kernel⟩
theorem d_is_in (R : Raw K mg "is_in" (top 5)) (T : Names mg) : Def P w K mg base "is_in" 1 ["value", "least", "most"] p_is_in := by
  refine Def.fn (k := 0) R sc_is_in (fun _ _ _ _ _ _ us hl => match us, hl with | [_, _, _], _ => rfl) (fun _ => rfl) fun f cdv A outer s H0 E hr => ⟨_, (pss_one (ps_ret (pe_and (pe_callB call_isi (by rfl) T.isi boot_isinstance (pa_cons (pv 0) (pa_cons (pe_bltn (v := .ty "int") (by rfl) T.int (by decide +kernel) rfl) pa_nil))) (pe_and (pe_not (pe_callB call_isi (by rfl) T.isi boot_isinstance (pa_cons (pv 0) (pa_cons (pe_bltn (v := .ty "bool") (by rfl) T.bool (by decide +kernel) rfl) pa_nil)))) (pe_one (pe_chain op_le op_le (pv 1) (pv 0) (pv 2))))))), ?_⟩
  rintro ⟨x, lo, hi⟩ vs H Q hp r q
  obtain ⟨a, b, c, rfl, ha, hb, hc⟩ := vs3 r
  have ea := ha; have eb := hb; have ec := hc
  refine sr_ret (R := B (isIn x lo hi)) ?_ fun v H1 e r => q v H1 e r
  cases x with
  | int i =>
    refine er_B (er_and (er_isi (b := true) (er_var rfl ha) ty_I) fun _ => er_and (er_not (er_isi (b := false) (er_var rfl ha) ty_I)) fun _ => er_chain (er_var rfl hb) (er_var rfl ha) (er_var rfl hc)) (by rfl)
  | bl z => exact er_B (er_and (b := false) (er_isi (b := true) (er_var rfl ha) ty_B) fun _ => er_and (b := false) (er_not (er_isi (b := true) (er_var rfl ha) ty_B)) fun h => by cases h) (by rfl)
  | str z => exact er_B (er_and (b := false) (er_isi (b := false) (er_var rfl ha) ty_S) fun h => by cases h) (by rfl)
  | _ => cases hp
end
end LD
set_option Elab.async false
set_option linter.all false
set_option maxRecDepth 100000
set_option maxHeartbeats 3200000
set_option autoImplicit false
/-! what the package computes, in plain words -/
namespace LD
open PySem PySem.Spec PyProof.Rows L2 Evl

theorem asc_ext : ∀ {xs ys : List Int}, Asc xs → Asc ys → (∀ k, k ∈ xs ↔ k ∈ ys) → xs = ys
  | [], [], _, _, _ => rfl
  | [], y :: ys, _, _, h => absurd ((h y).mpr List.mem_cons_self) (by simp)
  | x :: xs, [], _, _, h => absurd ((h x).mp List.mem_cons_self) (by simp)
  | x :: xs, y :: ys, a, b, h => by
    have ax := List.pairwise_cons.mp a
    have by' := List.pairwise_cons.mp b
    have e : x = y := by
      rcases List.mem_cons.mp ((h x).mp List.mem_cons_self) with e | e
      · exact e
      rcases List.mem_cons.mp ((h y).mpr List.mem_cons_self) with e' | e'
      · exact e'.symm
      have := by'.1 x e
      have := ax.1 y e'
      omega
    subst e
    have hx : ∀ k, k ∈ xs ↔ k ∈ ys := fun k => by
      constructor
      · intro hk
        rcases List.mem_cons.mp ((h k).mp (List.mem_cons_of_mem _ hk)) with e | e
        · have := ax.1 k hk; omega
        · exact e
      · intro hk
        rcases List.mem_cons.mp ((h k).mpr (List.mem_cons_of_mem _ hk)) with e | e
        · have := by'.1 k hk; omega
        · exact e
    rw [asc_ext ax.2 by'.2 hx]
theorem rng_asc (n : Nat) : Asc (rng n) := by
  unfold rng Asc
  rw [List.pairwise_map]
  exact (List.pairwise_lt_range (n := n)).imp fun h => by
    show ((_ : Nat) : Int) < ((_ : Nat) : Int)
    omega
theorem Asc.filter {xs : List Int} (h : Asc xs) (f : Int → Bool) : Asc (xs.filter f) := List.Pairwise.filter f h
theorem Asc.nodup {xs : List Int} (h : Asc xs) : xs.Nodup := List.Pairwise.imp (fun h => by omega) h
theorem le_asc {xs : List Int} (h : xs.Pairwise (· ≤ ·)) (n : xs.Nodup) : Asc xs := by
  refine List.Pairwise.imp ?_ (h.and n)
  rintro a b ⟨h1, h2⟩
  have : a ≠ b := h2
  omega

instance (ns : List Int) : Decidable (Asc ns) := inferInstanceAs (Decidable (ns.Pairwise (· < ·)))
def frzB (W : Wb) (S : List Int) (k : Int) : Bool := W.A.any fun p => decide (p.1 ∈ S) && !decide (p.2 ∈ S) && (decide (p.1 = k) || decide (p.2 = k))
def loose (W : Wb) (S : List Int) : List Int := (rng W.m).filter fun k => !frzB W S k
def subs (ds : List Int) : List (List Int) := ds.foldl (fun acc d => acc ++ acc.map (· ++ [d])) [[]]
def NoRing (A : List (Int × Int)) (L : List Int) : Prop := ∀ M : List Int, M ≠ [] → (∀ k ∈ M, k ∈ L) → ∃ k ∈ M, ∀ p ∈ A, p.1 = k → p.2 ∉ M
noncomputable def noRing (A : List (Int × Int)) (L : List Int) : Bool := by classical exact decide (NoRing A L)
theorem noRing_iff {A : List (Int × Int)} {L : List Int} : noRing A L = true ↔ NoRing A L := by
  unfold noRing
  exact @decide_eq_true_iff _ (Classical.propDecidable _)
def differ (W : Wb) (S T : List Int) : List Int := (rng W.m).filter fun k => decide (k ∈ S) != decide (k ∈ T)
noncomputable def ways (W : Wb) (ds : List Int) : Nat := ((subs ds).filter fun L => noRing W.A L).length
noncomputable def countW (W : Wb) (S : List Int) : Nat := ways W ((loose W S).filter fun k => !decide (k ∈ S)) * ways W ((loose W S).filter fun k => decide (k ∈ S))
def roundB (W : Wb) (S ns : List Int) : Bool := (ns.all fun k => decide (0 ≤ k) && decide (k ≤ (W.m : Int) - 1)) && (!decide (ns = []) && decide (Asc ns) && ns.all fun k => !frzB W S k)

theorem subs_snoc (ds : List Int) (d : Int) : subs (ds ++ [d]) = subs ds ++ (subs ds).map (· ++ [d]) := by
  unfold subs
  rw [List.foldl_append]
  rfl
theorem subs_len : ∀ (n : Nat) (ds : List Int), ds.length = n → (subs ds).length = 2 ^ n
  | 0, ds, h => by rw [List.length_eq_zero_iff.mp h]; rfl
  | n + 1, ds, h => by
    obtain ⟨e, d, rfl⟩ : ∃ e d, ds = e ++ [d] := by
      rcases List.eq_nil_or_concat ds with e | ⟨e, d, h⟩
      · rw [e] at h; cases h
      · exact ⟨e, d, by rw [h, List.concat_eq_append]⟩
    rw [List.length_append] at h
    rw [subs_snoc, List.length_append, List.length_map, subs_len n e (by simpa using h), Nat.pow_succ]
    omega
theorem subs_mem {L : List Int} : ∀ (n : Nat) (ds : List Int), ds.length = n → (L ∈ subs ds ↔ L.Sublist ds)
  | 0, ds, h => by
    rw [List.length_eq_zero_iff.mp h]
    show L ∈ [[]] ↔ _
    simp
  | n + 1, ds, h => by
    obtain ⟨e, d, rfl⟩ : ∃ e d, ds = e ++ [d] := by
      rcases List.eq_nil_or_concat ds with e | ⟨e, d, h⟩
      · rw [e] at h; cases h
      · exact ⟨e, d, by rw [h, List.concat_eq_append]⟩
    rw [List.length_append] at h
    have ih := fun {L : List Int} => subs_mem (L := L) n e (by simpa using h)
    rw [subs_snoc, List.mem_append, List.mem_map]
    constructor
    · rintro (h1 | ⟨K, h1, rfl⟩)
      · exact (ih.mp h1).trans (List.sublist_append_left _ _)
      · exact (ih.mp h1).append (List.Sublist.refl _)
    · intro h1
      obtain ⟨a, b, rfl, ha, hb⟩ := List.sublist_append_iff.mp h1
      rcases List.sublist_cons_iff.mp hb with hb | ⟨r, rfl, hr⟩
      · rw [List.sublist_nil.mp hb, List.append_nil]
        exact .inl (ih.mpr ha)
      · rw [List.sublist_nil.mp hr]
        exact .inr ⟨a, ih.mpr ha, rfl⟩
theorem mem_subs {L ds : List Int} : L ∈ subs ds ↔ L.Sublist ds := subs_mem _ ds rfl
theorem len_subs (ds : List Int) : (subs ds).length = 2 ^ ds.length := subs_len _ ds rfl
theorem loose_len (W : Wb) (S : List Int) : (loose W S).length ≤ W.m := Nat.le_trans (List.length_filter_le _ _) (by rw [rng_len]; exact Nat.le_refl _)
theorem loose_asc (W : Wb) (S : List Int) : Asc (loose W S) := (rng_asc _).filter _
theorem mem_loose {W : Wb} {S : List Int} {k : Int} : k ∈ loose W S ↔ (0 ≤ k ∧ k < W.m) ∧ frzB W S k = false := by
  unfold loose
  rw [List.mem_filter, mem_rng]
  simp
end LD
set_option Elab.async false
set_option linter.all false
set_option maxRecDepth 100000
set_option maxHeartbeats 3200000
set_option autoImplicit false
/-! more rules -/
namespace LD
open PySem PySem.Spec PyProof.Rows L2 Evl
section
variable {K : PySem.W.Frag} {σ : L2.St} {H H' : Hp} {ta tb tc te : TE} {t u : TT} {R S T : Rep}
theorem g_pair {i j : Nat} {v : V} {k : L2.St → Hp → Prop} (h : (PR R S).p v H) (q : ∀ u w, R.p u H → S.p w H → k ((σ.set i (some u)).set j (some w)) H) : gTup K 2 (gCons (gName i) (gCons (gName j) gNil)) v σ H k := by
  obtain ⟨a, u, w, ev, hv, r, s⟩ := h
  exact ⟨a, [u, w], ev, st_of hv, rfl, u, _, rfl, w, _, rfl, rfl, q u w r s⟩
theorem et_yes : EvT tYes σ H true := fun H1 _ _ q => q H1 (Ex.refl H1)
theorem er_lcI {wi : TI} {j : Nat} {vs : List Nat} {ns : List Int} (f : Int → Bool) (hi : EvI wi σ H ns I) (hz : ns.length ≤ 40000) (hw : ∀ v, wipe ((wipe σ vs).set j (some v)) vs = wipe σ vs) (hj : ∀ v, ((wipe σ vs).set j (some v))[j]? = some (some v))
    (ht : ∀ k ∈ ns, ∀ v H1, Ex H H1 → (I k).p v H1 → EvT t ((wipe σ vs).set j (some v)) H1 (f k)) : EvR (tLc wi (gName j) t (tVar j) vs) σ H (IL (ns.filter f)) :=
  (er_lcN f (fun k => k) I hi hz hw ht fun k _ v H1 _ r _ => er_var (hj v) r).to fun v H1 _ r => by
    rw [List.map_id'] at r
    exact LR_IL.mp r
theorem er_gtPt {p q : Int × Int} (ha : EvR ta σ H (Pt p)) (hb : EvR tb σ H (Pt q)) (h : lexP q p) : EvR (tOp (rLeT K) ta tb) σ H (B false) :=
  er_op ha hb fun _ _ H1 _ ⟨a, e1, h1⟩ ⟨b, e2, h2⟩ Q k => ⟨a, b, [p.1, p.2], [q.1, q.2], e1, e2, st_of h1, st_of h2, by
    refine k _ H1 (Ex.refl _) ?_
    show V.bl _ = V.bl false
    congr 1
    show Ob.lexAt _ _ _ 0 2 = false
    rw [Ob.lexAt_succ, Ob.lexAt_succ]
    show (if decide (p.1 = q.1) = true then (if decide (p.2 = q.2) = true then _ else decide (p.2 ≤ q.2)) else decide (p.1 ≤ q.1)) = false
    rcases h with h | ⟨h, h'⟩
    · rw [if_neg (by simp; omega)]
      simp; omega
    · rw [if_pos (by simp [h]), if_neg (by simp; omega)]
      simp; omega⟩
theorem er_ilIT {ns : List Int} (h : EvR te σ H (IT ns)) : EvR te σ H (TR I ns) := h.to fun _ _ _ r => TR_IT.mpr r
theorem qr_aug {D : Ends} {tz : TS} {i : Nat} {C : Int → Int → Prop} {f : Int → Int → V} {a b : Int} {v : V} (hx : σ[i]? = some (some v)) (hv : (I a).p v H) (h : EvR te σ H (I b)) (hc : C a b) (k : ∀ H1, Ex H H1 → tz D (σ.set i (some (f a b))) H1) : tSeq (tAug i te (rI C f)) tz D σ H := by
  cases (show v = V.int a from hv)
  exact ⟨_, hx, h H (Ex.refl H) _ fun y H1 e r => ⟨a, b, rfl, r, hc, k H1 e⟩⟩
theorem sr_aug {D : Ends} {i : Nat} {C : Int → Int → Prop} {f : Int → Int → V} {a b : Int} {v : V} (hx : σ[i]? = some (some v)) (hv : (I a).p v H) (h : EvR te σ H (I b)) (hc : C a b) (k : ∀ H1, Ex H H1 → D.nx (σ.set i (some (f a b))) H1) : tAug i te (rI C f) D σ H := by
  cases (show v = V.int a from hv)
  exact ⟨_, hx, h H (Ex.refl H) _ fun y H1 e r => ⟨a, b, rfl, r, hc, k H1 e⟩⟩
theorem qr_for {D : Ends} {tz tu : TS} {g : TG} {α : Type} {wi : TI} {xs : List α} {R : α → Rep} (hi : EvI wi σ H xs R) (Pv : Nat → L2.St → Hp → Prop) (h0 : Pv 0 σ H)
    (hs : ∀ i x v σ' H0 H' H'', xs[i]? = some x → Ex H H0 → Ex H0 H' → Pv i σ' H' → Ex H' H'' → (R x).p v H'' → g v σ' H'' fun σ2 H2 => tu { D with nx := fun σ3 H3 => Ex H0 H3 ∧ Pv (i + 1) σ3 H3, ct := fun σ3 H3 => Ex H0 H3 ∧ Pv (i + 1) σ3 H3, bk := tz D } σ2 H2)
    (mono : ∀ i σ' H' H'', Ex H' H'' → Pv i σ' H' → Pv i σ' H'') (hd : ∀ σ' H', Ex H H' → Pv xs.length σ' H' → tz D σ' H') : tSeq (tFor wi g tu) tz D σ H := sr_for (D := { D with nx := tz D }) hi Pv h0 hs mono hd
end
end LD
set_option Elab.async false
set_option linter.all false
set_option maxRecDepth 100000
set_option autoImplicit false
/-! the rules that name the frag, told with a frag of one's own: within a comprehension's block too -/
namespace LD
open PySem PySem.Spec PyProof.Rows L2 Evl
section
variable {X : Cx}
theorem un64 {k : Nat} {A : Around} (hr : Room k A) : A.units + 64 < cLine := by have := hr.un; omega
theorem un65 {k : Nat} {A : Around} (hr : Room k A) : A.units + 65 < cLine := by have := hr.un; omega
theorem un2 {k : Nat} {A : Around} (hr : Room k A) : A.units + 2 < cLine := by have := hr.un; omega
theorem un0 {k : Nat} {A : Around} (hr : Room k A) : A.units < cLine := by have := hr.un; omega
theorem ix_tup' (K) (h : X.K = K) : IxR X (rIxT K) := by subst h; exact ix_tup
theorem ix_list' (K) (h : X.K = K) : IxR X (rIxL K) := by subst h; exact ix_list
theorem op_in' (K) (h : X.K = K) : OpR X (compareOp CmpOp.In) (rIn K false) := by subst h; exact op_in_seq
theorem op_nin' (K) (h : X.K = K) : OpR X (compareOp CmpOp.NotIn) (rIn K true) := by subst h; exact op_notIn_seq
theorem op_eqD' (K) (h : X.K = K) (u : X.A.units + 64 < cLine) : OpR X (compareOp CmpOp.Eq) (rEqD K) := by subst h; exact op_eqD u
theorem op_neD' (K) (h : X.K = K) (u : X.A.units + 64 < cLine) : OpR X (compareOp CmpOp.NotEq) (rNeD K) := by subst h; exact op_neD u
theorem op_inD' (K) (h : X.K = K) (u : X.A.units + 65 < cLine) : OpR X (compareOp CmpOp.In) (rInD K) := by subst h; exact op_inD u
theorem op_leT' (K) (h : X.K = K) (u : X.A.units < cLine) : OpR X (compareOp CmpOp.LtE) (rLeT K) := by subst h; exact op_leT u
theorem op_catA' (K) (h : X.K = K) : OpR X (binaryOp Operator.Add) (rCatA K) := by subst h; exact op_catA
theorem call_isi' (K) (h : X.K = K) : CallR X (Value.builtin "isinstance") (rIsi K) := by subst h; exact call_isi
theorem call_isiT' (K) (h : X.K = K) : CallR X (Value.builtin "isinstance") (rIsiT K) := by subst h; exact call_isiT
theorem call_len' (K : PySem.W.Frag) (h : X.K = K) : CallR X (Value.builtin "len") fun xs H Q => ∃ p ys, xs = [V.ref p] ∧ (SqL K H p ys ∨ SqT K H p ys) ∧ Q (V.int ys.length) H := by subst h; exact call_len_seq
theorem call_list' (K : PySem.W.Frag) (h : X.K = K) : CallR X (Value.type "list") fun xs H Q => ∃ p ys, xs = [V.ref p] ∧ (SqL K H p ys ∨ SqT K H p ys) ∧ ∀ (l : Addr), H l = none → Q (V.ref l) (L2.upd H l (HO.lst ys)) := by subst h; exact call_list_of
theorem call_tuple' (K : PySem.W.Frag) (h : X.K = K) : CallR X (Value.type "tuple") fun xs H Q => ∃ p ys, xs = [V.ref p] ∧ ((SqL K H p ys ∧ ∀ (l : Addr), H l = none → Q (V.ref l) (L2.upd H l (HO.tup ys))) ∨ SqT K H p ys ∧ Q (V.ref p) H) := by subst h; exact call_tuple_of
theorem cr_sorted' (K) (h : X.K = K) : CallR X (Value.builtin "sorted") (rSorted K) := by subst h; exact cr_sorted
theorem cr_sortAny' (K) (h : X.K = K) (u : X.A.units + 2 < cLine) : CallR X (Value.builtin "sorted") (rSortAny K) := by subst h; exact cr_sortAny u
theorem cr_setI' (K w) (h : X.K = K) (hw : X.w = w) (c : X.calm = true) : CallR X (Value.type "set") (rSetI K w) := by subst h; subst hw; exact cr_setI c
theorem cr_sortedSet' (w) (hw : X.w = w) (c : X.calm = true) : CallR X (Value.builtin "sorted") (rSortedSet w) := by subst hw; exact cr_sortedSet c
theorem pi_list' (K) (h : X.K = K) {tg l : Expr} {tl : TE} (q : PE X l tl) : PI X tg l (iList K tl) := by subst h; exact pi_list q
theorem pi_tup' (K) (h : X.K = K) {tg l : Expr} {tl : TE} (q : PE X l tl) : PI X tg l (iTup K tl) := by subst h; exact pi_tup q
theorem pi_enumT' (K) (h : X.K = K) {e : Expr} {ta : TA} {p pos tpos : Pos} {elts : List Expr} {kk : Nat} (hg : Gl X "enumerate") (hm : X.mg "enumerate" = none) (ha : PA X [e] ta) (hs : starEach [e] X.env = [(false, eval e X.env)] := by rfl) :
    PI X (Expr.Tuple elts kk tpos) ((Expr.Name "enumerate" p).Call [e] [] pos) (iEnumT K ta) := by subst h; exact pi_enumT hg hm ha hs
theorem pg_tup2 (K) (h : X.K = K) {pos : Pos} {es : List Expr} {k : Nat} {t : TGs} (hc : X.calm = true) (q : PGs X es t) (hn : (assignEach es X.env).length = 2 := by rfl) (hf : List.findIdx? (fun x => x.fst) (assignEach es X.env) = none := by rfl) : PG X (Expr.Tuple es k pos) (gTup K 2 t) := by subst h; exact pg_tup hc q hn hf
end
end LD
set_option Elab.async false
set_option linter.all false
set_option maxRecDepth 100000
set_option maxHeartbeats 8000000
set_option autoImplicit false
/-! checks of the arguments; frozen and loose doors -/
namespace LD
open PySem PySem.Spec PyProof.Rows L2 Evl
section
variable {P : Program} {w : World} {K : PySem.W.Frag} {mg : Str → Option Value} {base : Heap}
abbrev D_is_in (P : Program) (w : World) (K : PySem.W.Frag) (mg : Str → Option Value) (base : Heap) : Prop := Def P w K mg base "is_in" 1 ["value", "least", "most"] p_is_in

abbrev p_is_arrow : Sp := fsp (fun x : (Int × Int) × Nat => [Pt x.1, I (x.2 : Int)]) (fun x => (0 ≤ x.1.1 ∧ x.1.1 < x.2) ∧ (0 ≤ x.1.2 ∧ x.1.2 < x.2) ∧ x.1.1 ≠ x.1.2) (fun _ => B true)
theorem sc_is_arrow : FnScope ["value", "many", "one"] ["value", "many"] (defScope (top 8)) := ⟨rfl, rfl, rfl, by decide +kernel, rfl, by decide +kernel, by decide +kernel⟩
abbrev D_is_arrow (P : Program) (w : World) (K : PySem.W.Frag) (mg : Str → Option Value) (base : Heap) : Prop := Def P w K mg base "is_arrow" 2 ["value", "many"] p_is_arrow
theorem d_is_arrow (R : Raw K mg "is_arrow" (top 8)) (T : Names mg) (d_is_in : D_is_in P w K mg base) : D_is_arrow P w K mg base := by
  refine Def.fn (k := 1) R sc_is_arrow (fun _ _ _ _ _ _ us hl => match us, hl with | [_, _], _ => rfl) (fun _ => rfl) fun f cdv A outer s H0 E hr => ⟨_, (pss_cons (ps_if (PW.pt (pw_or (pt_not (pt_val (pe_callB (call_isi' K rfl) (by rfl) T.isi boot_isinstance (pa_cons (pv 0) (pa_cons (pe_bltn (v := .ty "tuple") (by rfl) T.tuple (by decide +kernel) rfl) pa_nil))))) (pw_or1 (pt_cmpR op_ne (pe_callB (call_len' K rfl) (by rfl) T.len boot_len (pa_cons (pv 0) pa_nil)) pe_int (nomark _)))))
        (pss_one (ps_ret pe_bl)) pss_nil)
      (pss_one (ps_ret (pe_and (pe_cmpR (op_eqD' K rfl (un64 hr)) (pe_lc (own := [("one", 2)]) rfl sc_is_arrow.nd (pi_tup' K rfl (pv 0)) (blkOk_by (by kernel_rfl)) (fun _ _ _ _ _ => (pg_name (i := 2) sc_is_arrow.nd rfl (Or.inl rfl))) (fun _ _ _ _ _ => (pts_one (pt_not (pt_val (pe_def d_is_in (hr.mono (by decide)) rfl (pa_cons (pv 2) (pa_cons pe_int (pa_cons (pe_op op_sub (pv 1) pe_int) pa_nil)))))))) (fun _ _ _ _ _ => (pv 2))) (pe_lst pa_nil) (nomark _)) (pe_one (pe_cmpR op_ne (pe_ix (ix_tup' K rfl) (pv 0) pe_int (fun _ _ => rfl)) (pe_ix (ix_tup' K rfl) (pv 0) pe_int (fun _ _ => rfl)) (nomark _))))))), ?_⟩
  rintro ⟨p, m⟩ vs H Q ⟨b1, b2, ne⟩ r q
  obtain ⟨a, b, rfl, ha, hb⟩ := vs2 r
  refine q_when (b := false) (et_is (et_or (et_not (et_ofB (er_isi (b := true) (er_var rfl ha) ty_Pt))) fun _ => et_of (er_neI (er_lenPR (er_var rfl (Pt_PR.mp ha))) er_c)) (by rfl)) (fun h => by cases h) fun _ H1 e1 => ?_
  have ha1 := (Pt p).mono e1 ha
  have hb1 := (I (m : Int)).mono e1 hb
  refine sr_ret (R := B true) (er_B (er_and (er_eqN (er_lcI (ns := [p.1, p.2]) (fun k => !isIn (.int k) 0 ((m : Int) - 1)) (ei_IT (er_var rfl ha1)) (by simp) (fun _ => rfl) (fun _ => rfl) fun k hk v H2 e2 rv => et_not (et_ofB (er_def (V.int k, 0, (m : Int) - 1) rfl (ea_consR (er_var rfl rv) (ea_consR er_c (ea_consR (er_int2 (er_var rfl ((I (m : Int)).mono e2 hb1)) er_c) ea_nilR))))))
    (er_lst ea_nilR (by simp))) fun _ => er_neI (er_ix0 (er_var rfl (Pt_PR.mp ha1))) (er_ix1 (er_var rfl (Pt_PR.mp ha1)))) ?_) fun v H2 e2 r2 => q v H2 (e1.trans e2) r2
  have z1 : isIn (.int p.1) 0 ((m : Int) - 1) = true := by simp [isIn]; simp at b1; omega
  have z2 : isIn (.int p.2) 0 ((m : Int) - 1) = true := by simp [isIn]; simp at b2; omega
  have ne' : p.1 ≠ p.2 := ne
  simp [z1, z2, ne']

abbrev p_need_web : Sp := fsp (fun W : Wb => [wR W]) WebOk (fun _ => is .non)
theorem sc_need_web : FnScope ["web", "index", "one"] ["web"] (defScope (top 9)) := ⟨rfl, rfl, rfl, by decide +kernel, rfl, by decide +kernel, by decide +kernel⟩
abbrev D_need_web (P : Program) (w : World) (K : PySem.W.Frag) (mg : Str → Option Value) (base : Heap) : Prop := Def P w K mg base "need_web" 3 ["web"] p_need_web
theorem d_need_web (R : Raw K mg "need_web" (top 9)) (T : Names mg) (d_is_in : D_is_in P w K mg base) (d_is_arrow : D_is_arrow P w K mg base) (mM : ∃ t, mg "MOST_DOORS" = some (.int 9 t)) : D_need_web P w K mg base := by
  refine Def.fn (k := 2) R sc_need_web (fun _ _ _ _ _ _ us hl => match us, hl with | [_], _ => rfl) (fun _ => rfl) fun f cdv A outer s H0 E hr => ⟨_, (pss_cons (ps_if (PW.pt (pw_or (pt_not (pt_val (pe_callB (call_isi' K rfl) (by rfl) T.isi boot_isinstance (pa_cons (pv 0) (pa_cons (pe_bltn (v := .ty "tuple") (by rfl) T.tuple (by decide +kernel) rfl) pa_nil))))) (pw_or (pt_cmpR op_ne (pe_callB (call_len' K rfl) (by rfl) T.len boot_len (pa_cons (pv 0) pa_nil)) pe_int (nomark _)) (pw_or1 (pt_not (pt_val (pe_callB (call_isi' K rfl) (by rfl) T.isi boot_isinstance (pa_cons (pe_ix (ix_tup' K rfl) (pv 0) pe_int (fun _ _ => rfl)) (pa_cons (pe_bltn (v := .ty "tuple") (by rfl) T.tuple (by decide +kernel) rfl) pa_nil)))))))))
        pss_never pss_nil)
      (pss_cons (ps_if (pt_not (pt_val (pe_def d_is_in (hr.mono (by decide)) rfl (pa_cons (pe_ix (ix_tup' K rfl) (pv 0) pe_int (fun _ _ => rfl)) (pa_cons pe_int (pa_cons (pe_glob (v := .int 9) rfl mM.choose_spec (show ∃ t, _ = Value.int 9 t from ⟨_, rfl⟩)) pa_nil))))))
        pss_never pss_nil)
      (pss_one (ps_for PassesOwn.never rfl (pi_enumT' K rfl (by rfl) T.enum (pa_cons (pe_ix (ix_tup' K rfl) (pv 0) pe_int (fun _ _ => rfl)) pa_nil)) (pg_tup2 K rfl rfl (pgs_cons (pg_name (i := 1) sc_need_web.nd rfl (Or.inl rfl)) (pgs_cons (pg_name (i := 2) sc_need_web.nd rfl (Or.inl rfl)) pgs_nil)))
        (pss_one (ps_if (PW.pt (pw_or (pt_not (pt_val (pe_def d_is_arrow (hr.mono (by decide)) rfl (pa_cons (pv 2) (pa_cons (pe_ix (ix_tup' K rfl) (pv 0) pe_int (fun _ _ => rfl)) pa_nil))))) (pw_or1 (PW.pt (pw_and (pt_cmpR op_gt (pv 1) pe_int (nomark _)) (pw_and1 (pt_cmpR (op_leT' K rfl (un0 hr)) (pv 2) (pe_ix (ix_tup' K rfl) (pe_ix (ix_tup' K rfl) (pv 0) pe_int (fun _ _ => rfl)) (pe_op op_sub (pv 1) pe_int) (fun _ _ => rfl)) (nomark _))))))))
          pss_never pss_nil)))))), ?_⟩
  rintro W vs H Q ok r q
  obtain ⟨a, rfl, ha⟩ := vs1 r
  have ha : (PR (I (W.m : Int)) (TR Pt W.A)).p a H := ha
  refine q_when (b := false) (et_is (et_or (et_not (et_ofB (er_isi (b := true) (er_var rfl ha) ty_PR))) fun _ => et_or (et_of (er_neI (er_lenPR (er_var rfl ha)) er_c)) fun _ => et_not (et_ofB (er_isi (b := true) (er_ix1 (er_var rfl ha)) ty_TR))) (by rfl)) (fun h => by cases h) fun _ H1 e1 => ?_
  have ha1 := (PR (I (W.m : Int)) (TR Pt W.A)).mono e1 ha
  have z : isIn (.int (W.m : Int)) 1 9 = true := by have := ok.lo; have := ok.hi; simp [isIn]; omega
  refine q_when (b := false) (et_is (et_not (et_ofB (er_def (V.int (W.m : Int), 1, 9) rfl (ea_consR (er_ix0 (er_var rfl ha1)) (ea_consR er_c (ea_consR er_c ea_nilR)))))) (by rw [z]; rfl)) (fun h => by cases h) fun _ H2 e2 => ?_
  have ha2 := (PR (I (W.m : Int)) (TR Pt W.A)).mono e2 ha1
  refine sr_for (ei_enumT (ea_consR (er_ix1 (er_var rfl ha2)) ea_nilR)) (fun _ σ _ => ∃ o1 o2, σ = [some a, o1, o2]) ⟨_, _, rfl⟩ ?_ (fun _ _ _ _ _ h => h) fun σ' H' e _ => q _ _ ((e1.trans e2).trans e) rfl
  rintro i ⟨j, p⟩ v σ' H0 H' H'' hx ee0 e0 ⟨o1, o2, rfl⟩ e' rv
  have hp : W.A[i]? = some p ∧ j = (i : Int) := by
    rw [List.getElem?_map, List.getElem?_zipIdx] at hx
    cases h : W.A[i]? with
    | none => rw [h] at hx; cases hx
    | some p' =>
      rw [h] at hx
      simp at hx
      exact ⟨by rw [hx.2], hx.1.symm⟩
  obtain ⟨hp, rfl⟩ := hp
  have hm := ok.ok p (List.mem_of_getElem? hp)
  refine g_pair rv fun u x hu hx => ?_
  have eb := (ee0.trans e0).trans e'
  have haE := (PR (I (W.m : Int)) (TR Pt W.A)).mono eb ha2
  refine s_when (b := false) (et_is (et_or (et_not (et_ofB (er_def (p, W.m) ⟨hm.1, hm.2.1, hm.2.2⟩ (ea_consR (er_var rfl hx) (ea_consR (er_ix0 (er_var rfl haE)) ea_nilR))))) fun _ => et_and (b := false) (et_of (er_int2 (er_var rfl hu) er_c)) fun h => ?_) ?_) (fun h => by cases h) fun _ H3 e3 => ⟨(e0.trans e').trans e3, _, _, rfl⟩
  · have h : 0 < i := by
      have := of_decide_eq_true h
      omega
    obtain ⟨p', hp'⟩ : ∃ p', W.A[i - 1]? = some p' := ⟨_, List.getElem?_eq_getElem (by have := (List.getElem?_eq_some_iff.mp hp).1; omega)⟩
    refine et_of (er_gtPt (q := p') (er_var rfl hx) (er_ixTR (k := i - 1) (er_ix1 (er_var rfl haE)) (er_int2 (er_var rfl hu) er_c) (by omega) hp') ?_)
    have := List.pairwise_iff_getElem.mp ok.asc (i - 1) i (List.getElem?_eq_some_iff.mp hp').1 (List.getElem?_eq_some_iff.mp hp).1 (by omega)
    rw [(List.getElem?_eq_some_iff.mp hp').2, (List.getElem?_eq_some_iff.mp hp).2] at this
    exact this
  · simp

abbrev p_need_opened : Sp := fsp (fun x : Wb × List Int => [wR x.1, IT x.2]) (fun x => Std x.1.m x.2) (fun _ => is .non)
theorem sc_need_opened : FnScope ["web", "opened", "index", "one"] ["web", "opened"] (defScope (top 10)) := ⟨rfl, rfl, rfl, by decide +kernel, rfl, by decide +kernel, by decide +kernel⟩
abbrev D_need_opened (P : Program) (w : World) (K : PySem.W.Frag) (mg : Str → Option Value) (base : Heap) : Prop := Def P w K mg base "need_opened" 2 ["web", "opened"] p_need_opened
theorem d_need_opened (R : Raw K mg "need_opened" (top 10)) (T : Names mg) (d_is_in : D_is_in P w K mg base) : D_need_opened P w K mg base := by
  refine Def.fn (k := 1) R sc_need_opened (fun _ _ _ _ _ _ us hl => match us, hl with | [_, _], _ => rfl) (fun _ => rfl) fun f cdv A outer s H0 E hr => ⟨_, (pss_cons (ps_if (pt_not (pt_val (pe_callB (call_isi' K rfl) (by rfl) T.isi boot_isinstance (pa_cons (pv 1) (pa_cons (pe_bltn (v := .ty "tuple") (by rfl) T.tuple (by decide +kernel) rfl) pa_nil)))))
        pss_never pss_nil)
      (pss_one (ps_for PassesOwn.never rfl (pi_enumT' K rfl (by rfl) T.enum (pa_cons (pv 1) pa_nil)) (pg_tup2 K rfl rfl (pgs_cons (pg_name (i := 2) sc_need_opened.nd rfl (Or.inl rfl)) (pgs_cons (pg_name (i := 3) sc_need_opened.nd rfl (Or.inl rfl)) pgs_nil)))
        (pss_one (ps_if (PW.pt (pw_or (pt_not (pt_val (pe_def d_is_in (hr.mono (by decide)) rfl (pa_cons (pv 3) (pa_cons pe_int (pa_cons (pe_op op_sub (pe_ix (ix_tup' K rfl) (pv 0) pe_int (fun _ _ => rfl)) pe_int) pa_nil)))))) (pw_or1 (PW.pt (pw_and (pt_cmpR op_gt (pv 2) pe_int (nomark _)) (pw_and1 (pt_cmpR op_le (pv 3) (pe_ix (ix_tup' K rfl) (pv 1) (pe_op op_sub (pv 2) pe_int) (fun _ _ => rfl)) (nomark _))))))))
          pss_never pss_nil))))), ?_⟩
  rintro ⟨W, S⟩ vs H Q ok r q
  obtain ⟨a, b, rfl, ha, hb⟩ := vs2 r
  have ha : (PR (I (W.m : Int)) (TR Pt W.A)).p a H := ha
  have hb : (IT S).p b H := hb
  have ok : Std W.m S := ok
  refine q_when (b := false) (et_is (et_not (et_ofB (er_isi (b := true) (er_var rfl hb) ty_IT))) (by rfl)) (fun h => by cases h) fun _ H1 e1 => ?_
  have ha1 := (PR (I (W.m : Int)) (TR Pt W.A)).mono e1 ha
  have hb1 := (IT S).mono e1 hb
  refine sr_for (ei_enumT (R := I) (xs := S) (ea_consR (er_ilIT (er_var rfl hb1)) ea_nilR)) (fun _ σ _ => ∃ o1 o2, σ = [some a, some b, o1, o2]) ⟨_, _, rfl⟩ ?_ (fun _ _ _ _ _ h => h) fun σ' H' e _ => q _ _ (e1.trans e) rfl
  rintro i ⟨j, p⟩ v σ' H0 H' H'' hx ee0 e0 ⟨o1, o2, rfl⟩ e' rv
  have hp : S[i]? = some p ∧ j = (i : Int) := by
    rw [List.getElem?_map, List.getElem?_zipIdx] at hx
    cases h : S[i]? with
    | none => rw [h] at hx; cases hx
    | some p' =>
      rw [h] at hx
      simp at hx
      exact ⟨by rw [hx.2], hx.1.symm⟩
  obtain ⟨hp, rfl⟩ := hp
  have hm := ok.ok p (List.mem_of_getElem? hp)
  refine g_pair rv fun u x hu hx => ?_
  have eb := (ee0.trans e0).trans e'
  have haE := (PR (I (W.m : Int)) (TR Pt W.A)).mono eb ha1
  have hbE := (IT S).mono eb hb1
  have z : isIn (.int p) 0 ((W.m : Int) - 1) = true := by simp [isIn]; omega
  refine s_when (b := false) (et_is (et_or (et_not (et_ofB (er_def (V.int p, 0, (W.m : Int) - 1) rfl (ea_consR (er_var rfl hx) (ea_consR er_c (ea_consR (er_int2 (er_ix0 (er_var rfl haE)) er_c) ea_nilR)))))) fun _ => et_and (b := false) (et_of (er_int2 (er_var rfl hu) er_c)) fun h => ?_) ?_) (fun h => by cases h) fun _ H3 e3 => ⟨(e0.trans e').trans e3, _, _, rfl⟩
  · have h : 0 < i := by
      have := of_decide_eq_true h
      omega
    obtain ⟨p', hp'⟩ : ∃ p', S[i - 1]? = some p' := ⟨_, List.getElem?_eq_getElem (by have := (List.getElem?_eq_some_iff.mp hp).1; omega)⟩
    refine et_is (et_of (er_int2 (g := fun i j => .bl (decide (i ≤ j))) (er_var rfl hx) (er_ixT (k := i - 1) (er_var rfl hbE) (er_int2 (er_var rfl hu) er_c) (by omega) hp'))) ?_
    have := List.pairwise_iff_getElem.mp ok.asc (i - 1) i (List.getElem?_eq_some_iff.mp hp').1 (List.getElem?_eq_some_iff.mp hp).1 (by omega)
    rw [(List.getElem?_eq_some_iff.mp hp').2, (List.getElem?_eq_some_iff.mp hp).2] at this
    exact decide_eq_false (by omega)
  · simp [z]

abbrev p_need_both : Sp := fsp (fun x : Wb × List Int => [wR x.1, IT x.2]) (fun x => WebOk x.1 ∧ Std x.1.m x.2) (fun _ => is .non)
theorem sc_need_both : FnScope ["web", "opened"] ["web", "opened"] (defScope (top 11)) := ⟨rfl, rfl, rfl, by decide +kernel, rfl, by decide +kernel, by decide +kernel⟩
abbrev D_need_both (P : Program) (w : World) (K : PySem.W.Frag) (mg : Str → Option Value) (base : Heap) : Prop := Def P w K mg base "need_both" 4 ["web", "opened"] p_need_both
theorem d_need_both (R : Raw K mg "need_both" (top 11)) (T : Names mg) (d_need_web : D_need_web P w K mg base) (d_need_opened : D_need_opened P w K mg base) : D_need_both P w K mg base := by
  refine Def.fn (k := 3) R sc_need_both (fun _ _ _ _ _ _ us hl => match us, hl with | [_, _], _ => rfl) (fun _ => rfl) fun f cdv A outer s H0 E hr => ⟨_, (pss_cons (ps_expr (pe_def d_need_web (hr.mono (by decide)) rfl (pa_cons (pv 0) pa_nil)))
      (pss_one (ps_expr (pe_def d_need_opened (hr.mono (by decide)) rfl (pa_cons (pv 0) (pa_cons (pv 1) pa_nil)))))), ?_⟩
  rintro ⟨W, S⟩ vs H Q ⟨ok, st⟩ r q
  obtain ⟨a, b, rfl, ha, hb⟩ := vs2 r
  refine qr_drop (er_def W ok (ea_consR (er_var rfl ha) ea_nilR)) fun _ H1 e1 _ => ?_
  exact sr_drop (er_def (W, S) st (ea_consR (er_var rfl ((wR W).mono e1 ha)) (ea_consR (er_var rfl ((IT S).mono e1 hb)) ea_nilR))) fun _ H2 e2 _ => q _ _ (e1.trans e2) rfl

abbrev p_need_two : Sp := fsp (fun x : Wb × List Int × List Int => [wR x.1, IT x.2.1, IT x.2.2]) (fun x => WebOk x.1 ∧ Std x.1.m x.2.1 ∧ Std x.1.m x.2.2) (fun _ => is .non)
theorem sc_need_two : FnScope ["web", "one", "other"] ["web", "one", "other"] (defScope (top 26)) := ⟨rfl, rfl, rfl, by decide +kernel, rfl, by decide +kernel, by decide +kernel⟩
abbrev D_need_two (P : Program) (w : World) (K : PySem.W.Frag) (mg : Str → Option Value) (base : Heap) : Prop := Def P w K mg base "need_two" 5 ["web", "one", "other"] p_need_two
theorem d_need_two (R : Raw K mg "need_two" (top 26)) (T : Names mg) (d_need_both : D_need_both P w K mg base) (d_need_opened : D_need_opened P w K mg base) : D_need_two P w K mg base := by
  refine Def.fn (k := 4) R sc_need_two (fun _ _ _ _ _ _ us hl => match us, hl with | [_, _, _], _ => rfl) (fun _ => rfl) fun f cdv A outer s H0 E hr => ⟨_, (pss_cons (ps_expr (pe_def d_need_both (hr.mono (by decide)) rfl (pa_cons (pv 0) (pa_cons (pv 1) pa_nil))))
      (pss_one (ps_expr (pe_def d_need_opened (hr.mono (by decide)) rfl (pa_cons (pv 0) (pa_cons (pv 2) pa_nil)))))), ?_⟩
  rintro ⟨W, S, S'⟩ vs H Q ⟨ok, st, st'⟩ r q
  obtain ⟨a, b, c, rfl, ha, hb, hc⟩ := vs3 r
  refine qr_drop (er_def (W, S) ⟨ok, st⟩ (ea_consR (er_var rfl ha) (ea_consR (er_var rfl hb) ea_nilR))) fun _ H1 e1 _ => ?_
  exact sr_drop (er_def (W, S') st' (ea_consR (er_var rfl ((wR W).mono e1 ha)) (ea_consR (er_var rfl ((IT S').mono e1 hc)) ea_nilR))) fun _ H2 e2 _ => q _ _ (e1.trans e2) rfl

def pairsOf (W : Wb) (S : List Int) : List (Int × Int) := W.A.filter fun p => decide (p.1 ∈ S) && !decide (p.2 ∈ S)
abbrev p_pairs_in : Sp := fsp (fun x : Wb × List Int => [wR x.1, IT x.2]) (fun x => x.1.A.length ≤ 25) (fun x => LR Pt (pairsOf x.1 x.2))
theorem sc_pairs_in : FnScope ["web", "opened", "arrow"] ["web", "opened"] (defScope (top 13)) := ⟨rfl, rfl, rfl, by decide +kernel, rfl, by decide +kernel, by decide +kernel⟩
abbrev D_pairs_in (P : Program) (w : World) (K : PySem.W.Frag) (mg : Str → Option Value) (base : Heap) : Prop := Def P w K mg base "pairs_in" 1 ["web", "opened"] p_pairs_in
theorem d_pairs_in (R : Raw K mg "pairs_in" (top 13)) (T : Names mg) : D_pairs_in P w K mg base := by
  refine Def.fn (k := 0) R sc_pairs_in (fun _ _ _ _ _ _ us hl => match us, hl with | [_, _], _ => rfl) (fun _ => rfl) fun f cdv A outer s H0 E hr => ⟨_, (pss_one (ps_ret (pe_lc (own := [("arrow", 2)]) rfl sc_pairs_in.nd (pi_tup' K rfl (pe_ix (ix_tup' K rfl) (pv 0) pe_int (fun _ _ => rfl))) (blkOk_by (by kernel_rfl)) (fun _ _ _ _ _ => (pg_name (i := 2) sc_pairs_in.nd rfl (Or.inl rfl))) (fun _ _ _ _ _ => (pts_one (PW.pt (pw_and (pt_cmpR (op_in' K rfl) (pe_ix (ix_tup' K rfl) (pv 2) pe_int (fun _ _ => rfl)) (pv 1) (by rfl)) (pw_and1 (pt_cmpR (op_nin' K rfl) (pe_ix (ix_tup' K rfl) (pv 2) pe_int (fun _ _ => rfl)) (pv 1) (by rfl))))))) (fun _ _ _ _ _ => (pv 2))))), ?_⟩
  rintro ⟨W, S⟩ vs H Q few r q
  obtain ⟨a, b, rfl, ha, hb⟩ := vs2 r
  have ha : (PR (I (W.m : Int)) (TR Pt W.A)).p a H := ha
  have hb : (IT S).p b H := hb
  have few : W.A.length ≤ 25 := few
  refine sr_ret (R := LR Pt (pairsOf W S)) (EvR.to (er_lcN (fun p : Int × Int => decide (p.1 ∈ S) && !decide (p.2 ∈ S)) (fun p => p) Pt (ei_tup (er_ix1 (er_var rfl ha))) (by omega) (fun _ => rfl)
    (fun p hp v H1 e1 rv => et_and (et_of (er_inT (er_ix0 (er_var rfl (Pt_PR.mp rv))) (er_var rfl ((IT S).mono e1 hb)))) fun _ => et_of (er_niT (er_ix1 (er_var rfl (Pt_PR.mp rv))) (er_var rfl ((IT S).mono e1 hb))))
    fun p hp v H1 e1 rv _ => er_var rfl rv) fun v H1 _ r => ?_) fun v H1 e1 r1 => q v H1 e1 r1
  rw [List.map_id'] at r
  exact r

theorem pairs_frz {W : Wb} {S : List Int} {k : Int} : k ∈ (pairsOf W S).flatMap (fun p => [p.1, p.2]) ↔ frzB W S k = true := by
  unfold pairsOf frzB
  rw [List.mem_flatMap, List.any_eq_true]
  constructor
  · rintro ⟨p, hp, hk⟩
    obtain ⟨h1, h2⟩ := List.mem_filter.mp hp
    refine ⟨p, h1, ?_⟩
    rw [h2]
    simp at hk
    rcases hk with e | e <;> simp [e]
  · rintro ⟨p, hp, hk⟩
    rw [Bool.and_eq_true] at hk
    refine ⟨p, List.mem_filter.mpr ⟨hp, hk.1⟩, ?_⟩
    have := hk.2
    simp at this
    rcases this with e | e <;> simp [e]
abbrev p_frozen_in : Sp := fsp (fun x : Wb × List Int => [wR x.1, IT x.2]) (fun x => x.1.A.length ≤ 25) (fun x => XR (fun L => Asc L ∧ ∀ k, k ∈ L ↔ frzB x.1 x.2 k = true) IL)
theorem sc_frozen_in : FnScope ["web", "opened", "found", "one", "other"] ["web", "opened"] (defScope (top 14)) := ⟨rfl, rfl, rfl, by decide +kernel, rfl, by decide +kernel, by decide +kernel⟩
abbrev D_frozen_in (P : Program) (w : World) (K : PySem.W.Frag) (mg : Str → Option Value) (base : Heap) : Prop := Def P w K mg base "frozen_in" 2 ["web", "opened"] p_frozen_in
theorem d_frozen_in (R : Raw K mg "frozen_in" (top 14)) (T : Names mg) (d_pairs_in : D_pairs_in P w K mg base) : D_frozen_in P w K mg base := by
  refine Def.fn (k := 1) R sc_frozen_in (fun _ _ _ _ _ _ us hl => match us, hl with | [_, _], _ => rfl) (fun _ => rfl) fun f cdv A outer s H0 E hr => ⟨_, (pss_cons (ps_set (i := 2) sc_frozen_in.nd rfl (Or.inl rfl) (pe_lst pa_nil))
      (pss_cons (ps_for PassesOwn.never rfl (pi_list' K rfl (pe_def d_pairs_in (hr.mono (by decide)) rfl (pa_cons (pv 0) (pa_cons (pv 1) pa_nil)))) (pg_tup2 K rfl rfl (pgs_cons (pg_name (i := 3) sc_frozen_in.nd rfl (Or.inl rfl)) (pgs_cons (pg_name (i := 4) sc_frozen_in.nd rfl (Or.inl rfl)) pgs_nil)))
        (pss_one (ps_set (i := 2) sc_frozen_in.nd rfl (Or.inl rfl) (pe_op op_cat (pv 2) (pe_lst (pa_cons (pv 3) (pa_cons (pv 4) pa_nil)))))))
      (pss_one (ps_ret (pe_callB (cr_sortedSet' w rfl rfl) (by rfl) T.sorted boot_sorted (pa_cons (pe_callTy (cr_setI' K w rfl rfl rfl) (by rfl) T.set boot_set (pa_cons (pv 2) pa_nil)) pa_nil)))))), ?_⟩
  rintro ⟨W, S⟩ vs H Q few r q
  obtain ⟨a, b, rfl, ha, hb⟩ := vs2 r
  have few : W.A.length ≤ 25 := few
  have few2 : (pairsOf W S).length ≤ 25 := Nat.le_trans (List.length_filter_le _ _) few
  have fl : ∀ ps : List (Int × Int), (ps.flatMap fun p => [p.1, p.2]).length = 2 * ps.length := by
    intro ps
    induction ps with
    | nil => rfl
    | cons p ps ih => rw [List.flatMap_cons, List.length_append, ih, List.length_cons]; simp; omega
  refine qr_asg (er_lst ea_nilR (by simp)) fun f H1 e1 hf => ?_
  refine qr_for (R := fun p : Int × Int => PR (I p.1) (I p.2)) (ei_list ((er_def (W, S) few (ea_consR (er_var rfl ((wR W).mono e1 ha)) (ea_consR (er_var rfl ((IT S).mono e1 hb)) ea_nilR))).to fun v H _ ⟨a, vs, ev, hv, r⟩ => ⟨a, vs, ev, hv, Paired.mapP r fun p _ h => Pt_PR.mp h⟩))
    (fun i σ H => ∃ f o1 o2, σ = [some a, some b, some f, o1, o2] ∧ (IL (((pairsOf W S).take i).flatMap fun p : Int × Int => [p.1, p.2])).p f H) ⟨f, _, _, rfl, nilL hf⟩ ?_ (fun i σ H H' e ⟨f, o1, o2, h, r⟩ => ⟨f, o1, o2, h, (IL _).mono e r⟩) ?_
  · rintro i p v σ' H0 H' H'' hp ee0 e0 ⟨f, o1, o2, rfl, hf⟩ e' rv
    refine g_pair rv fun u x hu hx => ?_
    refine sr_asg (er_catI (er_var rfl ((IL _).mono e' hf)) ((er_lst (ea_consR (er_var rfl hu) (ea_consR (er_var rfl hx) ea_nilR)) (by simp)).to fun v H _ r => lstOf_ints (ns := [p.1, p.2]) r) (by
      have := fl ((pairsOf W S).take i)
      rw [List.length_take] at this
      rw [this]
      show _ + 2 ≤ 100000
      omega)) fun v H1 e1 rv => ⟨(e0.trans e').trans e1, v, _, _, rfl, ?_⟩
    rw [List.take_add_one, hp, Option.toList_some, List.flatMap_append]
    exact rv
  · rintro σ' H' e2 ⟨f, o1, o2, rfl, hf⟩
    rw [List.take_length] at hf
    refine sr_ret (er_sortSet (er_var rfl hf) (fun _ _ h => .inl h) (by rw [fl]; show 2 * (pairsOf W S).length < 64; omega)) fun v H3 e3 ⟨L, ⟨h1, h2⟩, h3⟩ => q v H3 ((e1.trans e2).trans e3) ⟨L, ⟨h1, fun k => (h2 k).trans pairs_frz⟩, h3⟩

abbrev p_loose_in : Sp := fsp (fun x : Wb × List Int => [wR x.1, IT x.2]) (fun x => x.1.A.length ≤ 25 ∧ x.1.m ≤ 5) (fun x => IL (loose x.1 x.2))
theorem sc_loose_in : FnScope ["web", "opened", "some", "k"] ["web", "opened"] (defScope (top 15)) := ⟨rfl, rfl, rfl, by decide +kernel, rfl, by decide +kernel, by decide +kernel⟩
abbrev D_loose_in (P : Program) (w : World) (K : PySem.W.Frag) (mg : Str → Option Value) (base : Heap) : Prop := Def P w K mg base "loose_in" 3 ["web", "opened"] p_loose_in
theorem d_loose_in (R : Raw K mg "loose_in" (top 15)) (T : Names mg) (d_frozen_in : D_frozen_in P w K mg base) : D_loose_in P w K mg base := by
  refine Def.fn (k := 2) R sc_loose_in (fun _ _ _ _ _ _ us hl => match us, hl with | [_, _], _ => rfl) (fun _ => rfl) fun f cdv A outer s H0 E hr => ⟨_, (pss_cons (ps_set (i := 2) sc_loose_in.nd rfl (Or.inr rfl) (pe_def d_frozen_in (hr.mono (by decide)) rfl (pa_cons (pv 0) (pa_cons (pv 1) pa_nil))))
      (pss_one (ps_ret (pe_lc (own := [("k", 3)]) rfl sc_loose_in.nd (pi_range1 (by rfl) T.range (pa_cons (pe_ix (ix_tup' K rfl) (pv 0) pe_int (fun _ _ => rfl)) pa_nil)) (blkOk_by (by kernel_rfl)) (fun _ _ _ _ _ => (pg_name (i := 3) sc_loose_in.nd rfl (Or.inl rfl))) (fun _ _ _ _ _ => (pts_one (pt_cmpR (op_nin' K rfl) (pv 3) (pv 2) (by rfl)))) (fun _ _ _ _ _ => (pv 3)))))), ?_⟩
  rintro ⟨W, S⟩ vs H Q ⟨few, hm⟩ r q
  obtain ⟨a, b, rfl, ha, hb⟩ := vs2 r
  have few : W.A.length ≤ 25 := few
  have hm : W.m ≤ 5 := hm
  have ha : (PR (I (W.m : Int)) (TR Pt W.A)).p a H := ha
  refine qr_asg (er_def (W, S) few (ea_consR (er_var rfl ha) (ea_consR (er_var rfl hb) ea_nilR))) fun f H1 e1 ⟨L, ⟨_, hL⟩, hf⟩ => ?_
  refine sr_ret (R := IL (loose W S)) (EvR.to (er_lcI (fun k => !decide (k ∈ L)) (ei_rng (by omega) (ea_consR (er_ix0 (er_var rfl ((PR (I (W.m : Int)) (TR Pt W.A)).mono e1 ha))) ea_nilR)) (by rw [rng_len]; omega) (fun _ => rfl) (fun _ => rfl)
    fun k hk v H2 e2 rv => et_of (er_niL (er_var rfl rv) (er_var rfl ((IL L).mono e2 hf)))) fun v H2 _ r => ?_) fun v H2 e2 r => q v H2 (e1.trans e2) r
  have : loose W S = (rng W.m).filter fun k => !decide (k ∈ L) := List.filter_congr fun k _ => by
    rw [show decide (k ∈ L) = frzB W S k from by rw [Bool.eq_iff_iff, decide_eq_true_iff, hL]]
  rw [this]
  exact r
end
end LD
set_option Elab.async false
set_option linter.all false
set_option maxRecDepth 100000
set_option maxHeartbeats 8000000
set_option autoImplicit false
/-! standings, rings, powers, counts -/
namespace LD
open PySem PySem.Spec PyProof.Rows L2 Evl
section
variable {P : Program} {w : World} {K : PySem.W.Frag} {mg : Str → Option Value} {base : Heap}

theorem pow5 {n : Nat} (h : n ≤ 5) : 2 ^ n ≤ 32 := Nat.pow_le_pow_right (n := 2) (by decide) h
theorem filter_yes {α : Type} (xs : List α) : xs.filter (fun _ => true) = xs := List.filter_eq_self.mpr fun _ _ => rfl
abbrev p_standings : Sp := fsp (fun ds : List Int => [IL ds]) (fun ds => ds.length ≤ 5) (fun ds => XR (fun Ls => Ls.Perm (subs ds)) (LR IT))
theorem sc_standings : FnScope ["doors", "found", "door", "one"] ["doors"] (defScope (top 16)) := ⟨rfl, rfl, rfl, by decide +kernel, rfl, by decide +kernel, by decide +kernel⟩
abbrev D_standings (P : Program) (w : World) (K : PySem.W.Frag) (mg : Str → Option Value) (base : Heap) : Prop := Def P w K mg base "standings" 1 ["doors"] p_standings
theorem d_standings (R : Raw K mg "standings" (top 16)) (T : Names mg) : D_standings P w K mg base := by
  refine Def.fn (k := 0) R sc_standings (fun _ _ _ _ _ _ us hl => match us, hl with | [_], _ => rfl) (fun _ => rfl) fun f cdv A outer s H0 E hr => ⟨_, (pss_cons (ps_set (i := 1) sc_standings.nd rfl (Or.inl rfl) (pe_lst (pa_cons (pe_tup pa_nil) pa_nil)))
      (pss_cons (ps_for PassesOwn.never rfl (pi_list' K rfl (pv 0)) (pg_name (i := 2) sc_standings.nd rfl (Or.inr rfl))
        (pss_one (ps_set (i := 1) sc_standings.nd rfl (Or.inl rfl) (pe_op op_cat (pv 1) (pe_lc (own := [("one", 3)]) rfl sc_standings.nd (pi_list' K rfl (pv 1)) (blkOk_by (by kernel_rfl)) (fun _ _ _ _ _ => (pg_name (i := 3) sc_standings.nd rfl (Or.inl rfl))) (fun _ _ _ _ _ => pts_nil) (fun _ _ _ _ _ => (pe_op (op_catA' K rfl) (pv 3) (pe_tup (pa_cons (pv 2) pa_nil)))))))))
      (pss_one (ps_ret (pe_callB (cr_sortAny' K rfl (un2 hr)) (by rfl) T.sorted boot_sorted (pa_cons (pv 1) pa_nil)))))), ?_⟩
  rintro ds vs H Q few r q
  obtain ⟨a, rfl, ha⟩ := vs1 r
  have few : ds.length ≤ 5 := few
  have small : ∀ i, (subs (ds.take i)).length ≤ 32 := fun i => by
    rw [len_subs, List.length_take]
    exact pow5 (by omega)
  have short : ∀ i, ∀ L ∈ subs (ds.take i), L.length ≤ 5 := fun i L hL => by
    have := (mem_subs.mp hL).length_le
    rw [List.length_take] at this
    omega
  refine qr_asg (er_lst (ea_consR (er_tup ea_nilR (by simp)) ea_nilR) (by simp)) fun f H1 e1 ⟨fa, fv, hfe, hfv, hfr⟩ => ?_
  refine qr_for (R := I) (ei_IL (er_var rfl ((IL ds).mono e1 ha))) (fun i σ H => ∃ f o1 o2, σ = [some a, some f, o1, o2] ∧ (LR IT (subs (ds.take i))).p f H) ⟨f, _, _, rfl, ?_⟩ ?_ (fun i σ H H' e ⟨f, o1, o2, h, r⟩ => ⟨f, o1, o2, h, (LR IT _).mono e r⟩) ?_
  · refine ⟨fa, fv, hfe, hfv, ?_⟩
    cases hfr with
    | cons h1 r =>
      cases r
      exact .cons (nilT h1) .nil
  · rintro i d v σ' H0 H' H'' hd ee0 e0 ⟨f, o1, o2, rfl, hf⟩ e' rv
    have hf' := (LR IT (subs (ds.take i))).mono e' hf
    refine sr_asg (er_catL (er_var rfl hf') (er_lcN (fun _ => true) (· ++ [d]) IT (ei_list (er_var rfl hf')) (by have := small i; omega) (fun _ => rfl) (fun L hL v H1 e1 rv => et_yes) fun L hL u H1 e1 ru _ => er_catT (er_var rfl ru) ((er_tup (ea_consR (er_var rfl ((I d).mono e1 rv)) ea_nilR) (by simp)).to fun v H _ r => tupOf_ints (ns := [d]) r) (by have := short i L hL; simp; omega)) ?_) fun v H1 e1 rv => ⟨(e0.trans e').trans e1, v, _, _, rfl, ?_⟩
    · have := small i
      rw [List.length_map, filter_yes]
      omega
    · rw [filter_yes] at rv
      rw [List.take_add_one, hd, Option.toList_some, subs_snoc]
      exact rv
  · rintro σ' H' e2 ⟨f, o1, o2, rfl, hf⟩
    rw [List.take_length] at hf
    exact sr_ret (er_sortAny (er_var rfl hf)) fun v H3 e3 r => q v H3 ((e1.trans e2).trans e3) r

abbrev p_ringless : Sp := fsp (fun x : Wb × List Int => [wR x.1, IT x.2]) (fun x => x.1.A.length ≤ 25 ∧ x.2.length ≤ 5) (fun x => B (noRing x.1.A x.2))
def moreOf (A : List (Int × Int)) (L : List Int) : List Int := L.filter fun k => !decide ((A.filter fun p => decide (p.1 = k) && decide (p.2 ∈ L)).map (·.2) = [])
theorem mem_more {A : List (Int × Int)} {L : List Int} {k : Int} : k ∈ moreOf A L ↔ k ∈ L ∧ ∃ p ∈ A, p.1 = k ∧ p.2 ∈ L := by
  unfold moreOf
  rw [List.mem_filter]
  refine and_congr_right fun _ => ?_
  rw [Bool.not_eq_true', decide_eq_false_iff_not, List.map_eq_nil_iff, List.filter_eq_nil_iff]
  constructor
  · intro h
    apply Classical.byContradiction
    intro n
    refine h fun p hp z => n ⟨p, hp, ?_⟩
    simpa using z
  · rintro ⟨p, hp, h1, h2⟩ h
    exact h p hp (by simp [h1, h2])
/-- a set of doors each with an arrow within the set -/
def Closed (A : List (Int × Int)) (M : List Int) : Prop := ∀ k ∈ M, ∃ p ∈ A, p.1 = k ∧ p.2 ∈ M
theorem noRing_no {A : List (Int × Int)} {L : List Int} (h : ∀ M, Closed A M → (∀ k ∈ M, k ∈ L) → M = []) : NoRing A L := fun M ne hM => by
  apply Classical.byContradiction
  intro n
  refine ne (h M (fun k hk => ?_) hM)
  apply Classical.byContradiction
  intro n2
  exact n ⟨k, hk, fun p hp e h' => n2 ⟨p, hp, e, h'⟩⟩
theorem noRing_yes {A : List (Int × Int)} {L M : List Int} (h : NoRing A L) (c : Closed A M) (hM : ∀ k ∈ M, k ∈ L) : M = [] := by
  apply Classical.byContradiction
  intro ne
  obtain ⟨k, hk, h2⟩ := h M ne hM
  obtain ⟨p, hp, e, h3⟩ := c k hk
  exact h2 p hp e h3
theorem sc_ringless : FnScope ["web", "some", "left", "more", "k", "one", "other"] ["web", "some"] (defScope (top 18)) := ⟨rfl, rfl, rfl, by decide +kernel, rfl, by decide +kernel, by decide +kernel⟩
abbrev D_ringless (P : Program) (w : World) (K : PySem.W.Frag) (mg : Str → Option Value) (base : Heap) : Prop := Def P w K mg base "ringless" 1 ["web", "some"] p_ringless
theorem d_ringless (R : Raw K mg "ringless" (top 18)) (T : Names mg) : D_ringless P w K mg base := by
  refine Def.fn (k := 0) R sc_ringless (fun _ _ _ _ _ _ us hl => match us, hl with | [_, _], _ => rfl) (fun _ => rfl) fun f cdv A outer s H0 E hr => ⟨_, (pss_cons (ps_set (i := 2) sc_ringless.nd rfl (Or.inr rfl) (pe_callTy (call_list' K rfl) (by rfl) T.list boot_list (pa_cons (pv 1) pa_nil)))
      (pss_cons (ps_while PassesOwn.never (pt_cmpR (op_neD' K rfl (un64 hr)) (pv 2) (pe_lst pa_nil) (nomark _))
        (pss_cons (ps_setLc (i := 3) (own := [("k", 4)]) rfl sc_ringless.nd rfl rfl (sw_true rfl rfl rfl (by decide +kernel)) (pi_list' K rfl (pv 2)) (blkOk_by (by kernel_rfl)) (fun _ _ _ _ _ => (pg_name (i := 4) sc_ringless.nd rfl (Or.inr rfl))) (fun _ _ _ _ _ => (pts_one (pt_cmpR (op_neD' K rfl (un64 hr)) (pe_lc (own := [("one", 5), ("other", 6)]) rfl sc_ringless.nd (pi_tup' K rfl (pe_ix (ix_tup' K rfl) (pv 0) pe_int (fun _ _ => rfl))) (blkOk_by (by kernel_rfl)) (fun _ _ _ _ _ => (pg_tup2 K rfl rfl (pgs_cons (pg_name (i := 5) sc_ringless.nd rfl (Or.inl rfl)) (pgs_cons (pg_name (i := 6) sc_ringless.nd rfl (Or.inl rfl)) pgs_nil)))) (fun _ _ _ _ _ => (pts_one (PW.pt (pw_and (pt_cmpR op_eq (pv 5) (pv 4) (nomark _)) (pw_and1 (pt_cmpR (op_in' K rfl) (pv 6) (pv 2) (by rfl))))))) (fun _ _ _ _ _ => (pv 6))) (pe_lst pa_nil) (nomark _)))) (fun _ _ _ _ _ => (pv 4)))
        (pss_cons (ps_if (pt_cmpR op_eq (pe_callB (call_len' K rfl) (by rfl) T.len boot_len (pa_cons (pv 3) pa_nil)) (pe_callB (call_len' K rfl) (by rfl) T.len boot_len (pa_cons (pv 2) pa_nil)) (nomark _))
          (pss_one (ps_ret pe_bl)) pss_nil)
        (pss_one (ps_set (i := 2) sc_ringless.nd rfl (Or.inr rfl) (pv 3))))))
      (pss_one (ps_ret pe_bl)))), ?_⟩
  rintro ⟨W, L⟩ vs H Q ⟨few, short⟩ r q
  obtain ⟨a, b, rfl, ha, hb⟩ := vs2 r
  have few : W.A.length ≤ 25 := few
  have short : L.length ≤ 5 := short
  have ha : (PR (I (W.m : Int)) (TR Pt W.A)).p a H := ha
  refine qr_asg (er_listOf (er_var rfl hb) fun _ _ h => .inr h) fun l H1 e1 hl => ?_
  refine q_while (fun n σ H' => Ex H1 H' ∧ ∃ l ks o, n = ks.length ∧ σ = [some a, some b, some l, o, none, none, none] ∧ (IL ks).p l H' ∧ (∀ k ∈ ks, k ∈ L) ∧ ks.length ≤ 5 ∧ ∀ M, Closed W.A M → (∀ k ∈ M, k ∈ L) → ∀ k ∈ M, k ∈ ks) L.length
    ⟨Ex.refl _, l, L, _, rfl, rfl, hl, fun _ h => h, short, fun M _ h => h⟩ ?_
  rintro n σ' H' ⟨e2, l, ks, o, rfl, rfl, hl, sub, fewk, all⟩
  refine ⟨_, et_of (er_neN (er_var rfl hl) (er_lst ea_nilR (by simp))), ?_, ?_⟩
  · intro hn H2 e3
    have hn : ks ≠ [] := by simpa using hn
    have hl2 := (IL ks).mono e3 hl
    have ha2 := (PR (I (W.m : Int)) (TR Pt W.A)).mono ((e1.trans e2).trans e3) ha
    refine ⟨fun σ2 H2' => ∃ n', n' < ks.length ∧ (Ex H1 H2' ∧ ∃ l ks o, n' = ks.length ∧ σ2 = [some a, some b, some l, o, none, none, none] ∧ (IL ks).p l H2' ∧ (∀ k ∈ ks, k ∈ L) ∧ ks.length ≤ 5 ∧ ∀ M, Closed W.A M → (∀ k ∈ M, k ∈ L) → ∀ k ∈ M, k ∈ ks), fun σ2 H2' h => h, ?_⟩
    refine qr_asg (R := IL (moreOf W.A ks)) (er_lcI (fun k => !decide ((W.A.filter fun p => decide (p.1 = k) && decide (p.2 ∈ ks)).map (·.2) = [])) (ei_IL (er_var rfl hl2)) (by omega) (fun _ => rfl) (fun _ => rfl) fun k hk v H3 e4 rv => ?_) fun m H3 e4 hm => ?_
    · refine et_of (er_neN ((er_lcP (R := fun p : Int × Int => I p.1) (R' := fun p => I p.2) (fun p => decide (p.1 = k) && decide (p.2 ∈ ks)) (·.2) I (ei_tup (R := fun p : Int × Int => PR (I p.1) (I p.2)) ((er_ix1 (er_var rfl ((PR (I (W.m : Int)) (TR Pt W.A)).mono e4 ha2))).to fun v H _ ⟨a, vs, ev, hv, r⟩ => ⟨a, vs, ev, hv, Paired.mapP r fun p _ h => Pt_PR.mp h⟩)) (by omega) (fun _ _ => rfl)
        (fun p hp u x H4 e5 hu hx => et_and (et_of (er_eqI (er_var rfl hu) (er_var rfl ((I k).mono e5 rv)))) fun _ => et_of (er_inL (er_var rfl hx) (er_var rfl ((IL ks).mono (e4.trans e5) hl2))))
        fun p hp u x H4 e5 hu hx _ => er_var rfl hx).to fun _ _ _ r => LR_IL.mp r) (er_lst ea_nilR (by simp)))
    · have hl3 := (IL ks).mono e4 hl2
      refine q_when (et_of (er_eqI (er_lenIL (er_var rfl hm)) (er_lenIL (er_var rfl hl3)))) (fun heq H4 e5 => ?_) fun hne H4 e5 => ?_
      · refine sr_ret (er_c (v := .bl false)) fun v H5 e6 r => q v H5 (((((e1.trans e2).trans e3).trans e4).trans e5).trans e6) ?_
        rw [show v = V.bl false from r]
        show V.bl false = V.bl _
        congr 1
        symm
        rw [Bool.eq_false_iff]
        intro z
        have len : (moreOf W.A ks).length = ks.length := by
          have := of_decide_eq_true heq
          omega
        have eq : moreOf W.A ks = ks := (List.filter_sublist).eq_of_length len
        refine hn (noRing_yes (noRing_iff.mp z) (M := ks) (fun k hk => ?_) sub)
        rw [← eq] at hk
        exact (mem_more.mp hk).2
      · refine sr_asg (er_var rfl ((IL _).mono e5 hm)) fun v H5 e6 hv => ⟨(moreOf W.A ks).length, ?_, (((e2.trans e3).trans e4).trans e5).trans e6, v, _, _, rfl, rfl, hv, fun k hk => sub k (mem_more.mp hk).1, ?_, fun M c hM k hk => ?_⟩
        · have : (moreOf W.A ks).length ≠ ks.length := by
            have := of_decide_eq_false hne
            omega
          have := List.length_filter_le (fun k => !decide ((W.A.filter fun p => decide (p.1 = k) && decide (p.2 ∈ ks)).map (·.2) = [])) ks
          have : (moreOf W.A ks).length ≤ ks.length := this
          omega
        · have := List.length_filter_le (fun k => !decide ((W.A.filter fun p => decide (p.1 = k) && decide (p.2 ∈ ks)).map (·.2) = [])) ks
          have : (moreOf W.A ks).length ≤ ks.length := this
          omega
        · have ih := all M c hM
          obtain ⟨p, hp, e, hp2⟩ := c k hk
          exact mem_more.mpr ⟨ih k hk, p, hp, e, ih _ hp2⟩
  · intro hn H2 e3
    have hn : ks = [] := by simpa using hn
    subst hn
    refine sr_ret (er_c (v := .bl true)) fun v H3 e4 r => q v H3 (((e1.trans e2).trans e3).trans e4) ?_
    rw [show v = V.bl true from r]
    show V.bl true = V.bl _
    congr 1
    symm
    exact noRing_iff.mpr (noRing_no fun M c hM => List.eq_nil_iff_forall_not_mem.mpr fun k hk => absurd (all M c hM k hk) (by simp))

abbrev p_sets_in : Sp := fsp (fun x : Wb × List Int => [wR x.1, IL x.2]) (fun x => x.1.A.length ≤ 25 ∧ x.2.length ≤ 5) (fun x => XR (fun Ls => Ls.Perm ((subs x.2).filter fun L => noRing x.1.A L)) (LR IT))
theorem sc_sets_in : FnScope ["web", "some", "one"] ["web", "some"] (defScope (top 19)) := ⟨rfl, rfl, rfl, by decide +kernel, rfl, by decide +kernel, by decide +kernel⟩
abbrev D_sets_in (P : Program) (w : World) (K : PySem.W.Frag) (mg : Str → Option Value) (base : Heap) : Prop := Def P w K mg base "sets_in" 2 ["web", "some"] p_sets_in
theorem d_sets_in (R : Raw K mg "sets_in" (top 19)) (T : Names mg) (d_standings : D_standings P w K mg base) (d_ringless : D_ringless P w K mg base) : D_sets_in P w K mg base := by
  refine Def.fn (k := 1) R sc_sets_in (fun _ _ _ _ _ _ us hl => match us, hl with | [_, _], _ => rfl) (fun _ => rfl) fun f cdv A outer s H0 E hr => ⟨_, (pss_one (ps_ret (pe_lc (own := [("one", 2)]) rfl sc_sets_in.nd (pi_list' K rfl (pe_def d_standings (hr.mono (by decide)) rfl (pa_cons (pe_callTy (call_list' K rfl) (by rfl) T.list boot_list (pa_cons (pv 1) pa_nil)) pa_nil))) (blkOk_by (by kernel_rfl)) (fun _ _ _ _ _ => (pg_name (i := 2) sc_sets_in.nd rfl (Or.inl rfl))) (fun _ _ _ _ _ => (pts_one (pt_val (pe_def d_ringless (hr.mono (by decide)) rfl (pa_cons (pv 0) (pa_cons (pv 2) pa_nil)))))) (fun _ _ _ _ _ => (pv 2))))), ?_⟩
  rintro ⟨W, L⟩ vs H Q ⟨few, short⟩ r q
  obtain ⟨a, b, rfl, ha, hb⟩ := vs2 r
  have few : W.A.length ≤ 25 := few
  have short : L.length ≤ 5 := short
  refine sr_ret (R := XR (fun Ls => Ls.Perm ((subs L).filter fun L => noRing W.A L)) (LR IT)) ?_ fun v H1 e1 r => q v H1 e1 r
  have key : ∀ Ls : List (List Int), Ls.Perm (subs L) → ∀ {wi : TI} {σ : L2.St} {H1 : Hp}, True := fun _ _ => trivial
  intro H1 e1 Q1 q1
  refine (er_def L short (ea_consR (er_listOf (er_var rfl hb) fun _ _ h => .inl h) ea_nilR)) H1 e1 _ fun v H2 e2 ⟨Ls, pm, a', vs', ev, hv, rr⟩ => ?_
  have len : Ls.length ≤ 32 := by
    rw [pm.length_eq, len_subs]
    exact pow5 short
  have := er_lcN (wi := iList K (tC v)) (σ := [some a, some b, none]) (H := H2) (j := 2) (vs := [2]) (t := tB (tCall p_ringless [] E0 (tCons (tVar 0) (tCons (tVar 2) tNil)))) (te := tVar 2) (fun L => noRing W.A L) (fun L => L) IT (ei_list (er_c.to fun _ _ ee r => by cases r; exact ⟨a', vs', ev, ee a' _ hv, all2_up ee rr⟩)) (by omega) (fun _ => rfl)
    (fun L' hL u H3 e3 ru => et_ofB (er_def (W, L') ⟨few, by
      have := (mem_subs.mp (pm.mem_iff.mp hL)).length_le
      exact Nat.le_trans this short⟩ (ea_consR (er_var rfl ((wR W).mono ((e1.trans e2).trans e3) ha)) (ea_consR (er_var rfl ru) ea_nilR))))
    fun L' hL u H3 e3 ru _ => er_var rfl ru
  refine this H2 (Ex.refl _) Q1 fun v3 H3 e3 r3 => q1 v3 H3 (e2.trans e3) ⟨Ls.filter fun L => noRing W.A L, pm.filter _, ?_⟩
  rw [List.map_id'] at r3
  exact r3

abbrev p_power : Sp := fsp (fun n : Nat => [I (n : Int)]) (fun n => n ≤ 5) (fun n => I ((2 ^ n : Nat) : Int))
theorem sc_power : FnScope ["times", "found", "k"] ["times"] (defScope (top 21)) := ⟨rfl, rfl, rfl, by decide +kernel, rfl, by decide +kernel, by decide +kernel⟩
abbrev D_power (P : Program) (w : World) (K : PySem.W.Frag) (mg : Str → Option Value) (base : Heap) : Prop := Def P w K mg base "power" 1 ["times"] p_power
theorem d_power (R : Raw K mg "power" (top 21)) (T : Names mg) : D_power P w K mg base := by
  refine Def.fn (k := 0) R sc_power (fun _ _ _ _ _ _ us hl => match us, hl with | [_], _ => rfl) (fun _ => rfl) fun f cdv A outer s H0 E hr => ⟨_, (pss_cons (ps_set (i := 1) sc_power.nd rfl (Or.inl rfl) pe_int)
      (pss_cons (ps_for PassesOwn.never rfl (pi_range1 (by rfl) T.range (pa_cons (pv 0) pa_nil)) (pg_name (i := 2) sc_power.nd rfl (Or.inl rfl))
        (pss_one (ps_aug (i := 1) sc_power.nd rfl (Or.inl rfl) pe_int iop_mul)))
      (pss_one (ps_ret (pv 1))))), ?_⟩
  rintro n vs H Q hn r q
  obtain ⟨a, rfl, ha⟩ := vs1 r
  have hn : n ≤ 5 := hn
  refine qr_asg (er_c (v := .int 1)) fun f H1 e1 hf => ?_
  refine qr_for (R := I) (ei_rng (n := n) (by omega) (ea_consR (er_var rfl ((I (n : Int)).mono e1 ha)) ea_nilR)) (fun i σ H => ∃ o1, σ = [some a, some (.int ((2 ^ i : Nat) : Int)), o1]) ⟨_, by rw [show f = V.int 1 from hf]; rfl⟩ ?_ (fun i σ H H' e h => h) ?_
  · rintro i d v σ' H0 H' H'' hd ee0 e0 ⟨o1, rfl⟩ e' rv
    have hi : i < n := by
      have := (List.getElem?_eq_some_iff.mp hd).1
      rw [rng_len] at this
      exact this
    refine sr_aug (a := ((2 ^ i : Nat) : Int)) (b := 2) rfl rfl (er_c (v := .int 2)) (.inr (by decide)) fun H1 e1 => ⟨(e0.trans e').trans e1, some v, ?_⟩
    show [some a, some (V.int (((2 ^ i : Nat) : Int) * 2)), _] = [some a, some (V.int ((2 ^ (i + 1) : Nat) : Int)), _]
    rw [show ((2 ^ (i + 1) : Nat) : Int) = ((2 ^ i : Nat) : Int) * 2 from by rw [Nat.pow_succ, Int.natCast_mul]; rfl]
  · rintro σ' H' e2 ⟨o1, rfl⟩
    rw [rng_len]
    exact sr_ret (er_var (R := I ((2 ^ n : Nat) : Int)) rfl rfl) fun v H3 e3 r => q v H3 ((e1.trans e2).trans e3) r

abbrev p_fresh_in : Sp := fsp (fun x : List Int × List Int => [IT x.1, IT x.2]) (fun x => x.2.length ≤ 5) (fun x => IL (x.2.filter fun k => !decide (k ∈ x.1)))
theorem sc_fresh_in : FnScope ["one", "other", "k"] ["one", "other"] (defScope (top 22)) := ⟨rfl, rfl, rfl, by decide +kernel, rfl, by decide +kernel, by decide +kernel⟩
abbrev D_fresh_in (P : Program) (w : World) (K : PySem.W.Frag) (mg : Str → Option Value) (base : Heap) : Prop := Def P w K mg base "fresh_in" 1 ["one", "other"] p_fresh_in
theorem d_fresh_in (R : Raw K mg "fresh_in" (top 22)) (T : Names mg) : D_fresh_in P w K mg base := by
  refine Def.fn (k := 0) R sc_fresh_in (fun _ _ _ _ _ _ us hl => match us, hl with | [_, _], _ => rfl) (fun _ => rfl) fun f cdv A outer s H0 E hr => ⟨_, (pss_one (ps_ret (pe_lc (own := [("k", 2)]) rfl sc_fresh_in.nd (pi_tup' K rfl (pv 1)) (blkOk_by (by kernel_rfl)) (fun _ _ _ _ _ => (pg_name (i := 2) sc_fresh_in.nd rfl (Or.inl rfl))) (fun _ _ _ _ _ => (pts_one (pt_cmpR (op_nin' K rfl) (pv 2) (pv 0) (by rfl)))) (fun _ _ _ _ _ => (pv 2))))), ?_⟩
  rintro ⟨S, S'⟩ vs H Q few r q
  obtain ⟨a, b, rfl, ha, hb⟩ := vs2 r
  have few : S'.length ≤ 5 := few
  exact sr_ret (er_lcI (fun k => !decide (k ∈ S)) (ei_IT (er_var rfl hb)) (by omega) (fun _ => rfl) (fun _ => rfl) fun k hk v H1 e1 rv => et_of (er_niT (er_var rfl rv) (er_var rfl ((IT S).mono e1 ha)))) fun v H1 e1 r => q v H1 e1 r

abbrev p_sides_in : Sp := fsp (fun x : Wb × List Int => [wR x.1, IT x.2]) (fun x => x.1.A.length ≤ 25 ∧ x.1.m ≤ 5) (fun x => PR (IL ((loose x.1 x.2).filter fun k => !decide (k ∈ x.2))) (IL ((loose x.1 x.2).filter fun k => decide (k ∈ x.2))))
theorem sc_sides_in : FnScope ["web", "opened", "some", "k"] ["web", "opened"] (defScope (top 23)) := ⟨rfl, rfl, rfl, by decide +kernel, rfl, by decide +kernel, by decide +kernel⟩
abbrev D_sides_in (P : Program) (w : World) (K : PySem.W.Frag) (mg : Str → Option Value) (base : Heap) : Prop := Def P w K mg base "sides_in" 4 ["web", "opened"] p_sides_in
theorem d_sides_in (R : Raw K mg "sides_in" (top 23)) (T : Names mg) (d_loose_in : D_loose_in P w K mg base) : D_sides_in P w K mg base := by
  refine Def.fn (k := 3) R sc_sides_in (fun _ _ _ _ _ _ us hl => match us, hl with | [_, _], _ => rfl) (fun _ => rfl) fun f cdv A outer s H0 E hr => ⟨_, (pss_cons (ps_set (i := 2) sc_sides_in.nd rfl (Or.inl rfl) (pe_def d_loose_in (hr.mono (by decide)) rfl (pa_cons (pv 0) (pa_cons (pv 1) pa_nil))))
      (pss_one (ps_ret (pe_tup (pa_cons (pe_lc (own := [("k", 3)]) rfl sc_sides_in.nd (pi_list' K rfl (pv 2)) (blkOk_by (by kernel_rfl)) (fun _ _ _ _ _ => (pg_name (i := 3) sc_sides_in.nd rfl (Or.inl rfl))) (fun _ _ _ _ _ => (pts_one (pt_cmpR (op_nin' K rfl) (pv 3) (pv 1) (by rfl)))) (fun _ _ _ _ _ => (pv 3))) (pa_cons (pe_lc (own := [("k", 3)]) rfl sc_sides_in.nd (pi_list' K rfl (pv 2)) (blkOk_by (by kernel_rfl)) (fun _ _ _ _ _ => (pg_name (i := 3) sc_sides_in.nd rfl (Or.inl rfl))) (fun _ _ _ _ _ => (pts_one (pt_cmpR (op_in' K rfl) (pv 3) (pv 1) (by rfl)))) (fun _ _ _ _ _ => (pv 3))) pa_nil)))))), ?_⟩
  rintro ⟨W, S⟩ vs H Q ⟨few, hm⟩ r q
  obtain ⟨a, b, rfl, ha, hb⟩ := vs2 r
  have hm : W.m ≤ 5 := hm
  have ll := loose_len W S
  refine qr_asg (er_def (W, S) ⟨few, hm⟩ (ea_consR (er_var rfl ha) (ea_consR (er_var rfl hb) ea_nilR))) fun f H1 e1 hf => ?_
  have hb1 := (IT S).mono e1 hb
  exact sr_ret ((er_tup (ea_consR (er_lcI (fun k => !decide (k ∈ S)) (ei_IL (er_var rfl hf)) (by show (loose W S).length ≤ _; omega) (fun _ => rfl) (fun _ => rfl) fun k hk v H2 e2 rv => et_of (er_niT (er_var rfl rv) (er_var rfl ((IT S).mono e2 hb1))))
    (ea_consR (er_lcI (fun k => decide (k ∈ S)) (ei_IL (er_var rfl hf)) (by show (loose W S).length ≤ _; omega) (fun _ => rfl) (fun _ => rfl) fun k hk v H2 e2 rv => et_of (er_inT (er_var rfl rv) (er_var rfl ((IT S).mono e2 hb1)))) ea_nilR)) (by simp)).to fun _ _ _ r => tupOf_pair r) fun v H2 e2 r => q v H2 (e1.trans e2) r

abbrev p_count_in : Sp := fsp (fun x : Wb × List Int => [wR x.1, IT x.2]) (fun x => x.1.A.length ≤ 25 ∧ x.1.m ≤ 5) (fun x => I (countW x.1 x.2 : Int))
theorem ways_le (W : Wb) (ds : List Int) (h : ds.length ≤ 5) : ways W ds ≤ 32 := by
  have h1 := List.length_filter_le (fun L => noRing W.A L) (subs ds)
  rw [len_subs] at h1
  exact Nat.le_trans h1 (pow5 h)
theorem sc_count_in : FnScope ["web", "opened", "fresh", "old"] ["web", "opened"] (defScope (top 24)) := ⟨rfl, rfl, rfl, by decide +kernel, rfl, by decide +kernel, by decide +kernel⟩
abbrev D_count_in (P : Program) (w : World) (K : PySem.W.Frag) (mg : Str → Option Value) (base : Heap) : Prop := Def P w K mg base "count_in" 5 ["web", "opened"] p_count_in
theorem d_count_in (R : Raw K mg "count_in" (top 24)) (T : Names mg) (d_sides_in : D_sides_in P w K mg base) (d_sets_in : D_sets_in P w K mg base) : D_count_in P w K mg base := by
  refine Def.fn (k := 4) R sc_count_in (fun _ _ _ _ _ _ us hl => match us, hl with | [_, _], _ => rfl) (fun _ => rfl) fun f cdv A outer s H0 E hr => ⟨_, (pss_cons (ps_asg (pe_def d_sides_in (hr.mono (by decide)) rfl (pa_cons (pv 0) (pa_cons (pv 1) pa_nil))) (pg_tup2 K rfl rfl (pgs_cons (pg_name (i := 2) sc_count_in.nd rfl (Or.inl rfl)) (pgs_cons (pg_name (i := 3) sc_count_in.nd rfl (Or.inl rfl)) pgs_nil))))
      (pss_one (ps_ret (pe_op op_mul (pe_callB (call_len' K rfl) (by rfl) T.len boot_len (pa_cons (pe_def d_sets_in (hr.mono (by decide)) rfl (pa_cons (pv 0) (pa_cons (pv 2) pa_nil))) pa_nil)) (pe_callB (call_len' K rfl) (by rfl) T.len boot_len (pa_cons (pe_def d_sets_in (hr.mono (by decide)) rfl (pa_cons (pv 0) (pa_cons (pv 3) pa_nil))) pa_nil)))))), ?_⟩
  rintro ⟨W, S⟩ vs H Q ⟨few, hm⟩ r q
  obtain ⟨a, b, rfl, ha, hb⟩ := vs2 r
  have hm : W.m ≤ 5 := hm
  have ll := loose_len W S
  have l1 := List.length_filter_le (fun k => !decide (k ∈ S)) (loose W S)
  have l2 := List.length_filter_le (fun k => decide (k ∈ S)) (loose W S)
  refine qr_asg2 (er_def (W, S) ⟨few, hm⟩ (ea_consR (er_var rfl ha) (ea_consR (er_var rfl hb) ea_nilR))) fun f o H1 e1 hf ho => ?_
  have ha1 := (wR W).mono e1 ha
  have one : ∀ (ds : List Int) {σ : L2.St} {i : Nat} {v : V}, σ[0]? = some (some a) → σ[i]? = some (some v) → (IL ds).p v H1 → ds.length ≤ 5 → EvR (tCB (fun xs H Q => ∃ p ys, xs = [V.ref p] ∧ (SqL K H p ys ∨ SqT K H p ys) ∧ Q (V.int ys.length) H) (tCons (tCall p_sets_in [] E0 (tCons (tVar 0) (tCons (tVar i) tNil))) tNil)) σ H1 (I (ways W ds : Int)) := fun ds {σ i v} h0 h1 h2 h3 => by
    refine er_lenV (er_def (W, ds) ⟨few, h3⟩ (ea_consR (er_var h0 ha1) (ea_consR (er_var h1 h2) ea_nilR))) fun v H ⟨Ls, pm, a, vs, e, h, r⟩ => ⟨a, vs, e, .inl (sq_of h), ?_⟩
    rw [← all2_len r, pm.length_eq]
    rfl
  have w1 := ways_le W ((loose W S).filter fun k => !decide (k ∈ S)) (by omega)
  have w2 := ways_le W ((loose W S).filter fun k => decide (k ∈ S)) (by omega)
  exact sr_ret (R := I (countW W S : Int)) (er_I (er_int2c (.inl (by omega)) (one ((loose W S).filter fun k => !decide (k ∈ S)) rfl rfl hf (by omega)) (one ((loose W S).filter fun k => decide (k ∈ S)) rfl rfl ho (by omega))) (by unfold countW; rw [Int.natCast_mul])) fun v H2 e2 r => q v H2 (e1.trans e2) r
end
end LD
set_option Elab.async false
set_option linter.all false
set_option maxRecDepth 100000
set_option maxHeartbeats 8000000
set_option autoImplicit false
/-! rounds -/
namespace LD
open PySem PySem.Spec PyProof.Rows L2 Evl
section
variable {K : PySem.W.Frag} {σ : L2.St} {H H' : Hp} {ta tb tc te : TE} {t u : TT} {R S T : Rep}
theorem er_int1 {b : Bool} (ha : EvR ta σ H (B b)) : EvR (tCB (fun xs H Q => (∃ i, xs = [V.int i] ∧ Q (V.int i) H) ∨ ∃ k, xs = [V.bl k] ∧ Q (V.int (if k = true then 1 else 0)) H) (tCons ta tNil)) σ H (I (if b = true then 1 else 0)) :=
  er_cb1 ha fun x H1 _ r Q q => .inr ⟨b, by rw [show x = V.bl b from r], q _ H1 (Ex.refl _) rfl⟩
theorem er_int1I {n : Int} (ha : EvR ta σ H (I n)) : EvR (tCB (fun xs H Q => (∃ i, xs = [V.int i] ∧ Q (V.int i) H) ∨ ∃ k, xs = [V.bl k] ∧ Q (V.int (if k = true then 1 else 0)) H) (tCons ta tNil)) σ H (I n) :=
  er_cb1 ha fun x H1 _ r Q q => .inl ⟨n, by rw [show x = V.int n from r], q _ H1 (Ex.refl _) rfl⟩
theorem er_eqAsc {ns : List Int} (ha : EvR ta σ H (IL ns)) (hb : EvR tb σ H (XR (fun ms => Asc ms ∧ ∀ k, k ∈ ms ↔ k ∈ ns) IL)) : EvR (tOp (rEqD K) ta tb) σ H (B (decide (Asc ns))) :=
  er_op ha hb fun _ _ H1 _ r ⟨ms, ⟨h1, h2⟩, s⟩ Q q => ⟨dL ns, dL ms, dp_IL r, dp_IL s, dL_shaped _, dL_shaped _, q _ H1 (Ex.refl _) (by
    rw [eqv_dL]
    show V.bl _ = V.bl _
    congr 1
    rw [decide_eq_decide]
    constructor
    · intro h; rw [h]; exact h1
    · intro h; exact asc_ext h h1 fun k => (h2 k).symm)⟩
theorem tupOf1 {x : V} {v : V} {H : Hp} (h : (TupOf [is x]).p v H) : (TR is [x]).p v H := by
  obtain ⟨a, vs, e, h, r⟩ := h
  cases r with
  | cons h1 r => cases r; exact ⟨a, _, e, h, .cons h1 .nil⟩
end
theorem differ_sorted {m : Nat} {A : List (Int × Int)} {S T ms : List Int} (s : Std m S) (t : Std m T) (pm : ms.Perm (T.filter (fun k => !decide (k ∈ S)) ++ S.filter (fun k => !decide (k ∈ T)))) (pw : ms.Pairwise (· ≤ ·)) : ms = differ ⟨m, A⟩ S T := by
  refine asc_ext (le_asc pw (pm.nodup_iff.mpr ?_)) ((rng_asc _).filter _) fun k => ?_
  · rw [List.nodup_append]
    refine ⟨(t.asc.filter _).nodup, (s.asc.filter _).nodup, fun x hx y hy e => ?_⟩
    subst e
    have h1 := (List.mem_filter.mp hx)
    have h2 := (List.mem_filter.mp hy)
    simp at h1 h2
    exact h1.2 h2.1
  · rw [pm.mem_iff, List.mem_append, List.mem_filter, List.mem_filter]
    unfold differ
    rw [List.mem_filter, mem_rng]
    have s1 := s.ok k
    have t1 := t.ok k
    by_cases hs : k ∈ S <;> by_cases ht : k ∈ T <;> simp [hs, ht]
    · have := s1 hs; exact this
    · have := t1 ht; exact this
theorem differ_len {W : Wb} {S T : List Int} : (differ W S T).length ≤ W.m := Nat.le_trans (List.length_filter_le _ _) (by rw [rng_len]; exact Nat.le_refl _)
def rdV (W : Wb) (S T : List Int) : V := if (differ W S T).any (frzB W S) = true then .non else .int (if differ W S T = [] then 0 else 1)
def btR (W : Wb) (S T : List Int) : Rep := if (differ W S T).any (frzB W S) = true then is .non else IT (differ W S T)
inductive Vk | iv (ns : List Int) | one (x : V) | no (R : Rep)
def Vk.rep : Vk → Rep
  | .iv ns => IT ns
  | .one x => TupOf [is x]
  | .no R => R
def Vk.ok (K : PySem.W.Frag) : Vk → Prop
  | .iv ns => ns.length ≤ 10
  | .one x => flat3 x = true ∧ (∀ i, x ≠ .int i) ∧ ∀ s, x = .str s → PyData.strOk s = true
  | .no R => ∃ T, HasT K R T ∧ kitB T "tuple" = some false
def Vk.res (W : Wb) (S : List Int) : Vk → Bool
  | .iv ns => roundB W S ns
  | _ => false
section
variable {P : Program} {w : World} {K : PySem.W.Frag} {mg : Str → Option Value} {base : Heap}

abbrev p_differ_in : Sp := fsp (fun x : Wb × List Int × List Int => [IT x.2.1, IT x.2.2]) (fun x => Std x.1.m x.2.1 ∧ Std x.1.m x.2.2) (fun x => IL (differ x.1 x.2.1 x.2.2))
theorem sc_differ_in : FnScope ["one", "other"] ["one", "other"] (defScope (top 28)) := ⟨rfl, rfl, rfl, by decide +kernel, rfl, by decide +kernel, by decide +kernel⟩
abbrev D_differ_in (P : Program) (w : World) (K : PySem.W.Frag) (mg : Str → Option Value) (base : Heap) : Prop := Def P w K mg base "differ_in" 2 ["one", "other"] p_differ_in
theorem d_differ_in (R : Raw K mg "differ_in" (top 28)) (T : Names mg) (d_fresh_in : D_fresh_in P w K mg base) : D_differ_in P w K mg base := by
  refine Def.fn (k := 1) R sc_differ_in (fun _ _ _ _ _ _ us hl => match us, hl with | [_, _], _ => rfl) (fun _ => rfl) fun f cdv A outer s H0 E hr => ⟨_, (pss_one (ps_ret (pe_callB (cr_sorted' K rfl) (by rfl) T.sorted boot_sorted (pa_cons (pe_op op_cat (pe_def d_fresh_in (hr.mono (by decide)) rfl (pa_cons (pv 0) (pa_cons (pv 1) pa_nil))) (pe_def d_fresh_in (hr.mono (by decide)) rfl (pa_cons (pv 1) (pa_cons (pv 0) pa_nil)))) pa_nil)))), ?_⟩
  rintro ⟨W, S, T'⟩ vs H Q ⟨s, t⟩ r q
  obtain ⟨a, b, rfl, ha, hb⟩ := vs2 r
  have s : Std W.m S := s
  have t : Std W.m T' := t
  have l1 := List.length_filter_le (fun k => !decide (k ∈ S)) T'
  have l2 := List.length_filter_le (fun k => !decide (k ∈ T')) S
  have := s.few
  have := t.few
  refine sr_ret (er_sorted (ns := T'.filter (fun k => !decide (k ∈ S)) ++ S.filter (fun k => !decide (k ∈ T'))) (er_catI (er_def (S, T') t.few (ea_consR (er_var rfl ha) (ea_consR (er_var rfl hb) ea_nilR))) (er_def (T', S) s.few (ea_consR (er_var rfl hb) (ea_consR (er_var rfl ha) ea_nilR))) (by show (T'.filter _).length + (S.filter _).length ≤ _; omega)) (by rw [List.length_append]; omega)) fun v H1 e1 ⟨ms, ⟨pm, pw⟩, hv⟩ => q v H1 e1 ?_
  show (IL (differ W S T')).p v H1
  rw [← differ_sorted (A := W.A) s t pm pw]
  exact hv

abbrev p_rounds_in : Sp := fsp (fun x : Wb × List Int × List Int => [wR x.1, IT x.2.1, IT x.2.2]) (fun x => WebOk x.1 ∧ Std x.1.m x.2.1 ∧ Std x.1.m x.2.2) (fun x => is (rdV x.1 x.2.1 x.2.2))
theorem sc_rounds_in : FnScope ["web", "one", "other", "differ", "some", "k"] ["web", "one", "other"] (defScope (top 29)) := ⟨rfl, rfl, rfl, by decide +kernel, rfl, by decide +kernel, by decide +kernel⟩
abbrev D_rounds_in (P : Program) (w : World) (K : PySem.W.Frag) (mg : Str → Option Value) (base : Heap) : Prop := Def P w K mg base "rounds_in" 3 ["web", "one", "other"] p_rounds_in
theorem d_rounds_in (R : Raw K mg "rounds_in" (top 29)) (T : Names mg) (d_differ_in : D_differ_in P w K mg base) (d_frozen_in : D_frozen_in P w K mg base) : D_rounds_in P w K mg base := by
  refine Def.fn (k := 2) R sc_rounds_in (fun _ _ _ _ _ _ us hl => match us, hl with | [_, _, _], _ => rfl) (fun _ => rfl) fun f cdv A outer s H0 E hr => ⟨_, (pss_cons (ps_asg (pe_tup (pa_cons (pe_def d_differ_in (hr.mono (by decide)) rfl (pa_cons (pv 1) (pa_cons (pv 2) pa_nil))) (pa_cons (pe_def d_frozen_in (hr.mono (by decide)) rfl (pa_cons (pv 0) (pa_cons (pv 1) pa_nil))) pa_nil))) (pg_tup2 K rfl rfl (pgs_cons (pg_name (i := 3) sc_rounds_in.nd rfl (Or.inl rfl)) (pgs_cons (pg_name (i := 4) sc_rounds_in.nd rfl (Or.inr rfl)) pgs_nil))))
      (pss_cons (ps_if (pt_cmpR (op_neD' K rfl (un64 hr)) (pe_lc (own := [("k", 5)]) rfl sc_rounds_in.nd (pi_list' K rfl (pv 3)) (blkOk_by (by kernel_rfl)) (fun _ _ _ _ _ => (pg_name (i := 5) sc_rounds_in.nd rfl (Or.inl rfl))) (fun _ _ _ _ _ => (pts_one (pt_cmpR (op_in' K rfl) (pv 5) (pv 4) (by rfl)))) (fun _ _ _ _ _ => (pv 5))) (pe_lst pa_nil) (nomark _))
        (pss_one (ps_ret pe_non)) pss_nil)
      (pss_one (ps_ret (pe_callTy call_int1 (by rfl) T.int boot_int (pa_cons (pe_cmpR (op_neD' K rfl (un64 hr)) (pv 3) (pe_lst pa_nil) (nomark _)) pa_nil)))))), ?_⟩
  rintro ⟨W, S, T'⟩ vs H Q ⟨ok, s, t⟩ r q
  obtain ⟨a, b, c, rfl, ha, hb, hc⟩ := vs3 r
  have ok : WebOk W := ok
  have dl := differ_len (W := W) (S := S) (T := T')
  have := ok.hi
  refine qr_asg2 ((er_tup (ea_consR (er_def (W, S, T') ⟨s, t⟩ (ea_consR (er_var rfl hb) (ea_consR (er_var rfl hc) ea_nilR))) (ea_consR (er_def (W, S) ok.few (ea_consR (er_var rfl ha) (ea_consR (er_var rfl hb) ea_nilR))) ea_nilR)) (by simp)).to fun _ _ _ r => tupOf_pair r) fun d f H1 e1 hd ⟨L, ⟨_, hL⟩, hf⟩ => ?_
  have hd : (IL (differ W S T')).p d H1 := hd
  have hL : ∀ k, k ∈ L ↔ frzB W S k = true := hL
  have cond : (!decide ((differ W S T').filter (fun k => decide (k ∈ L)) = [])) = (differ W S T').any (frzB W S) := by
    rw [Bool.eq_iff_iff, Bool.not_eq_true', decide_eq_false_iff_not, List.filter_eq_nil_iff, List.any_eq_true]
    constructor
    · intro h
      apply Classical.byContradiction
      intro n
      exact h fun k hk z => n ⟨k, hk, (hL k).mp (of_decide_eq_true z)⟩
    · rintro ⟨k, hk, hz⟩ h
      exact h k hk (decide_eq_true ((hL k).mpr hz))
  refine q_when (et_is (et_of (er_neN (er_lcI (fun k => decide (k ∈ L)) (ei_IL (er_var rfl hd)) (by omega) (fun _ => rfl) (fun _ => rfl) fun k hk v H2 e2 rv => et_of (er_inL (er_var rfl rv) (er_var rfl ((IL L).mono e2 hf)))) (er_lst ea_nilR (by simp)))) cond) (fun h H2 e2 => ?_) fun h H2 e2 => ?_
  · refine sr_ret (er_c (v := .non)) fun v H3 e3 r => q v H3 ((e1.trans e2).trans e3) ?_
    show v = rdV W S T'
    rw [rdV, if_pos h]; exact r
  · refine sr_ret (er_int1 (er_neN (er_var rfl ((IL _).mono e2 hd)) (er_lst ea_nilR (by simp)))) fun v H3 e3 r => q v H3 ((e1.trans e2).trans e3) ?_
    show v = rdV W S T'
    rw [rdV, if_neg (by rw [h]; simp), show v = V.int _ from r]
    by_cases z : differ W S T' = [] <;> simp [z]

abbrev p_fewest_rounds : Sp := fsp (fun x : Wb × List Int × List Int => [wR x.1, IT x.2.1, IT x.2.2]) (fun x => WebOk x.1 ∧ Std x.1.m x.2.1 ∧ Std x.1.m x.2.2) (fun x => is (rdV x.1 x.2.1 x.2.2))
theorem sc_fewest_rounds : FnScope ["web", "one", "other"] ["web", "one", "other"] (defScope (top 30)) := ⟨rfl, rfl, rfl, by decide +kernel, rfl, by decide +kernel, by decide +kernel⟩
abbrev D_fewest_rounds (P : Program) (w : World) (K : PySem.W.Frag) (mg : Str → Option Value) (base : Heap) : Prop := Def P w K mg base "fewest_rounds" 6 ["web", "one", "other"] p_fewest_rounds
theorem d_fewest_rounds (R : Raw K mg "fewest_rounds" (top 30)) (T : Names mg) (d_need_two : D_need_two P w K mg base) (d_rounds_in : D_rounds_in P w K mg base) : D_fewest_rounds P w K mg base := by
  refine Def.fn (k := 5) R sc_fewest_rounds (fun _ _ _ _ _ _ us hl => match us, hl with | [_, _, _], _ => rfl) (fun _ => rfl) fun f cdv A outer s H0 E hr => ⟨_, (pss_cons (ps_expr (pe_def d_need_two (hr.mono (by decide)) rfl (pa_cons (pv 0) (pa_cons (pv 1) (pa_cons (pv 2) pa_nil)))))
      (pss_one (ps_ret (pe_def d_rounds_in (hr.mono (by decide)) rfl (pa_cons (pv 0) (pa_cons (pv 1) (pa_cons (pv 2) pa_nil))))))), ?_⟩
  rintro x vs H Q hp r q
  obtain ⟨a, b, c, rfl, ha, hb, hc⟩ := vs3 r
  refine qr_drop (er_def x hp (ea_consR (er_var rfl ha) (ea_consR (er_var rfl hb) (ea_consR (er_var rfl hc) ea_nilR)))) fun _ H1 e1 _ => ?_
  exact sr_ret (er_def x hp (ea_consR (er_var rfl ((wR _).mono e1 ha)) (ea_consR (er_var rfl ((IT _).mono e1 hb)) (ea_consR (er_var rfl ((IT _).mono e1 hc)) ea_nilR)))) fun v H2 e2 r => q v H2 (e1.trans e2) r

abbrev p_round_between : Sp := fsp (fun x : Wb × List Int × List Int => [wR x.1, IT x.2.1, IT x.2.2]) (fun x => WebOk x.1 ∧ Std x.1.m x.2.1 ∧ Std x.1.m x.2.2) (fun x => btR x.1 x.2.1 x.2.2)
theorem sc_round_between : FnScope ["web", "one", "other"] ["web", "one", "other"] (defScope (top 31)) := ⟨rfl, rfl, rfl, by decide +kernel, rfl, by decide +kernel, by decide +kernel⟩
abbrev D_round_between (P : Program) (w : World) (K : PySem.W.Frag) (mg : Str → Option Value) (base : Heap) : Prop := Def P w K mg base "round_between" 6 ["web", "one", "other"] p_round_between
theorem d_round_between (R : Raw K mg "round_between" (top 31)) (T : Names mg) (d_need_two : D_need_two P w K mg base) (d_rounds_in : D_rounds_in P w K mg base) (d_differ_in : D_differ_in P w K mg base) : D_round_between P w K mg base := by
  refine Def.fn (k := 5) R sc_round_between (fun _ _ _ _ _ _ us hl => match us, hl with | [_, _, _], _ => rfl) (fun _ => rfl) fun f cdv A outer s H0 E hr => ⟨_, (pss_cons (ps_expr (pe_def d_need_two (hr.mono (by decide)) rfl (pa_cons (pv 0) (pa_cons (pv 1) (pa_cons (pv 2) pa_nil)))))
      (pss_one (ps_ret (pe_ifExp (pt_cmpR op_notN (pe_def d_rounds_in (hr.mono (by decide)) rfl (pa_cons (pv 0) (pa_cons (pv 1) (pa_cons (pv 2) pa_nil)))) pe_non (nomark _)) (pe_callTy (call_tuple' K rfl) (by rfl) T.tuple boot_tuple (pa_cons (pe_def d_differ_in (hr.mono (by decide)) rfl (pa_cons (pv 1) (pa_cons (pv 2) pa_nil))) pa_nil)) pe_non)))), ?_⟩
  rintro x vs H Q hp r q
  obtain ⟨a, b, c, rfl, ha, hb, hc⟩ := vs3 r
  refine qr_drop (er_def x hp (ea_consR (er_var rfl ha) (ea_consR (er_var rfl hb) (ea_consR (er_var rfl hc) ea_nilR)))) fun _ H1 e1 _ => ?_
  have ha1 := (wR _).mono e1 ha
  have hb1 := (IT _).mono e1 hb
  have hc1 := (IT _).mono e1 hc
  refine sr_ret (R := btR x.1 x.2.1 x.2.2) (er_if (b := !decide (rdV x.1 x.2.1 x.2.2 = .non)) (et_of (er_notN (er_def x hp (ea_consR (er_var rfl ha1) (ea_consR (er_var rfl hb1) (ea_consR (er_var rfl hc1) ea_nilR)))) er_c)) (fun h => ?_) fun h => ?_) fun v H2 e2 r => q v H2 (e1.trans e2) r
  · have hn : ¬ (differ x.1 x.2.1 x.2.2).any (frzB x.1 x.2.1) = true := fun z => by
      rw [Bool.not_eq_true', decide_eq_false_iff_not] at h
      exact h (by rw [rdV, if_pos z])
    refine EvR.to (er_tupOfL (er_def x ⟨hp.2.1, hp.2.2⟩ (ea_consR (er_var rfl hb1) (ea_consR (er_var rfl hc1) ea_nilR)))) fun v H _ r => ?_
    rw [btR, if_neg hn]; exact r
  · have hn : (differ x.1 x.2.1 x.2.2).any (frzB x.1 x.2.1) = true := by
      apply Classical.byContradiction
      intro z
      rw [Bool.not_eq_false', decide_eq_true_iff, rdV, if_neg z] at h
      cases h
    refine EvR.to er_c fun v H _ r => ?_
    rw [btR, if_pos hn]; exact r

abbrev p_round_count : Sp := fsp (fun x : Wb × List Int => [wR x.1, IT x.2]) (fun x => WebOk x.1 ∧ Std x.1.m x.2) (fun x => I ((2 ^ (loose x.1 x.2).length : Nat) : Int))
theorem sc_round_count : FnScope ["web", "opened"] ["web", "opened"] (defScope (top 32)) := ⟨rfl, rfl, rfl, by decide +kernel, rfl, by decide +kernel, by decide +kernel⟩
abbrev D_round_count (P : Program) (w : World) (K : PySem.W.Frag) (mg : Str → Option Value) (base : Heap) : Prop := Def P w K mg base "round_count" 5 ["web", "opened"] p_round_count
theorem d_round_count (R : Raw K mg "round_count" (top 32)) (T : Names mg) (d_need_both : D_need_both P w K mg base) (d_loose_in : D_loose_in P w K mg base) (d_power : D_power P w K mg base) : D_round_count P w K mg base := by
  refine Def.fn (k := 4) R sc_round_count (fun _ _ _ _ _ _ us hl => match us, hl with | [_, _], _ => rfl) (fun _ => rfl) fun f cdv A outer s H0 E hr => ⟨_, (pss_cons (ps_expr (pe_def d_need_both (hr.mono (by decide)) rfl (pa_cons (pv 0) (pa_cons (pv 1) pa_nil))))
      (pss_one (ps_ret (pe_def d_power (hr.mono (by decide)) rfl (pa_cons (pe_callB (call_len' K rfl) (by rfl) T.len boot_len (pa_cons (pe_def d_loose_in (hr.mono (by decide)) rfl (pa_cons (pv 0) (pa_cons (pv 1) pa_nil))) pa_nil)) pa_nil))))), ?_⟩
  rintro ⟨W, S⟩ vs H Q ⟨ok, s⟩ r q
  obtain ⟨a, b, rfl, ha, hb⟩ := vs2 r
  have ok : WebOk W := ok
  have ll := loose_len W S
  have := ok.hi
  refine qr_drop (er_def (W, S) ⟨ok, s⟩ (ea_consR (er_var rfl ha) (ea_consR (er_var rfl hb) ea_nilR))) fun _ H1 e1 _ => ?_
  exact sr_ret (er_def (loose W S).length (by omega) (ea_consR (er_lenIL (er_def (W, S) ⟨ok.few, ok.hi⟩ (ea_consR (er_var rfl ((wR _).mono e1 ha)) (ea_consR (er_var rfl ((IT _).mono e1 hb)) ea_nilR)))) ea_nilR)) fun v H2 e2 r => q v H2 (e1.trans e2) r

abbrev p_by_rounds_alone : Sp := fsp (fun x : Wb × List Int => [wR x.1, IT x.2]) (fun x => WebOk x.1 ∧ Std x.1.m x.2) (fun x => I (((2 ^ (loose x.1 x.2).length : Nat) : Int) - (countW x.1 x.2 : Int)))
theorem sc_by_rounds_alone : FnScope ["web", "opened"] ["web", "opened"] (defScope (top 34)) := ⟨rfl, rfl, rfl, by decide +kernel, rfl, by decide +kernel, by decide +kernel⟩
abbrev D_by_rounds_alone (P : Program) (w : World) (K : PySem.W.Frag) (mg : Str → Option Value) (base : Heap) : Prop := Def P w K mg base "by_rounds_alone" 6 ["web", "opened"] p_by_rounds_alone
theorem d_by_rounds_alone (R : Raw K mg "by_rounds_alone" (top 34)) (T : Names mg) (d_need_both : D_need_both P w K mg base) (d_loose_in : D_loose_in P w K mg base) (d_power : D_power P w K mg base) (d_count_in : D_count_in P w K mg base) : D_by_rounds_alone P w K mg base := by
  refine Def.fn (k := 5) R sc_by_rounds_alone (fun _ _ _ _ _ _ us hl => match us, hl with | [_, _], _ => rfl) (fun _ => rfl) fun f cdv A outer s H0 E hr => ⟨_, (pss_cons (ps_expr (pe_def d_need_both (hr.mono (by decide)) rfl (pa_cons (pv 0) (pa_cons (pv 1) pa_nil))))
      (pss_one (ps_ret (pe_op op_sub (pe_def d_power (hr.mono (by decide)) rfl (pa_cons (pe_callB (call_len' K rfl) (by rfl) T.len boot_len (pa_cons (pe_def d_loose_in (hr.mono (by decide)) rfl (pa_cons (pv 0) (pa_cons (pv 1) pa_nil))) pa_nil)) pa_nil)) (pe_def d_count_in (hr.mono (by decide)) rfl (pa_cons (pv 0) (pa_cons (pv 1) pa_nil))))))), ?_⟩
  rintro ⟨W, S⟩ vs H Q ⟨ok, s⟩ r q
  obtain ⟨a, b, rfl, ha, hb⟩ := vs2 r
  have ok : WebOk W := ok
  have ll := loose_len W S
  have := ok.hi
  refine qr_drop (er_def (W, S) ⟨ok, s⟩ (ea_consR (er_var rfl ha) (ea_consR (er_var rfl hb) ea_nilR))) fun _ H1 e1 _ => ?_
  have ha1 := (wR W).mono e1 ha
  have hb1 := (IT S).mono e1 hb
  exact sr_ret (er_int2 (er_def (loose W S).length (by omega) (ea_consR (er_lenIL (er_def (W, S) ⟨ok.few, ok.hi⟩ (ea_consR (er_var rfl ha1) (ea_consR (er_var rfl hb1) ea_nilR)))) ea_nilR)) (er_def (W, S) ⟨ok.few, ok.hi⟩ (ea_consR (er_var rfl ha1) (ea_consR (er_var rfl hb1) ea_nilR)))) fun v H2 e2 r => q v H2 (e1.trans e2) r

abbrev p_is_round (K : PySem.W.Frag) : Sp := fsp (fun x : Wb × List Int × Vk => [wR x.1, IT x.2.1, x.2.2.rep]) (fun x => WebOk x.1 ∧ Std x.1.m x.2.1 ∧ x.2.2.ok K) (fun x => B (x.2.2.res x.1 x.2.1))
theorem sc_is_round : FnScope ["web", "opened", "value", "some", "one", "k"] ["web", "opened", "value"] (defScope (top 33)) := ⟨rfl, rfl, rfl, by decide +kernel, rfl, by decide +kernel, by decide +kernel⟩
abbrev D_is_round (P : Program) (w : World) (K : PySem.W.Frag) (mg : Str → Option Value) (base : Heap) : Prop := Def P w K mg base "is_round" 5 ["web", "opened", "value"] (p_is_round K)
theorem d_is_round (R : Raw K mg "is_round" (top 33)) (T : Names mg) (d_need_both : D_need_both P w K mg base) (d_is_in : D_is_in P w K mg base) (d_frozen_in : D_frozen_in P w K mg base) : D_is_round P w K mg base := by
  refine Def.fn (k := 4) R sc_is_round (fun _ _ _ _ _ _ us hl => match us, hl with | [_, _, _], _ => rfl) (fun _ => rfl) fun f cdv A outer s H0 E hr => ⟨_, (pss_cons (ps_expr (pe_def d_need_both (hr.mono (by decide)) rfl (pa_cons (pv 0) (pa_cons (pv 1) pa_nil))))
      (pss_cons (ps_if (PW.pt (pw_or (pt_not (pt_val (pe_callB (call_isi' K rfl) (by rfl) T.isi boot_isinstance (pa_cons (pv 2) (pa_cons (pe_bltn (v := .ty "tuple") (by rfl) T.tuple (by decide +kernel) rfl) pa_nil))))) (pw_or1 (pt_cmpR (op_neD' K rfl (un64 hr)) (pe_lc (own := [("one", 4)]) rfl sc_is_round.nd (pi_tup' K rfl (pv 2)) (blkOk_by (by kernel_rfl)) (fun _ _ _ _ _ => (pg_name (i := 4) sc_is_round.nd rfl (Or.inl rfl))) (fun _ _ _ _ _ => (pts_one (pt_not (pt_val (pe_def d_is_in (hr.mono (by decide)) rfl (pa_cons (pv 4) (pa_cons pe_int (pa_cons (pe_op op_sub (pe_ix (ix_tup' K rfl) (pv 0) pe_int (fun _ _ => rfl)) pe_int) pa_nil)))))))) (fun _ _ _ _ _ => (pv 4))) (pe_lst pa_nil) (nomark _)))))
        (pss_one (ps_ret pe_bl)) pss_nil)
      (pss_cons (ps_set (i := 3) sc_is_round.nd rfl (Or.inr rfl) (pe_def d_frozen_in (hr.mono (by decide)) rfl (pa_cons (pv 0) (pa_cons (pv 1) pa_nil))))
      (pss_one (ps_ret (pe_and (pe_cmpR (op_neD' K rfl (un64 hr)) (pv 2) (pe_tup pa_nil) (nomark _)) (pe_and (pe_cmpR (op_eqD' K rfl (un64 hr)) (pe_callTy (call_list' K rfl) (by rfl) T.list boot_list (pa_cons (pv 2) pa_nil)) (pe_callB (cr_sortedSet' w rfl rfl) (by rfl) T.sorted boot_sorted (pa_cons (pe_callTy (cr_setI' K w rfl rfl rfl) (by rfl) T.set boot_set (pa_cons (pv 2) pa_nil)) pa_nil)) (nomark _)) (pe_one (pe_cmpR (op_eqD' K rfl (un64 hr)) (pe_lc (own := [("k", 5)]) rfl sc_is_round.nd (pi_tup' K rfl (pv 2)) (blkOk_by (by kernel_rfl)) (fun _ _ _ _ _ => (pg_name (i := 5) sc_is_round.nd rfl (Or.inl rfl))) (fun _ _ _ _ _ => (pts_one (pt_cmpR (op_in' K rfl) (pv 5) (pv 3) (by rfl)))) (fun _ _ _ _ _ => (pv 5))) (pe_lst pa_nil) (nomark _)))))))))), ?_⟩
  rintro ⟨W, S, x⟩ vs H Q ⟨ok, s, hx⟩ r q
  obtain ⟨a, b, c, rfl, ha, hb, hc⟩ := vs3 r
  have ok : WebOk W := ok
  have ha : (PR (I (W.m : Int)) (TR Pt W.A)).p a H := ha
  refine qr_drop (er_def (W, S) ⟨ok, s⟩ (ea_consR (er_var rfl ha) (ea_consR (er_var rfl hb) ea_nilR))) fun _ H1 e1 _ => ?_
  have ha1 := (PR (I (W.m : Int)) (TR Pt W.A)).mono e1 ha
  have hb1 := (IT _).mono e1 hb
  have hc1 := x.rep.mono e1 hc
  cases x with
  | iv ns =>
    have few : ns.length ≤ 10 := hx
    have hc1 : (IT ns).p c H1 := hc1
    refine q_when (b := !decide (ns.filter (fun k => !isIn (.int k) 0 ((W.m : Int) - 1)) = [])) (et_is (et_or (et_not (et_ofB (er_isi (b := true) (er_var rfl hc1) ty_IT))) fun _ => et_of (er_neN (er_lcI (fun k => !isIn (.int k) 0 ((W.m : Int) - 1)) (ei_IT (er_var rfl hc1)) (by omega) (fun _ => rfl) (fun _ => rfl) fun k hk v H2 e2 rv => et_not (et_ofB (er_def (V.int k, 0, (W.m : Int) - 1) rfl (ea_consR (er_var rfl rv) (ea_consR er_c (ea_consR (er_int2 (er_ix0 (er_var rfl ((PR (I (W.m : Int)) (TR Pt W.A)).mono e2 ha1))) er_c) ea_nilR)))))) (er_lst ea_nilR (by simp)))) (by simp)) (fun h H2 e2 => ?_) fun h H2 e2 => ?_
    · refine sr_ret (er_c (v := .bl false)) fun v H3 e3 r => q v H3 ((e1.trans e2).trans e3) ?_
      show v = V.bl (roundB W S ns)
      rw [show v = V.bl false from r]
      congr 1
      symm
      have : (ns.all fun k => decide (0 ≤ k) && decide (k ≤ (W.m : Int) - 1)) = false := by
        rw [Bool.not_eq_true', decide_eq_false_iff_not] at h
        rw [Bool.eq_false_iff]
        intro z
        refine h (List.filter_eq_nil_iff.mpr fun k hk zz => ?_)
        have := List.all_eq_true.mp z k hk
        rw [isIn, this] at zz
        cases zz
      unfold roundB
      rw [this]; rfl
    · have all : (ns.all fun k => decide (0 ≤ k) && decide (k ≤ (W.m : Int) - 1)) = true := by
        rw [Bool.not_eq_false', decide_eq_true_iff, List.filter_eq_nil_iff] at h
        rw [List.all_eq_true]
        intro k hk
        have := h k hk
        rw [isIn] at this
        simpa using this
      have hc2 := (IT ns).mono e2 hc1
      refine qr_asg (er_def (W, S) ok.few (ea_consR (er_var rfl ((PR (I (W.m : Int)) (TR Pt W.A)).mono e2 ha1)) (ea_consR (er_var rfl ((IT _).mono e2 hb1)) ea_nilR))) fun f H3 e3 ⟨L, ⟨_, hL⟩, hf⟩ => ?_
      have hL : ∀ k, k ∈ L ↔ frzB W S k = true := hL
      have hc3 := (IT ns).mono e3 hc2
      refine sr_ret (R := B (roundB W S ns)) (er_B (er_and (er_neT (er_var rfl hc3) (er_tup ea_nilR (by simp))) fun _ => er_and (er_eqAsc (er_listOf (er_var rfl hc3) fun _ _ h => .inr h) (er_sortSet (er_var rfl hc3) (fun _ _ h => .inr h) (by omega))) fun _ => er_eqN (er_lcI (fun k => decide (k ∈ L)) (ei_IT (er_var rfl hc3)) (by omega) (fun _ => rfl) (fun _ => rfl) fun k hk v H2 e2 rv => et_of (er_inL (er_var rfl rv) (er_var rfl ((IL L).mono e2 hf)))) (er_lst ea_nilR (by simp))) ?_) fun v H4 e4 r => q v H4 (((e1.trans e2).trans e3).trans e4) r
      unfold roundB
      rw [all, Bool.true_and, Bool.and_assoc]
      congr 2
      rw [Bool.eq_iff_iff, decide_eq_true_iff, List.filter_eq_nil_iff, List.all_eq_true]
      refine forall_congr' fun k => forall_congr' fun hk => ?_
      rw [decide_eq_true_iff, hL]
      simp
  | one x =>
    have hx : flat3 x = true ∧ (∀ i, x ≠ .int i) ∧ ∀ s, x = .str s → PyData.strOk s = true := hx
    have nin : isIn x 0 ((W.m : Int) - 1) = false := by
      cases x with
      | int i => exact absurd rfl (hx.2.1 i)
      | _ => rfl
    have hc1 : (TR is [x]).p c H1 := tupOf1 hc1
    refine q_when (b := true) (et_is (et_or (et_not (et_ofB (er_isi (b := true) (er_var rfl hc1) ty_TR))) fun _ => et_of (b := true) ?_) (by rfl)) (fun h H2 e2 => ?_) fun h => by cases h
    · have hd : ∃ d : PyData, (∀ H : Hp, Dp K H x d) ∧ d.canLay0 = true ∧ d.depth ≤ 1 := by
        cases x with
        | bl b => exact ⟨.bool b, fun _ => .bl b, by simp [PyData.canLay0], by simp [PyData.depth]⟩
        | str b => exact ⟨.str b, fun _ => .str b, by simp [PyData.canLay0, hx.2.2 b rfl], by simp [PyData.depth]⟩
        | int i => exact absurd rfl (hx.2.1 i)
        | _ => cases hx.1
      obtain ⟨d, hd, h1, h2⟩ := hd
      refine er_B (er_neD (d := .list [d]) (e := dL []) (er_lcN (R := is) (fun x => !isIn x 0 ((W.m : Int) - 1)) (fun x => x) is (ei_tup (er_var rfl hc1)) (by simp) (fun _ => rfl) (fun y hy v H2 e2 rv => et_not (et_ofB (er_def (y, 0, (W.m : Int) - 1) (by rw [List.mem_singleton.mp hy]; exact hx.1) (ea_consR (er_var rfl rv) (ea_consR er_c (ea_consR (er_int2 (er_ix0 (er_var rfl ((PR (I (W.m : Int)) (TR Pt W.A)).mono e2 ha1))) er_c) ea_nilR)))))) fun y hy v H2 e2 rv _ => er_var rfl rv) (er_lst ea_nilR (by simp)) (fun v H ⟨a, vs, ev, hv, r⟩ => ?_) (fun v H h => dp_IL (nilL h)) (shaped_of (by simp [PyData.canLay0, PyData.canLayAll0, h1]) (by simp [PyData.depth, PyData.depthAll]; omega)) (dL_shaped _)) ?_
      · rw [ev]
        rw [List.filter_cons_of_pos (by rw [nin]; rfl), List.filter_nil] at r
        cases r with
        | cons h3 r =>
          cases r
          rw [show _ = x from h3] at hv
          exact .lst (sq_of hv) (.cons (hd H) .nil)
      · simp [dL, PyData.eqv, PyData.eqvAll]
    · exact sr_ret (er_c (v := .bl false)) fun v H3 e3 r => q v H3 ((e1.trans e2).trans e3) r
  | no R =>
    obtain ⟨T0, h1, h2⟩ := hx
    have hc1 : R.p c H1 := hc1
    refine q_when (b := true) (et_is (et_or (b := true) (et_not (et_ofB (er_isi (b := false) (er_var rfl hc1) h1 h2))) fun h => by cases h) (by rfl)) (fun h H2 e2 => ?_) fun h => by cases h
    exact sr_ret (er_c (v := .bl false)) fun v H3 e3 r => q v H3 ((e1.trans e2).trans e3) r
end
end LD
set_option Elab.async false
set_option linter.all false
set_option maxRecDepth 100000
set_option maxHeartbeats 3200000
set_option autoImplicit false
/-! the row of takings: one list that changes; all else stands -/
namespace LD
open PySem PySem.Spec PyProof.Rows L2 Evl

structure Rw where
  r : Addr
  sc : Addr
  ns : List Int
def RowAt (K : PySem.W.Frag) (ρ : Rw) (H : Hp) : Prop := ∃ i s w : Int, H ρ.r = some (.lst [.ref ρ.sc, .int i, .int s, .int w]) ∧ SqL K H ρ.sc (ρ.ns.map V.int) ∧ 0 ≤ i
def Xr (K : PySem.W.Frag) (ρ : Rw) (H H' : Hp) : Prop := RowAt K ρ H' ∧ ∀ a o, a ≠ ρ.r → H a = some o → H' a = some o
section
variable {K : PySem.W.Frag} {ρ : Rw} {H H1 H2 H' : Hp}
theorem RowAt.ex (h : RowAt K ρ H) (e : Ex H H') : RowAt K ρ H' := by
  obtain ⟨i, s, w, h1, h2, h3⟩ := h
  exact ⟨i, s, w, e _ _ h1, ex_l e h2, h3⟩
theorem Xr.refl (h : RowAt K ρ H) : Xr K ρ H H := ⟨h, fun _ _ _ h => h⟩
theorem Xr.trans (a : Xr K ρ H H1) (b : Xr K ρ H1 H2) : Xr K ρ H H2 := ⟨b.1, fun x o n h => b.2 x o n (a.2 x o n h)⟩
theorem Xr.ex (h : RowAt K ρ H) (e : Ex H H') : Xr K ρ H H' := ⟨h.ex e, fun a o _ q => e a o q⟩
theorem Xr.exr (a : Xr K ρ H H1) (e : Ex H1 H2) : Xr K ρ H H2 := a.trans (Xr.ex a.1 e)
theorem RowAt.ne {a : Addr} {o : HO} (h : RowAt K ρ H) (q : H a = some o) (n : ∀ xs, o ≠ .lst xs) : a ≠ ρ.r := fun e => by
  obtain ⟨i, s, w, h1, _⟩ := h
  rw [e, h1] at q
  exact n _ (Option.some.inj q).symm
theorem RowAt.neL {a : Addr} {xs : List V} (h : RowAt K ρ H) (q : H a = some (.lst xs)) (n : ∀ x i t, xs ≠ .ref x :: .int i :: t) : a ≠ ρ.r := fun e => by
  obtain ⟨i, s, w, h1, _⟩ := h
  rw [e, h1] at q
  have := HO.lst.inj (Option.some.inj q)
  exact n _ _ _ this.symm
theorem RowAt.ne0 {a : Addr} (h : RowAt K ρ H) (q : H a = none) : a ≠ ρ.r := fun e => by
  obtain ⟨i, s, w, h1, _⟩ := h
  rw [e, h1] at q
  cases q
theorem Xr.tt (h : RowAt K ρ H) (x : Xr K ρ H H') : ExT H H' := fun a xs q => x.2 a _ (h.ne q fun _ z => nomatch z) q
theorem sqI_x {a : Addr} {ns : List Int} (h : RowAt K ρ H) (x : ∀ a o, a ≠ ρ.r → H a = some o → H' a = some o) (q : SqL K H a (ns.map V.int)) : SqL K H' a (ns.map V.int) := by
  rcases q with q | q
  · refine .inl ?_
    rcases q with q | ⟨o, q⟩
    · refine .inl (x a _ (h.neL q fun y i t z => ?_) q)
      cases ns with
      | nil => cases z
      | cons n ns => cases z
    · exact .inr ⟨o, x a _ (h.ne q fun _ z => nomatch z) q⟩
  · exact .inr q
/-- a thing that came up since may change -/
theorem Xr.mut {a : Addr} {o : HO} (h0 : RowAt K ρ H) (x : Xr K ρ H H') (h : H a = none) : Xr K ρ H (L2.upd H' a o) := by
  have na := h0.ne0 h
  refine ⟨?_, fun b u nb q => ?_⟩
  · obtain ⟨i, s, w, h1, h2, h3⟩ := x.1
    refine ⟨i, s, w, by rw [upd_ne (fun e => na e.symm)]; exact h1, ?_, h3⟩
    obtain ⟨_, _, _, _, h2', _⟩ := h0
    rcases h2' with z | z
    · have ns : ρ.sc ≠ a := fun e => by
        rcases z with z | ⟨_, z⟩ <;> rw [e, h] at z <;> cases z
      rcases h2 with h2 | h2
      · refine .inl ?_
        unfold Rd
        rw [upd_ne ns]
        exact h2
      · exact .inr h2
    · exact .inr z
  · rw [upd_ne (ne_of_none q h)]
    exact x.2 b u nb q
end
/-- what a change of the row leaves as it is -/
class RM (R : Rep) : Prop where
  x : ∀ {K : PySem.W.Frag} {ρ : Rw} {v : V} {H H' : Hp}, RowAt K ρ H → Xr K ρ H H' → R.p v H → R.p v H'
class NI (R : Rep) : Prop where
  n : ∀ {i : Int} {H : Hp}, ¬ R.p (.int i) H
instance (ns : List Int) : NI (IT ns) := ⟨fun ⟨_, e, _⟩ => by cases e⟩
instance (p : Int × Int) : NI (Pt p) := ⟨fun ⟨_, e, _⟩ => by cases e⟩
instance (R S : Rep) : NI (PR R S) := ⟨fun ⟨_, _, _, e, _⟩ => by cases e⟩
instance (R : Rep) [TM R] : RM R := ⟨fun h x q => TM.t (Xr.tt h x) q⟩
instance (ns : List Int) : RM (IL ns) := ⟨fun h x ⟨a, e, q⟩ => ⟨a, e, x.2 a _ (h.neL q fun y i t z => by
  cases ns with
  | nil => cases z
  | cons n ns => cases z) q⟩⟩
instance {α : Type} (R : α → Rep) [∀ x, TM (R x)] [∀ x, NI (R x)] (xs : List α) : RM (LR R xs) := ⟨fun h x ⟨a, vs, e, q, r⟩ => ⟨a, vs, e, x.2 a _ (h.neL q fun y i t z => by
  subst z
  cases r with
  | cons _ r =>
    cases r with
    | cons h2 _ => exact NI.n h2) q, all2_t (Xr.tt h x) r⟩⟩
instance {α : Type} (P : α → Prop) (R : α → Rep) [∀ x, RM (R x)] : RM (XR P R) := ⟨fun h x ⟨y, hy, q⟩ => ⟨y, hy, RM.x h x q⟩⟩

def EvX (K : PySem.W.Frag) (ρ : Rw) (te : TE) (σ : L2.St) (H : Hp) (R : Rep) : Prop := ∀ H1, Xr K ρ H H1 → ∀ Q : VK, (∀ v H2, Xr K ρ H1 H2 → R.p v H2 → Q v H2) → te σ H1 Q
def EvTN (K : PySem.W.Frag) (ρ : Rw) (t : TT) (σ : L2.St) (H : Hp) : Prop := ∀ H1, Xr K ρ H H1 → ∀ Q : Bool → Hp → Prop, (∀ b H2, Xr K ρ H1 H2 → Q b H2) → t σ H1 Q
/-- a promise whose first argument is the row -/
def xsp {α : Type} (K : PySem.W.Frag) (arg : α → List Rep) (pre : α → Prop) (res : α → Rep) : Sp := fun vs H Q _ => ∃ (ρ : Rw) (ws : List V) (x : α), vs = .ref ρ.r :: ws ∧ pre x ∧ RowAt K ρ H ∧ All2 (fun (R : Rep) v => R.p v H) (arg x) ws ∧ ∀ v H', Xr K ρ H H' → (res x).p v H' → Q v H'
section
variable {K : PySem.W.Frag} {ρ : Rw} {σ : L2.St} {H H' : Hp} {ta tb tc te : TE} {t u : TT} {R S T : Rep}
theorem EvX.up (h : EvX K ρ te σ H R) (x : Xr K ρ H H') : EvX K ρ te σ H' R := fun H1 a Q q => h H1 (x.trans a) Q q
theorem EvTN.up (h : EvTN K ρ t σ H) (x : Xr K ρ H H') : EvTN K ρ t σ H' := fun H1 a Q q => h H1 (x.trans a) Q q
theorem ex_of (h : ∀ H1, Xr K ρ H H1 → EvR te σ H1 R) : EvX K ρ te σ H R := fun H1 x Q q => h H1 x H1 (Ex.refl _) Q fun v H2 e r => q v H2 (Xr.ex x.1 e) r
theorem EvX.to (h : EvX K ρ te σ H R) (f : ∀ v H1, Xr K ρ H H1 → R.p v H1 → S.p v H1) : EvX K ρ te σ H S := fun H1 a Q q => h H1 a Q fun v H2 e r => q v H2 e (f v H2 (a.trans e) r)
theorem ex_op [RM R] {r : R2} (ha : EvX K ρ ta σ H R) (hb : EvX K ρ tb σ H S) (hr : ∀ x y H1, Xr K ρ H H1 → R.p x H1 → S.p y H1 → R2R r x y H1 T) : EvX K ρ (tOp r ta tb) σ H T := fun H1 e Q q =>
  ha H1 e _ fun x H2 e2 rx => hb H2 (e.trans e2) _ fun y H3 e3 sy => hr x y H3 ((e.trans e2).trans e3) (RM.x e2.1 e3 rx) sy Q fun v H4 e4 tv => q v H4 ((e2.trans e3).exr e4) tv
theorem tn_of {b : Bool} (h : ∀ H1, Xr K ρ H H1 → EvT t σ H1 b) : EvTN K ρ t σ H := fun H1 x Q q => h H1 x H1 (Ex.refl _) Q fun H2 e => q b H2 (Xr.ex x.1 e)
theorem tn_and (h1 : EvTN K ρ t σ H) (h2 : EvTN K ρ u σ H) : EvTN K ρ (tAnd t u) σ H := fun H1 x Q q => h1 H1 x _ fun b H2 x2 => by
  cases b with
  | true => exact iteT (h2 H2 (x.trans x2) Q fun b H3 x3 => q b H3 (x2.trans x3))
  | false => exact iteF (q _ H2 x2)
theorem tn_or (h1 : EvTN K ρ t σ H) (h2 : EvTN K ρ u σ H) : EvTN K ρ (tOr t u) σ H := fun H1 x Q q => h1 H1 x _ fun b H2 x2 => by
  cases b with
  | true => exact iteT (q _ H2 x2)
  | false => exact iteF (h2 H2 (x.trans x2) Q fun b H3 x3 => q b H3 (x2.trans x3))
def intR : Rep := XR (fun _ : Int => True) I
theorem tn_eq0 {n : Int} {p : Int → Prop} (h : EvX K ρ te σ H (XR p I)) : EvTN K ρ (tTest (tOp rEq te (tC (.int n)))) σ H := fun H1 x Q q => h H1 x _ fun v H2 x2 ⟨m, _, r⟩ => by
  cases (show v = V.int m from r)
  exact ⟨rfl, _, rfl, q _ H2 x2⟩
/-- in order, with the left one known -/
theorem tn_andL {a : Bool} (h1 : ∀ H1, Xr K ρ H H1 → EvT t σ H1 a) (h2 : a = true → EvTN K ρ u σ H) : EvTN K ρ (tAnd t u) σ H := fun H1 x Q q => h1 H1 x H1 (Ex.refl _) _ fun H2 e2 => by
  have x2 := Xr.ex x.1 e2
  cases a with
  | true => exact iteT (h2 rfl H2 (x.trans x2) Q fun b H3 x3 => q b H3 (x2.trans x3))
  | false => exact iteF (q _ H2 x2)
theorem ex_def {α : Type} {arg : α → List Rep} {pre : α → Prop} {res : α → Rep} {tA : TA} {i : Nat} {E : XK} (x : α) (hp : pre x) (hi : σ[i]? = some (some (.ref ρ.r))) (h : ∀ H1, Xr K ρ H H1 → EvAs tA σ H1 (arg x)) : EvX K ρ (tCall (xsp K arg pre res) [] E (tCons (tVar i) tA)) σ H (res x) := fun H1 x1 Q q =>
  ⟨_, hi, h H1 x1 H1 (Ex.refl _) _ fun vs H2 e rs => ⟨ρ, vs, x, by rw [List.append_nil], hp, x1.1.ex e, rs, fun v H3 x3 r => q v H3 ((Xr.ex x1.1 e).trans x3) r⟩⟩
theorem ex_tup2 [RM R] (ha : EvX K ρ ta σ H R) (hb : EvX K ρ tb σ H S) : EvX K ρ (tTup (tCons ta (tCons tb tNil))) σ H (PR R S) := fun H1 x1 Q q =>
  ha H1 x1 _ fun u H2 x2 hu => hb H2 (x1.trans x2) _ fun w H3 x3 hw => ⟨sz_of (by simp), fun p hp => q _ _ ((x2.trans x3).exr (Ex.new hp)) ⟨p, u, w, rfl, upd_same, R.mono (Ex.new hp) (RM.x x2.1 x3 hu), S.mono (Ex.new hp) hw⟩⟩
theorem ex_lst2 [RM R] (ha : EvX K ρ ta σ H R) (hb : EvX K ρ tb σ H S) : EvX K ρ (tLst (tCons ta (tCons tb tNil))) σ H (LstOf [R, S]) := fun H1 x1 Q q =>
  ha H1 x1 _ fun u H2 x2 hu => hb H2 (x1.trans x2) _ fun w H3 x3 hw => ⟨sz_of (by simp), fun p hp => q _ _ ((x2.trans x3).exr (Ex.new hp)) ⟨p, [u, w], rfl, upd_same, .cons (R.mono (Ex.new hp) (RM.x x2.1 x3 hu)) (.cons (S.mono (Ex.new hp) hw) .nil)⟩⟩
/-! ### comprehensions whose tests take -/
def WkX (K : PySem.W.Frag) (ρ : Rw) (J : It) (ns : List Int) (H0 : Hp) : Prop :=
  ∃ Y, Walk J ns.length (fun H => Xr K ρ H0 H) Y ∧ ∀ (i : Nat) (H : Hp) (v : V) (H' : Hp), i < ns.length → Xr K ρ H0 H → Y i H v H' → H' = H ∧ ∃ n, ns[i]? = some n ∧ v = .int n
def EvIX (K : PySem.W.Frag) (ρ : Rw) (wi : TI) (σ : L2.St) (H : Hp) (ns : List Int) : Prop := ∀ H1, Xr K ρ H H1 → ∀ C : It → Hp → Prop, (∀ J H2, Ex H1 H2 → WkX K ρ J ns H2 → C J H2) → wi σ H1 C
theorem eix_rng {tA : TA} {n : Nat} (hn : n ≤ 100000) (h : ∀ H1, Xr K ρ H H1 → EvAs tA σ H1 [I (n : Int)]) : EvIX K ρ (iRng1 tA) σ H (rng n) := fun H1 x C c =>
  h H1 x H1 (Ex.refl _) _ fun vs H2 e2 r => by
    cases r with
    | cons r1 r2 =>
      cases r2
      cases (show _ = V.int (n : Int) from r1)
      refine ⟨(n : Int), rfl, by omega, by omega, c _ H2 e2 ⟨YFn fun i => .int (0 + i), ?_, fun i H3 v H' hi x y => ?_⟩⟩
      · have w := walk_range (lo := 0) (n := n)
        rw [rng_len, Int.toNat_natCast]
        exact w.mono (fun _ _ => trivial) fun _ _ _ _ _ _ y => y
      · obtain ⟨rfl, rfl⟩ := y
        rw [rng_len] at hi
        exact ⟨rfl, _, rng_at hi, by show V.int (0 + (i : Int)) = V.int i; rw [Int.zero_add]⟩
theorem eix_IL {ns : List Int} (h : ∀ H1, Xr K ρ H H1 → EvR te σ H1 (IL ns)) : EvIX K ρ (iList K te) σ H ns := fun H1 x C c =>
  h H1 x H1 (Ex.refl _) _ fun v H2 e2 ⟨a, ev, hv⟩ => ⟨a, ev, ⟨_, sq_of hv⟩, c _ H2 e2 ⟨YAt (ns.map V.int), by
    have w := walk_list (K := K) (a := a) (xs := ns.map V.int)
    rw [List.length_map] at w
    refine w.mono (fun H x3 => ?_) fun _ _ _ _ _ _ y => y
    obtain ⟨b, e, q⟩ := RM.x (R := IL ns) (x.1.ex e2) x3 ⟨a, rfl, hv⟩
    cases e
    exact sq_of q, fun i H3 v H' hi x y => by
    obtain ⟨rfl, y⟩ := y
    rw [List.getElem?_map] at y
    cases h : ns[i]? with
    | none => rw [h] at y; cases y
    | some n =>
      rw [h] at y
      exact ⟨rfl, n, rfl, (Option.some.inj y).symm⟩⟩⟩
theorem ex_lcSub {wi : TI} {j : Nat} {vs : List Nat} {ns : List Int} (hi : EvIX K ρ wi σ H ns) (hz : ns.length ≤ 40000) (hw : ∀ v, wipe ((wipe σ vs).set j (some v)) vs = wipe σ vs) (hj : ∀ v, ((wipe σ vs).set j (some v))[j]? = some (some v))
    (ht : ∀ v, EvTN K ρ t ((wipe σ vs).set j (some v)) H) : EvX K ρ (tLc wi (gName j) t (tVar j) vs) σ H (XR (fun ms => ms.Sublist ns) IL) := fun H1 x1 Q q => hi H1 x1 _ fun J H2 e2 ⟨Y, w, hY⟩ D hD => by
  have r2 := x1.1.ex e2
  have x2 := x1.exr e2
  refine lc_it w (Y := Y) (fun i H' => ∃ ms : List Int, Xr K ρ H2 H' ∧ H' D = some (.lst (ms.map V.int)) ∧ ms.Sublist (ns.take i)) ?_ (fun i H' _ p => let ⟨_, p, _⟩ := p; p) ?_ ?_
  · exact ⟨[], Xr.mut r2 (Xr.refl r2) hD, upd_same, List.nil_sublist _⟩
  · rintro i v H3 H4 hlt ⟨ms, p1, p2, p3⟩ y
    obtain ⟨rfl, n, hx, rfl⟩ := hY i H3 v H4 hlt p1 y
    have nD := r2.ne0 hD
    refine ⟨hw _, ht (.int n) H4 (x2.trans p1) _ fun b H6 x6 => ?_⟩
    have D6 := x6.2 D _ nD p2
    have small : ms.length ≤ ns.length := Nat.le_trans p3.length_le (by rw [List.length_take]; omega)
    cases b with
    | true =>
      refine iteT ⟨.int n, hj _, ms.map V.int, D6, by rw [List.length_map]; exact sz_lt (by omega), ms ++ [n], Xr.mut r2 (p1.trans x6) hD, ?_, ?_⟩
      · rw [upd_same, List.map_append]; rfl
      · rw [List.take_add_one, hx]
        exact p3.append (List.Sublist.refl _)
    | false =>
      refine iteF ⟨ms, p1.trans x6, D6, p3.trans ?_⟩
      rw [List.take_add_one]
      exact List.sublist_append_left _ _
  · rintro H3 ⟨ms, p1, p2, p3⟩
    rw [List.take_length] at p3
    exact q _ H3 ((Xr.ex x1.1 e2).trans p1) ⟨ms, p3, D, rfl, p2⟩
/-! ### statements -/
variable {D : Ends} {tu tw tz : TS} {g : TG}
theorem qx_asg {i : Nat} (h0 : RowAt K ρ H) (h : EvX K ρ te σ H R) (k : ∀ v H1, Xr K ρ H H1 → R.p v H1 → tz D (σ.set i (some v)) H1) : tSeq (tAsg te (gName i)) tz D σ H := h H (Xr.refl h0) _ fun v H1 e r => k v H1 e r
theorem sx_asg {i : Nat} (h0 : RowAt K ρ H) (h : EvX K ρ te σ H R) (k : ∀ v H1, Xr K ρ H H1 → R.p v H1 → D.nx (σ.set i (some v)) H1) : tAsg te (gName i) D σ H := h H (Xr.refl h0) _ fun v H1 e r => k v H1 e r
theorem qx_asg2 {i j : Nat} (h0 : RowAt K ρ H) (h : EvX K ρ te σ H (PR R S)) (k : ∀ u v H1, Xr K ρ H H1 → R.p u H1 → S.p v H1 → tz D ((σ.set i (some u)).set j (some v)) H1) : tSeq (tAsg te (gTup K 2 (gCons (gName i) (gCons (gName j) gNil)))) tz D σ H :=
  h H (Xr.refl h0) _ fun _ H1 e ⟨a, u, v, ev, q, r, s⟩ => ⟨a, [u, v], ev, st_of q, rfl, u, _, rfl, v, _, rfl, rfl, k u v H1 e r s⟩
theorem qx_par [RM R] {i j : Nat} (h0 : RowAt K ρ H) (ha : EvX K ρ ta σ H R) (hb : EvX K ρ tb σ H S) (k : ∀ u v H1, Xr K ρ H H1 → R.p u H1 → S.p v H1 → tz D ((σ.set i (some u)).set j (some v)) H1) : tSeq (tPar i j (tCons ta (tCons tb tNil))) tz D σ H :=
  ha H (Xr.refl h0) _ fun u H1 x1 hu => hb H1 x1 _ fun w H2 x2 hw => ⟨u, w, rfl, k u w H2 (x1.trans x2) (RM.x x1.1 x2 hu) hw⟩
theorem sx_ret (h0 : RowAt K ρ H) (h : EvX K ρ te σ H R) (k : ∀ v H1, Xr K ρ H H1 → R.p v H1 → D.rt v H1) : tRet te D σ H := h H (Xr.refl h0) _ k
theorem sx_when (h0 : RowAt K ρ H) (h : EvTN K ρ t σ H) (h1 : ∀ H1, Xr K ρ H H1 → tu D σ H1) (h2 : ∀ H1, Xr K ρ H H1 → D.nx σ H1) : tIfS t tu tNext D σ H := h H (Xr.refl h0) _ fun b H1 x => by
  cases b with
  | true => exact iteT (h1 H1 x)
  | false => exact iteF (h2 H1 x)
end
section
variable {P : Program} {w : World} {K : PySem.W.Frag} {mg : Str → Option Value} {base : Heap}
theorem Def.xn {α : Type} {arg : α → List Rep} {pre : α → Prop} {res : α → Rep} {name : Str} {st : Stmt} {N ps : List Str} {k : Nat} (R : Raw K mg name st) (S : FnScope N ps (defScope st))
    (hb : ∀ (kV doc pm : Value) (an : Option Addr) (cdv ct : Value) (us : List Value), us.length = ps.length → bindArgs (PySem.W.fnOf name name (defArgs st) (defBody st) (defScope st) .none kV doc pm an cdv ct) ⟨us, []⟩ = pure (ps.zip us))
    (len : ∀ x, (arg x).length + 1 = ps.length)
    (body : ∀ (f : Addr) (cdv : Value) (A : Around) (outer : List Env) (s : Shared) (H0 : Hp) (E : XK), Room k (A.deeper (envOfC name (defScope st) s.heap.objs.size f cdv)) →
      ∃ t, PSs (cxOf CX0 P w K mg base N name (defScope st) f cdv A outer s H0 E).nox (defBody st) t ∧
        ∀ (x : α) (ρ : Rw) (vs : List V) (H : Hp) (Q : VK), pre x → RowAt K ρ H → All2 (fun (R : Rep) v => R.p v H) (arg x) vs → (∀ v H', Xr K ρ H H' → (res x).p v H' → Q v H') → t { nx := fun _ H' => Q .non H', rt := Q } (start N (.ref ρ.r :: vs)) H) : Def P w K mg base name (k + 1) ps (xsp K arg pre res) :=
  Def.mk R S hb (fun vs H Q E ⟨ρ, ws, x, e, _, _, r, _⟩ => by rw [e, List.length_cons, ← all2_len r]; exact len x) fun f cdv A outer s H vs Q E hr ⟨ρ, ws, x, e, hp, hR, r, q⟩ => by
    obtain ⟨t, h1, h2⟩ := body f cdv A outer s H E hr
    subst e
    exact ⟨t, h1, h2 x ρ ws H Q hp hR r q⟩
end
end LD
set_option Elab.async false
set_option linter.all false
set_option maxRecDepth 100000
set_option maxHeartbeats 8000000
set_option autoImplicit false
/-! the law's takings: any number, any web, any standing -/
namespace LD
open PySem PySem.Spec PyProof.Rows L2 Evl
theorem asc_len {m : Nat} {ms : List Int} (h : Asc ms) (hm : ∀ d ∈ ms, 0 ≤ d ∧ d < (m : Int)) : ms.length ≤ m := by
  have e : ms = (rng m).filter fun k => decide (k ∈ ms) := asc_ext h ((rng_asc m).filter _) fun k => by
    rw [List.mem_filter, mem_rng, decide_eq_true_iff]
    exact ⟨fun h => ⟨hm k h, h⟩, fun h => h.2⟩
  rw [e]
  exact Nat.le_trans (List.length_filter_le _ _) (by rw [rng_len]; exact Nat.le_refl _)
theorem lex_len {m : Nat} {qs : List (Int × Int)} (hp : qs.Pairwise lexP) (hm5 : m ≤ 5) (hm : ∀ p ∈ qs, (0 ≤ p.1 ∧ p.1 < (m : Int)) ∧ 0 ≤ p.2 ∧ p.2 < (m : Int)) : qs.length ≤ 25 := by
  have a : Asc (qs.map fun p => p.1 * 5 + p.2) := by
    unfold Asc
    rw [List.pairwise_map]
    refine List.Pairwise.imp_of_mem (fun {p q} h1 h2 h => ?_) hp
    have b1 := hm p h1
    have b2 := hm q h2
    rcases h with h | ⟨h, h'⟩
    · show p.1 * 5 + p.2 < q.1 * 5 + q.2
      omega
    · show p.1 * 5 + p.2 < q.1 * 5 + q.2
      omega
  have := asc_len (m := 25) a fun d hd => by
    obtain ⟨p, hp, rfl⟩ := List.mem_map.mp hd
    have b := hm p hp
    show 0 ≤ p.1 * 5 + p.2 ∧ p.1 * 5 + p.2 < 25
    omega
  rwa [List.length_map] at this
section
variable {K : PySem.W.Frag} {ρ : Rw} {σ : L2.St} {H H' : Hp} {ta tb tc te : TE} {t u : TT} {R S T : Rep} {D : Ends} {tu tw tz : TS}
theorem er_ixRow {xs : List V} {a : Addr} {k : Int} {j : Nat} {x : V} (hσ : σ[0]? = some (some (.ref a))) (h : H a = some (.lst xs)) (hk : xs[j]? = some x) (e : k = (j : Int)) : EvR (tOp (rIxL K) (tVar 0) (tC (.int k))) σ H (is x) :=
  er_op (R := is (.ref a)) (er_var hσ rfl) er_c fun v w H1 e1 r s Q q => ⟨a, xs, k, x, r, s, sq_of (e1 a _ h), by rw [e]; exact atI_nat hk, q _ H1 (Ex.refl _) rfl⟩
theorem er_lenRow {xs : List V} {ns : List Int} {a b : Addr} (hσ : σ[0]? = some (some (.ref a))) (h : H a = some (.lst xs)) (hk : xs[0]? = some (.ref b)) (hs : SqL K H b (ns.map V.int)) : EvR (tCB (fun xs H Q => ∃ p ys, xs = [.ref p] ∧ (SqL K H p ys ∨ SqT K H p ys) ∧ Q (.int ys.length) H) (tCons (tOp (rIxL K) (tVar 0) (tC (.int 0))) tNil)) σ H (I (ns.length : Int)) :=
  er_cb1 (er_ixRow (j := 0) hσ h hk rfl) fun x H1 e r Q q => ⟨b, _, by rw [show x = V.ref b from r], .inl (ex_l e hs), q _ H1 (Ex.refl _) (by rw [List.length_map]; rfl)⟩
theorem er_ixRow2 {xs : List V} {ns : List Int} {a b : Addr} {i : Int} {k : Nat} {c : Int} (hσ : σ[0]? = some (some (.ref a))) (h : H a = some (.lst xs)) (hk : xs[0]? = some (.ref b)) (hs : SqL K H b (ns.map V.int)) (hb : EvR tb σ H (I i)) (e : i = (k : Int)) (hc : ns[k]? = some c) : EvR (tOp (rIxL K) (tOp (rIxL K) (tVar 0) (tC (.int 0))) tb) σ H (I c) :=
  er_op (er_ixRow (j := 0) hσ h hk rfl) hb fun v w H1 e1 r s Q q => ⟨b, _, i, .int c, r, s, ex_l e1 hs, by rw [e]; exact atI_nat (by rw [List.getElem?_map, hc]; rfl), q _ H1 (Ex.refl _) rfl⟩
theorem qr_setRow {xs : List V} {a : Addr} {k : Int} {j : Nat} {x : V} (hσ : σ[0]? = some (some (.ref a))) (h : H a = some (.lst xs)) (he : EvR te σ H (is x)) (hj : j < xs.length) (e : k = (j : Int)) (q : ∀ H1, Ex H H1 → tz D σ (L2.upd H1 a (.lst (xs.set j x)))) : tSeq (tAsg te (gSub (tVar 0) (tC (.int k)) rSetL)) tz D σ H :=
  he H (Ex.refl H) _ fun v H1 e1 r => ⟨_, hσ, a, xs, k, j, rfl, rfl, e1 a _ h, by rw [e]; exact ixN_nat hj, by
    rw [show v = x from r]
    exact q H1 e1⟩
theorem sr_setRow {xs : List V} {a : Addr} {k : Int} {j : Nat} {x : V} (hσ : σ[0]? = some (some (.ref a))) (h : H a = some (.lst xs)) (he : EvR te σ H (is x)) (hj : j < xs.length) (e : k = (j : Int)) (q : ∀ H1, Ex H H1 → D.nx σ (L2.upd H1 a (.lst (xs.set j x)))) : tAsg te (gSub (tVar 0) (tC (.int k)) rSetL) D σ H :=
  he H (Ex.refl H) _ fun v H1 e1 r => ⟨_, hσ, a, xs, k, j, rfl, rfl, e1 a _ h, by rw [e]; exact ixN_nat hj, by
    rw [show v = x from r]
    exact q H1 e1⟩
theorem row_upd {H1 : Hp} {i s w : Int} (h : RowAt K ρ H) (x : ∀ a o, a ≠ ρ.r → H a = some o → H1 a = some o) (hr : H1 ρ.r = some (.lst [.ref ρ.sc, .int i, .int s, .int w])) (hi : 0 ≤ i) : Xr K ρ H H1 := by
  refine ⟨⟨i, s, w, hr, ?_, hi⟩, x⟩
  obtain ⟨_, _, _, _, h2, _⟩ := id h
  exact sqI_x h x h2
theorem Xr.back {a : Addr} (h : RowAt K ρ H) (x : Xr K ρ H H') (q : H' a = none) : H a = none := by
  cases e : H a with
  | none => rfl
  | some o =>
    have n : a ≠ ρ.r := fun z => by
      have := x.1.ne0 q
      exact this z
    have := x.2 a o n e
    rw [q] at this
    cases this
/-- if t: name = e -/
theorem q_ifSet {b : Bool} {i : Nat} {v0 : V} (h : EvT t σ H b) (h1 : b = true → ∀ H1, Ex H H1 → EvR te σ H1 R) (hs : σ.set i (some v0) = σ) (hv : R.p v0 H) (k : ∀ v H1, Ex H H1 → R.p v H1 → tz D (σ.set i (some v)) H1) : tSeq (tIfS t (tAsg te (gName i)) tNext) tz D σ H :=
  q_when h (fun z H1 e => sr_asg (D := { D with nx := tz D }) (h1 z H1 e) fun v H2 e2 r => k v H2 (e.trans e2) r) fun _ H1 e => by
    rw [← hs]
    exact k v0 H1 e (R.mono e hv)
theorem q_ifSetX [RM R] {b : Bool} {i : Nat} {v0 : V} (h0 : RowAt K ρ H) (h : EvT t σ H b) (h1 : b = true → EvX K ρ te σ H R) (hs : σ.set i (some v0) = σ) (hv : R.p v0 H) (k : ∀ v H1, Xr K ρ H H1 → R.p v H1 → tz D (σ.set i (some v)) H1) : tSeq (tIfS t (tAsg te (gName i)) tNext) tz D σ H :=
  q_when h (fun z H1 e => sx_asg (D := { D with nx := tz D }) (h0.ex e) ((h1 z).up (Xr.ex h0 e)) fun v H2 x2 r => k v H2 ((Xr.ex h0 e).trans x2) r) fun _ H1 e => by
    rw [← hs]
    exact k v0 H1 (Xr.ex h0 e) (R.mono e hv)
theorem er_tupOfXR {α : Type} {P : List α → Prop} {F : α → Rep} [∀ x, TM (F x)] (ha : EvR ta σ H (XR P (LR F))) :
    EvR (tCB (fun xs H Q => ∃ p ys, xs = [.ref p] ∧ ((SqL K H p ys ∧ ∀ l, H l = none → Q (.ref l) (L2.upd H l (.tup ys))) ∨ (SqT K H p ys ∧ Q (.ref p) H))) (tCons ta tNil)) σ H (XR P (TR F)) :=
  er_cb1 ha fun x H1 _ ⟨xs, hP, a, vs, e, h, r⟩ Q q => ⟨a, vs, by rw [e], .inl ⟨sq_of h, fun l hl => q _ _ (Ex.new hl) ⟨xs, hP, l, vs, rfl, upd_same, all2_up (Ex.new hl) r⟩⟩⟩
theorem er_tupOfXL {P : List Int → Prop} (ha : EvR ta σ H (XR P IL)) :
    EvR (tCB (fun xs H Q => ∃ p ys, xs = [.ref p] ∧ ((SqL K H p ys ∧ ∀ l, H l = none → Q (.ref l) (L2.upd H l (.tup ys))) ∨ (SqT K H p ys ∧ Q (.ref p) H))) (tCons ta tNil)) σ H (XR P IT) :=
  er_cb1 ha fun x H1 _ ⟨ms, hP, a, e, h⟩ Q q => ⟨a, _, by rw [e], .inl ⟨sq_of h, fun l hl => q _ _ (Ex.new hl) ⟨ms, hP, l, rfl, upd_same⟩⟩⟩
theorem LR_LstOf {α : Type} {R : α → Rep} {xs : List α} {v : V} {H : Hp} : (LstOf (xs.map R)).p v H ↔ (LR R xs).p v H := by
  constructor
  · rintro ⟨a, vs, e, h, r⟩
    refine ⟨a, vs, e, h, ?_⟩
    clear h
    induction xs generalizing vs with
    | nil => cases r; exact .nil
    | cons x xs ih => cases r with | cons h1 r => exact .cons h1 (ih _ r)
  · rintro ⟨a, vs, e, h, r⟩
    refine ⟨a, vs, e, h, ?_⟩
    clear h
    induction r with
    | nil => exact .nil
    | cons h1 _ ih => exact .cons h1 ih
theorem rm_lst {α : Type} {R : α → Rep} [∀ x, TM (R x)] [∀ x, NI (R x)] {xs : List α} : RM (LstOf (xs.map R)) := ⟨fun h x q => LR_LstOf.mpr (RM.x h x (LR_LstOf.mp q))⟩
theorem rm_ints {ns : List Int} : RM (LstOf (ns.map I)) := ⟨fun h x q => LR_LstOf.mpr (LR_IL.mpr (RM.x h x (LR_IL.mp (LR_LstOf.mp q))))⟩
end
section
variable {P : Program} {w : World} {K : PySem.W.Frag} {mg : Str → Option Value} {base : Heap}
abbrev p_law_taken (K : PySem.W.Frag) : Sp := xsp K (fun n : Nat => [I (n : Int)]) (fun n => 1 ≤ n ∧ n ≤ 1000) (fun n => XR (fun k : Int => 0 ≤ k ∧ k < n) I)
theorem sc_law_taken : FnScope ["_law_row", "_law_many", "_law_found", "_law_cell"] ["_law_row", "_law_many"] (defScope (top 36)) := ⟨rfl, rfl, rfl, by decide +kernel, rfl, by decide +kernel, by decide +kernel⟩
abbrev D_law_taken (P : Program) (w : World) (K : PySem.W.Frag) (mg : Str → Option Value) (base : Heap) : Prop := Def P w K mg base "_law_taken" 1 ["_law_row", "_law_many"] (p_law_taken K)
theorem d_law_taken (R : Raw K mg "_law_taken" (top 36)) (T : Names mg) : D_law_taken P w K mg base := by
  refine Def.xn (k := 0) R sc_law_taken (fun _ _ _ _ _ _ us hl => match us, hl with | [_, _], _ => rfl) (fun _ => rfl) fun f cdv A outer s H0 E hr => ⟨_, (pss_cons (ps_if (pt_cmpR op_gt (pe_ix (ix_list' K rfl) (pv 0) pe_int (fun _ _ => rfl)) pe_int (nomark _))
        (pss_cons (ps_set (i := 2) sc_law_taken.nd rfl (Or.inl rfl) (pe_op op_mod (pe_callTy call_int1 (by rfl) T.int boot_int (pa_cons (pe_ix (ix_list' K rfl) (pv 0) pe_int (fun _ _ => rfl)) pa_nil)) (pv 1)))
        (pss_cons (ps_asg (pe_op op_fdiv (pe_ix (ix_list' K rfl) (pv 0) pe_int (fun _ _ => rfl)) (pv 1)) (pg_sub (pv 0) pe_int set_list))
        (pss_one (ps_ret (pv 2))))) pss_nil)
      (pss_cons (ps_asg (pe_op op_add (pe_ix (ix_list' K rfl) (pv 0) pe_int (fun _ _ => rfl)) pe_int) (pg_sub (pv 0) pe_int set_list))
      (pss_cons (ps_if (pt_cmpR op_gt (pe_ix (ix_list' K rfl) (pv 0) pe_int (fun _ _ => rfl)) (pe_callB (call_len' K rfl) (by rfl) T.len boot_len (pa_cons (pe_ix (ix_list' K rfl) (pv 0) pe_int (fun _ _ => rfl)) pa_nil)) (nomark _))
        (pss_cons (ps_asg (pe_op op_mod (pe_callTy call_int1 (by rfl) T.int boot_int (pa_cons (pe_op op_add (pe_op op_mul (pe_ix (ix_list' K rfl) (pv 0) pe_int (fun _ _ => rfl)) pe_int) pe_int) pa_nil)) pe_int) (pg_sub (pv 0) pe_int set_list))
        (pss_one (ps_ret (pe_op op_mod (pe_callTy call_int1 (by rfl) T.int boot_int (pa_cons (pe_op op_fdiv (pe_ix (ix_list' K rfl) (pv 0) pe_int (fun _ _ => rfl)) pe_int) pa_nil)) (pv 1))))) pss_nil)
      (pss_cons (ps_set (i := 3) sc_law_taken.nd rfl (Or.inl rfl) (pe_ix (ix_list' K rfl) (pe_ix (ix_list' K rfl) (pv 0) pe_int (fun _ _ => rfl)) (pe_op op_sub (pe_ix (ix_list' K rfl) (pv 0) pe_int (fun _ _ => rfl)) pe_int) (fun _ _ => rfl)))
      (pss_cons (ps_asg (pe_op op_mod (pe_callTy call_int1 (by rfl) T.int boot_int (pa_cons (pe_op op_add (pe_op op_add (pe_op op_mul (pe_ix (ix_list' K rfl) (pv 0) pe_int (fun _ _ => rfl)) pe_int) (pv 3)) pe_int) pa_nil)) pe_int) (pg_sub (pv 0) pe_int set_list))
      (pss_cons (ps_if (pt_cmpR op_ge (pv 3) (pe_op op_pow pe_int pe_int) (nomark _))
        (pss_one (ps_asg (pe_op op_fdiv (pv 3) (pv 1)) (pg_sub (pv 0) pe_int set_list))) pss_nil)
      (pss_one (ps_ret (pe_op op_mod (pe_callTy call_int1 (by rfl) T.int boot_int (pa_cons (pv 3) pa_nil)) (pv 1)))))))))), ?_⟩
  rintro n ρ vs H Q ⟨n1, n2⟩ hR r q
  obtain ⟨b, rfl, hb⟩ := vs1 r
  cases (show b = V.int (n : Int) from hb)
  obtain ⟨i, sd, wd, hr0, hsc, hi⟩ := id hR
  have md : ∀ k : Int, 0 ≤ k % (n : Int) ∧ k % (n : Int) < n := fun k => ⟨Int.emod_nonneg _ (by omega), Int.emod_lt_of_pos _ (by omega)⟩
  have np : (0 : Int) < n := by omega
  have cd : CDiv 0 (n : Int) → True := fun _ => trivial
  have up : ∀ {H1 : Hp} {o : HO}, Ex H H1 → ∀ a u, a ≠ ρ.r → H a = some u → (L2.upd H1 ρ.r o) a = some u := fun e a u na h => by rw [upd_ne na]; exact e a u h
  refine q_when (et_of (er_int2 (g := fun i j => .bl (decide (j < i))) (er_ixRow (j := 3) rfl hr0 rfl rfl) er_c)) (fun _ H1 e1 => ?_) fun _ H1 e1 => ?_
  · refine qr_asg (er_int2c (g := fun i j => .int (i % j)) (C := fun _ j => 0 < j) np (er_int1I (er_ixRow (j := 3) rfl (e1 _ _ hr0) rfl rfl)) (er_var (R := I (n : Int)) rfl rfl)) fun f H2 e2 hf => ?_
    refine qr_setRow (j := 3) rfl ((e1.trans e2) _ _ hr0) (er_int2c (g := fun i j => .int (i / j)) (C := CDiv) ⟨np, by omega⟩ (er_ixRow (j := 3) rfl ((e1.trans e2) _ _ hr0) rfl rfl) (er_var (R := I (n : Int)) rfl rfl)) (by simp) rfl fun H3 e3 => ?_
    have x3 : Xr K ρ H (L2.upd H3 ρ.r (.lst [.ref ρ.sc, .int i, .int sd, .int (wd / n)])) := row_upd hR (up ((e1.trans e2).trans e3)) upd_same hi
    exact sr_ret (R := I (wd % n)) (er_var rfl hf) fun v H4 e4 r4 => q v H4 (x3.exr e4) ⟨_, md _, r4⟩
  refine qr_setRow (j := 1) rfl (e1 _ _ hr0) (er_int2 (g := fun i j => .int (i + j)) (er_ixRow (j := 1) rfl (e1 _ _ hr0) rfl rfl) er_c) (by simp) rfl fun H2 e2 => ?_
  have hr3 : (L2.upd H2 ρ.r (.lst [.ref ρ.sc, .int (i + 1), .int sd, .int wd])) ρ.r = some (.lst [.ref ρ.sc, .int (i + 1), .int sd, .int wd]) := upd_same
  have x3 : Xr K ρ H (L2.upd H2 ρ.r (.lst [.ref ρ.sc, .int (i + 1), .int sd, .int wd])) := row_upd hR (up (e1.trans e2)) hr3 (by omega)
  have hsc3 : SqL K (L2.upd H2 ρ.r (.lst [.ref ρ.sc, .int (i + 1), .int sd, .int wd])) ρ.sc (ρ.ns.map V.int) := sqI_x hR x3.2 hsc
  refine q_when (b := decide ((ρ.ns.length : Int) < i + 1)) (et_of (er_int2 (g := fun i j => .bl (decide (j < i))) (er_ixRow (j := 1) rfl hr3 rfl rfl) (er_lenRow rfl hr3 rfl hsc3))) (fun _ H4 e4 => ?_) fun hlen H4 e4 => ?_
  · have hr4 := e4 _ _ hr3
    refine qr_setRow (j := 2) rfl hr4 (er_int2c (g := fun i j => .int (i % j)) (C := fun _ j => 0 < j) (by decide) (er_int1I (er_int2 (g := fun i j => .int (i + j)) (er_int2c (g := fun i j => .int (i * j)) (C := CMul) (.inr (by decide)) (er_ixRow (j := 2) rfl hr4 rfl rfl) er_c) er_c)) er_c) (by simp) rfl fun H5 e5 => ?_
    have x5 := (row_upd (H1 := L2.upd H5 ρ.r (.lst [.ref ρ.sc, .int (i + 1), .int ((sd * 48271 + 11) % 2147483647), .int wd])) x3.1 (fun a u na h => by rw [upd_ne na]; exact (e4.trans e5) a u h) upd_same (by omega))
    exact sr_ret (er_int2c (g := fun i j => .int (i % j)) (C := fun _ j => 0 < j) np (er_int1I (er_int2c (g := fun i j => .int (i / j)) (C := CDiv) (by constructor <;> decide) (er_ixRow (j := 2) rfl upd_same rfl rfl) er_c)) (er_var (R := I (n : Int)) rfl rfl)) fun v H6 e6 r6 => q v H6 ((x3.trans x5).exr e6) ⟨_, md _, r6⟩
  have hlen' : i + 1 ≤ ρ.ns.length := by have := of_decide_eq_false hlen; omega
  have hr4 := e4 _ _ hr3
  obtain ⟨c, hc⟩ : ∃ c, ρ.ns[i.toNat]? = some c := ⟨_, List.getElem?_eq_getElem (by omega)⟩
  refine qr_asg (R := I c) (er_ixRow2 rfl hr4 rfl (ex_l e4 hsc3) (er_int2 (g := fun i j => .int (i - j)) (er_ixRow (j := 1) rfl hr4 rfl rfl) er_c) (k := i.toNat) (by omega) hc) fun cv H5 e5 hcv => ?_
  cases (show cv = V.int c from hcv)
  have hr5 := e5 _ _ hr4
  refine qr_setRow (j := 2) rfl hr5 (er_int2c (g := fun i j => .int (i % j)) (C := fun _ j => 0 < j) (by decide) (er_int1I (er_int2 (g := fun i j => .int (i + j)) (er_int2 (g := fun i j => .int (i + j)) (er_int2c (g := fun i j => .int (i * j)) (C := CMul) (.inr (by decide)) (er_ixRow (j := 2) rfl hr5 rfl rfl) er_c) (er_var (R := I c) rfl rfl)) er_c)) er_c) (by simp) rfl fun H6 e6 => ?_
  have hr7 : (L2.upd H6 ρ.r (.lst [.ref ρ.sc, .int (i + 1), .int ((sd * 48271 + c + 11) % 2147483647), .int wd])) ρ.r = some (.lst [.ref ρ.sc, .int (i + 1), .int ((sd * 48271 + c + 11) % 2147483647), .int wd]) := upd_same
  have x7 := (row_upd (H1 := L2.upd H6 ρ.r (.lst [.ref ρ.sc, .int (i + 1), .int ((sd * 48271 + c + 11) % 2147483647), .int wd])) x3.1 (fun a u na h => by rw [upd_ne na]; exact ((e4.trans e5).trans e6) a u h) hr7 (by omega))
  refine q_when (et_of (er_int2 (g := fun i j => .bl (decide (j ≤ i))) (er_var (R := I c) rfl rfl) (er_int2c (g := fun i j => .int (i ^ j.toNat)) (C := CPow) (by refine ⟨?_, ?_, ?_⟩ <;> decide) er_c er_c))) (fun _ H8 e8 => ?_) fun _ H8 e8 => ?_
  · have hr8 := e8 _ _ hr7
    refine sr_setRow (j := 3) rfl hr8 (er_int2c (g := fun i j => .int (i / j)) (C := CDiv) ⟨np, by omega⟩ (er_var (R := I c) rfl rfl) (er_var (R := I (n : Int)) rfl rfl)) (by simp) rfl fun H9 e9 => ?_
    have x9 := (row_upd (H1 := L2.upd H9 ρ.r (.lst [.ref ρ.sc, .int (i + 1), .int ((sd * 48271 + c + 11) % 2147483647), .int (c / n)])) x7.1 (fun a u na h => by rw [upd_ne na]; exact (e8.trans e9) a u h) upd_same (by omega))
    exact sr_ret (er_int2c (g := fun i j => .int (i % j)) (C := fun _ j => 0 < j) np (er_int1I (er_var (R := I c) rfl rfl)) (er_var (R := I (n : Int)) rfl rfl)) fun v H6 e6 r6 => q v H6 (((x3.trans x7).trans x9).exr e6) ⟨_, md _, r6⟩
  · exact sr_ret (er_int2c (g := fun i j => .int (i % j)) (C := fun _ j => 0 < j) np (er_int1I (er_var (R := I c) rfl rfl)) (er_var (R := I (n : Int)) rfl rfl)) fun v H6 e6 r6 => q v H6 ((x3.trans x7).exr (e8.trans e6)) ⟨_, md _, r6⟩
end
end LD
set_option Elab.async false
set_option linter.all false
set_option maxRecDepth 100000
set_option maxHeartbeats 8000000
set_option autoImplicit false
/-! any pick, any web, any standing -/
namespace LD
open PySem PySem.Spec PyProof.Rows L2 Evl
def arrowOk (m : Nat) (p : Int × Int) : Prop := (0 ≤ p.1 ∧ p.1 < (m : Int)) ∧ (0 ≤ p.2 ∧ p.2 < (m : Int)) ∧ p.1 ≠ p.2
section
variable {P : Program} {w : World} {K : PySem.W.Frag} {mg : Str → Option Value} {base : Heap}
abbrev p_law_pick (K : PySem.W.Frag) : Sp := xsp K (fun Rs : List Rep => [LstOf Rs]) (fun Rs => 1 ≤ Rs.length ∧ Rs.length ≤ 1000 ∧ RM (LstOf Rs)) (fun Rs => XR (fun R => R ∈ Rs) (fun R => R))
theorem sc_law_pick : FnScope ["_law_row", "_law_things"] ["_law_row", "_law_things"] (defScope (top 37)) := ⟨rfl, rfl, rfl, by decide +kernel, rfl, by decide +kernel, by decide +kernel⟩
abbrev D_law_pick (P : Program) (w : World) (K : PySem.W.Frag) (mg : Str → Option Value) (base : Heap) : Prop := Def P w K mg base "_law_pick" 2 ["_law_row", "_law_things"] (p_law_pick K)
theorem d_law_pick (R : Raw K mg "_law_pick" (top 37)) (T : Names mg) (d_law_taken : D_law_taken P w K mg base) : D_law_pick P w K mg base := by
  refine Def.xn (k := 1) R sc_law_pick (fun _ _ _ _ _ _ us hl => match us, hl with | [_, _], _ => rfl) (fun _ => rfl) fun f cdv A outer s H0 E hr => ⟨_, (pss_one (ps_ret (pe_ix (ix_list' K rfl) (pv 1) (pe_def d_law_taken (hr.mono (by decide)) rfl (pa_cons (pv 0) (pa_cons (pe_callB (call_len' K rfl) (by rfl) T.len boot_len (pa_cons (pv 1) pa_nil)) pa_nil))) (fun _ _ => rfl)))), ?_⟩
  rintro Rs ρ vs H Q ⟨n1, n2, rm⟩ hR r q
  obtain ⟨b, rfl, hb⟩ := vs1 r
  refine sx_ret hR (R := XR (fun R => R ∈ Rs) (fun R => R)) ?_ fun v H1 x r => q v H1 x r
  refine ex_op (R := LstOf Rs) (S := XR (fun k : Int => 0 ≤ k ∧ k < (Rs.length : Nat)) I) (ex_of fun H1 x1 => er_var rfl (RM.x hR x1 hb)) (ex_def Rs.length ⟨n1, n2⟩ rfl fun H1 x1 => ea_consR (er_lenV (er_var (R := LstOf Rs) rfl (RM.x hR x1 hb)) fun v H ⟨a, ws, e, h, r⟩ => ⟨a, ws, e, .inl (sq_of h), (all2_len r).symm⟩) ea_nilR) ?_
  rintro u v H1 x1 ⟨a, ws, e, h, r⟩ ⟨k, ⟨k1, k2⟩, hk⟩ Q1 q1
  have len := all2_len r
  obtain ⟨j, rfl⟩ : ∃ j : Nat, k = (j : Int) := ⟨k.toNat, by omega⟩
  have hk2 : j < ws.length := by omega
  obtain ⟨R, hR', hv⟩ := all2_get r (List.getElem?_eq_getElem hk2)
  exact ⟨a, ws, (j : Int), ws[j], e, hk, sq_of h, atI_nat (List.getElem?_eq_getElem hk2), q1 _ H1 (Ex.refl _) ⟨R, List.mem_of_getElem? hR', hv⟩⟩

abbrev p_law_web (K : PySem.W.Frag) : Sp := xsp K (fun _ : Unit => [I 5]) (fun _ => True) (fun _ => XR WebOk wR)
theorem sc_law_web : FnScope ["_law_row", "_law_most", "_law_many", "_law_way", "_law_thin", "_law_arrows", "_law_k", "_law_j"] ["_law_row", "_law_most"] (defScope (top 38)) := ⟨rfl, rfl, rfl, by decide +kernel, rfl, by decide +kernel, by decide +kernel⟩
abbrev D_law_web (P : Program) (w : World) (K : PySem.W.Frag) (mg : Str → Option Value) (base : Heap) : Prop := Def P w K mg base "_law_web" 3 ["_law_row", "_law_most"] (p_law_web K)
theorem d_law_web (R : Raw K mg "_law_web" (top 38)) (T : Names mg) (d_law_taken : D_law_taken P w K mg base) (d_law_pick : D_law_pick P w K mg base) : D_law_web P w K mg base := by
  refine Def.xn (k := 2) R sc_law_web (fun _ _ _ _ _ _ us hl => match us, hl with | [_, _], _ => rfl) (fun _ => rfl) fun f cdv A outer s H0 E hr => ⟨_, (pss_cons (ps_par (i := 2) (j := 3) (by rfl) sc_law_web.nd rfl rfl (by decide) rfl rfl (pa_cons (pe_op op_add pe_int (pe_def d_law_taken (hr.mono (by decide)) rfl (pa_cons (pv 0) (pa_cons (pv 1) pa_nil)))) (pa_cons (pe_def d_law_taken (hr.mono (by decide)) rfl (pa_cons (pv 0) (pa_cons pe_int pa_nil))) pa_nil)) (by rfl))
      (pss_cons (ps_par (i := 4) (j := 5) (by rfl) sc_law_web.nd rfl rfl (by decide) rfl rfl (pa_cons (pe_def d_law_pick (hr.mono (by decide)) rfl (pa_cons (pv 0) (pa_cons (pe_lst (pa_cons pe_int (pa_cons pe_int (pa_cons pe_int pa_nil)))) pa_nil))) (pa_cons (pe_lst pa_nil) pa_nil)) (by rfl))
      (pss_cons (ps_for PassesOwn.never rfl (pi_range1 (by rfl) T.range (pa_cons (pv 2) pa_nil)) (pg_name (i := 6) sc_law_web.nd rfl (Or.inl rfl))
        (pss_one (ps_for PassesOwn.never rfl (pi_range1 (by rfl) T.range (pa_cons (pv 2) pa_nil)) (pg_name (i := 7) sc_law_web.nd rfl (Or.inl rfl))
          (pss_one (ps_if (PW.pt (pw_and (pt_cmpR op_ne (pv 6) (pv 7) (nomark _)) (pw_and1 (PW.pt (pw_or (PW.pt (pw_and (pt_cmpR op_lt (pv 3) pe_int (nomark _)) (pw_and1 (pt_cmpR op_eq (pe_def d_law_taken (hr.mono (by decide)) rfl (pa_cons (pv 0) (pa_cons (pv 4) pa_nil))) pe_int (nomark _))))) (pw_or1 (PW.pt (pw_and (pt_cmpR op_eq (pv 3) pe_int (nomark _)) (pw_and (pt_cmpR op_lt (pv 6) (pv 7) (nomark _)) (pw_and1 (pt_cmpR op_eq (pe_def d_law_taken (hr.mono (by decide)) rfl (pa_cons (pv 0) (pa_cons pe_int pa_nil))) pe_int (nomark _))))))))))))
            (pss_one (ps_expr (pe_bm PySem.F.plainAttrs_list PySem.F.slot_list_append PySem.F.type_list_append mt_append (pv 5) (pa_cons (pe_tup (pa_cons (pv 6) (pa_cons (pv 7) pa_nil))) pa_nil)))) pss_nil)))))
      (pss_cons (ps_if (pt_cmpR op_gt (pv 3) pe_int (nomark _))
        (pss_one (ps_set (i := 5) sc_law_web.nd rfl (Or.inl rfl) (pe_op op_cat (pe_lc (own := [("_law_k", 6)]) rfl sc_law_web.nd (pi_range1 (by rfl) T.range (pa_cons (pe_op op_sub (pv 2) pe_int) pa_nil)) (blkOk_by (by kernel_rfl)) (fun _ _ _ _ _ => (pg_name (i := 6) sc_law_web.nd rfl (Or.inl rfl))) (fun _ _ _ _ _ => pts_nil) (fun _ _ _ _ _ => (pe_tup (pa_cons (pv 6) (pa_cons (pe_op op_add (pv 6) pe_int) pa_nil))))) (pe_ifExp (PW.pt (pw_and (pt_cmpR op_eq (pv 3) pe_int (nomark _)) (pw_and1 (pt_cmpR op_gt (pv 2) pe_int (nomark _))))) (pe_lst (pa_cons (pe_tup (pa_cons (pe_op op_sub (pv 2) pe_int) (pa_cons pe_int pa_nil))) pa_nil)) (pe_lst pa_nil))))) pss_nil)
      (pss_one (ps_ret (pe_tup (pa_cons (pv 2) (pa_cons (pe_callTy (call_tuple' K rfl) (by rfl) T.tuple boot_tuple (pa_cons (pe_callB (cr_sortedT rfl) (by rfl) T.sorted boot_sorted (pa_cons (pe_callTy (cr_setOfT rfl (un64 hr)) (by rfl) T.set boot_set (pa_cons (pv 5) pa_nil)) pa_nil)) pa_nil)) pa_nil))))))))), ?_⟩
  rintro ⟨⟩ ρ vs H Q _ hR r q
  obtain ⟨b, rfl, hb⟩ := vs1 r
  cases (show b = V.int 5 from hb)
  have tk : ∀ {σ : L2.St} {H : Hp} (n : Nat) {E : XK} {te : TE}, 1 ≤ n → n ≤ 1000 → σ[0]? = some (some (.ref ρ.r)) → (∀ H1, Xr K ρ H H1 → EvR te σ H1 (I (n : Int))) → EvX K ρ (tCall (p_law_taken K) [] E (tCons (tVar 0) (tCons te tNil))) σ H (XR (fun k : Int => 0 ≤ k ∧ k < (n : Nat)) I) := fun n _ _ h1 h2 h3 h4 => ex_def n ⟨h1, h2⟩ h3 fun H1 x1 => ea_consR (h4 H1 x1) ea_nilR
  refine qx_par hR (R := XR (fun k : Int => 1 ≤ k ∧ k ≤ 5) I) (ex_op (R := I 1) (ex_of fun H1 _ => er_c) (tk 5 (by omega) (by omega) rfl fun H1 _ => er_var rfl rfl) ?_) (tk 6 (by omega) (by omega) rfl fun H1 _ => er_c) fun u v H1 x1 ⟨m, hm, eu⟩ ⟨way, _, ev⟩ => ?_
  · rintro x y H1 x1 rx ⟨k, ⟨k1, k2⟩, ry⟩ Q1 q1
    exact ⟨1, k, rx, ry, q1 _ H1 (Ex.refl _) ⟨1 + k, ⟨by omega, by omega⟩, rfl⟩⟩
  cases (show u = V.int m from eu)
  cases (show v = V.int way from ev)
  obtain ⟨m, rfl⟩ : ∃ n : Nat, m = (n : Int) := ⟨m.toNat, by omega⟩
  have hm1 : 1 ≤ m := by omega
  have hm2 : m ≤ 5 := by omega
  have hR1 := x1.1
  refine ex_def (H := H1) (K := K) (ρ := ρ) (arg := fun Rs : List Rep => [LstOf Rs]) (pre := fun Rs => 1 ≤ Rs.length ∧ Rs.length ≤ 1000 ∧ RM (LstOf Rs)) (res := fun Rs => XR (fun R => R ∈ Rs) (fun R => R)) [I 2, I 3, I 5] ⟨by simp, by simp, rm_ints (ns := [2, 3, 5])⟩ rfl (fun H1 x1 => ea_consR (er_lst (ea_consR er_c (ea_consR er_c (ea_consR er_c ea_nilR))) (by simp)) ea_nilR) H1 (Xr.refl hR1) _ fun th H2 x2 ⟨T, hT, ht⟩ => ?_
  obtain ⟨thin, ht1, ht2, rfl⟩ : ∃ n : Nat, 1 ≤ n ∧ n ≤ 1000 ∧ th = V.int (n : Int) := by
    simp only [List.mem_cons, List.not_mem_nil, or_false] at hT
    rcases hT with rfl | rfl | rfl
    · exact ⟨2, by omega, by omega, ht⟩
    · exact ⟨3, by omega, by omega, ht⟩
    · exact ⟨5, by omega, by omega, ht⟩
  refine ⟨sz_of (by simp), fun l hl => ⟨_, _, rfl, ?_⟩⟩
  have x02 := x1.trans x2
  have hl0 : H l = none := Xr.back hR x02 hl
  have x03 : Xr K ρ H (L2.upd H2 l (.lst [])) := Xr.mut hR x02 hl0
  have nl : l ≠ ρ.r := hR.ne0 hl0
  -- the loops
  let Inv : Nat → L2.St → Hp → Prop := fun n σ' H' => ∃ o1 o2, σ' = [some (.ref ρ.r), some (.int 5), some (.int (m : Int)), some (.int way), some (.int (thin : Int)), some (.ref l), o1, o2] ∧ Xr K ρ H H' ∧ ∃ vs ps, H' l = some (.lst vs) ∧ All2 (fun p v => (Pt p).p v H') ps vs ∧ ps.length ≤ n ∧ ∀ p ∈ ps, arrowOk m p
  refine q_forR1 (n := (m : Int)) (ea_cons (ev_var rfl) ea_nil) (by omega) (fun i σ' H' => Inv (i * m) σ' H') (fun H3 e3 => ⟨_, _, rfl, x03.exr e3, [], [], e3 _ _ upd_same, .nil, by simp, fun p hp => by cases hp⟩) ?_ ?_
  · rintro i σ' H' hi ⟨o1, o2, rfl, x4, vs, ps, h1, h2, h3, h4⟩
    refine s_forR1 (n := (m : Int)) (ea_cons (ev_var rfl) ea_nil) (by omega) (fun j σ' H' => ∃ o2, σ' = [some (.ref ρ.r), some (.int 5), some (.int (m : Int)), some (.int way), some (.int (thin : Int)), some (.ref l), some (.int (i : Int)), o2] ∧ Inv (i * m + j) σ' H') (fun H3 e3 => ⟨_, rfl, _, _, rfl, x4.exr e3, vs, ps, e3 _ _ h1, all2_up e3 h2, by omega, h4⟩) ?_ ?_
    · rintro j σ' H' hj ⟨o2, rfl, _, _, _, x5, vs, ps, h1, h2, h3, h4⟩
      by_cases hij : (i : Int) = (j : Int)
      · refine s_when (b := false) (et_is (et_and (b := false) (et_of (er_neI (er_var (R := I (i : Int)) rfl rfl) (er_var (R := I (j : Int)) rfl rfl))) fun z => by rw [decide_eq_true hij] at z; cases z) (by simp)) (fun h => by cases h) fun _ H6 e6 => ⟨_, rfl, _, _, rfl, x5.exr e6, vs, ps, e6 _ _ h1, all2_up e6 h2, by omega, h4⟩
      refine sx_when x5.1 (tn_andL (fun H6 _ => et_of (er_neI (er_var (R := I (i : Int)) rfl rfl) (er_var (R := I (j : Int)) rfl rfl))) fun _ => tn_or (tn_and (tn_of fun H6 _ => et_of (er_int2 (g := fun i j => .bl (decide (i < j))) (er_var (R := I way) rfl rfl) er_c)) (tn_eq0 (tk thin ht1 ht2 rfl fun H6 _ => er_var rfl rfl)))
        (tn_and (tn_of fun H6 _ => et_of (er_eqI (er_var (R := I way) rfl rfl) er_c)) (tn_and (tn_of fun H6 _ => et_of (er_int2 (g := fun i j => .bl (decide (i < j))) (er_var (R := I (i : Int)) rfl rfl) (er_var (R := I (j : Int)) rfl rfl))) (tn_eq0 (tk 2 (by omega) (by omega) rfl fun H6 _ => er_c))))) (fun H6 x6 => ?_) fun H6 x6 => ⟨_, rfl, _, _, rfl, x5.trans x6, vs, ps, x6.2 _ _ nl h1, all2_t (Xr.tt x5.1 x6) h2, by omega, h4⟩
      have h1' := x6.2 _ _ nl h1
      have len := all2_len h2
      have small : i * m + j ≤ 30 := by
        have : i * m ≤ 4 * 5 := Nat.mul_le_mul (by omega) (by omega)
        omega
      refine ⟨_, rfl, Or.inl ⟨rfl, vs, sq_of h1'⟩, ?_⟩
      refine er_tup (Rs := [I (i : Int), I (j : Int)]) (ea_consR (er_var rfl rfl) (ea_consR (er_var rfl rfl) ea_nilR)) (by simp) H6 (Ex.refl _) _ fun t H7 e7 ht => ?_
      have x7 := (x5.trans x6).exr e7
      have up : ExT H7 (L2.upd H7 l (.lst (vs ++ [t]))) := ExT.upd (e7 _ _ h1') fun xs z => nomatch z
      exact ⟨l, vs, t, rfl, rfl, e7 _ _ h1', sz_lt (by omega), _, rfl, _, _, rfl, Xr.mut hR x7 hl0, vs ++ [t], ps ++ [((i : Int), (j : Int))], upd_same, all2_snoc (all2_t ((Xr.tt x5.1 (x6.exr e7)).trans up) h2) (TM.t up (tupOf_ints (ns := [(i : Int), (j : Int)]) ht)), by simp; omega, fun p hp => by
        rcases List.mem_append.mp hp with hp | hp
        · exact h4 p hp
        · rw [List.mem_singleton.mp hp]
          exact ⟨⟨by show (0:Int) ≤ i; omega, hi⟩, ⟨by show (0:Int) ≤ j; omega, hj⟩, hij⟩⟩
    · rintro σ' H' ⟨o2, rfl, h⟩
      rw [Int.toNat_natCast] at h
      rw [Nat.succ_mul]
      exact h
  rintro σ' H' ⟨o1, o2, rfl, x4, vs, ps, h1, h2, h3, h4⟩
  rw [Int.toNat_natCast] at h3
  have small : ps.length ≤ 30 := by
    have : m * m ≤ 5 * 5 := Nat.mul_le_mul hm2 hm2
    omega
  refine q_ifSet (i := 5) (R := XR (fun ps : List (Int × Int) => ps.length ≤ 30 ∧ ∀ p ∈ ps, arrowOk m p) (LR Pt)) (v0 := .ref l) (et_of (er_int2 (g := fun i j => .bl (decide (j < i))) (er_var (R := I way) rfl rfl) er_c)) (fun _ H5 e5 => ?_) rfl ⟨ps, ⟨small, h4⟩, l, vs, rfl, h1, h2⟩ fun v H5 e5 ⟨ps, ⟨hp1, hp2⟩, hv⟩ => ?_
  · have second : EvR (tIf (tAnd (tTest (tOp rEq (tVar 3) (tC (.int 5)))) (tTest (tOp (rI0 fun i j => .bl (decide (j < i))) (tVar 2) (tC (.int 1))))) (tLst (tCons (tTup (tCons (tOp (rI0 fun i j => .int (i - j)) (tVar 2) (tC (.int 1))) (tCons (tC (.int 0)) tNil))) tNil)) (tLst tNil)) [some (.ref ρ.r), some (.int 5), some (.int (m : Int)), some (.int way), some (.int (thin : Int)), some (.ref l), o1, o2] H5 (LR Pt (if decide (way = 5) && decide ((1 : Int) < (m : Int)) then [((m : Int) - 1, 0)] else [])) := by
      refine er_if (b := decide (way = 5) && decide ((1 : Int) < (m : Int))) (et_and (et_of (er_eqI (er_var (R := I way) rfl rfl) er_c)) fun _ => et_of (er_int2 (g := fun i j => .bl (decide (j < i))) (er_var (R := I (m : Int)) rfl rfl) er_c)) (fun h => ?_) fun h => ?_
      · rw [if_pos h]
        refine (er_lst (Rs := [Pt ((m : Int) - 1, 0)]) (ea_consR ((er_tup (ea_consR (er_int2 (g := fun i j => .int (i - j)) (er_var (R := I (m : Int)) rfl rfl) er_c) (ea_consR er_c ea_nilR)) (by simp)).to fun v H _ r => tupOf_ints (ns := [(m : Int) - 1, 0]) r) ea_nilR) (by simp)).to fun v H _ r => (LR_LstOf (R := Pt) (xs := [((m : Int) - 1, 0)])).mp r
      · rw [h, if_neg (by simp)]
        exact (er_lst ea_nilR (by simp)).to fun v H _ r => (LR_LstOf (R := Pt) (xs := [])).mp r
    refine (er_catL (er_lcN (fun _ => true) (fun k => (k, k + 1)) Pt (ei_rng (n := m - 1) (by omega) (ea_consR (er_I (er_int2 (g := fun i j => .int (i - j)) (er_var (R := I (m : Int)) rfl rfl) er_c) (by omega)) ea_nilR)) (by rw [rng_len]; omega) (fun _ => rfl) (fun k hk v H1 e1 rv => et_yes) fun k hk v H1 e1 rv _ => (er_tup (ea_consR (er_var rfl rv) (ea_consR (er_int2 (i := k) (j := 1) (g := fun i j => .int (i + j)) (er_var rfl rv) er_c) ea_nilR)) (by simp)).to fun v H _ r => tupOf_ints (ns := [k, k + 1]) r) second ?_).to fun v H _ r => ⟨_, ⟨?_, ?_⟩, r⟩
    · rw [filter_yes, List.length_map, rng_len]
      by_cases h : (decide (way = 5) && decide ((1 : Int) < (m : Int))) = true
      · rw [if_pos h]; show m - 1 + 1 ≤ _; omega
      · rw [if_neg h]; show m - 1 + 0 ≤ _; omega
    · rw [filter_yes, List.length_append, List.length_map, rng_len]
      by_cases h : (decide (way = 5) && decide ((1 : Int) < (m : Int))) = true
      · rw [if_pos h]; show m - 1 + 1 ≤ _; omega
      · rw [if_neg h]; show m - 1 + 0 ≤ _; omega
    · intro p hp
      rw [filter_yes] at hp
      rcases List.mem_append.mp hp with hp | hp
      · obtain ⟨k, hk, rfl⟩ := List.mem_map.mp hp
        have := mem_rng.mp hk
        exact ⟨⟨this.1, by show k < (m : Int); omega⟩, ⟨by show 0 ≤ k + 1; omega, by show k + 1 < (m : Int); omega⟩, by show k ≠ k + 1; omega⟩
      · by_cases h : (decide (way = 5) && decide ((1 : Int) < (m : Int))) = true
        · rw [if_pos h] at hp
          rw [List.mem_singleton.mp hp]
          have : (1 : Int) < (m : Int) := by
            rw [Bool.and_eq_true] at h
            exact of_decide_eq_true h.2
          exact ⟨⟨by show 0 ≤ (m : Int) - 1; omega, by show (m : Int) - 1 < m; omega⟩, ⟨Int.le_refl _, by show (0 : Int) < m; omega⟩, by show (m : Int) - 1 ≠ 0; omega⟩
        · rw [if_neg h] at hp; cases hp
  · refine sr_ret ((er_tup (ea_consR (er_var (R := I (m : Int)) rfl rfl) (ea_consR (er_tupOfXR (er_sortSetP (er_var rfl hv) (by omega) fun p hp => by
      have := hp2 p hp
      obtain ⟨⟨a1, a2⟩, ⟨b1, b2⟩, _⟩ := this
      exact ⟨⟨a1, by omega⟩, b1, by omega⟩)) ea_nilR)) (by simp)).to fun _ _ _ r => tupOf_pair r) fun v H6 e6 ⟨a, x, y, ev, h, hx, qs, ⟨s1, s2⟩, hy⟩ => q v H6 ((x4.exr e5).exr e6) ⟨⟨m, qs⟩, ⟨hm1, hm2, s1, fun p hp => hp2 p ((s2 p).mp hp), lex_len s1 hm2 fun p hp => ?_⟩, a, x, y, ev, h, hx, hy⟩
    have := hp2 p ((s2 p).mp hp)
    exact ⟨this.1, this.2.1⟩
end
end LD
set_option Elab.async false
set_option linter.all false
set_option maxRecDepth 100000
set_option maxHeartbeats 3200000
set_option autoImplicit false
/-! a pair in a tuple of pairs -/
namespace LD
open PySem PySem.Spec PyProof.Rows L2 Evl
def rInDT (K : PySem.W.Frag) : R2 := fun x y H Q => ∃ d ds, Dp K H x d ∧ Dp K H y (.tuple ds) ∧ SeqAt.shaped d = true ∧ SeqAt.shaped (.tuple ds) = true ∧ Q (.bl (ds.any fun z => PyData.eqv z d)) H
theorem room_in_tup {X : Cx} {d : PyData} {ds : List PyData} (hd : SeqAt.shaped d = true) (hu : X.A.units + 65 < cLine) : X.A.units + 1 + min (PyData.depthAll ds) d.depth < cLine := by
  have : d.depth ≤ 64 := by
    have h : (d.canLay0 && decide (d.depth ≤ 64)) = true := hd
    rw [Bool.and_eq_true] at h
    exact of_decide_eq_true h.2
  have := Nat.min_le_right (PyData.depthAll ds) d.depth
  omega
theorem op_inDT {X : Cx} (hu : X.A.units + 65 < cLine) : OpR X (compareOp .In) (rInDT X.K) := by
  intro pins s σ H x y v u Q I rx ry h
  obtain ⟨d, ds, hd, he, sd, se, q⟩ := h
  obtain ⟨as, r1⟩ := Dp.reads I d x v hd rx
  obtain ⟨bs, r2⟩ := Dp.reads I (.tuple ds) y u he ry
  exact SeqAt.in_tuple_reads r2 r1 (SeqAt.canLay_of_shaped se) (SeqAt.canLay_of_shaped sd) (room_in_tup sd hu) ⟨.bl _, H, I, rfl, q⟩
theorem op_inDT' (K) {X : Cx} (h : X.K = K) (u : X.A.units + 65 < cLine) : OpR X (compareOp .In) (rInDT K) := by subst h; exact op_inDT u
def dP (p : Int × Int) : PyData := dT [p.1, p.2]
theorem lay_ps : ∀ A : List (Int × Int), PyData.canLayAll0 (A.map dP) = true
  | [] => by simp [PyData.canLayAll0]
  | s :: ss => by
    have := dT_lay [s.1, s.2]
    simp only [List.map_cons, PyData.canLayAll0, dP, this, Bool.true_and]
    exact lay_ps ss
theorem depth_ps : ∀ A : List (Int × Int), PyData.depthAll (A.map dP) ≤ 2
  | [] => by simp [PyData.depthAll]
  | s :: ss => by
    have h := depth_ps ss
    have h2 := dT_depth [s.1, s.2]
    simp only [List.map_cons, PyData.depthAll, dP] at *
    omega
theorem dTP_shaped (A : List (Int × Int)) : SeqAt.shaped (.tuple (A.map dP)) = true := shaped_of (by simp only [PyData.canLay0]; exact lay_ps A) (by
  have h := depth_ps A
  simp only [PyData.depth]
  omega)
section
variable {K : PySem.W.Frag} {σ : L2.St} {H H' : Hp} {ta tb tc te : TE}
theorem dp_TPt {A : List (Int × Int)} {v : V} (h : (TR Pt A).p v H) : Dp K H v (.tuple (A.map dP)) := by
  obtain ⟨a, vs, rfl, h, r⟩ := h
  have key : ∀ {A : List (Int × Int)} {vs : List V}, All2 (fun p v => (Pt p).p v H) A vs → DpAll K H vs (A.map dP) := by
    intro A vs r
    induction r with
    | nil => exact .nil
    | cons h _ ih => exact .cons (dp_IT h) ih
  exact .tup (st_of h) (key r)
theorem er_inP {p : Int × Int} {A : List (Int × Int)} (ha : EvR ta σ H (Pt p)) (hb : EvR tb σ H (TR Pt A)) : EvR (tOp (rInDT K) ta tb) σ H (B (decide (p ∈ A))) :=
  er_op ha hb fun _ _ H1 _ r s Q q => ⟨dP p, A.map dP, dp_IT r, dp_TPt s, dT_shaped _, dTP_shaped A, q _ H1 (Ex.refl _) (by
    show V.bl _ = V.bl _
    congr 1
    rw [Bool.eq_iff_iff, List.any_eq_true, decide_eq_true_iff]
    constructor
    · rintro ⟨d, hd, e⟩
      obtain ⟨z, hz, rfl⟩ := List.mem_map.mp hd
      rw [dP, dP, eqv_dT, decide_eq_true_iff] at e
      have : z = p := by
        cases z; cases p
        simp at e
        simp [e]
      exact this ▸ hz
    · intro h
      exact ⟨dP p, List.mem_map.mpr ⟨p, h, rfl⟩, by rw [dP, eqv_dT]; simp⟩)⟩
end
theorem all2_perm {α β : Type} {F : α → β → Prop} : ∀ {ys vs : List β}, ys.Perm vs → ∀ {ss : List α}, All2 F ss vs → ∃ ms : List α, ms.Perm ss ∧ All2 F ms ys := by
  intro ys vs pm
  induction pm with
  | nil => intro ss r; cases r; exact ⟨[], .refl _, .nil⟩
  | cons x _ ih =>
    intro ss r
    cases r with
    | cons h1 r =>
      obtain ⟨ms, p1, r1⟩ := ih r
      exact ⟨_ :: ms, p1.cons _, .cons h1 r1⟩
  | swap x y l =>
    intro ss r
    cases r with
    | cons h1 r =>
      cases r with
      | cons h2 r => exact ⟨_ :: _ :: _, .swap _ _ _, .cons h2 (.cons h1 r)⟩
  | trans _ _ ih1 ih2 =>
    intro ss r
    obtain ⟨ms, p2, r2⟩ := ih2 r
    obtain ⟨ms', p1, r1⟩ := ih1 r2
    exact ⟨ms', p1.trans p2, r1⟩
/-! ### a value that came up just now -/
def EvN (te : TE) (σ : L2.St) (H : Hp) (R : Rep) : Prop := ∀ H1, Ex H H1 → ∀ Q : VK, (∀ a H2, H1 a = none → Ex H1 H2 → R.p (.ref a) H2 → Q (.ref a) H2) → te σ H1 Q
def nsp {α : Type} (arg : α → List Rep) (pre : α → Prop) (res : α → Rep) : Sp := fun vs H Q _ => ∃ x : α, pre x ∧ All2 (fun (R : Rep) v => R.p v H) (arg x) vs ∧ ∀ a H', H a = none → Ex H H' → (res x).p (.ref a) H' → Q (.ref a) H'
section
variable {K : PySem.W.Frag} {σ : L2.St} {H H' : Hp} {ta tb tc te : TE} {t u : TT} {R S T : Rep} {D : Ends}
theorem EvN.r (h : EvN te σ H R) : EvR te σ H R := fun H1 e Q q => h H1 e Q fun a H2 _ e2 r => q _ H2 e2 r
theorem EvN.to (h : EvN te σ H R) (f : ∀ v H1, Ex H H1 → R.p v H1 → S.p v H1) : EvN te σ H S := fun H1 e Q q => h H1 e Q fun a H2 n e2 r => q a H2 n e2 (f _ H2 (e.trans e2) r)
theorem en_def {α : Type} {arg : α → List Rep} {pre : α → Prop} {res : α → Rep} {tA : TA} {E : XK} (x : α) (hp : pre x) (h : EvAs tA σ H (arg x)) : EvN (tCall (nsp arg pre res) [] E tA) σ H (res x) := fun H1 e Q q =>
  h H1 e _ fun vs H2 e2 rs => ⟨x, hp, by rw [List.append_nil]; exact rs, fun a H3 n e3 r => q a H3 (fresh_back e2 n) (e2.trans e3) r⟩
theorem sn_ret (h : EvN te σ H R) (k : ∀ a H1, H a = none → Ex H H1 → R.p (.ref a) H1 → D.rt (.ref a) H1) : tRet te D σ H := h H (Ex.refl H) _ k
theorem en_sortAny {ss : List (List Int)} (ha : EvR ta σ H (LR IT ss)) : EvN (tCB (rSortAny K) (tCons ta tNil)) σ H (XR (fun ms => ms.Perm ss) (LR IT)) := fun H1 e Q q => by
  refine ha H1 e _ fun x H2 e2 ⟨a, vs, ev, h, r⟩ => ⟨a, vs, by rw [ev], sq_of h, fun v hv => by
    obtain ⟨i, hi⟩ := List.getElem?_of_mem hv
    obtain ⟨s, _, b, e, hb⟩ := all2_get r hi
    exact ⟨s, b, e, st_of hb⟩, fun ys p pm hp => ?_⟩
  obtain ⟨ms, pm', r'⟩ := all2_perm pm r
  exact q p _ (fresh_back e2 hp) (e2.trans (Ex.new hp)) ⟨ms, pm', p, ys, rfl, upd_same, all2_up (Ex.new hp) r'⟩
theorem en_lc {α β : Type} {wi : TI} {g : TG} {vs : List Nat} {xs : List α} {R : α → Rep} (f : α → Bool) (h : α → β) (S : β → Rep) [∀ y, TM (S y)] (hi : EvI wi σ H xs R) (hz : xs.length ≤ 40000)
    (turn : ∀ x ∈ xs, ∀ v H1, Ex H H1 → (R x).p v H1 → ∀ Qg : L2.St → Hp → Prop, (∀ σ2 H2, Ex H1 H2 → wipe σ2 vs = wipe σ vs → EvT t σ2 H2 (f x) → (f x = true → EvR te σ2 H2 (S (h x))) → Qg σ2 H2) → g v (wipe σ vs) H1 Qg) :
    EvN (tLc wi g t te vs) σ H (LR S ((xs.filter f).map h)) := fun H1 e Q q => hi H1 e _ fun J H2 e2 ⟨Y, w, hY⟩ D hD => by
  have hH2 := e.trans e2
  refine lc_it w (Y := Y) (fun i H' => ∃ ys, Ex H2 H' ∧ H' D = some (.lst ys) ∧ All2 (fun y v => (S y).p v H') (((xs.take i).filter f).map h) ys) ?_ (fun i H' _ p => let ⟨_, p, _⟩ := p; p) ?_ ?_
  · refine ⟨[], Ex.new hD, upd_same, ?_⟩
    rw [List.take_zero]; exact .nil
  · rintro i v H3 H4 hlt ⟨ys, p1, p2, p3⟩ y
    obtain ⟨e4, x, hx, rv⟩ := hY i H3 v H4 hlt p1 y
    have hm : x ∈ xs := List.mem_of_getElem? hx
    have e24 : Ex H2 H4 := p1.trans e4
    refine turn x hm v H4 (hH2.trans e24) rv _ fun σ2 H5 e5 hw ht he => ⟨hw, ?_⟩
    have e25 := e24.trans e5
    have D5 : H5 D = some (.lst ys) := e5 D _ (e4 D _ p2)
    have small : ys.length ≤ xs.length := by
      rw [← all2_len p3, List.length_map]
      exact Nat.le_trans (List.length_filter_le _ _) (by rw [List.length_take]; omega)
    refine ht H5 (Ex.refl _) _ fun H6 e6 => ?_
    have e26 := e25.trans e6
    cases hf : f x with
    | true =>
      refine iteT (he hf H6 e6 _ fun z H7 e7 hz' => ⟨ys, e7 D _ (e6 D _ D5), sz_lt (by omega), ys ++ [z], Ex.mut (e26.trans e7) hD, upd_same, ?_⟩)
      rw [take_filter_map hx, if_pos hf]
      have D7 : H7 D = some (.lst ys) := e7 D _ (e6 D _ D5)
      have up : ExT H7 (L2.upd H7 D (.lst (ys ++ [z]))) := ExT.upd D7 fun xs q => nomatch q
      exact all2_snoc (all2_t ((ex_tt (e4.trans (e5.trans (e6.trans e7)))).trans up) p3) (TM.t up hz')
    | false =>
      refine iteF ⟨ys, e26, e6 D _ D5, ?_⟩
      rw [take_filter_map hx, hf]
      simp only [Bool.false_eq_true, if_false, List.append_nil]
      exact all2_up (e4.trans (e5.trans e6)) p3
  · rintro H3 ⟨ys, p1, p2, p3⟩
    rw [List.take_length] at p3
    exact q D H3 (fresh_back e2 hD) (e2.trans p1) ⟨D, ys, rfl, p2, p3⟩
theorem en_lcN {α β : Type} {wi : TI} {j : Nat} {vs : List Nat} {xs : List α} {R : α → Rep} (f : α → Bool) (h : α → β) (S : β → Rep) [∀ y, TM (S y)] (hi : EvI wi σ H xs R) (hz : xs.length ≤ 40000) (hw : ∀ v, wipe ((wipe σ vs).set j (some v)) vs = wipe σ vs)
    (ht : ∀ x ∈ xs, ∀ v H1, Ex H H1 → (R x).p v H1 → EvT t ((wipe σ vs).set j (some v)) H1 (f x)) (he : ∀ x ∈ xs, ∀ v H1, Ex H H1 → (R x).p v H1 → f x = true → EvR te ((wipe σ vs).set j (some v)) H1 (S (h x))) :
    EvN (tLc wi (gName j) t te vs) σ H (LR S ((xs.filter f).map h)) :=
  en_lc f h S hi hz fun x hx v H1 e r Qg k => k _ H1 (Ex.refl _) (hw v) (ht x hx v H1 e r) (he x hx v H1 e r)
end
section
variable {P : Program} {w : World} {K : PySem.W.Frag} {mg : Str → Option Value} {base : Heap}
theorem Def.nn {α : Type} {arg : α → List Rep} {pre : α → Prop} {res : α → Rep} {name : Str} {st : Stmt} {N ps : List Str} {k : Nat} (R : Raw K mg name st) (S : FnScope N ps (defScope st))
    (hb : ∀ (kV doc pm : Value) (an : Option Addr) (cdv ct : Value) (us : List Value), us.length = ps.length → bindArgs (PySem.W.fnOf name name (defArgs st) (defBody st) (defScope st) .none kV doc pm an cdv ct) ⟨us, []⟩ = pure (ps.zip us))
    (len : ∀ x, (arg x).length = ps.length)
    (body : ∀ (f : Addr) (cdv : Value) (A : Around) (outer : List Env) (s : Shared) (H0 : Hp) (E : XK), Room k (A.deeper (envOfC name (defScope st) s.heap.objs.size f cdv)) →
      ∃ t, PSs (cxOf CX0 P w K mg base N name (defScope st) f cdv A outer s H0 E).nox (defBody st) t ∧
        ∀ (x : α) (vs : List V) (H : Hp) (Q : VK), pre x → All2 (fun (R : Rep) v => R.p v H) (arg x) vs → (∀ a H', H a = none → Ex H H' → (res x).p (.ref a) H' → Q (.ref a) H') → t { nx := fun _ H' => Q .non H', rt := Q } (start N vs) H) : Def P w K mg base name (k + 1) ps (nsp arg pre res) :=
  Def.mk R S hb (fun vs H Q E ⟨x, _, r, _⟩ => (all2_len r).symm.trans (len x)) fun f cdv A outer s H vs Q E hr ⟨x, hp, r, q⟩ => by
    obtain ⟨t, h1, h2⟩ := body f cdv A outer s H E hr
    exact ⟨t, h1, h2 x vs H Q hp r q⟩
end
end LD
set_option Elab.async false
set_option linter.all false
set_option maxRecDepth 100000
set_option maxHeartbeats 8000000
set_option autoImplicit false
/-! the law's own steps -/
namespace LD
open PySem PySem.Spec PyProof.Rows L2 Evl
def toggle (m : Nat) (S L : List Int) : List Int := (rng m).filter fun k => decide (k ∈ S) != decide (k ∈ L)
theorem mem_toggle {m : Nat} {S L : List Int} {k : Int} : k ∈ toggle m S L ↔ (0 ≤ k ∧ k < (m : Int)) ∧ (k ∈ S ↔ ¬ k ∈ L) := by
  unfold toggle
  rw [List.mem_filter, mem_rng]
  by_cases h1 : k ∈ S <;> by_cases h2 : k ∈ L <;> simp [h1, h2]
theorem toggle_asc {m : Nat} {S L : List Int} : Asc (toggle m S L) := (rng_asc m).filter _
theorem toggle_std {m : Nat} (hm : m ≤ 5) {S L : List Int} : Std m (toggle m S L) :=
  ⟨toggle_asc, fun d hd => (mem_toggle.mp hd).1, Nat.le_trans (List.length_filter_le _ _) (by rw [rng_len]; exact hm)⟩
/-- a sorted list with these members -/
theorem perm_is {ms ns xs : List Int} (pm : ms.Perm ns) (pw : ms.Pairwise (· ≤ ·)) (nd : ns.Nodup) (hx : Asc xs) (h : ∀ k, k ∈ ns ↔ k ∈ xs) : ms = xs :=
  asc_ext (le_asc pw (pm.nodup_iff.mpr nd)) hx fun k => pm.mem_iff.trans (h k)
def openL (W : Wb) (S : List Int) : List Int := (rng W.m).filter fun k => !decide (k ∈ S) && decide (S.filter (fun o => decide ((o, k) ∈ W.A)) = [])
def shutL (W : Wb) (S : List Int) : List Int := S.filter fun k => decide ((rng W.m).filter (fun j => !decide (j ∈ S) && decide ((k, j) ∈ W.A)) = [])
theorem mem_frz {W : Wb} {S : List Int} {k : Int} : frzB W S k = true ↔ ∃ p ∈ W.A, (p.1 ∈ S ∧ p.2 ∉ S) ∧ (p.1 = k ∨ p.2 = k) := by
  unfold frzB
  rw [List.any_eq_true]
  simp
theorem mem_open {W : Wb} {S : List Int} {k : Int} : k ∈ openL W S ↔ k ∈ loose W S ∧ k ∉ S := by
  unfold openL
  rw [List.mem_filter, mem_rng, mem_loose, Bool.and_eq_true, decide_eq_true_iff, List.filter_eq_nil_iff, Bool.eq_false_iff]
  constructor
  · rintro ⟨h1, h2, h3⟩
    have h2 : k ∉ S := by simpa using h2
    refine ⟨⟨h1, fun z => ?_⟩, h2⟩
    obtain ⟨p, hp, ⟨a, b⟩, c⟩ := mem_frz.mp z
    rcases c with c | c
    · exact h2 (c ▸ a)
    · exact h3 p.1 a (decide_eq_true (by rw [← c]; exact hp))
  · rintro ⟨⟨h1, h2⟩, h3⟩
    refine ⟨h1, by simpa using h3, fun o ho z => h2 (mem_frz.mpr ⟨_, of_decide_eq_true z, ⟨ho, h3⟩, .inr rfl⟩)⟩
theorem mem_shut {W : Wb} {S : List Int} (ok : WebOk W) (s : Std W.m S) {k : Int} : k ∈ shutL W S ↔ k ∈ loose W S ∧ k ∈ S := by
  unfold shutL
  rw [List.mem_filter, mem_loose, decide_eq_true_iff, List.filter_eq_nil_iff, Bool.eq_false_iff]
  constructor
  · rintro ⟨h1, h2⟩
    refine ⟨⟨s.ok k h1, fun z => ?_⟩, h1⟩
    obtain ⟨p, hp, ⟨a, b⟩, c⟩ := mem_frz.mp z
    rcases c with c | c
    · refine h2 p.2 (mem_rng.mpr (ok.ok p hp).2.1) ?_
      rw [Bool.and_eq_true]
      exact ⟨by simpa using b, decide_eq_true (by rw [← c]; exact hp)⟩
    · exact b (c ▸ h1)
  · rintro ⟨⟨h1, h2⟩, h3⟩
    refine ⟨h3, fun j hj z => h2 (mem_frz.mpr ?_)⟩
    rw [Bool.and_eq_true] at z
    exact ⟨_, of_decide_eq_true z.2, ⟨h3, by simpa using z.1⟩, .inl rfl⟩
theorem open_shut {W : Wb} {S ms : List Int} (ok : WebOk W) (s : Std W.m S) (pm : ms.Perm (openL W S ++ shutL W S)) (pw : ms.Pairwise (· ≤ ·)) : ms = loose W S := by
  refine perm_is pm pw ?_ (loose_asc W S) fun k => ?_
  · rw [List.nodup_append]
    refine ⟨((rng_asc _).filter _).nodup, (s.asc.filter _).nodup, fun x hx y hy e => ?_⟩
    subst e
    exact (mem_open.mp hx).2 ((mem_shut ok s).mp hy).2
  · rw [List.mem_append, mem_open, mem_shut ok s]
    by_cases h : k ∈ S <;> simp [h]
section
variable {P : Program} {w : World} {K : PySem.W.Frag} {mg : Str → Option Value} {base : Heap}
abbrev p_law_standing (K : PySem.W.Frag) : Sp := xsp K (fun W : Wb => [wR W]) WebOk (fun W => XR (Std W.m) IT)
theorem sc_law_standing : FnScope ["_law_row", "_law_web_here", "_law_way", "_law_found", "_law_turn", "_law_k", "_law_one", "_law_other"] ["_law_row", "_law_web_here"] (defScope (top 39)) := ⟨rfl, rfl, rfl, by decide +kernel, rfl, by decide +kernel, by decide +kernel⟩
abbrev D_law_standing (P : Program) (w : World) (K : PySem.W.Frag) (mg : Str → Option Value) (base : Heap) : Prop := Def P w K mg base "_law_standing" 2 ["_law_row", "_law_web_here"] (p_law_standing K)
theorem d_law_standing (R : Raw K mg "_law_standing" (top 39)) (T : Names mg) (d_law_taken : D_law_taken P w K mg base) : D_law_standing P w K mg base := by
  refine Def.xn (k := 1) R sc_law_standing (fun _ _ _ _ _ _ us hl => match us, hl with | [_, _], _ => rfl) (fun _ => rfl) fun f cdv A outer s H0 E hr => ⟨_, (pss_cons (ps_asg (pe_tup (pa_cons (pe_def d_law_taken (hr.mono (by decide)) rfl (pa_cons (pv 0) (pa_cons pe_int pa_nil))) (pa_cons (pe_lc (own := [("_law_k", 5)]) rfl sc_law_standing.nd (pi_range1 (by rfl) T.range (pa_cons (pe_ix (ix_tup' K rfl) (pv 1) pe_int (fun _ _ => rfl)) pa_nil)) (blkOk_by (by kernel_rfl)) (fun _ _ _ _ _ => (pg_name (i := 5) sc_law_standing.nd rfl (Or.inl rfl))) (fun _ _ _ _ _ => (pts_one (pt_cmpR op_eq (pe_def d_law_taken (hr.mono (by decide)) rfl (pa_cons (pv 0) (pa_cons pe_int pa_nil))) pe_int (nomark _)))) (fun _ _ _ _ _ => (pv 5))) pa_nil))) (pg_tup2 K rfl rfl (pgs_cons (pg_name (i := 2) sc_law_standing.nd rfl (Or.inl rfl)) (pgs_cons (pg_name (i := 3) sc_law_standing.nd rfl (Or.inr rfl)) pgs_nil))))
      (pss_cons (ps_if (pt_cmpR op_eq (pv 2) pe_int (nomark _))
        (pss_one (ps_set (i := 3) sc_law_standing.nd rfl (Or.inr rfl) (pe_lc (own := [("_law_k", 5)]) rfl sc_law_standing.nd (pi_list' K rfl (pv 3)) (blkOk_by (by kernel_rfl)) (fun _ _ _ _ _ => (pg_name (i := 5) sc_law_standing.nd rfl (Or.inl rfl))) (fun _ _ _ _ _ => (pts_one (pt_cmpR op_eq (pe_def d_law_taken (hr.mono (by decide)) rfl (pa_cons (pv 0) (pa_cons pe_int pa_nil))) pe_int (nomark _)))) (fun _ _ _ _ _ => (pv 5))))) pss_nil)
      (pss_cons (ps_for PassesOwn.never rfl (pi_range1 (by rfl) T.range (pa_cons (pe_ifExp (pt_cmpR op_eq (pv 2) pe_int (nomark _)) (pe_ix (ix_tup' K rfl) (pv 1) pe_int (fun _ _ => rfl)) pe_int) pa_nil)) (pg_name (i := 4) sc_law_standing.nd rfl (Or.inl rfl))
        (pss_one (ps_set (i := 3) sc_law_standing.nd rfl (Or.inr rfl) (pe_callB (cr_sortedSet' w rfl rfl) (by rfl) T.sorted boot_sorted (pa_cons (pe_callTy (cr_setI' K w rfl rfl rfl) (by rfl) T.set boot_set (pa_cons (pe_op op_cat (pv 3) (pe_lc (own := [("_law_one", 6), ("_law_other", 7)]) rfl sc_law_standing.nd (pi_tup' K rfl (pe_ix (ix_tup' K rfl) (pv 1) pe_int (fun _ _ => rfl))) (blkOk_by (by kernel_rfl)) (fun _ _ _ _ _ => (pg_tup2 K rfl rfl (pgs_cons (pg_name (i := 6) sc_law_standing.nd rfl (Or.inl rfl)) (pgs_cons (pg_name (i := 7) sc_law_standing.nd rfl (Or.inl rfl)) pgs_nil)))) (fun _ _ _ _ _ => (pts_one (pt_cmpR (op_in' K rfl) (pv 6) (pv 3) (by rfl)))) (fun _ _ _ _ _ => (pv 7)))) pa_nil)) pa_nil)))))
      (pss_one (ps_ret (pe_callTy (call_tuple' K rfl) (by rfl) T.tuple boot_tuple (pa_cons (pv 3) pa_nil))))))), ?_⟩
  rintro W ρ vs H Q ok hR r q
  obtain ⟨b, rfl, hb⟩ := vs1 r
  have lo := ok.lo
  have hi := ok.hi
  have hb : (PR (I (W.m : Int)) (TR Pt W.A)).p b H := hb
  have tk : ∀ {σ : L2.St} {H : Hp} (n : Nat) {E : XK} {te : TE}, 1 ≤ n → n ≤ 1000 → σ[0]? = some (some (.ref ρ.r)) → (∀ H1, Xr K ρ H H1 → EvR te σ H1 (I (n : Int))) → EvX K ρ (tCall (p_law_taken K) [] E (tCons (tVar 0) (tCons te tNil))) σ H (XR (fun k : Int => 0 ≤ k ∧ k < (n : Nat)) I) := fun n _ _ h1 h2 h3 h4 => ex_def n ⟨h1, h2⟩ h3 fun H1 x1 => ea_consR (h4 H1 x1) ea_nilR
  have webAt : ∀ {H1 : Hp}, Xr K ρ H H1 → (PR (I (W.m : Int)) (TR Pt W.A)).p b H1 := fun x => RM.x hR x hb
  refine qx_asg2 hR (ex_tup2 (tk 3 (by omega) (by omega) rfl fun H1 _ => er_c) (ex_lcSub (ns := rng W.m) (eix_rng (by omega) fun H1 x1 => ea_consR (er_ix0 (er_var rfl (webAt x1))) ea_nilR) (by rw [rng_len]; omega) (fun _ => rfl) (fun _ => rfl) fun v => tn_eq0 (tk 2 (by omega) (by omega) rfl fun H1 _ => er_c))) fun u v H1 x1 ⟨way, _, hu⟩ ⟨ms, hms, hv⟩ => ?_
  cases (show u = V.int way from hu)
  have sm : ms.length ≤ W.m := by have := hms.length_le; rw [rng_len] at this; exact this
  refine q_ifSetX (i := 3) (R := XR (fun ks => ks.Sublist (rng W.m)) IL) x1.1 (et_of (er_eqI (er_var (R := I way) rfl rfl) er_c)) (fun _ => (ex_lcSub (ns := ms) (eix_IL fun H2 x2 => er_var rfl (RM.x x1.1 x2 hv)) (by omega) (fun _ => rfl) (fun _ => rfl) fun v => tn_eq0 (tk 2 (by omega) (by omega) rfl fun H1 _ => er_c)).to fun v H2 _ ⟨ks, h1, h2⟩ => ⟨ks, h1.trans hms, h2⟩) rfl ⟨ms, hms, hv⟩ fun v H2 x2 ⟨ks, hks, hv⟩ => ?_
  have web2 := webAt (x1.trans x2)
  have good : Asc ks ∧ ∀ d ∈ ks, 0 ≤ d ∧ d < (W.m : Int) := ⟨List.Pairwise.sublist hks (rng_asc _), fun d hd => mem_rng.mp (hks.subset hd)⟩
  let n : Nat := if decide (way = 1) = true then W.m else 0
  have hn : n ≤ 5 := by
    show (if decide (way = 1) = true then W.m else 0) ≤ 5
    split <;> omega
  refine qr_for (R := I) (ei_rng (n := n) (by omega) (ea_consR (er_if (b := decide (way = 1)) (et_of (er_eqI (er_var (R := I way) rfl rfl) er_c)) (fun h => er_I (er_ix0 (er_var rfl web2)) (by show _ = ((if decide (way = 1) = true then W.m else 0 : Nat) : Int); rw [if_pos h])) fun h => er_I er_c (by show _ = ((if decide (way = 1) = true then W.m else 0 : Nat) : Int); rw [h]; rfl)) ea_nilR))
    (fun i σ H' => ∃ f o4 ks, σ = [some (.ref ρ.r), some b, some (.int way), some f, o4, none, none, none] ∧ (IL ks).p f H' ∧ Asc ks ∧ ∀ d ∈ ks, 0 ≤ d ∧ d < (W.m : Int)) ⟨v, _, ks, rfl, hv, good⟩ ?_ (fun i σ H H' e ⟨f, o, ks, h, r, g⟩ => ⟨f, o, ks, h, (IL ks).mono e r, g⟩) ?_
  · rintro i d u σ' H0 H' H'' hd ee0 e0 ⟨f, o4, ks, rfl, hf, g1, g2⟩ e' ru
    have web3 := (PR (I (W.m : Int)) (TR Pt W.A)).mono ((ee0.trans e0).trans e') web2
    have hf' := (IL ks).mono e' hf
    have kl := asc_len g1 g2
    have few := ok.few
    have fl : ((W.A.filter fun p => decide (p.1 ∈ ks)).map (·.2)).length ≤ 25 := by rw [List.length_map]; exact Nat.le_trans (List.length_filter_le _ _) few
    refine sr_asg (er_sortSet (er_catI (xs := ks) (ys := (W.A.filter fun p => decide (p.1 ∈ ks)).map (·.2)) (er_var rfl hf') ((er_lcP (R := fun p : Int × Int => I p.1) (R' := fun p => I p.2) (fun p => decide (p.1 ∈ ks)) (·.2) I (ei_tup (R := fun p : Int × Int => PR (I p.1) (I p.2)) ((er_ix1 (er_var rfl web3)).to fun v H _ ⟨a, vs, ev, hv, r⟩ => ⟨a, vs, ev, hv, Paired.mapP r fun p _ h => Pt_PR.mp h⟩)) (by omega) (fun _ _ => rfl)
        (fun p hp u x H4 e5 hu hx => et_of (er_inL (er_var rfl hu) (er_var rfl ((IL ks).mono e5 hf'))))
        fun p hp u x H4 e5 hu hx _ => er_var rfl hx).to fun _ _ _ r => LR_IL.mp r) (by omega)) (fun _ _ h => .inl h) (by rw [List.length_append]; omega)) fun v H1 e1 ⟨ls, ⟨h1, h2⟩, h3⟩ => ⟨(e0.trans e').trans e1, v, _, ls, rfl, h3, h1, fun d hd => ?_⟩
    rcases List.mem_append.mp ((h2 d).mp hd) with h | h
    · exact g2 d h
    · obtain ⟨p, hp, rfl⟩ := List.mem_map.mp h
      exact (ok.ok p (List.mem_filter.mp hp).1).2.1
  · rintro σ' H' e3 ⟨f, o4, ks, rfl, hf, g1, g2⟩
    exact sr_ret (er_tupOfL (er_var rfl hf)) fun v H4 e4 r => q v H4 (((x1.trans x2).exr e3).exr e4) ⟨ks, ⟨g1, g2, by have := asc_len g1 g2; omega⟩, r⟩

abbrev p_law_sets : Sp := nsp (fun ds : List Int => [IL ds]) (fun ds => ds.length ≤ 5) (fun ds => XR (fun Ls => Ls.Perm (subs ds)) (LR IT))
theorem sc_law_sets : FnScope ["_law_some", "_law_found", "_law_k", "_law_one"] ["_law_some"] (defScope (top 40)) := ⟨rfl, rfl, rfl, by decide +kernel, rfl, by decide +kernel, by decide +kernel⟩
abbrev D_law_sets (P : Program) (w : World) (K : PySem.W.Frag) (mg : Str → Option Value) (base : Heap) : Prop := Def P w K mg base "_law_sets" 1 ["_law_some"] p_law_sets
theorem d_law_sets (R : Raw K mg "_law_sets" (top 40)) (T : Names mg) : D_law_sets P w K mg base := by
  refine Def.nn (k := 0) R sc_law_sets (fun _ _ _ _ _ _ us hl => match us, hl with | [_], _ => rfl) (fun _ => rfl) fun f cdv A outer s H0 E hr => ⟨_, (pss_cons (ps_set (i := 1) sc_law_sets.nd rfl (Or.inl rfl) (pe_lst (pa_cons (pe_tup pa_nil) pa_nil)))
      (pss_cons (ps_for PassesOwn.never rfl (pi_list' K rfl (pv 0)) (pg_name (i := 2) sc_law_sets.nd rfl (Or.inr rfl))
        (pss_one (ps_set (i := 1) sc_law_sets.nd rfl (Or.inl rfl) (pe_op op_cat (pv 1) (pe_lc (own := [("_law_one", 3)]) rfl sc_law_sets.nd (pi_list' K rfl (pv 1)) (blkOk_by (by kernel_rfl)) (fun _ _ _ _ _ => (pg_name (i := 3) sc_law_sets.nd rfl (Or.inl rfl))) (fun _ _ _ _ _ => pts_nil) (fun _ _ _ _ _ => (pe_op (op_catA' K rfl) (pv 3) (pe_tup (pa_cons (pv 2) pa_nil)))))))))
      (pss_one (ps_ret (pe_callB (cr_sortAny' K rfl (un2 hr)) (by rfl) T.sorted boot_sorted (pa_cons (pv 1) pa_nil)))))), ?_⟩
  rintro ds vs H Q few r q
  obtain ⟨a, rfl, ha⟩ := vs1 r
  have few : ds.length ≤ 5 := few
  have small : ∀ i, (subs (ds.take i)).length ≤ 32 := fun i => by
    rw [len_subs, List.length_take]
    exact pow5 (by omega)
  have short : ∀ i, ∀ L ∈ subs (ds.take i), L.length ≤ 5 := fun i L hL => by
    have := (mem_subs.mp hL).length_le
    rw [List.length_take] at this
    omega
  refine qr_asg (er_lst (ea_consR (er_tup ea_nilR (by simp)) ea_nilR) (by simp)) fun f H1 e1 ⟨fa, fv, hfe, hfv, hfr⟩ => ?_
  refine qr_for (R := I) (ei_IL (er_var rfl ((IL ds).mono e1 ha))) (fun i σ H => ∃ f o1 o2, σ = [some a, some f, o1, o2] ∧ (LR IT (subs (ds.take i))).p f H) ⟨f, _, _, rfl, ?_⟩ ?_ (fun i σ H H' e ⟨f, o1, o2, h, r⟩ => ⟨f, o1, o2, h, (LR IT _).mono e r⟩) ?_
  · refine ⟨fa, fv, hfe, hfv, ?_⟩
    cases hfr with
    | cons h1 r =>
      cases r
      exact .cons (nilT h1) .nil
  · rintro i d v σ' H0 H' H'' hd ee0 e0 ⟨f, o1, o2, rfl, hf⟩ e' rv
    have hf' := (LR IT (subs (ds.take i))).mono e' hf
    refine sr_asg (er_catL (er_var rfl hf') (er_lcN (fun _ => true) (· ++ [d]) IT (ei_list (er_var rfl hf')) (by have := small i; omega) (fun _ => rfl) (fun L hL v H1 e1 rv => et_yes) fun L hL u H1 e1 ru _ => er_catT (er_var rfl ru) ((er_tup (ea_consR (er_var rfl ((I d).mono e1 rv)) ea_nilR) (by simp)).to fun v H _ r => tupOf_ints (ns := [d]) r) (by have := short i L hL; simp; omega)) ?_) fun v H1 e1 rv => ⟨(e0.trans e').trans e1, v, _, _, rfl, ?_⟩
    · have := small i
      rw [List.length_map, filter_yes]
      omega
    · rw [filter_yes] at rv
      rw [List.take_add_one, hd, Option.toList_some, subs_snoc]
      exact rv
  · rintro σ' H' e2 ⟨f, o1, o2, rfl, hf⟩
    rw [List.take_length] at hf
    exact sn_ret (en_sortAny (er_var rfl hf)) fun v H3 n3 e3 r => q v H3 (fresh_back (e1.trans e2) n3) ((e1.trans e2).trans e3) r

abbrev p_law_changed : Sp := fsp (fun x : Nat × List Int × Int => [IT x.2.1, I x.2.2]) (fun x => Std x.1 x.2.1 ∧ 0 ≤ x.2.2 ∧ x.2.2 < (x.1 : Int)) (fun x => IT (toggle x.1 x.2.1 [x.2.2]))
theorem sc_law_changed : FnScope ["_law_opened", "_law_door", "_law_k"] ["_law_opened", "_law_door"] (defScope (top 41)) := ⟨rfl, rfl, rfl, by decide +kernel, rfl, by decide +kernel, by decide +kernel⟩
abbrev D_law_changed (P : Program) (w : World) (K : PySem.W.Frag) (mg : Str → Option Value) (base : Heap) : Prop := Def P w K mg base "_law_changed" 1 ["_law_opened", "_law_door"] p_law_changed
theorem d_law_changed (R : Raw K mg "_law_changed" (top 41)) (T : Names mg) : D_law_changed P w K mg base := by
  refine Def.fn (k := 0) R sc_law_changed (fun _ _ _ _ _ _ us hl => match us, hl with | [_, _], _ => rfl) (fun _ => rfl) fun f cdv A outer s H0 E hr => ⟨_, (pss_cons (ps_if (pt_cmpR (op_in' K rfl) (pv 1) (pv 0) (by rfl))
        (pss_one (ps_ret (pe_callTy (call_tuple' K rfl) (by rfl) T.tuple boot_tuple (pa_cons (pe_lc (own := [("_law_k", 2)]) rfl sc_law_changed.nd (pi_tup' K rfl (pv 0)) (blkOk_by (by kernel_rfl)) (fun _ _ _ _ _ => (pg_name (i := 2) sc_law_changed.nd rfl (Or.inl rfl))) (fun _ _ _ _ _ => (pts_one (pt_cmpR op_ne (pv 2) (pv 1) (nomark _)))) (fun _ _ _ _ _ => (pv 2))) pa_nil)))) pss_nil)
      (pss_one (ps_ret (pe_callTy (call_tuple' K rfl) (by rfl) T.tuple boot_tuple (pa_cons (pe_callB (cr_sorted' K rfl) (by rfl) T.sorted boot_sorted (pa_cons (pe_op op_cat (pe_callTy (call_list' K rfl) (by rfl) T.list boot_list (pa_cons (pv 0) pa_nil)) (pe_lst (pa_cons (pv 1) pa_nil))) pa_nil)) pa_nil))))), ?_⟩
  rintro ⟨m, S, d⟩ vs H Q ⟨s, d1, d2⟩ r q
  obtain ⟨a, b, rfl, ha, hb⟩ := vs2 r
  have s : Std m S := s
  have ha : (IT S).p a H := ha
  have hb : (I d).p b H := hb
  have few := s.few
  refine q_when (et_of (er_inT (er_var rfl hb) (er_var rfl ha))) (fun h H1 e1 => ?_) fun h H1 e1 => ?_
  · have hd : d ∈ S := of_decide_eq_true h
    refine sr_ret (er_tupOfL (er_lcI (fun k => !decide (k = d)) (ei_IT (er_var rfl ((IT S).mono e1 ha))) (by omega) (fun _ => rfl) (fun _ => rfl) fun k hk v H2 e2 rv => et_of (er_neI (er_var rfl rv) (er_var rfl ((I d).mono (e1.trans e2) hb))))) fun v H2 e2 r => q v H2 (e1.trans e2) ?_
    have e : S.filter (fun k => !decide (k = d)) = toggle m S [d] := asc_ext (s.asc.filter _) toggle_asc fun k => by
      rw [List.mem_filter, mem_toggle]
      have := s.ok k
      by_cases h1 : k = d
      · subst h1; simp [hd]
      · by_cases h2 : k ∈ S
        · simp [h1, h2, this h2]
        · simp [h1, h2]
    show (IT (toggle m S [d])).p v H2
    rw [← e]
    exact r
  · have hd : d ∉ S := of_decide_eq_false h
    refine sr_ret (er_tupOfXL (er_sorted (er_catI (er_listOf (er_var rfl ((IT S).mono e1 ha)) fun _ _ h => .inr h) ((er_lst (ea_consR (er_var rfl ((I d).mono e1 hb)) ea_nilR) (by simp)).to fun v H _ r => lstOf_ints (ns := [d]) r) (by simp; omega)) (by simp; omega))) fun v H2 e2 ⟨ms, ⟨pm, pw⟩, r⟩ => q v H2 (e1.trans e2) ?_
    have e : ms = toggle m S [d] := perm_is pm pw (by
      rw [List.nodup_append]
      exact ⟨s.asc.nodup, by simp, fun x hx y hy e => hd (by rw [← List.mem_singleton.mp hy, ← e]; exact hx)⟩) toggle_asc fun k => by
      rw [mem_toggle, List.mem_append, List.mem_singleton]
      have := s.ok k
      by_cases h1 : k = d
      · subst h1; simp [hd]; exact ⟨d1, d2⟩
      · by_cases h2 : k ∈ S
        · simp [h1, h2, this h2]
        · simp [h1, h2]
    show (IT (toggle m S [d])).p v H2
    rw [← e]
    exact r

abbrev p_law_open : Sp := fsp (fun x : Wb × List Int => [wR x.1, IT x.2]) (fun x => WebOk x.1 ∧ Std x.1.m x.2) (fun x => IL (openL x.1 x.2))
theorem sc_law_open : FnScope ["_law_web_here", "_law_opened", "_law_k", "_law_one"] ["_law_web_here", "_law_opened"] (defScope (top 42)) := ⟨rfl, rfl, rfl, by decide +kernel, rfl, by decide +kernel, by decide +kernel⟩
abbrev D_law_open (P : Program) (w : World) (K : PySem.W.Frag) (mg : Str → Option Value) (base : Heap) : Prop := Def P w K mg base "_law_open" 1 ["_law_web_here", "_law_opened"] p_law_open
theorem d_law_open (R : Raw K mg "_law_open" (top 42)) (T : Names mg) : D_law_open P w K mg base := by
  refine Def.fn (k := 0) R sc_law_open (fun _ _ _ _ _ _ us hl => match us, hl with | [_, _], _ => rfl) (fun _ => rfl) fun f cdv A outer s H0 E hr => ⟨_, (pss_one (ps_ret (pe_lc (own := [("_law_k", 2)]) rfl sc_law_open.nd (pi_range1 (by rfl) T.range (pa_cons (pe_ix (ix_tup' K rfl) (pv 0) pe_int (fun _ _ => rfl)) pa_nil)) (blkOk_by (by kernel_rfl)) (fun _ _ _ _ _ => (pg_name (i := 2) sc_law_open.nd rfl (Or.inr rfl))) (fun _ _ _ _ _ => (pts_one (PW.pt (pw_and (pt_cmpR (op_nin' K rfl) (pv 2) (pv 1) (by rfl)) (pw_and1 (pt_cmpR (op_eqD' K rfl (un64 hr)) (pe_lc (own := [("_law_one", 3)]) rfl sc_law_open.nd (pi_tup' K rfl (pv 1)) (blkOk_by (by kernel_rfl)) (fun _ _ _ _ _ => (pg_name (i := 3) sc_law_open.nd rfl (Or.inl rfl))) (fun _ _ _ _ _ => (pts_one (pt_cmpR (op_inDT' K rfl (un65 hr)) (pe_tup (pa_cons (pv 3) (pa_cons (pv 2) pa_nil))) (pe_ix (ix_tup' K rfl) (pv 0) pe_int (fun _ _ => rfl)) (by rfl)))) (fun _ _ _ _ _ => (pv 3))) (pe_lst pa_nil) (nomark _))))))) (fun _ _ _ _ _ => (pv 2))))), ?_⟩
  rintro ⟨W, S⟩ vs H Q ⟨ok, s⟩ r q
  obtain ⟨a, b, rfl, ha, hb⟩ := vs2 r
  have ok : WebOk W := ok
  have s : Std W.m S := s
  have hi := ok.hi
  have few := s.few
  have ha : (PR (I (W.m : Int)) (TR Pt W.A)).p a H := ha
  have hb : (IT S).p b H := hb
  exact sr_ret (R := IL (openL W S)) (er_lcI (fun k => !decide (k ∈ S) && decide (S.filter (fun o => decide ((o, k) ∈ W.A)) = [])) (ei_rng (by omega) (ea_consR (er_ix0 (er_var rfl ha)) ea_nilR)) (by rw [rng_len]; omega) (fun _ => rfl) (fun _ => rfl) fun k hk v H1 e1 rv =>
    et_and (et_of (er_niT (er_var rfl rv) (er_var rfl ((IT S).mono e1 hb)))) fun _ => et_of (er_eqN (er_lcI (fun o => decide ((o, k) ∈ W.A)) (ei_IT (er_var rfl ((IT S).mono e1 hb))) (by omega) (fun _ => rfl) (fun _ => rfl) fun o ho u H2 e2 ru =>
      et_of (er_inP (p := (o, k)) ((er_tup (ea_consR (er_var rfl ru) (ea_consR (er_var rfl ((I k).mono e2 rv)) ea_nilR)) (by simp)).to fun v H _ r => tupOf_ints (ns := [o, k]) r) (er_ix1 (er_var rfl ((PR (I (W.m : Int)) (TR Pt W.A)).mono (e1.trans e2) ha))))) (er_lst ea_nilR (by simp)))) fun v H1 e1 r => q v H1 e1 r

abbrev p_law_shut : Sp := fsp (fun x : Wb × List Int => [wR x.1, IT x.2]) (fun x => WebOk x.1 ∧ Std x.1.m x.2) (fun x => IL (shutL x.1 x.2))
theorem sc_law_shut : FnScope ["_law_web_here", "_law_opened", "_law_k", "_law_j"] ["_law_web_here", "_law_opened"] (defScope (top 43)) := ⟨rfl, rfl, rfl, by decide +kernel, rfl, by decide +kernel, by decide +kernel⟩
abbrev D_law_shut (P : Program) (w : World) (K : PySem.W.Frag) (mg : Str → Option Value) (base : Heap) : Prop := Def P w K mg base "_law_shut" 1 ["_law_web_here", "_law_opened"] p_law_shut
theorem d_law_shut (R : Raw K mg "_law_shut" (top 43)) (T : Names mg) : D_law_shut P w K mg base := by
  refine Def.fn (k := 0) R sc_law_shut (fun _ _ _ _ _ _ us hl => match us, hl with | [_, _], _ => rfl) (fun _ => rfl) fun f cdv A outer s H0 E hr => ⟨_, (pss_one (ps_ret (pe_lc (own := [("_law_k", 2)]) rfl sc_law_shut.nd (pi_tup' K rfl (pv 1)) (blkOk_by (by kernel_rfl)) (fun _ _ _ _ _ => (pg_name (i := 2) sc_law_shut.nd rfl (Or.inr rfl))) (fun _ _ _ _ _ => (pts_one (pt_cmpR (op_eqD' K rfl (un64 hr)) (pe_lc (own := [("_law_j", 3)]) rfl sc_law_shut.nd (pi_range1 (by rfl) T.range (pa_cons (pe_ix (ix_tup' K rfl) (pv 0) pe_int (fun _ _ => rfl)) pa_nil)) (blkOk_by (by kernel_rfl)) (fun _ _ _ _ _ => (pg_name (i := 3) sc_law_shut.nd rfl (Or.inl rfl))) (fun _ _ _ _ _ => (pts_one (PW.pt (pw_and (pt_cmpR (op_nin' K rfl) (pv 3) (pv 1) (by rfl)) (pw_and1 (pt_cmpR (op_inDT' K rfl (un65 hr)) (pe_tup (pa_cons (pv 2) (pa_cons (pv 3) pa_nil))) (pe_ix (ix_tup' K rfl) (pv 0) pe_int (fun _ _ => rfl)) (by rfl))))))) (fun _ _ _ _ _ => (pv 3))) (pe_lst pa_nil) (nomark _)))) (fun _ _ _ _ _ => (pv 2))))), ?_⟩
  rintro ⟨W, S⟩ vs H Q ⟨ok, s⟩ r q
  obtain ⟨a, b, rfl, ha, hb⟩ := vs2 r
  have ok : WebOk W := ok
  have s : Std W.m S := s
  have hi := ok.hi
  have few := s.few
  have ha : (PR (I (W.m : Int)) (TR Pt W.A)).p a H := ha
  have hb : (IT S).p b H := hb
  exact sr_ret (R := IL (shutL W S)) (er_lcI (fun k => decide ((rng W.m).filter (fun j => !decide (j ∈ S) && decide ((k, j) ∈ W.A)) = [])) (ei_IT (er_var rfl hb)) (by omega) (fun _ => rfl) (fun _ => rfl) fun k hk v H1 e1 rv =>
    et_of (er_eqN (er_lcI (fun j => !decide (j ∈ S) && decide ((k, j) ∈ W.A)) (ei_rng (by omega) (ea_consR (er_ix0 (er_var rfl ((PR (I (W.m : Int)) (TR Pt W.A)).mono e1 ha))) ea_nilR)) (by rw [rng_len]; omega) (fun _ => rfl) (fun _ => rfl) fun j hj u H2 e2 ru =>
      et_and (et_of (er_niT (er_var rfl ru) (er_var rfl ((IT S).mono (e1.trans e2) hb)))) fun _ => et_of (er_inP (p := (k, j)) ((er_tup (ea_consR (er_var rfl ((I k).mono e2 rv)) (ea_consR (er_var rfl ru) ea_nilR)) (by simp)).to fun v H _ r => tupOf_ints (ns := [k, j]) r) (er_ix1 (er_var rfl ((PR (I (W.m : Int)) (TR Pt W.A)).mono (e1.trans e2) ha))))) (er_lst ea_nilR (by simp)))) fun v H1 e1 r => q v H1 e1 r

def aftR (m : Nat) (S : List Int) (d : Int) : Rep := PR (I d) (IT (toggle m S [d]))
instance (m : Nat) (S : List Int) (d : Int) : TM (aftR m S d) := inferInstanceAs (TM (PR (I d) (IT (toggle m S [d]))))
abbrev p_law_after : Sp := nsp (fun x : Wb × List Int => [wR x.1, IT x.2]) (fun x => WebOk x.1 ∧ Std x.1.m x.2) (fun x => LR (aftR x.1.m x.2) (loose x.1 x.2))
theorem sc_law_after : FnScope ["_law_web_here", "_law_opened", "_law_k"] ["_law_web_here", "_law_opened"] (defScope (top 44)) := ⟨rfl, rfl, rfl, by decide +kernel, rfl, by decide +kernel, by decide +kernel⟩
abbrev D_law_after (P : Program) (w : World) (K : PySem.W.Frag) (mg : Str → Option Value) (base : Heap) : Prop := Def P w K mg base "_law_after" 2 ["_law_web_here", "_law_opened"] p_law_after
theorem d_law_after (R : Raw K mg "_law_after" (top 44)) (T : Names mg) (d_law_changed : D_law_changed P w K mg base) (d_law_open : D_law_open P w K mg base) (d_law_shut : D_law_shut P w K mg base) : D_law_after P w K mg base := by
  refine Def.nn (k := 1) R sc_law_after (fun _ _ _ _ _ _ us hl => match us, hl with | [_, _], _ => rfl) (fun _ => rfl) fun f cdv A outer s H0 E hr => ⟨_, (pss_one (ps_ret (pe_lc (own := [("_law_k", 2)]) rfl sc_law_after.nd (pi_list' K rfl (pe_callB (cr_sorted' K rfl) (by rfl) T.sorted boot_sorted (pa_cons (pe_op op_cat (pe_def d_law_open (hr.mono (by decide)) rfl (pa_cons (pv 0) (pa_cons (pv 1) pa_nil))) (pe_def d_law_shut (hr.mono (by decide)) rfl (pa_cons (pv 0) (pa_cons (pv 1) pa_nil)))) pa_nil))) (blkOk_by (by kernel_rfl)) (fun _ _ _ _ _ => (pg_name (i := 2) sc_law_after.nd rfl (Or.inl rfl))) (fun _ _ _ _ _ => pts_nil) (fun _ _ _ _ _ => (pe_tup (pa_cons (pv 2) (pa_cons (pe_def d_law_changed (hr.mono (by decide)) rfl (pa_cons (pv 1) (pa_cons (pv 2) pa_nil))) pa_nil))))))), ?_⟩
  rintro ⟨W, S⟩ vs H Q ⟨ok, s⟩ r q
  obtain ⟨a, b, rfl, ha, hb⟩ := vs2 r
  have ok : WebOk W := ok
  have s : Std W.m S := s
  have hi := ok.hi
  have few := s.few
  have hb : (IT S).p b H := hb
  have l1 : (openL W S).length ≤ W.m := Nat.le_trans (List.length_filter_le _ _) (by rw [rng_len]; exact Nat.le_refl _)
  have l2 : (shutL W S).length ≤ S.length := List.length_filter_le _ _
  refine sn_ret (R := LR (aftR W.m S) (loose W S)) ((en_lcN (R := I) (fun _ => true) (fun d => d) (aftR W.m S) (ei_IL (ns := loose W S) ((er_sorted (er_catI (er_def (W, S) ⟨ok, s⟩ (ea_consR (er_var rfl ha) (ea_consR (er_var rfl hb) ea_nilR))) (er_def (W, S) ⟨ok, s⟩ (ea_consR (er_var rfl ha) (ea_consR (er_var rfl hb) ea_nilR))) (by show (openL W S).length + (shutL W S).length ≤ _; omega)) (by show (openL W S ++ shutL W S).length < _; rw [List.length_append]; omega)).to fun v H _ ⟨ms, ⟨pm, pw⟩, r⟩ => by
    rw [← open_shut ok s pm pw]; exact r)) (by have := loose_len W S; omega) (fun _ => rfl) (fun k hk v H1 e1 rv => et_yes) fun k hk v H1 e1 rv _ => (er_tup (ea_consR (er_var rfl rv) (ea_consR (er_def (W.m, S, k) ⟨s, (mem_loose.mp hk).1⟩ (ea_consR (er_var rfl ((IT S).mono e1 hb)) (ea_consR (er_var rfl rv) ea_nilR))) ea_nilR)) (by simp)).to fun v H _ r => tupOf_pair r).to fun v H _ r => ?_) fun v H1 n1 e1 r => q v H1 n1 e1 r
  rw [filter_yes, List.map_id'] at r
  exact r
end
end LD
set_option Elab.async false
set_option linter.all false
set_option maxRecDepth 100000
set_option maxHeartbeats 3200000
set_option autoImplicit false
/-! a search's dict and lists -/
namespace LD
open PySem PySem.Spec PyProof.Rows L2 Evl

/-! ### data -/
def keyI (S : List Int) : List L2.Key := S.map Sum.inl
theorem keyI_kV (S : List Int) : (keyI S).map kV = S.map V.int := by
  unfold keyI
  rw [List.map_map]
  rfl
theorem keyI_inj {S T : List Int} (h : keyI S = keyI T) : S = T := by
  have h2 := congrArg (List.map kV) h
  rw [keyI_kV, keyI_kV] at h2
  induction S generalizing T with
  | nil =>
    cases T with
    | nil => rfl
    | cons t T => cases h2
  | cons s S ih =>
    cases T with
    | nil => cases h2
    | cons t T =>
      rw [List.map_cons, List.map_cons] at h2
      injection h2 with a b
      injection a with a
      have hk : keyI S = keyI T := by
        have : (s :: S).map Sum.inl = (t :: T).map Sum.inl := h
        rw [List.map_cons, List.map_cons] at this
        exact (List.cons.inj this).2
      rw [a, ih hk b]
abbrev Es := List (List Int × Int)
abbrev keys (es : Es) : List (List Int) := es.map (·.1)
def kvs (es : Es) : List (List L2.Key × V) := es.map fun e => (keyI e.1, V.int e.2)
def look : Es → List Int → Option Int
  | [], _ => none
  | e :: es, S => if e.1 = S then some e.2 else look es S
theorem valV_kvs (es : Es) (S : List Int) : valV (kvs es) (keyI S) = (look es S).map V.int := by
  induction es with
  | nil => rfl
  | cons e es ih =>
    show valV ((keyI e.1, V.int e.2) :: kvs es) (keyI S) = (if e.1 = S then some e.2 else look es S).map V.int
    by_cases h : e.1 = S
    · rw [if_pos h, valV_pos (by show keyI e.1 = keyI S; rw [h])]; rfl
    · rw [if_neg h, valV_neg (fun z => h (keyI_inj z)), ih]
theorem look_none {es : Es} {S : List Int} : look es S = none ↔ S ∉ keys es := by
  induction es with
  | nil => simp [look]
  | cons e es ih =>
    show (if e.1 = S then some e.2 else look es S) = none ↔ S ∉ e.1 :: keys es
    by_cases h : e.1 = S
    · rw [if_pos h]; simp [h]
    · rw [if_neg h, ih, List.mem_cons]
      constructor
      · rintro h2 (h3 | h3)
        · exact h h3.symm
        · exact h2 h3
      · exact fun h2 h3 => h2 (.inr h3)
theorem look_some {es : Es} {S : List Int} (h : S ∈ keys es) : ∃ n, look es S = some n := by
  cases e : look es S with
  | none => exact absurd h (look_none.mp e)
  | some n => exact ⟨n, rfl⟩
theorem look_app {es fs : Es} {S : List Int} {n : Int} (h : look es S = some n) : look (es ++ fs) S = some n := by
  induction es with
  | nil => cases h
  | cons e es ih =>
    show (if e.1 = S then some e.2 else look (es ++ fs) S) = some n
    have h : (if e.1 = S then some e.2 else look es S) = some n := h
    by_cases z : e.1 = S
    · rw [if_pos z] at h ⊢; exact h
    · rw [if_neg z] at h ⊢; exact ih h
theorem put_kvs {es : Es} {S : List Int} {n : Int} (h : look es S = none) : putK (kvs es) (keyI S) (.int n) = kvs (es ++ [(S, n)]) := by
  rw [putK_new _ (by rw [valV_kvs, h]; rfl)]
  unfold kvs
  rw [List.map_append]
  rfl
theorem kvs_len (es : Es) : (kvs es).length = es.length := by unfold kvs; rw [List.length_map]
def add (n : Int) (st : Es × List (List Int)) (T : List Int) : Es × List (List Int) := if T ∈ keys st.1 then st else (st.1 ++ [(T, n)], st.2 ++ [T])
theorem add_in {n : Int} {st : Es × List (List Int)} {T : List Int} (h : T ∈ keys st.1) : add n st T = st := if_pos h
theorem add_out {n : Int} {st : Es × List (List Int)} {T : List Int} (h : T ∉ keys st.1) : add n st T = (st.1 ++ [(T, n)], st.2 ++ [T]) := if_neg h
theorem fold_add (n : Int) : ∀ (Ts : List (List Int)) (st : Es × List (List Int)), ∃ fs : List (List Int), Ts.foldl (add n) st = (st.1 ++ fs.map (fun T => (T, n)), st.2 ++ fs) ∧ (∀ T ∈ fs, T ∈ Ts) ∧ (∀ T ∈ Ts, T ∈ keys st.1 ∨ T ∈ fs) ∧ ((keys st.1).Nodup → (keys st.1 ++ fs).Nodup)
  | [], st => ⟨[], by simp, by simp, by simp, by simp⟩
  | T :: Ts, st => by
    by_cases h : T ∈ keys st.1
    · obtain ⟨fs, h1, h2, h3, h4⟩ := fold_add n Ts st
      refine ⟨fs, by rw [List.foldl_cons, add_in h, h1], fun S hS => List.mem_cons_of_mem _ (h2 S hS), fun S hS => ?_, h4⟩
      rcases List.mem_cons.mp hS with e | e
      · exact .inl (e ▸ h)
      · exact h3 S e
    · obtain ⟨fs, h1, h2, h3, h4⟩ := fold_add n Ts (st.1 ++ [(T, n)], st.2 ++ [T])
      have hk : keys (st.1 ++ [(T, n)]) = keys st.1 ++ [T] := by unfold keys; rw [List.map_append]; rfl
      refine ⟨T :: fs, by rw [List.foldl_cons, add_out h, h1]; simp, fun S hS => ?_, fun S hS => ?_, fun nd => ?_⟩
      · rcases List.mem_cons.mp hS with e | e
        · exact e ▸ List.mem_cons_self
        · exact List.mem_cons_of_mem _ (h2 S e)
      · rcases List.mem_cons.mp hS with e | e
        · exact .inr (e ▸ List.mem_cons_self)
        · rcases h3 S e with z | z
          · have z : S ∈ keys (st.1 ++ [(T, n)]) := z
            rw [hk] at z
            rcases List.mem_append.mp z with z | z
            · exact .inl z
            · exact .inr (List.mem_singleton.mp z ▸ List.mem_cons_self)
          · exact .inr (List.mem_cons_of_mem _ z)
      · have := h4 (by
          show (keys (st.1 ++ [(T, n)])).Nodup
          rw [hk, List.nodup_append]
          exact ⟨nd, by simp, fun x hx y hy e => h (by rw [← List.mem_singleton.mp hy, ← e]; exact hx)⟩)
        have z : (keys (st.1 ++ [(T, n)]) ++ fs).Nodup := this
        rw [hk] at z
        simpa using z
theorem fold_in {n : Int} {Ts : List (List Int)} {st : Es × List (List Int)} (h : ∀ T ∈ Ts, T ∈ keys st.1) : Ts.foldl (add n) st = st := by
  induction Ts with
  | nil => rfl
  | cons T Ts ih => rw [List.foldl_cons, add_in (h T List.mem_cons_self), ih fun S hS => h S (List.mem_cons_of_mem _ hS)]
theorem fold_look {n k : Int} {Ts : List (List Int)} {st : Es × List (List Int)} {S : List Int} (h : look st.1 S = some k) : look (Ts.foldl (add n) st).1 S = some k := by
  obtain ⟨fs, e, _⟩ := fold_add n Ts st
  rw [e]
  exact look_app h

/-! ### the heap -/
def Dt (es : Es) : Rep := ⟨fun v H => ∃ a, v = .ref a ∧ H a = some (.dT (kvs es)), fun e ⟨a, h, q⟩ => ⟨a, h, e _ _ q⟩⟩
def Chg (d l : Addr) (H H' : Hp) : Prop := (∀ a o, a ≠ d → a ≠ l → H a = some o → H' a = some o) ∧ ExT H H'
theorem Chg.ex {d l : Addr} {H H' : Hp} (e : Ex H H') : Chg d l H H' := ⟨fun a o _ _ h => e a o h, ex_tt e⟩
theorem Chg.refl (d l : Addr) (H : Hp) : Chg d l H H := Chg.ex (Ex.refl H)
theorem Chg.trans {d l : Addr} {H H1 H2 : Hp} (a : Chg d l H H1) (b : Chg d l H1 H2) : Chg d l H H2 := ⟨fun x o n1 n2 h => b.1 x o n1 n2 (a.1 x o n1 n2 h), a.2.trans b.2⟩
structure Bx (H0 : Hp) (d l : Addr) (st : Es × List (List Int)) (H : Hp) : Prop where
  ex : Ex H0 H
  dn : H0 d = none
  ln : H0 l = none
  ne : d ≠ l
  dv : H d = some (.dT (kvs st.1))
  lv : ∃ vs, H l = some (.lst vs) ∧ All2 (fun S v => (IT S).p v H) st.2 vs
theorem Bx.up {H0 : Hp} {d l : Addr} {st : Es × List (List Int)} {H H' : Hp} (b : Bx H0 d l st H) (e : Ex H H') : Bx H0 d l st H' :=
  ⟨b.ex.trans e, b.dn, b.ln, b.ne, e _ _ b.dv, let ⟨vs, h1, h2⟩ := b.lv; ⟨vs, e _ _ h1, all2_up e h2⟩⟩
section
variable {K : PySem.W.Frag} {σ : L2.St} {H H0 H' : Hp} {ta tb tc te : TE} {t u : TT} {R S T : Rep} {D : Ends} {g : TG} {tu tz : TS} {d l : Addr}
theorem s_add {es : Es} {more : List (List Int)} {A B : List Int} {n : Int} {sd st sh sl : Nat} {vt vh : V} (b : Bx H0 d l (es, more) H) (hd : σ[sd]? = some (some (.ref d))) (ht : σ[st]? = some (some vt)) (hh : σ[sh]? = some (some vh)) (hl : σ[sl]? = some (some (.ref l)))
    (rt : (IT A).p vt H) (rh : (IT B).p vh H) (hn : look es B = some n) (z1 : es.length < 1000) (z2 : more.length < 1000) (k : ∀ H', Chg d l H H' → Bx H0 d l (add (n + 1) (es, more) A) H' → D.nx σ H') :
    tIfS (tB (tDNotIn (tVar st) (tVar sd))) (tSeq (sDPut (tVar sd) (tVar st) (tOp (rI0 fun i j => .int (i + j)) (tDGet (tVar sd) (tVar sh)) (tC (.int 1)))) (tDrop (tBM K "list" rAppend (tVar sl) (tCons (tVar st) tNil)))) tNext D σ H := by
  obtain ⟨at', rfl, ht'⟩ := rt
  obtain ⟨ah, rfl, hh'⟩ := rh
  have gT : DGet H d (.ref at') ((look es A).map V.int) := by
    rw [← valV_kvs]
    exact DGet.t b.dv (by rw [keyI_kV]; exact ht')
  have gH : DGet H d (.ref ah) (some (.int n)) := by
    have := DGet.t (H := H) (a := d) (b := ah) (k := keyI B) b.dv (by rw [keyI_kV]; exact hh')
    rw [valV_kvs, hn] at this
    exact this
  obtain ⟨vs, hv, hr⟩ := b.lv
  have lenv : more.length = vs.length := all2_len hr
  refine ⟨_, ht, _, hd, d, _, rfl, gT, _, rfl, ?_⟩
  by_cases hA : A ∈ keys es
  · obtain ⟨m, hm⟩ := look_some hA
    rw [hm]
    refine iteF (k H (Chg.refl _ _ _) ?_)
    rw [add_in hA]
    exact b
  · have hno := look_none.mpr hA
    rw [hno]
    refine iteT ⟨_, hd, _, hh, d, .int n, rfl, gH, n, 1, rfl, rfl, _, hd, _, ht, d, _, rfl, DPut.t b.dv (by rw [keyI_kV]; exact ht') (by rw [kvs_len]; exact sz_lt (by show es.length < 100000; omega)), ?_⟩
    rw [put_kvs hno]
    have hl2 : (L2.upd H d (.dT (kvs (es ++ [(A, n + 1)])))) l = some (.lst vs) := by rw [upd_ne b.ne.symm]; exact hv
    refine ⟨_, hl, Or.inl ⟨rfl, vs, sq_of hl2⟩, _, ht, l, vs, _, rfl, rfl, hl2, sz_lt (by omega), ?_⟩
    have t1 : ExT H (L2.upd H d (.dT (kvs (es ++ [(A, n + 1)])))) := ExT.upd b.dv fun xs q => nomatch q
    have t2 := t1.trans (ExT.upd (a := l) (o' := .lst (vs ++ [.ref at'])) hl2 fun xs q => nomatch q)
    refine k _ ⟨fun a o n1 n2 h => by rw [upd_ne n2, upd_ne n1]; exact h, t2⟩ ?_
    rw [add_out hA]
    exact ⟨Ex.mut (Ex.mut b.ex b.dn) b.ln, b.dn, b.ln, b.ne, by rw [upd_ne b.ne, upd_same], vs ++ [.ref at'], upd_same, all2_snoc (all2_t t2 hr) ⟨at', rfl, t2 _ _ ht'⟩⟩
/-- for x in the list at a -/
theorem for_chg {α : Type} {R : α → Rep} [∀ x, TM (R x)] {a : Addr} {vs : List V} {xs : List α} (ha : a ≠ d ∧ a ≠ l) (hv : H a = some (.lst vs)) (hr : All2 (fun x v => (R x).p v H) xs vs)
    (Pv : Nat → L2.St → Hp → Prop) (h0 : Pv 0 σ H)
    (hs : ∀ i x v σ' H', xs[i]? = some x → Chg d l H H' → Pv i σ' H' → (R x).p v H' → g v σ' H' fun σ2 H2 => tu { D with nx := fun σ3 H3 => Chg d l H H3 ∧ Pv (i + 1) σ3 H3, ct := fun σ3 H3 => Chg d l H H3 ∧ Pv (i + 1) σ3 H3, bk := D.nx } σ2 H2)
    (hd : ∀ σ' H', Chg d l H H' → Pv xs.length σ' H' → D.nx σ' H') :
    ∃ W : Nat → Nat → L2.St → Hp → Prop, (∃ m, W 0 m σ H) ∧ ∀ i m σ H, W i m σ H →
      ((Itl K a).stop i H ∧ D.nx σ H) ∨ ((Itl K a).go i H ∧ ∃ N : L2.St → Hp → Prop, (∀ σ' H', N σ' H' → ∃ m', m' < m ∧ W (i + 1) m' σ' H') ∧ ∀ x H', (Itl K a).yld i H x H' → g x σ H' fun σ2 H2 => tu { D with nx := N, ct := N, bk := D.nx } σ2 H2) := by
  refine for_list (xs := vs) (fun i σ' H' => Chg d l H H' ∧ Pv i σ' H') ⟨Chg.refl _ _ _, h0⟩ (fun i σ' H' _ p => sq_of (p.1.1 a _ ha.1 ha.2 hv)) (fun i v σ' H' hi p => ?_) fun σ' H' p => hd σ' H' p.1 (by rw [all2_len hr]; exact p.2)
  obtain ⟨x, h1, h2⟩ := all2_get hr hi
  exact hs i x v σ' H' h1 p.1 p.2 (TM.t p.1.2 h2)
theorem sr_forV {α : Type} {R : α → Rep} [∀ x, TM (R x)] {a : Addr} {i : Nat} {vs : List V} {xs : List α} (hi : σ[i]? = some (some (.ref a))) (ha : a ≠ d ∧ a ≠ l) (hv : H a = some (.lst vs)) (hr : All2 (fun x v => (R x).p v H) xs vs)
    (Pv : Nat → L2.St → Hp → Prop) (h0 : Pv 0 σ H)
    (hs : ∀ i x v σ' H', xs[i]? = some x → Chg d l H H' → Pv i σ' H' → (R x).p v H' → g v σ' H' fun σ2 H2 => tu { D with nx := fun σ3 H3 => Chg d l H H3 ∧ Pv (i + 1) σ3 H3, ct := fun σ3 H3 => Chg d l H H3 ∧ Pv (i + 1) σ3 H3, bk := tz D } σ2 H2)
    (hd : ∀ σ' H', Chg d l H H' → Pv xs.length σ' H' → tz D σ' H') : tSeq (tFor (iList K (tVar i)) g tu) tz D σ H :=
  ⟨_, hi, a, rfl, ⟨vs, sq_of hv⟩, for_chg (D := { D with nx := tz D }) ha hv hr Pv h0 hs hd⟩
theorem sr_forN {α : Type} {P : List α → Prop} {R : α → Rep} [∀ x, TM (R x)] (h : EvN te σ H (XR P (LR R))) (nd : H d ≠ none) (nl : H l ≠ none)
    (Pv : List α → Nat → L2.St → Hp → Prop) (h0 : ∀ xs H1, P xs → Ex H H1 → Pv xs 0 σ H1)
    (hs : ∀ xs i x v σ' H2 H', P xs → xs[i]? = some x → Ex H H2 → Chg d l H2 H' → Pv xs i σ' H' → (R x).p v H' → g v σ' H' fun σ2 H3 => tu { D with nx := fun σ3 H4 => Chg d l H2 H4 ∧ Pv xs (i + 1) σ3 H4, ct := fun σ3 H4 => Chg d l H2 H4 ∧ Pv xs (i + 1) σ3 H4, bk := D.nx } σ2 H3)
    (hd : ∀ xs σ' H', P xs → Chg d l H H' → Pv xs xs.length σ' H' → D.nx σ' H') : tFor (iList K te) g tu D σ H := by
  refine h H (Ex.refl H) _ fun a H2 na e2 ⟨xs, hP, a', vs, ea, hv, hr⟩ => ?_
  cases ea
  have ha : a ≠ d ∧ a ≠ l := ⟨fun e => nd (e ▸ na), fun e => nl (e ▸ na)⟩
  refine ⟨a, rfl, ⟨vs, sq_of hv⟩, ?_⟩
  refine for_list (xs := vs) (fun i σ' H' => Chg d l H2 H' ∧ Pv xs i σ' H') ⟨Chg.refl _ _ _, h0 xs H2 hP e2⟩ (fun i σ' H' _ p => sq_of (p.1.1 a _ ha.1 ha.2 hv)) (fun i v σ' H' hi p => ?_) fun σ' H' p => hd xs σ' H' hP ((Chg.ex e2).trans p.1) (by rw [all2_len hr]; exact p.2)
  obtain ⟨x, h1, h2⟩ := all2_get hr hi
  exact hs xs i x v σ' H2 H' hP h1 e2 p.1 p.2 (TM.t p.1.2 h2)
end
end LD
set_option Elab.async false
set_option linter.all false
set_option maxRecDepth 100000
set_option maxHeartbeats 3200000
set_option autoImplicit false
/-! what is reached: one deed at a time, one round at a time -/
namespace LD
open PySem PySem.Spec PyProof.Rows L2 Evl

theorem nodup_len {α : Type} [DecidableEq α] : ∀ (l D : List α), l.Nodup → (∀ x ∈ l, x ∈ D) → l.length ≤ D.length
  | [], _, _, _ => Nat.zero_le _
  | x :: l, D, nd, h => by
    have nd' := List.nodup_cons.mp nd
    have hx := h x List.mem_cons_self
    have := nodup_len l (D.erase x) nd'.2 fun y hy => (List.mem_erase_of_ne (by rintro rfl; exact nd'.1 hy)).mpr (h y (List.mem_cons_of_mem _ hy))
    rw [List.length_erase_of_mem hx] at this
    have := List.length_pos_of_mem hx
    rw [List.length_cons]
    omega
theorem same_len {α : Type} [DecidableEq α] {l m : List α} (h1 : l.Nodup) (h2 : m.Nodup) (h : ∀ x, x ∈ l ↔ x ∈ m) : l.length = m.length :=
  Nat.le_antisymm (nodup_len l m h1 fun x => (h x).mp) (nodup_len m l h2 fun x => (h x).mpr)
theorem asc_sub {xs ys : List Int} (hx : Asc xs) (hy : Asc ys) (h : ∀ k ∈ xs, k ∈ ys) : xs.Sublist ys := by
  have : xs = ys.filter fun k => decide (k ∈ xs) := asc_ext hx (hy.filter _) fun k => by
    rw [List.mem_filter, decide_eq_true_iff]
    exact ⟨fun z => ⟨h k z, z⟩, fun z => z.2⟩
  rw [this]
  exact List.filter_sublist
theorem subs_nodup : ∀ (n : Nat) (ds : List Int), ds.length = n → ds.Nodup → (subs ds).Nodup
  | 0, ds, h, _ => by rw [List.length_eq_zero_iff.mp h]; show [[]].Nodup; simp
  | n + 1, ds, h, nd => by
    obtain ⟨e, d, rfl⟩ : ∃ e d, ds = e ++ [d] := by
      rcases List.eq_nil_or_concat ds with e | ⟨e, d, h⟩
      · rw [e] at h; cases h
      · exact ⟨e, d, by rw [h, List.concat_eq_append]⟩
    rw [List.length_append] at h
    rw [List.nodup_append] at nd
    have ih := subs_nodup n e (by simpa using h) nd.1
    rw [subs_snoc, List.nodup_append]
    refine ⟨ih, ?_, fun a ha b hb q => ?_⟩
    · rw [List.nodup_iff_pairwise_ne, List.pairwise_map]
      refine List.Pairwise.imp (fun {a b} hab e => hab (List.append_cancel_right e)) ih
    · obtain ⟨b', _, rfl⟩ := List.mem_map.mp hb
      subst q
      have : d ∈ e := (mem_subs.mp ha).subset (by simp)
      exact nd.2.2 d this d (by simp) rfl
theorem std_ext {m : Nat} {S T : List Int} (s : Std m S) (t : Std m T) (h : ∀ k : Int, 0 ≤ k → k < m → (k ∈ S ↔ k ∈ T)) : S = T :=
  asc_ext s.asc t.asc fun k => ⟨fun z => (h k (s.ok k z).1 (s.ok k z).2).mp z, fun z => (h k (t.ok k z).1 (t.ok k z).2).mpr z⟩
theorem std_in_subs {m : Nat} {S : List Int} (s : Std m S) : S ∈ subs (rng m) := mem_subs.mpr (asc_sub s.asc (rng_asc m) fun k hk => mem_rng.mpr (s.ok k hk))

inductive Reach (W : Wb) (S : List Int) : List Int → Prop where
  | refl : Reach W S S
  | step {T : List Int} {d : Int} : Reach W S T → d ∈ loose W T → Reach W S (toggle W.m T [d])
theorem Reach.trans {W : Wb} {S T U : List Int} (a : Reach W S T) (b : Reach W T U) : Reach W S U := by
  induction b with
  | refl => exact a
  | step _ h ih => exact .step ih h
theorem Reach.std {W : Wb} {S T : List Int} (hm : W.m ≤ 5) (s : Std W.m S) (r : Reach W S T) : Std W.m T := by
  cases r with
  | refl => exact s
  | step _ _ => exact toggle_std hm
structure Mid (W : Wb) (S0 : List Int) (rows : List (List Int)) (n0 i : Nat) (st : Es × List (List Int)) : Prop where
  nd : (keys st.1).Nodup
  s0 : S0 ∈ keys st.1
  rc : ∀ T ∈ keys st.1, Reach W S0 T
  rk : ∀ T ∈ rows, T ∈ keys st.1
  mr : ∀ T ∈ st.2, T ∈ keys st.1
  cl : ∀ T ∈ keys st.1, T ∈ rows.drop i ∨ T ∈ st.2 ∨ ∀ d ∈ loose W T, toggle W.m T [d] ∈ keys st.1
  ln : st.1.length = n0 + st.2.length
theorem keys_app (es : Es) (fs : List (List Int)) (n : Int) : keys (es ++ fs.map fun T => (T, n)) = keys es ++ fs := by
  unfold keys
  rw [List.map_append, List.map_map]
  congr 1
  exact List.map_id' fs
theorem Mid.start (W : Wb) (S0 : List Int) : Mid W S0 [S0] 1 0 ([(S0, 0)], []) :=
  ⟨by simp, by simp, fun T h => (by
    rw [List.mem_singleton.mp h]; exact .refl), fun T h => (by simpa using h), fun T h => (by cases h), fun T h => .inl (by simpa using h), rfl⟩
theorem Mid.next {W : Wb} {S0 B : List Int} {rows : List (List Int)} {n0 i : Nat} {st : Es × List (List Int)} {n : Int} (M : Mid W S0 rows n0 i st) (h : rows[i]? = some B) :
    Mid W S0 rows n0 (i + 1) (((loose W B).map fun d => toggle W.m B [d]).foldl (add n) st) := by
  obtain ⟨fs, e, f1, f2, f3⟩ := fold_add n ((loose W B).map fun d => toggle W.m B [d]) st
  rw [e]
  have hB := List.mem_of_getElem? h
  have old : ∀ T, T ∈ keys st.1 → T ∈ keys st.1 ++ fs := fun T h => List.mem_append_left _ h
  refine ⟨?_, ?_, ?_, ?_, ?_, ?_, ?_⟩
  · show (keys (st.1 ++ _)).Nodup
    rw [keys_app]; exact f3 M.nd
  · show S0 ∈ keys (st.1 ++ _)
    rw [keys_app]; exact old _ M.s0
  · intro T hT
    have hT : T ∈ keys (st.1 ++ fs.map fun T => (T, n)) := hT
    rw [keys_app] at hT
    rcases List.mem_append.mp hT with z | z
    · exact M.rc T z
    · obtain ⟨d, hd, rfl⟩ := List.mem_map.mp (f1 T z)
      exact .step (M.rc B (M.rk B hB)) hd
  · intro T hT
    show T ∈ keys (st.1 ++ _)
    rw [keys_app]; exact old _ (M.rk T hT)
  · intro T hT
    show T ∈ keys (st.1 ++ _)
    rw [keys_app]
    rcases List.mem_append.mp hT with z | z
    · exact old _ (M.mr T z)
    · exact List.mem_append_right _ z
  · intro T hT
    have hT : T ∈ keys (st.1 ++ fs.map fun T => (T, n)) := hT
    rw [keys_app] at hT
    show T ∈ rows.drop (i + 1) ∨ T ∈ st.2 ++ fs ∨ ∀ d ∈ loose W T, toggle W.m T [d] ∈ keys (st.1 ++ _)
    rw [keys_app]
    rcases List.mem_append.mp hT with z | z
    · rcases M.cl T z with y | y | y
      · have hi := (List.getElem?_eq_some_iff.mp h)
        obtain ⟨hi, hi2⟩ := hi
        rw [List.drop_eq_getElem_cons hi, hi2] at y
        rcases List.mem_cons.mp y with y | y
        · subst y
          refine .inr (.inr fun d hd => ?_)
          rcases f2 (toggle W.m T [d]) (List.mem_map.mpr ⟨d, hd, rfl⟩) with x | x
          · exact old _ x
          · exact List.mem_append_right _ x
        · exact .inl y
      · exact .inr (.inl (List.mem_append_left _ y))
      · exact .inr (.inr fun d hd => old _ (y d hd))
    · exact .inr (.inl (List.mem_append_right _ z))
  · show (st.1 ++ fs.map fun T => (T, n)).length = n0 + (st.2 ++ fs).length
    have := M.ln
    rw [List.length_append, List.length_append, List.length_map]
    omega
theorem Mid.again {W : Wb} {S0 : List Int} {rows : List (List Int)} {n0 : Nat} {st : Es × List (List Int)} (M : Mid W S0 rows n0 rows.length st) : Mid W S0 st.2 st.1.length 0 (st.1, []) :=
  ⟨M.nd, M.s0, M.rc, M.mr, fun T h => (by cases h), fun T hT => by
    rcases M.cl T hT with y | y | y
    · rw [List.drop_length] at y; cases y
    · exact .inl y
    · exact .inr (.inr y), rfl⟩
theorem Mid.few {W : Wb} {S0 : List Int} {rows : List (List Int)} {n0 i : Nat} {st : Es × List (List Int)} (hm : W.m ≤ 5) (s : Std W.m S0) (M : Mid W S0 rows n0 i st) : st.1.length ≤ 32 := by
  have := nodup_len (keys st.1) (subs (rng W.m)) M.nd fun T hT => std_in_subs ((M.rc T hT).std hm s)
  rw [len_subs, rng_len, List.length_map] at this
  exact Nat.le_trans this (pow5 hm)
theorem Mid.all {W : Wb} {S0 : List Int} {n0 : Nat} {es : Es} (M : Mid W S0 [] n0 0 (es, [])) : ∀ T, T ∈ keys es ↔ Reach W S0 T := fun T => by
  constructor
  · exact M.rc T
  · intro r
    induction r with
    | refl => exact M.s0
    | step _ hd ih =>
      rcases M.cl _ ih with y | y | y
      · cases y
      · cases y
      · exact y _ hd

/-! ### rounds -/
def Dir (W : Wb) (S T : List Int) : Prop := ∃ L : List Int, (∀ k ∈ L, k ∈ loose W S) ∧ T = toggle W.m S L
theorem loose_stays {W : Wb} {S L : List Int} {k : Int} (ok : WebOk W) (hL : ∀ k ∈ L, k ∈ loose W S) (h : k ∈ loose W (toggle W.m S L)) : k ∈ loose W S := by
  have h1 := mem_loose.mp h
  refine mem_loose.mpr ⟨h1.1, Bool.eq_false_iff.mpr fun z => ?_⟩
  refine (Bool.eq_false_iff.mp h1.2) (mem_frz.mpr ?_)
  obtain ⟨p, hp, ⟨a, b⟩, c⟩ := mem_frz.mp z
  have n1 : p.1 ∉ L := fun q => by
    have := (mem_loose.mp (hL _ q)).2
    exact (Bool.eq_false_iff.mp this) (mem_frz.mpr ⟨p, hp, ⟨a, b⟩, .inl rfl⟩)
  have n2 : p.2 ∉ L := fun q => by
    have := (mem_loose.mp (hL _ q)).2
    exact (Bool.eq_false_iff.mp this) (mem_frz.mpr ⟨p, hp, ⟨a, b⟩, .inr rfl⟩)
  have o := ok.ok p hp
  exact ⟨p, hp, ⟨mem_toggle.mpr ⟨o.1, by simp [a, n1]⟩, fun q => by
    have := (mem_toggle.mp q).2
    exact b (this.mpr n2)⟩, c⟩
def xorL (W : Wb) (S L M : List Int) : List Int := (loose W S).filter fun k => decide (k ∈ L) != decide (k ∈ M)
theorem mem_xor {W : Wb} {S L M : List Int} {k : Int} : k ∈ xorL W S L M ↔ k ∈ loose W S ∧ (k ∈ L ↔ ¬ k ∈ M) := by
  unfold xorL
  rw [List.mem_filter]
  by_cases h1 : k ∈ L <;> by_cases h2 : k ∈ M <;> simp [h1, h2]
theorem toggle2 {W : Wb} {S L M : List Int} (hL : ∀ k ∈ L, k ∈ loose W S) (hM : ∀ k ∈ M, k ∈ loose W S) : toggle W.m (toggle W.m S L) M = toggle W.m S (xorL W S L M) := by
  refine asc_ext toggle_asc toggle_asc fun k => ?_
  rw [mem_toggle, mem_toggle, mem_toggle, mem_xor]
  by_cases h1 : k ∈ L
  · by_cases h2 : k ∈ M
    · by_cases h3 : k ∈ S <;> simp [h1, h2, h3]
    · by_cases h3 : k ∈ S <;> simp [h1, h2, h3, hL k h1]
  · by_cases h2 : k ∈ M
    · by_cases h3 : k ∈ S <;> simp [h1, h2, h3, hM k h2] <;> omega
    · by_cases h3 : k ∈ S <;> simp [h1, h2, h3] <;> omega
theorem Dir.next {W : Wb} {S T M : List Int} (ok : WebOk W) (h : Dir W S T) (hM : ∀ k ∈ M, k ∈ loose W T) : Dir W S (toggle W.m T M) := by
  obtain ⟨L, hL, rfl⟩ := h
  have hM' : ∀ k ∈ M, k ∈ loose W S := fun k hk => loose_stays ok hL (hM k hk)
  exact ⟨xorL W S L M, fun k hk => (mem_xor.mp hk).1, toggle2 hL hM'⟩
theorem toggle_nil {m : Nat} {S : List Int} (s : Std m S) : toggle m S [] = S := by
  refine asc_ext toggle_asc s.asc fun k => ?_
  rw [mem_toggle]
  exact ⟨fun h => h.2.mpr (by simp), fun h => ⟨s.ok k h, by simp [h]⟩⟩
theorem Dir.refl {W : Wb} {S : List Int} (s : Std W.m S) : Dir W S S := ⟨[], fun k h => (by cases h), (toggle_nil s).symm⟩
theorem dir_subs {W : Wb} {S T : List Int} : Dir W S T ↔ ∃ L ∈ subs (loose W S), T = toggle W.m S L := by
  constructor
  · rintro ⟨L, hL, rfl⟩
    refine ⟨(loose W S).filter fun k => decide (k ∈ L), mem_subs.mpr List.filter_sublist, ?_⟩
    refine asc_ext toggle_asc toggle_asc fun k => ?_
    rw [mem_toggle, mem_toggle, List.mem_filter]
    by_cases h : k ∈ L
    · simp [h, hL k h]
    · simp [h]
  · rintro ⟨L, hL, rfl⟩
    exact ⟨L, fun k hk => (mem_subs.mp hL).subset hk, rfl⟩
structure Full (W : Wb) (S0 : List Int) (es : Es) : Prop where
  nd : (keys es).Nodup
  all : ∀ T, T ∈ keys es ↔ Dir W S0 T
  val : ∀ T, T ∈ keys es → look es T = some (if T = S0 then 0 else 1)
theorem look_new {es : Es} {fs : List (List Int)} {n : Int} {T : List Int} (h : T ∉ keys es) (hT : T ∈ fs) : look (es ++ fs.map fun T => (T, n)) T = some n := by
  induction es with
  | nil =>
    clear h
    induction fs with
    | nil => cases hT
    | cons f fs ih =>
      show (if f = T then some n else look (fs.map fun T => (T, n)) T) = some n
      by_cases z : f = T
      · rw [if_pos z]
      · rw [if_neg z]
        exact ih ((List.mem_cons.mp hT).resolve_left fun e => z e.symm)
  | cons e es ih =>
    show (if e.1 = T then some e.2 else look (es ++ _) T) = some n
    rw [if_neg (fun z => h (by show T ∈ e.1 :: keys es; rw [z]; exact List.mem_cons_self))]
    exact ih fun z => h (List.mem_cons_of_mem _ z)
theorem full_first {W : Wb} {S0 : List Int} {Ls : List (List Int)} (s : Std W.m S0) (pm : Ls.Perm (subs (loose W S0))) :
    Full W S0 ((Ls.map fun L => toggle W.m S0 L).foldl (add (0 + 1)) ([(S0, 0)], [])).1 ∧ ∀ T ∈ ((Ls.map fun L => toggle W.m S0 L).foldl (add (0 + 1)) ([(S0, 0)], [])).2, T ∈ keys ((Ls.map fun L => toggle W.m S0 L).foldl (add (0 + 1)) ([(S0, 0)], [])).1 := by
  obtain ⟨fs, e, f1, f2, f3⟩ := fold_add (0 + 1) (Ls.map fun L => toggle W.m S0 L) ([(S0, 0)], [])
  rw [e]
  have nd := f3 (by simp)
  have k0 : keys [(S0, (0 : Int))] = [S0] := rfl
  have nd : (S0 :: fs).Nodup := nd
  have kk : keys ([(S0, (0 : Int))] ++ fs.map fun T => (T, (0 + 1 : Int))) = S0 :: fs := by rw [keys_app]; rfl
  have mem : ∀ T, T ∈ S0 :: fs ↔ Dir W S0 T := fun T => by
    rw [dir_subs]
    constructor
    · intro h
      rcases List.mem_cons.mp h with h | h
      · rw [h]
        exact dir_subs.mp (Dir.refl s)
      · obtain ⟨L, hL, rfl⟩ := List.mem_map.mp (f1 T h)
        exact ⟨L, pm.mem_iff.mp hL, rfl⟩
    · rintro ⟨L, hL, rfl⟩
      rcases f2 (toggle W.m S0 L) (List.mem_map.mpr ⟨L, pm.mem_iff.mpr hL, rfl⟩) with z | z
      · have z : toggle W.m S0 L ∈ [S0] := z
        rw [List.mem_singleton.mp z]; exact List.mem_cons_self
      · exact List.mem_cons_of_mem _ z
  refine ⟨⟨by show (keys _).Nodup; rw [kk]; exact nd, fun T => by show T ∈ keys _ ↔ _; rw [kk]; exact mem T, fun T hT => ?_⟩, fun T hT => ?_⟩
  · have hT : T ∈ keys ([(S0, (0 : Int))] ++ fs.map fun T => (T, (0 + 1 : Int))) := hT
    rw [kk] at hT
    by_cases z : T = S0
    · rw [if_pos z]
      show (if S0 = T then some (0 : Int) else _) = some 0
      rw [if_pos z.symm]
    · rw [if_neg z]
      refine look_new (fun q => z (List.mem_singleton.mp q)) ((List.mem_cons.mp hT).resolve_left z)
  · show T ∈ keys _
    rw [kk]
    exact List.mem_cons_of_mem _ (by simpa using hT)
theorem dir_std {W : Wb} {S T : List Int} (hm : W.m ≤ 5) (h : Dir W S T) : Std W.m T := by
  obtain ⟨L, _, rfl⟩ := h
  exact toggle_std hm
theorem dir_iff {W : Wb} {S T : List Int} (s : Std W.m S) (t : Std W.m T) : Dir W S T ↔ (differ W S T).any (frzB W S) = false := by
  have mem : ∀ k, k ∈ differ W S T ↔ (0 ≤ k ∧ k < (W.m : Int)) ∧ (k ∈ S ↔ ¬ k ∈ T) := fun k => mem_toggle
  rw [List.any_eq_false]
  constructor
  · rintro ⟨L, hL, rfl⟩ k hk
    have h := (mem k).mp hk
    have hl : k ∈ L := by
      have := h.2
      rw [mem_toggle] at this
      by_cases z : k ∈ L
      · exact z
      · by_cases q : k ∈ S
        · exact absurd ⟨h.1, by simp [z, q]⟩ (this.mp q)
        · exact absurd (this.mpr (by simp [z, q])) q
    rw [(mem_loose.mp (hL k hl)).2]
    simp
  · intro h
    refine ⟨differ W S T, fun k hk => mem_loose.mpr ⟨((mem k).mp hk).1, by simpa using h k hk⟩, ?_⟩
    refine asc_ext t.asc toggle_asc fun k => ?_
    rw [mem_toggle, mem k]
    have := t.ok k
    by_cases h1 : k ∈ S <;> by_cases h2 : k ∈ T
    · simp [h1, h2, this h2]
    · simp [h1, h2]
    · simp [h1, h2, this h2]
    · simp [h1, h2]
theorem differ_nil {W : Wb} {S T : List Int} (s : Std W.m S) (t : Std W.m T) : differ W S T = [] ↔ T = S := by
  have mem : ∀ k, k ∈ differ W S T ↔ (0 ≤ k ∧ k < (W.m : Int)) ∧ (k ∈ S ↔ ¬ k ∈ T) := fun k => mem_toggle
  constructor
  · intro h
    refine std_ext t s fun k h1 h2 => ?_
    have : ¬ k ∈ differ W S T := by rw [h]; simp
    rw [mem] at this
    by_cases a : k ∈ S <;> by_cases b : k ∈ T <;> simp_all
  · rintro rfl
    refine List.eq_nil_iff_forall_not_mem.mpr fun k hk => ?_
    have := ((mem k).mp hk).2
    by_cases a : k ∈ T <;> simp [a] at this
theorem full_len {W : Wb} {S0 : List Int} {es : Es} (s : Std W.m S0) (F : Full W S0 es) : es.length = 2 ^ (loose W S0).length := by
  have a := loose_asc W S0
  have nd : ((subs (loose W S0)).map fun L => toggle W.m S0 L).Nodup := by
    rw [List.nodup_iff_pairwise_ne, List.pairwise_map]
    refine List.Pairwise.imp_of_mem (fun {x y} hx hy ne e => ne ?_) (subs_nodup _ _ rfl a.nodup)
    have hx := mem_subs.mp hx
    have hy := mem_subs.mp hy
    refine asc_ext (List.Pairwise.sublist hx a) (List.Pairwise.sublist hy a) fun k => ?_
    have hk : ∀ {L : List Int}, L.Sublist (loose W S0) → k ∈ L → 0 ≤ k ∧ k < (W.m : Int) := fun h z => (mem_loose.mp (h.subset z)).1
    have e' : k ∈ toggle W.m S0 x ↔ k ∈ toggle W.m S0 y := by rw [e]
    rw [mem_toggle, mem_toggle] at e'
    constructor
    · intro z
      have := hk hx z
      by_cases q : k ∈ y
      · exact q
      · by_cases p : k ∈ S0 <;> simp [z, q, p, this] at e'
    · intro z
      have := hk hy z
      by_cases q : k ∈ x
      · exact q
      · by_cases p : k ∈ S0 <;> simp [z, q, p, this] at e'
  have := same_len F.nd nd fun T => by
    rw [F.all, dir_subs, List.mem_map]
    exact ⟨fun ⟨L, h, e⟩ => ⟨L, h, e.symm⟩, fun ⟨L, h, e⟩ => ⟨L, h, e.symm⟩⟩
  rw [List.length_map, List.length_map, len_subs] at this
  exact this
end LD
set_option Elab.async false
set_option linter.all false
set_option maxRecDepth 100000
set_option maxHeartbeats 3200000
set_option autoImplicit false
/-! what single deeds reach, and how many -/
namespace LD
open PySem PySem.Spec PyProof.Rows L2 Evl

theorem noRing_mono {A : List (Int × Int)} {L M : List Int} (h : NoRing A L) (s : ∀ k ∈ M, k ∈ L) : NoRing A M := fun N ne hN => h N ne fun k hk => s k (hN k hk)
theorem noRing_nil {A : List (Int × Int)} : NoRing A [] := fun M ne h => by
  cases M with
  | nil => exact absurd rfl ne
  | cons k M => exact absurd (h k List.mem_cons_self) (by simp)
def up (S L : List Int) : List Int := L.filter fun k => !decide (k ∈ S)
def dn (S L : List Int) : List Int := L.filter fun k => decide (k ∈ S)
theorem mem_up {S L : List Int} {k : Int} : k ∈ up S L ↔ k ∈ L ∧ k ∉ S := by unfold up; rw [List.mem_filter]; simp
theorem mem_dn {S L : List Int} {k : Int} : k ∈ dn S L ↔ k ∈ L ∧ k ∈ S := by unfold dn; rw [List.mem_filter]; simp
theorem loose_no {W : Wb} {S : List Int} {k : Int} {p : Int × Int} (h : k ∈ loose W S) (hp : p ∈ W.A) (a : p.1 ∈ S) (b : p.2 ∉ S) (c : p.1 = k ∨ p.2 = k) : False :=
  (Bool.eq_false_iff.mp (mem_loose.mp h).2) (mem_frz.mpr ⟨p, hp, ⟨a, b⟩, c⟩)
theorem reach_fwd {W : Wb} {S T : List Int} (ok : WebOk W) (s : Std W.m S) (r : Reach W S T) : ∃ L : List Int, (∀ k ∈ L, k ∈ loose W S) ∧ NoRing W.A (up S L) ∧ NoRing W.A (dn S L) ∧ T = toggle W.m S L := by
  induction r with
  | refl => exact ⟨[], fun k h => (by cases h), noRing_nil, noRing_nil, (toggle_nil s).symm⟩
  | @step T d _ hd ih =>
    obtain ⟨L, hL, n1, n2, rfl⟩ := ih
    have hdS := loose_stays ok hL hd
    have hd1 : ∀ k ∈ [d], k ∈ loose W S := fun k hk => by rw [List.mem_singleton.mp hk]; exact hdS
    have mx : ∀ k, k ∈ xorL W S L [d] → (k ∈ L ↔ ¬ k = d) := fun k hk => by
      have := (mem_xor.mp hk).2
      rwa [List.mem_singleton] at this
    have rngL : ∀ k ∈ L, 0 ≤ k ∧ k < (W.m : Int) := fun k hk => (mem_loose.mp (hL k hk)).1
    refine ⟨xorL W S L [d], fun k hk => (mem_xor.mp hk).1, ?_, ?_, toggle2 hL hd1⟩
    · refine noRing_no fun M cM hM => ?_
      have hM1 : ∀ k ∈ M, (k ∈ L ↔ ¬ k = d) ∧ k ∉ S := fun k hk => ⟨mx k (mem_up.mp (hM k hk)).1, (mem_up.mp (hM k hk)).2⟩
      by_cases hdM : d ∈ M
      · have dS := (hM1 d hdM).2
        have dL : d ∉ L := fun z => ((hM1 d hdM).1.mp z) rfl
        have dT : d ∉ toggle W.m S L := fun z => dS ((mem_toggle.mp z).2.mpr dL)
        have inT : ∀ k ∈ M, k ≠ d → k ∈ L ∧ k ∈ toggle W.m S L := fun k hk ne => by
          have kl := (hM1 k hk).1.mpr ne
          exact ⟨kl, mem_toggle.mpr ⟨rngL k kl, by simp [(hM1 k hk).2, kl]⟩⟩
        have key : M.filter (fun k => !decide (k = d)) = [] := noRing_yes n1 (fun k hk => by
          have hk := List.mem_filter.mp hk
          have ne : k ≠ d := by simpa using hk.2
          obtain ⟨p, hp, e, h2⟩ := cM k hk.1
          refine ⟨p, hp, e, List.mem_filter.mpr ⟨h2, ?_⟩⟩
          by_cases z : p.2 = d
          · exact absurd (loose_no hd hp (by rw [e]; exact (inT k hk.1 ne).2) (by rw [z]; exact dT) (.inr z)) id
          · simpa using z) fun k hk => by
          have hk := List.mem_filter.mp hk
          have ne : k ≠ d := by simpa using hk.2
          exact mem_up.mpr ⟨(inT k hk.1 ne).1, (hM1 k hk.1).2⟩
        obtain ⟨p, hp, e, h2⟩ := cM d hdM
        have : p.2 = d := by
          apply Classical.byContradiction
          intro ne
          have : p.2 ∈ M.filter (fun k => !decide (k = d)) := List.mem_filter.mpr ⟨h2, by simpa using ne⟩
          rw [key] at this
          cases this
        exact absurd (e.trans this.symm) (ok.ok p hp).2.2
      · exact noRing_yes n1 cM fun k hk => mem_up.mpr ⟨(hM1 k hk).1.mpr fun e => hdM (e ▸ hk), (hM1 k hk).2⟩
    · refine noRing_no fun M cM hM => ?_
      have hM1 : ∀ k ∈ M, (k ∈ L ↔ ¬ k = d) ∧ k ∈ S := fun k hk => ⟨mx k (mem_dn.mp (hM k hk)).1, (mem_dn.mp (hM k hk)).2⟩
      by_cases hdM : d ∈ M
      · have dS := (hM1 d hdM).2
        have dL : d ∉ L := fun z => ((hM1 d hdM).1.mp z) rfl
        have dT : d ∈ toggle W.m S L := mem_toggle.mpr ⟨(mem_loose.mp hdS).1, by simp [dS, dL]⟩
        obtain ⟨p, hp, e, h2⟩ := cM d hdM
        have ne : p.2 ≠ d := fun z => (ok.ok p hp).2.2 (e.trans z.symm)
        have p2L := (hM1 _ h2).1.mpr ne
        have p2T : p.2 ∉ toggle W.m S L := fun z => ((mem_toggle.mp z).2.mp (hM1 _ h2).2) p2L
        exact absurd (loose_no hd hp (by rw [e]; exact dT) p2T (.inl e)) id
      · exact noRing_yes n2 cM fun k hk => mem_dn.mpr ⟨(hM1 k hk).1.mpr fun e => hdM (e ▸ hk), (hM1 k hk).2⟩
theorem filter_ne_len {L : List Int} {k : Int} (h : k ∈ L) : (L.filter fun j => !decide (j = k)).length < L.length := by
  rcases Nat.lt_or_ge (L.filter fun j => !decide (j = k)).length L.length with z | z
  · exact z
  · have e := (List.filter_sublist (p := fun j => !decide (j = k)) (l := L)).eq_of_length (Nat.le_antisymm (List.length_filter_le _ _) z)
    rw [← e] at h
    have := (List.mem_filter.mp h).2
    simp at this
theorem mem_ne {L : List Int} {j k : Int} : j ∈ L.filter (fun j => !decide (j = k)) ↔ j ∈ L ∧ j ≠ k := by rw [List.mem_filter]; simp
theorem reach_back {W : Wb} (ok : WebOk W) : ∀ (n : Nat) (S L : List Int), L.length ≤ n → Std W.m S → (∀ k ∈ L, k ∈ loose W S) → NoRing W.A (up S L) → NoRing W.A (dn S L) → Reach W S (toggle W.m S L)
  | 0, S, L, hl, s, _, _, _ => by
    rw [List.length_eq_zero_iff.mp (Nat.le_zero.mp hl), toggle_nil s]
    exact .refl
  | n + 1, S, L, hl, s, hL, n1, n2 => by
    have hm := ok.hi
    by_cases h0 : up S L = []
    · by_cases hL0 : L = []
      · rw [hL0, toggle_nil s]; exact .refl
      · have inS : ∀ k ∈ L, k ∈ S := fun k hk => by
          apply Classical.byContradiction
          intro z
          have : k ∈ up S L := mem_up.mpr ⟨hk, z⟩
          rw [h0] at this
          cases this
        obtain ⟨k, hk, sink⟩ := n2 L hL0 fun k hk => mem_dn.mpr ⟨hk, inS k hk⟩
        have sub : ∀ j ∈ L.filter (fun j => !decide (j = k)), j ∈ L := fun j hj => (mem_ne.mp hj).1
        have kS := inS k hk
        have kr := (mem_loose.mp (hL k hk)).1
        have ih := reach_back ok n S (L.filter fun j => !decide (j = k)) (by have := filter_ne_len hk; omega) s (fun j hj => hL j (sub j hj)) (noRing_mono n1 fun j hj => mem_up.mpr ⟨sub j (mem_up.mp hj).1, (mem_up.mp hj).2⟩) (noRing_mono n2 fun j hj => mem_dn.mpr ⟨sub j (mem_dn.mp hj).1, (mem_dn.mp hj).2⟩)
        have kT : k ∈ toggle W.m S (L.filter fun j => !decide (j = k)) := mem_toggle.mpr ⟨kr, by simp [kS]⟩
        have kl : k ∈ loose W (toggle W.m S (L.filter fun j => !decide (j = k))) := by
          refine mem_loose.mpr ⟨kr, Bool.eq_false_iff.mpr fun z => ?_⟩
          obtain ⟨p, hp, ⟨a, b⟩, c⟩ := mem_frz.mp z
          have c1 : p.1 = k := c.resolve_right fun e => b (e ▸ kT)
          have o := ok.ok p hp
          have np : ¬ p.2 ∈ L := sink p hp c1
          have q : p.2 ∉ S := fun q => b (mem_toggle.mpr ⟨o.2.1, by
            have : p.2 ∉ L.filter fun j => !decide (j = k) := fun x => np (sub _ x)
            simp only [q, this, not_false_eq_true]⟩)
          exact loose_no (hL k hk) hp (by rw [c1]; exact kS) q (.inl c1)
        have e : toggle W.m (toggle W.m S (L.filter fun j => !decide (j = k))) [k] = toggle W.m S L := by
          refine asc_ext toggle_asc toggle_asc fun j => ?_
          rw [mem_toggle, mem_toggle, mem_toggle, List.mem_singleton, mem_ne]
          by_cases z : j = k
          · subst z; simp [kS, hk]
          · by_cases z1 : j ∈ L <;> by_cases z2 : j ∈ S <;> simp [z, z1, z2] <;> omega
        rw [← e]
        exact .step ih kl
    · obtain ⟨k, hk, sink⟩ := n1 (up S L) h0 fun k hk => hk
      have hk' := mem_up.mp hk
      have kr := (mem_loose.mp (hL k hk'.1)).1
      have mem1 : ∀ j, j ≠ k → (j ∈ toggle W.m S [k] ↔ j ∈ S) := fun j ne => by
        rw [mem_toggle, List.mem_singleton]
        constructor
        · exact fun h => h.2.mpr ne
        · exact fun h => ⟨s.ok j h, by simp [h, ne]⟩
      have k1 : k ∈ toggle W.m S [k] := mem_toggle.mpr ⟨kr, by simp [hk'.2]⟩
      have ih := reach_back ok n (toggle W.m S [k]) (L.filter fun j => !decide (j = k)) (by have := filter_ne_len hk'.1; omega) (toggle_std hm) (fun j hj => ?_) (noRing_mono n1 fun j hj => ?_) (noRing_mono n2 fun j hj => ?_)
      · have e : toggle W.m (toggle W.m S [k]) (L.filter fun j => !decide (j = k)) = toggle W.m S L := by
          refine asc_ext toggle_asc toggle_asc fun j => ?_
          rw [mem_toggle (S := toggle W.m S [k]), mem_toggle (S := S) (L := L), mem_ne]
          by_cases z : j = k
          · subst z; simp [k1, hk'.1, hk'.2]
          · rw [mem1 j z]
            simp [z]
        rw [← e]
        exact (Reach.step .refl (hL k hk'.1)).trans ih
      · have hj := mem_ne.mp hj
        refine mem_loose.mpr ⟨(mem_loose.mp (hL j hj.1)).1, Bool.eq_false_iff.mpr fun z => ?_⟩
        obtain ⟨p, hp, ⟨a, b⟩, c⟩ := mem_frz.mp z
        have p2 : p.2 ≠ k := fun e => b (e ▸ k1)
        have b' : p.2 ∉ S := fun q => b ((mem1 _ p2).mpr q)
        by_cases p1 : p.1 = k
        · have c2 : p.2 = j := c.resolve_left fun e => hj.2 (e.symm.trans p1)
          exact sink p hp p1 (mem_up.mpr ⟨by rw [c2]; exact hj.1, b'⟩)
        · exact loose_no (hL j hj.1) hp ((mem1 _ p1).mp a) b' c
      · have h1 := mem_up.mp hj
        have h2 := mem_ne.mp h1.1
        exact mem_up.mpr ⟨h2.1, fun q => h1.2 ((mem1 j h2.2).mpr q)⟩
      · have h1 := mem_dn.mp hj
        have h2 := mem_ne.mp h1.1
        exact mem_dn.mpr ⟨h2.1, (mem1 j h2.2).mp h1.2⟩
theorem flat_len {α β γ : Type} (f : α → β → γ) (Y : List β) : ∀ X : List α, (X.flatMap fun a => Y.map (f a)).length = X.length * Y.length
  | [] => by simp
  | x :: X => by
    rw [List.flatMap_cons, List.length_append, List.length_map, flat_len f Y X, List.length_cons, Nat.succ_mul]
    omega
theorem reach_len {W : Wb} {S : List Int} {es : Es} (ok : WebOk W) (s : Std W.m S) (nd : (keys es).Nodup) (all : ∀ T, T ∈ keys es ↔ Reach W S T) : es.length = countW W S := by
  have la := loose_asc W S
  let X := (subs (up S (loose W S))).filter fun L => noRing W.A L
  let Y := (subs (dn S (loose W S))).filter fun L => noRing W.A L
  have hX : ∀ a, a ∈ X ↔ a.Sublist (up S (loose W S)) ∧ NoRing W.A a := fun a => by
    show a ∈ (subs _).filter _ ↔ _
    rw [List.mem_filter, mem_subs, noRing_iff]
  have hY : ∀ a, a ∈ Y ↔ a.Sublist (dn S (loose W S)) ∧ NoRing W.A a := fun a => by
    show a ∈ (subs _).filter _ ↔ _
    rw [List.mem_filter, mem_subs, noRing_iff]
  have ua : Asc (up S (loose W S)) := la.filter _
  have da : Asc (dn S (loose W S)) := la.filter _
  have xin : ∀ a ∈ X, ∀ k ∈ a, k ∈ loose W S ∧ k ∉ S := fun a ha k hk => mem_up.mp (((hX a).mp ha).1.subset hk)
  have yin : ∀ b ∈ Y, ∀ k ∈ b, k ∈ loose W S ∧ k ∈ S := fun b hb k hk => mem_dn.mp (((hY b).mp hb).1.subset hk)
  have recX : ∀ a ∈ X, ∀ b ∈ Y, ∀ k, k ∈ a ↔ k ∉ S ∧ k ∈ toggle W.m S (a ++ b) := fun a ha b hb k => by
    rw [mem_toggle, List.mem_append]
    constructor
    · intro h
      have := xin a ha k h
      exact ⟨this.2, (mem_loose.mp this.1).1, by simp [this.2, h]⟩
    · rintro ⟨h1, _, h2⟩
      apply Classical.byContradiction
      intro z
      exact h1 (h2.mpr fun q => q.elim z fun q => h1 (yin b hb k q).2)
  have recY : ∀ a ∈ X, ∀ b ∈ Y, ∀ k, k ∈ b ↔ k ∈ S ∧ k ∉ toggle W.m S (a ++ b) := fun a ha b hb k => by
    rw [mem_toggle, List.mem_append]
    constructor
    · intro h
      have := yin b hb k h
      refine ⟨this.2, fun q => ?_⟩
      exact (q.2.mp this.2) (.inr h)
    · rintro ⟨h1, h2⟩
      apply Classical.byContradiction
      intro z
      refine h2 ⟨s.ok k h1, ?_⟩
      have : k ∉ a := fun q => (xin a ha k q).2 h1
      simp [h1, this, z]
  have ascX : ∀ a ∈ X, Asc a := fun a ha => List.Pairwise.sublist ((hX a).mp ha).1 ua
  have ascY : ∀ b ∈ Y, Asc b := fun b hb => List.Pairwise.sublist ((hY b).mp hb).1 da
  have Z : (X.flatMap fun a => Y.map fun b => toggle W.m S (a ++ b)).Nodup := by
    rw [List.nodup_iff_pairwise_ne, List.pairwise_flatMap]
    refine ⟨fun a ha => ?_, ?_⟩
    · rw [List.pairwise_map]
      refine List.Pairwise.imp_of_mem (fun {x y} hx hy ne e => ne ?_) ((subs_nodup _ _ rfl da.nodup).filter _)
      refine asc_ext (ascY x hx) (ascY y hy) fun k => ?_
      rw [recY a ha x hx k, recY a ha y hy k, e]
    · refine List.Pairwise.imp_of_mem (fun {x y} hx hy ne u hu v hv e => ne ?_) ((subs_nodup _ _ rfl ua.nodup).filter _)
      obtain ⟨b, hb, rfl⟩ := List.mem_map.mp hu
      obtain ⟨c, hc, rfl⟩ := List.mem_map.mp hv
      refine asc_ext (ascX x hx) (ascX y hy) fun k => ?_
      rw [recX x hx b hb k, recX y hy c hc k, e]
  have mem : ∀ T, T ∈ keys es ↔ T ∈ X.flatMap fun a => Y.map fun b => toggle W.m S (a ++ b) := fun T => by
    rw [all, List.mem_flatMap]
    constructor
    · intro r
      obtain ⟨L, hL, n1, n2, rfl⟩ := reach_fwd ok s r
      refine ⟨(up S (loose W S)).filter fun k => decide (k ∈ L), (hX _).mpr ⟨List.filter_sublist, noRing_mono n1 fun k hk => ?_⟩, List.mem_map.mpr ⟨(dn S (loose W S)).filter fun k => decide (k ∈ L), (hY _).mpr ⟨List.filter_sublist, noRing_mono n2 fun k hk => ?_⟩, ?_⟩⟩
      · have h := List.mem_filter.mp hk
        exact mem_up.mpr ⟨by simpa using h.2, (mem_up.mp h.1).2⟩
      · have h := List.mem_filter.mp hk
        exact mem_dn.mpr ⟨by simpa using h.2, (mem_dn.mp h.1).2⟩
      · refine asc_ext toggle_asc toggle_asc fun k => ?_
        rw [mem_toggle, mem_toggle, List.mem_append, List.mem_filter, List.mem_filter, mem_up, mem_dn]
        by_cases z : k ∈ L
        · by_cases z2 : k ∈ S <;> simp [z, z2, hL k z]
        · by_cases z2 : k ∈ S <;> simp [z, z2]
    · rintro ⟨a, ha, h⟩
      obtain ⟨b, hb, rfl⟩ := List.mem_map.mp h
      refine reach_back ok (a ++ b).length S (a ++ b) (Nat.le_refl _) s (fun k hk => ?_) (noRing_mono ((hX a).mp ha).2 fun k hk => ?_) (noRing_mono ((hY b).mp hb).2 fun k hk => ?_)
      · rcases List.mem_append.mp hk with z | z
        · exact (xin a ha k z).1
        · exact (yin b hb k z).1
      · have h := mem_up.mp hk
        rcases List.mem_append.mp h.1 with z | z
        · exact z
        · exact absurd (yin b hb k z).2 h.2
      · have h := mem_dn.mp hk
        rcases List.mem_append.mp h.1 with z | z
        · exact absurd h.2 (xin a ha k z).2
        · exact z
  have := same_len nd Z mem
  rw [List.length_map, flat_len (fun a b => toggle W.m S (a ++ b))] at this
  exact this
end LD
set_option Elab.async false
set_option linter.all false
set_option maxRecDepth 100000
set_option maxHeartbeats 8000000
set_option autoImplicit false
/-! the search by single deeds -/
namespace LD
open PySem PySem.Spec PyProof.Rows L2 Evl
theorem fold_len (n : Int) (Ts : List (List Int)) (st : Es × List (List Int)) : (Ts.foldl (add n) st).1.length ≤ st.1.length + Ts.length ∧ (Ts.foldl (add n) st).2.length ≤ st.2.length + Ts.length := by
  induction Ts generalizing st with
  | nil => exact ⟨Nat.le_refl _, Nat.le_refl _⟩
  | cons T Ts ih =>
    have := ih (add n st T)
    rw [List.foldl_cons, List.length_cons]
    have h : (add n st T).1.length ≤ st.1.length + 1 ∧ (add n st T).2.length ≤ st.2.length + 1 := by
      by_cases z : T ∈ keys st.1
      · rw [add_in z]; omega
      · rw [add_out z]; simp
    omega
theorem fold_take {n : Int} {α : Type} {f : α → List Int} {xs : List α} {j : Nat} {x : α} {st : Es × List (List Int)} (h : xs[j]? = some x) : ((xs.take (j + 1)).map f).foldl (add n) st = add n (((xs.take j).map f).foldl (add n) st) (f x) := by
  rw [List.take_add_one, h, Option.toList_some, List.map_append, List.foldl_append]
  rfl
section
variable {K : PySem.W.Frag} {σ : L2.St} {H H0 H' : Hp} {te : TE} {D : Ends} {tz : TS}
theorem q_init {i j so : Nat} {vo : V} {S : List Int} (hσ : σ[so]? = some (some vo)) (ho : (IT S).p vo H)
    (k : ∀ d r H1, H d = none → H r = none → d ≠ r → Ex H H1 → H1 d = some (.dT (kvs [(S, 0)])) → H1 r = some (.lst [vo]) → tz D ((σ.set i (some (.ref d))).set j (some (.ref r))) H1) :
    tSeq (tPar i j (tCons (tDisp1 (tVar so) (tC (.int 0))) (tCons (tLst (tCons (tVar so) tNil)) tNil))) tz D σ H := by
  obtain ⟨b, rfl, hb⟩ := ho
  intro d nd
  refine ⟨_, hσ, upd_same, b, keyI S, rfl, ?_, ?_⟩
  · rw [keyI_kV]
    exact Ex.new nd b _ hb
  · refine ⟨_, hσ, sz_of (by simp), fun r nr => ⟨_, _, rfl, ?_⟩⟩
    have ne : d ≠ r := fun e => by
      rw [← e, upd_same] at nr
      cases nr
    have nr' : H r = none := by
      rw [upd_ne ne.symm, upd_ne ne.symm] at nr
      exact nr
    refine k d r _ nd nr' ne (Ex.mut (Ex.mut (Ex.new nd) nd) nr') ?_ upd_same
    rw [upd_ne ne, upd_same]
    rfl
end
def mu (es : Es) (rows : List (List Int)) : Nat := 2 * (33 - es.length) + (if rows = [] then 0 else 1)
section
variable {P : Program} {w : World} {K : PySem.W.Frag} {mg : Str → Option Value} {base : Heap}
abbrev p_law_from : Sp := fsp (fun x : Wb × List Int => [wR x.1, IT x.2]) (fun x => WebOk x.1 ∧ Std x.1.m x.2) (fun x => XR (fun es => (keys es).Nodup ∧ ∀ T, T ∈ keys es ↔ Reach x.1 x.2 T) Dt)
theorem sc_law_from : FnScope ["_law_web_here", "_law_opened", "_law_found", "_law_rows", "_law_more", "_law_here", "_law_door", "_law_there"] ["_law_web_here", "_law_opened"] (defScope (top 46)) := ⟨rfl, rfl, rfl, by decide +kernel, rfl, by decide +kernel, by decide +kernel⟩
abbrev D_law_from (P : Program) (w : World) (K : PySem.W.Frag) (mg : Str → Option Value) (base : Heap) : Prop := Def P w K mg base "_law_from" 3 ["_law_web_here", "_law_opened"] p_law_from
theorem d_law_from (R : Raw K mg "_law_from" (top 46)) (T : Names mg) (d_law_after : D_law_after P w K mg base) : D_law_from P w K mg base := by
  refine Def.fn (k := 2) R sc_law_from (fun _ _ _ _ _ _ us hl => match us, hl with | [_, _], _ => rfl) (fun _ => rfl) fun f cdv A outer s H0 E hr => ⟨_, (pss_cons (ps_par (i := 2) (j := 3) (by rfl) sc_law_from.nd rfl rfl (by decide) rfl rfl (pa_cons (pe_disp1 (hu_of hr) (pv 1) pe_int) (pa_cons (pe_lst (pa_cons (pv 1) pa_nil)) pa_nil)) (by rfl))
      (pss_cons (ps_while PassesOwn.never (pt_cmpR (op_neD' K rfl (un64 hr)) (pv 3) (pe_lst pa_nil) (nomark _))
        (pss_cons (ps_set (i := 4) sc_law_from.nd rfl (Or.inl rfl) (pe_lst pa_nil))
        (pss_cons (ps_for PassesOwn.never rfl (pi_list' K rfl (pv 3)) (pg_name (i := 5) sc_law_from.nd rfl (Or.inl rfl))
          (pss_one (ps_for PassesOwn.never rfl (pi_list' K rfl (pe_def d_law_after (hr.mono (by decide)) rfl (pa_cons (pv 0) (pa_cons (pv 5) pa_nil)))) (pg_tup2 K rfl rfl (pgs_cons (pg_name (i := 6) sc_law_from.nd rfl (Or.inl rfl)) (pgs_cons (pg_name (i := 7) sc_law_from.nd rfl (Or.inl rfl)) pgs_nil)))
            (pss_one (ps_if (pt_cmp (pc_dnotin (hu_of hr) (pv 7) (pv 2)))
              (pss_cons (ps_dput (hu_of hr) (pv 2) (pv 7) (pe_op op_add (pe_dget (hu_of hr) (pv 2) (pv 5) (fun _ _ => rfl)) pe_int) rfl)
              (pss_one (ps_expr (pe_bm PySem.F.plainAttrs_list PySem.F.slot_list_append PySem.F.type_list_append mt_append (pv 4) (pa_cons (pv 7) pa_nil))))) pss_nil)))))
        (pss_one (ps_set (i := 3) sc_law_from.nd rfl (Or.inl rfl) (pv 4))))))
      (pss_one (ps_ret (pv 2))))), ?_⟩
  rintro ⟨W, S⟩ vs H Q ⟨ok, s⟩ r q
  obtain ⟨a, b, rfl, ha, hb⟩ := vs2 r
  have ok : WebOk W := ok
  have s : Std W.m S := s
  have hi := ok.hi
  refine q_init (so := 1) (S := S) rfl hb fun d r H1 nd nr ne e1 hd hr => ?_
  refine q_while (fun n σ' H' => ∃ es rows rr o4 o5 o6 o7 vs, n = mu es rows ∧ σ' = [some a, some b, some (.ref d), some (.ref rr), o4, o5, o6, o7] ∧ Ex H H' ∧ H' d = some (.dT (kvs es)) ∧ H' rr = some (.lst vs) ∧ All2 (fun S v => (IT S).p v H') rows vs ∧ Mid W S rows es.length 0 (es, [])) (mu [(S, 0)] [S])
    ⟨[(S, 0)], [S], r, _, _, _, _, [b], rfl, rfl, e1, hd, hr, .cons ((IT S).mono e1 hb) .nil, Mid.start W S⟩ ?_
  rintro n σ' H' ⟨es, rows, rr, o4, o5, o6, o7, vs, rfl, rfl, e, hd, hrr, hrv, M⟩
  refine ⟨_, et_of (er_neNs (ss := rows) (er_var rfl ⟨rr, vs, rfl, hrr, hrv⟩) (er_lst ea_nilR (by simp))), ?_, ?_⟩
  · intro hne H2 e2
    have hne : rows ≠ [] := by simpa using hne
    refine ⟨fun σ2 H2' => ∃ n', n' < mu es rows ∧ ∃ es rows rr o4 o5 o6 o7 vs, n' = mu es rows ∧ σ2 = [some a, some b, some (.ref d), some (.ref rr), o4, o5, o6, o7] ∧ Ex H H2' ∧ H2' d = some (.dT (kvs es)) ∧ H2' rr = some (.lst vs) ∧ All2 (fun S v => (IT S).p v H2') rows vs ∧ Mid W S rows es.length 0 (es, []), fun _ _ h => h, ?_⟩
    refine ⟨sz_of (by simp), fun l nl => ?_⟩
    have d2 := e2 _ _ hd
    have r2 := e2 _ _ hrr
    have ln : H l = none := fresh_back (e.trans e2) nl
    have ld : d ≠ l := fun z => by rw [z, nl] at d2; cases d2
    have lr : rr ≠ l := fun z => by rw [z, nl] at r2; cases r2
    have rd : rr ≠ d := fun z => by rw [z, d2] at r2; cases r2
    have e3 : Ex H2 (L2.upd H2 l (.lst [])) := Ex.new nl
    have bx0 : Bx H d l (es, []) (L2.upd H2 l (.lst [])) := ⟨(e.trans e2).trans e3, nd, ln, ld, e3 _ _ d2, [], upd_same, .nil⟩
    refine sr_forV (d := d) (l := l) (i := 3) (a := rr) (R := IT) (xs := rows) (vs := vs) rfl ⟨rd, lr⟩ (e3 _ _ r2) (all2_up (e2.trans e3) hrv) (fun i σ' H' => ∃ st o5 o6 o7, σ' = [some a, some b, some (.ref d), some (.ref rr), some (.ref l), o5, o6, o7] ∧ Bx H d l st H' ∧ Mid W S rows es.length i st) ⟨(es, []), _, _, _, rfl, bx0, M⟩ ?_ ?_
    · rintro i B v σ' H' hB chg ⟨st, o5, o6, o7, rfl, bx, M⟩ rv
      have hBk := M.rk B (List.mem_of_getElem? hB)
      have sB := (M.rc B hBk).std hi s
      obtain ⟨k, hk⟩ := look_some hBk
      have few := M.few hi s
      have ln2 := M.ln
      have lB := loose_len W B
      refine sr_forN (d := d) (l := l) (P := fun xs => xs = loose W B) (R := aftR W.m B) ((en_def (W, B) ⟨ok, sB⟩ (ea_consR (er_var rfl ((wR W).mono bx.ex ha)) (ea_consR (er_var rfl rv) ea_nilR))).to fun v H _ r => ⟨_, rfl, r⟩) (by rw [bx.dv]; exact fun z => nomatch z) (by obtain ⟨ws, h, _⟩ := bx.lv; rw [h]; exact fun z => nomatch z)
        (fun xs j σ' H'' => ∃ o6 o7, σ' = [some a, some b, some (.ref d), some (.ref rr), some (.ref l), some v, o6, o7] ∧ Bx H d l (((xs.take j).map fun d => toggle W.m B [d]).foldl (add (k + 1)) st) H'' ∧ (IT B).p v H'') (fun xs H1 hx e => ⟨_, _, rfl, bx.up e, (IT B).mono e rv⟩) ?_ ?_
      · rintro xs j x v2 σ' H2 H'' rfl hx e chg2 ⟨o6, o7, rfl, bx2, rB⟩ rv2
        refine g_pair rv2 fun u t hu ht => ?_
        have fl := fold_len (k + 1) (((loose W B).take j).map fun d => toggle W.m B [d]) st
        rw [List.length_map, List.length_take] at fl
        refine s_add (sd := 2) (st := 7) (sh := 5) (sl := 4) (es := (((((loose W B).take j).map fun d => toggle W.m B [d]).foldl (add (k + 1)) st)).1) (more := (((((loose W B).take j).map fun d => toggle W.m B [d]).foldl (add (k + 1)) st)).2) bx2 rfl rfl rfl rfl ht rB (fold_look hk) (by omega) (by omega) fun H4 chg4 bx4 => ⟨chg2.trans chg4, _, _, rfl, ?_, TM.t chg4.2 rB⟩
        rw [fold_take hx]
        exact bx4
      · rintro xs σ' H'' rfl chg2 ⟨o6, o7, rfl, bx3, _⟩
        rw [List.take_length] at bx3
        exact ⟨chg.trans chg2, _, _, _, _, rfl, bx3, M.next hB⟩
    · rintro σ' H' chg ⟨st, o5, o6, o7, rfl, bx, M⟩
      obtain ⟨ws, h1, h2⟩ := bx.lv
      refine ⟨_, rfl, mu st.1 st.2, ?_, st.1, st.2, l, _, _, _, _, ws, rfl, rfl, bx.ex, bx.dv, h1, h2, M.again⟩
      have few := M.few hi s
      have ln2 := M.ln
      unfold mu
      rw [if_neg hne]
      by_cases z : st.2 = []
      · have z0 : st.2.length = 0 := by rw [z]; rfl
        rw [if_pos z]
        omega
      · rw [if_neg z]
        have := List.length_pos_iff.mpr z
        omega
  · intro hne H2 e2
    have hne : rows = [] := by simpa using hne
    subst hne
    exact sr_ret (er_var (R := Dt es) rfl ⟨d, rfl, e2 _ _ hd⟩) fun v H3 e3 r => q v H3 ((e.trans e2).trans e3) ⟨es, ⟨M.nd, M.all⟩, r⟩
end
end LD
set_option Elab.async false
set_option linter.all false
set_option maxRecDepth 100000
set_option maxHeartbeats 8000000
set_option autoImplicit false
/-! alike, vectors -/
namespace LD
open PySem PySem.Spec PyProof.Rows L2 Evl
section
variable {K : PySem.W.Frag} {σ : L2.St} {H H' : Hp} {ta tb tc te : TE} {t u : TT} {R S T : Rep}
theorem kit2 {T c d : String} {b1 b2 : Bool} (h1 : kitB T c = some b1) (h2 : kitB T d = some b2) : PySem.W.kitAny K (.type T) [.type c, .type d] = some (b1 || b2) := by
  cases b1 with
  | true => exact kitAny_cons (b := true) (kit_ty h1) (fun z => by cases z) fun _ => rfl
  | false => exact kitAny_cons (b := false) (kit_ty h1) (fun _ => by
    cases b2 with
    | true => exact kitAny_cons (b := true) (kit_ty h2) (fun z => by cases z) fun _ => rfl
    | false => exact kitAny_cons (b := false) (kit_ty h2) (fun _ => kitAny_nil) fun z => by cases z) fun z => by cases z
theorem er_eqSc {x : V} (h : scal x x = true) (ha : EvR ta σ H (is x)) (hb : EvR tb σ H (is x)) : EvR (tOp rEq ta tb) σ H (B true) :=
  er_op ha hb fun _ _ H1 _ e1 e2 Q q => by
    cases (show _ = x from e1)
    cases (show _ = x from e2)
    exact ⟨h, q _ H1 (Ex.refl _) (by show V.bl _ = V.bl true; rw [decide_eq_true rfl])⟩
end
def flatA : V → Bool
  | .int _ => true
  | .bl _ => true
  | .non => true
  | _ => false
inductive Al | sc (x : V) | tu (ns : List Int)
def Al.rep : Al → Rep
  | .sc x => is x
  | .tu ns => IT ns
def Al.ok : Al → Prop
  | .sc x => flatA x = true
  | .tu ns => ns.length ≤ 10
section
variable {P : Program} {w : World} {K : PySem.W.Frag} {mg : Str → Option Value} {base : Heap}
abbrev p_alike0 : Sp := fsp (fun x : V => [is x, is x]) (fun x => flatA x = true) (fun _ => B true)
abbrev p_law_alike : Sp := fsp (fun x : Al => [x.rep, x.rep]) Al.ok (fun _ => B true)
abbrev D_law_alike (P : Program) (w : World) (K : PySem.W.Frag) (mg : Str → Option Value) (base : Heap) : Prop := Def P w K mg base "_law_alike" 3 ["_law_found", "_law_due"] p_law_alike
theorem sc_law_alike : FnScope ["_law_found", "_law_due", "_law_k"] ["_law_found", "_law_due"] (defScope (top 45)) := ⟨rfl, rfl, rfl, by decide +kernel, rfl, by decide +kernel, by decide +kernel⟩
theorem d_alike_no (R : Raw K mg "_law_alike" (top 45)) (T : Names mg) : Def P w K mg base "_law_alike" 1 ["_law_found", "_law_due"] (fun _ _ _ _ => False) :=
  Def.mk (k := 0) R sc_law_alike (fun _ _ _ _ _ _ us hl => match us, hl with | [_, _], _ => rfl) (fun _ _ _ _ h => h.elim) fun _ _ _ _ _ _ _ _ _ _ h => h.elim
theorem d_alike0 (R : Raw K mg "_law_alike" (top 45)) (T : Names mg) (d_law_alike : Def P w K mg base "_law_alike" 1 ["_law_found", "_law_due"] (fun _ _ _ _ => False)) : Def P w K mg base "_law_alike" 2 ["_law_found", "_law_due"] p_alike0 := by
  refine Def.fn (k := 1) R sc_law_alike (fun _ _ _ _ _ _ us hl => match us, hl with | [_, _], _ => rfl) (fun _ => rfl) fun f cdv A outer s H0 E hr => ⟨_, (pss_cons (ps_if (pt_val (pe_callB (call_isiT' K rfl) (by rfl) T.isi boot_isinstance (pa_cons (pv 1) (pa_cons (pe_tup (pa_cons (pe_bltn (v := .ty "tuple") (by rfl) T.tuple (by decide +kernel) rfl) (pa_cons (pe_bltn (v := .ty "list") (by rfl) T.list (by decide +kernel) rfl) pa_nil))) pa_nil))))
        (pss_cons (ps_if (PW.pt (pw_or (pt_not (pt_val (pe_callB (call_isiT' K rfl) (by rfl) T.isi boot_isinstance (pa_cons (pv 0) (pa_cons (pe_tup (pa_cons (pe_bltn (v := .ty "tuple") (by rfl) T.tuple (by decide +kernel) rfl) (pa_cons (pe_bltn (v := .ty "list") (by rfl) T.list (by decide +kernel) rfl) pa_nil))) pa_nil))))) (pw_or1 (pt_cmpR op_ne (pe_callB (call_isi' K rfl) (by rfl) T.isi boot_isinstance (pa_cons (pv 0) (pa_cons (pe_bltn (v := .ty "list") (by rfl) T.list (by decide +kernel) rfl) pa_nil))) (pe_callB (call_isi' K rfl) (by rfl) T.isi boot_isinstance (pa_cons (pv 1) (pa_cons (pe_bltn (v := .ty "list") (by rfl) T.list (by decide +kernel) rfl) pa_nil))) (nomark _)))))
          (pss_one (ps_ret pe_bl)) pss_nil)
        (pss_cons (ps_if (pt_cmpR op_ne (pe_callB (call_len' K rfl) (by rfl) T.len boot_len (pa_cons (pv 0) pa_nil)) (pe_callB (call_len' K rfl) (by rfl) T.len boot_len (pa_cons (pv 1) pa_nil)) (nomark _))
          (pss_one (ps_ret pe_bl)) pss_nil)
        (pss_one (ps_ret (pe_cmpR (op_eqD' K rfl (un64 hr)) (pe_lc (own := [("_law_k", 2)]) rfl sc_law_alike.nd (pi_range1 (by rfl) T.range (pa_cons (pe_callB (call_len' K rfl) (by rfl) T.len boot_len (pa_cons (pv 1) pa_nil)) pa_nil)) (blkOk_by (by kernel_rfl)) (fun _ _ _ _ _ => (pg_name (i := 2) sc_law_alike.nd rfl (Or.inl rfl))) (fun _ _ _ _ _ => (pts_one (pt_not (pt_val (pe_def d_law_alike (hr.mono (by decide)) rfl (pa_cons (pe_ix (ix_tup' K rfl) (pv 0) (pv 2) (fun _ _ => rfl)) (pa_cons (pe_ix (ix_tup' K rfl) (pv 1) (pv 2) (fun _ _ => rfl)) pa_nil))))))) (fun _ _ _ _ _ => (pv 2))) (pe_lst pa_nil) (nomark _)))))) pss_nil)
      (pss_cons (ps_if (PW.pt (pw_or (pt_cmpR op_isN (pv 1) pe_non (nomark _)) (pw_or1 (pt_val (pe_callB (call_isi' K rfl) (by rfl) T.isi boot_isinstance (pa_cons (pv 1) (pa_cons (pe_bltn (v := .ty "str") (by rfl) T.str (by decide +kernel) rfl) pa_nil)))))))
        (pss_one (ps_ret (pe_and (pe_cmpR op_eq (pv 0) (pv 1) (nomark _)) (pe_one (pe_cmpR op_eq (pe_callB (call_isi' K rfl) (by rfl) T.isi boot_isinstance (pa_cons (pv 0) (pa_cons (pe_bltn (v := .ty "str") (by rfl) T.str (by decide +kernel) rfl) pa_nil))) (pe_callB (call_isi' K rfl) (by rfl) T.isi boot_isinstance (pa_cons (pv 1) (pa_cons (pe_bltn (v := .ty "str") (by rfl) T.str (by decide +kernel) rfl) pa_nil))) (nomark _)))))) pss_nil)
      (pss_one (ps_ret (pe_and (pe_callB (call_isi' K rfl) (by rfl) T.isi boot_isinstance (pa_cons (pv 0) (pa_cons (pe_bltn (v := .ty "int") (by rfl) T.int (by decide +kernel) rfl) pa_nil))) (pe_and (pe_cmpR op_eq (pe_callB (call_isi' K rfl) (by rfl) T.isi boot_isinstance (pa_cons (pv 0) (pa_cons (pe_bltn (v := .ty "bool") (by rfl) T.bool (by decide +kernel) rfl) pa_nil))) (pe_callB (call_isi' K rfl) (by rfl) T.isi boot_isinstance (pa_cons (pv 1) (pa_cons (pe_bltn (v := .ty "bool") (by rfl) T.bool (by decide +kernel) rfl) pa_nil))) (nomark _)) (pe_one (pe_cmpR op_eq (pv 0) (pv 1) (nomark _))))))))), ?_⟩
  rintro x vs H Q hx r q
  obtain ⟨a, b, rfl, ha, hb⟩ := vs2 r
  cases x with
  | int i =>
    refine q_when (b := false) (et_ofB (er_isi2 (er_var rfl hb) ty_I (kit2 (b1 := false) (b2 := false) (by decide +kernel) (by decide +kernel)))) (fun h => by cases h) fun _ H1 e1 => ?_
    have ha1 := (I i).mono e1 ha
    have hb1 := (I i).mono e1 hb
    refine q_when (b := false) (et_is (et_or (et_of (er_isN (er_var rfl hb1) er_c)) fun _ => et_ofB (er_isi (b := false) (er_var rfl hb1) ty_I)) (by simp)) (fun h => by cases h) fun _ H2 e2 => ?_
    have ha2 := (I i).mono e2 ha1
    have hb2 := (I i).mono e2 hb1
    exact sr_ret (R := B true) (er_B (er_and (er_isi (b := true) (er_var rfl ha2) ty_I) fun _ => er_and (er_eqB (er_isi (b := false) (er_var rfl ha2) ty_I) (er_isi (b := false) (er_var rfl hb2) ty_I)) fun _ => er_eqI (er_var rfl ha2) (er_var rfl hb2)) (by simp)) fun v H3 e3 r => q v H3 ((e1.trans e2).trans e3) r
  | bl i =>
    refine q_when (b := false) (et_ofB (er_isi2 (er_var rfl hb) ty_B (kit2 (b1 := false) (b2 := false) (by decide +kernel) (by decide +kernel)))) (fun h => by cases h) fun _ H1 e1 => ?_
    have ha1 := (B i).mono e1 ha
    have hb1 := (B i).mono e1 hb
    refine q_when (b := false) (et_is (et_or (et_of (er_isN (er_var rfl hb1) er_c)) fun _ => et_ofB (er_isi (b := false) (er_var rfl hb1) ty_B)) (by simp)) (fun h => by cases h) fun _ H2 e2 => ?_
    have ha2 := (B i).mono e2 ha1
    have hb2 := (B i).mono e2 hb1
    exact sr_ret (R := B true) (er_B (er_and (er_isi (b := true) (er_var rfl ha2) ty_B) fun _ => er_and (er_eqB (er_isi (b := true) (er_var rfl ha2) ty_B) (er_isi (b := true) (er_var rfl hb2) ty_B)) fun _ => er_eqB (er_var rfl ha2) (er_var rfl hb2)) (by simp)) fun v H3 e3 r => q v H3 ((e1.trans e2).trans e3) r
  | non =>
    refine q_when (b := false) (et_ofB (er_isi2 (er_var rfl hb) ty_N (kit2 (b1 := false) (b2 := false) (by decide +kernel) (by decide +kernel)))) (fun h => by cases h) fun _ H1 e1 => ?_
    have ha1 := (is .non).mono e1 ha
    have hb1 := (is .non).mono e1 hb
    refine q_when (b := true) (et_is (et_or (b := true) (et_of (er_isN (er_var rfl hb1) er_c)) fun h => by simp at h) (by simp)) (fun _ H2 e2 => ?_) fun h => by cases h
    have ha2 := (is .non).mono e2 ha1
    have hb2 := (is .non).mono e2 hb1
    exact sr_ret (R := B true) (er_B (er_and (er_eqSc (x := .non) (by rfl) (er_var rfl ha2) (er_var rfl hb2)) fun _ => er_eqB (er_isi (b := false) (er_var rfl ha2) ty_N) (er_isi (b := false) (er_var rfl hb2) ty_N)) (by simp)) fun v H3 e3 r => q v H3 ((e1.trans e2).trans e3) r
  | _ => cases hx
theorem d_law_alike1 (R : Raw K mg "_law_alike" (top 45)) (T : Names mg) (d_law_alike : Def P w K mg base "_law_alike" 2 ["_law_found", "_law_due"] p_alike0) : D_law_alike P w K mg base := by
  refine Def.fn (k := 2) R sc_law_alike (fun _ _ _ _ _ _ us hl => match us, hl with | [_, _], _ => rfl) (fun _ => rfl) fun f cdv A outer s H0 E hr => ⟨_, (pss_cons (ps_if (pt_val (pe_callB (call_isiT' K rfl) (by rfl) T.isi boot_isinstance (pa_cons (pv 1) (pa_cons (pe_tup (pa_cons (pe_bltn (v := .ty "tuple") (by rfl) T.tuple (by decide +kernel) rfl) (pa_cons (pe_bltn (v := .ty "list") (by rfl) T.list (by decide +kernel) rfl) pa_nil))) pa_nil))))
        (pss_cons (ps_if (PW.pt (pw_or (pt_not (pt_val (pe_callB (call_isiT' K rfl) (by rfl) T.isi boot_isinstance (pa_cons (pv 0) (pa_cons (pe_tup (pa_cons (pe_bltn (v := .ty "tuple") (by rfl) T.tuple (by decide +kernel) rfl) (pa_cons (pe_bltn (v := .ty "list") (by rfl) T.list (by decide +kernel) rfl) pa_nil))) pa_nil))))) (pw_or1 (pt_cmpR op_ne (pe_callB (call_isi' K rfl) (by rfl) T.isi boot_isinstance (pa_cons (pv 0) (pa_cons (pe_bltn (v := .ty "list") (by rfl) T.list (by decide +kernel) rfl) pa_nil))) (pe_callB (call_isi' K rfl) (by rfl) T.isi boot_isinstance (pa_cons (pv 1) (pa_cons (pe_bltn (v := .ty "list") (by rfl) T.list (by decide +kernel) rfl) pa_nil))) (nomark _)))))
          (pss_one (ps_ret pe_bl)) pss_nil)
        (pss_cons (ps_if (pt_cmpR op_ne (pe_callB (call_len' K rfl) (by rfl) T.len boot_len (pa_cons (pv 0) pa_nil)) (pe_callB (call_len' K rfl) (by rfl) T.len boot_len (pa_cons (pv 1) pa_nil)) (nomark _))
          (pss_one (ps_ret pe_bl)) pss_nil)
        (pss_one (ps_ret (pe_cmpR (op_eqD' K rfl (un64 hr)) (pe_lc (own := [("_law_k", 2)]) rfl sc_law_alike.nd (pi_range1 (by rfl) T.range (pa_cons (pe_callB (call_len' K rfl) (by rfl) T.len boot_len (pa_cons (pv 1) pa_nil)) pa_nil)) (blkOk_by (by kernel_rfl)) (fun _ _ _ _ _ => (pg_name (i := 2) sc_law_alike.nd rfl (Or.inl rfl))) (fun _ _ _ _ _ => (pts_one (pt_not (pt_val (pe_def d_law_alike (hr.mono (by decide)) rfl (pa_cons (pe_ix (ix_tup' K rfl) (pv 0) (pv 2) (fun _ _ => rfl)) (pa_cons (pe_ix (ix_tup' K rfl) (pv 1) (pv 2) (fun _ _ => rfl)) pa_nil))))))) (fun _ _ _ _ _ => (pv 2))) (pe_lst pa_nil) (nomark _)))))) pss_nil)
      (pss_cons (ps_if (PW.pt (pw_or (pt_cmpR op_isN (pv 1) pe_non (nomark _)) (pw_or1 (pt_val (pe_callB (call_isi' K rfl) (by rfl) T.isi boot_isinstance (pa_cons (pv 1) (pa_cons (pe_bltn (v := .ty "str") (by rfl) T.str (by decide +kernel) rfl) pa_nil)))))))
        (pss_one (ps_ret (pe_and (pe_cmpR op_eq (pv 0) (pv 1) (nomark _)) (pe_one (pe_cmpR op_eq (pe_callB (call_isi' K rfl) (by rfl) T.isi boot_isinstance (pa_cons (pv 0) (pa_cons (pe_bltn (v := .ty "str") (by rfl) T.str (by decide +kernel) rfl) pa_nil))) (pe_callB (call_isi' K rfl) (by rfl) T.isi boot_isinstance (pa_cons (pv 1) (pa_cons (pe_bltn (v := .ty "str") (by rfl) T.str (by decide +kernel) rfl) pa_nil))) (nomark _)))))) pss_nil)
      (pss_one (ps_ret (pe_and (pe_callB (call_isi' K rfl) (by rfl) T.isi boot_isinstance (pa_cons (pv 0) (pa_cons (pe_bltn (v := .ty "int") (by rfl) T.int (by decide +kernel) rfl) pa_nil))) (pe_and (pe_cmpR op_eq (pe_callB (call_isi' K rfl) (by rfl) T.isi boot_isinstance (pa_cons (pv 0) (pa_cons (pe_bltn (v := .ty "bool") (by rfl) T.bool (by decide +kernel) rfl) pa_nil))) (pe_callB (call_isi' K rfl) (by rfl) T.isi boot_isinstance (pa_cons (pv 1) (pa_cons (pe_bltn (v := .ty "bool") (by rfl) T.bool (by decide +kernel) rfl) pa_nil))) (nomark _)) (pe_one (pe_cmpR op_eq (pv 0) (pv 1) (nomark _))))))))), ?_⟩
  rintro x vs H Q hx r q
  obtain ⟨a, b, rfl, ha, hb⟩ := vs2 r
  cases x with
  | tu ns =>
    have ha : (IT ns).p a H := ha
    have hb : (IT ns).p b H := hb
    have few : ns.length ≤ 10 := hx
    refine q_when (b := true) (et_ofB (er_isi2 (er_var rfl hb) ty_IT (kit2 (b1 := true) (b2 := false) (by decide +kernel) (by decide +kernel)))) (fun _ H1 e1 => ?_) fun h => by cases h
    have ha1 := (IT ns).mono e1 ha
    have hb1 := (IT ns).mono e1 hb
    refine q_when (b := false) (et_is (et_or (et_not (et_ofB (er_isi2 (er_var rfl ha1) ty_IT (kit2 (b1 := true) (b2 := false) (by decide +kernel) (by decide +kernel))))) fun _ => et_of (er_neB (er_isi (b := false) (er_var rfl ha1) ty_IT) (er_isi (b := false) (er_var rfl hb1) ty_IT))) (by rfl)) (fun h => by cases h) fun _ H2 e2 => ?_
    have ha2 := (IT ns).mono e2 ha1
    have hb2 := (IT ns).mono e2 hb1
    refine q_when (b := false) (et_is (et_of (er_neI (er_lenIT (er_var rfl ha2)) (er_lenIT (er_var rfl hb2)))) (by simp)) (fun h => by cases h) fun _ H3 e3 => ?_
    have ha3 := (IT ns).mono e3 ha2
    have hb3 := (IT ns).mono e3 hb2
    refine sr_ret (R := B true) (er_B (er_eqN (er_lcI (fun _ => false) (ei_rng (n := ns.length) (by omega) (ea_consR (er_lenIT (er_var rfl hb3)) ea_nilR)) (by rw [rng_len]; omega) (fun _ => rfl) (fun _ => rfl) fun k hk v H4 e4 rv => ?_) (er_lst ea_nilR (by simp))) ?_) fun v H4 e4 r => q v H4 (((e1.trans e2).trans e3).trans e4) r
    · have hk := mem_rng.mp hk
      obtain ⟨j, rfl⟩ : ∃ j : Nat, k = (j : Int) := ⟨k.toNat, by omega⟩
      have hj : j < ns.length := by omega
      exact et_is (et_not (et_ofB (er_def (V.int ns[j]) rfl (ea_consR (er_ixT (k := j) (er_var rfl ((IT ns).mono e4 ha3)) (er_var rfl rv) rfl (List.getElem?_eq_getElem hj)) (ea_consR (er_ixT (k := j) (er_var rfl ((IT ns).mono e4 hb3)) (er_var rfl rv) rfl (List.getElem?_eq_getElem hj)) ea_nilR))))) rfl
    · simp
  | sc x =>
    cases x with
    | int i =>
      refine q_when (b := false) (et_ofB (er_isi2 (er_var rfl hb) ty_I (kit2 (b1 := false) (b2 := false) (by decide +kernel) (by decide +kernel)))) (fun h => by cases h) fun _ H1 e1 => ?_
      have ha1 := (I i).mono e1 ha
      have hb1 := (I i).mono e1 hb
      refine q_when (b := false) (et_is (et_or (et_of (er_isN (er_var rfl hb1) er_c)) fun _ => et_ofB (er_isi (b := false) (er_var rfl hb1) ty_I)) (by simp)) (fun h => by cases h) fun _ H2 e2 => ?_
      have ha2 := (I i).mono e2 ha1
      have hb2 := (I i).mono e2 hb1
      exact sr_ret (R := B true) (er_B (er_and (er_isi (b := true) (er_var rfl ha2) ty_I) fun _ => er_and (er_eqB (er_isi (b := false) (er_var rfl ha2) ty_I) (er_isi (b := false) (er_var rfl hb2) ty_I)) fun _ => er_eqI (er_var rfl ha2) (er_var rfl hb2)) (by simp)) fun v H3 e3 r => q v H3 ((e1.trans e2).trans e3) r
    | bl i =>
      refine q_when (b := false) (et_ofB (er_isi2 (er_var rfl hb) ty_B (kit2 (b1 := false) (b2 := false) (by decide +kernel) (by decide +kernel)))) (fun h => by cases h) fun _ H1 e1 => ?_
      have ha1 := (B i).mono e1 ha
      have hb1 := (B i).mono e1 hb
      refine q_when (b := false) (et_is (et_or (et_of (er_isN (er_var rfl hb1) er_c)) fun _ => et_ofB (er_isi (b := false) (er_var rfl hb1) ty_B)) (by simp)) (fun h => by cases h) fun _ H2 e2 => ?_
      have ha2 := (B i).mono e2 ha1
      have hb2 := (B i).mono e2 hb1
      exact sr_ret (R := B true) (er_B (er_and (er_isi (b := true) (er_var rfl ha2) ty_B) fun _ => er_and (er_eqB (er_isi (b := true) (er_var rfl ha2) ty_B) (er_isi (b := true) (er_var rfl hb2) ty_B)) fun _ => er_eqB (er_var rfl ha2) (er_var rfl hb2)) (by simp)) fun v H3 e3 r => q v H3 ((e1.trans e2).trans e3) r
    | non =>
      refine q_when (b := false) (et_ofB (er_isi2 (er_var rfl hb) ty_N (kit2 (b1 := false) (b2 := false) (by decide +kernel) (by decide +kernel)))) (fun h => by cases h) fun _ H1 e1 => ?_
      have ha1 := (is .non).mono e1 ha
      have hb1 := (is .non).mono e1 hb
      refine q_when (b := true) (et_is (et_or (b := true) (et_of (er_isN (er_var rfl hb1) er_c)) fun h => by simp at h) (by simp)) (fun _ H2 e2 => ?_) fun h => by cases h
      have ha2 := (is .non).mono e2 ha1
      have hb2 := (is .non).mono e2 hb1
      exact sr_ret (R := B true) (er_B (er_and (er_eqSc (x := .non) (by rfl) (er_var rfl ha2) (er_var rfl hb2)) fun _ => er_eqB (er_isi (b := false) (er_var rfl ha2) ty_N) (er_isi (b := false) (er_var rfl hb2) ty_N)) (by simp)) fun v H3 e3 r => q v H3 ((e1.trans e2).trans e3) r
    | _ => cases hx
theorem d_law_alike (R : Raw K mg "_law_alike" (top 45)) (T : Names mg) : D_law_alike P w K mg base := d_law_alike1 R T (d_alike0 R T (d_alike_no R T))

def Vk.vec : Vk → Nat → Prop
  | .iv ns, n => n = ns.length
  | .one _, n => n = 1
  | .no _, _ => False
def Vk.isV : Vk → Bool
  | .iv _ => true
  | _ => false
abbrev p_law_is_vector (K : PySem.W.Frag) : Sp := fsp (fun x : Vk × Nat => [x.1.rep, I (x.2 : Int)]) (fun x => x.1.ok K ∧ x.1.vec x.2) (fun x => B x.1.isV)
theorem sc_law_is_vector : FnScope ["_law_value", "_law_size", "_law_x"] ["_law_value", "_law_size"] (defScope (top 47)) := ⟨rfl, rfl, rfl, by decide +kernel, rfl, by decide +kernel, by decide +kernel⟩
abbrev D_law_is_vector (P : Program) (w : World) (K : PySem.W.Frag) (mg : Str → Option Value) (base : Heap) : Prop := Def P w K mg base "_law_is_vector" 1 ["_law_value", "_law_size"] (p_law_is_vector K)
theorem d_law_is_vector (R : Raw K mg "_law_is_vector" (top 47)) (T : Names mg) : D_law_is_vector P w K mg base := by
  refine Def.fn (k := 0) R sc_law_is_vector (fun _ _ _ _ _ _ us hl => match us, hl with | [_, _], _ => rfl) (fun _ => rfl) fun f cdv A outer s H0 E hr => ⟨_, (pss_cons (ps_if (PW.pt (pw_or (pt_not (pt_val (pe_callB (call_isi' K rfl) (by rfl) T.isi boot_isinstance (pa_cons (pv 0) (pa_cons (pe_bltn (v := .ty "tuple") (by rfl) T.tuple (by decide +kernel) rfl) pa_nil))))) (pw_or1 (pt_cmpR op_ne (pe_callB (call_len' K rfl) (by rfl) T.len boot_len (pa_cons (pv 0) pa_nil)) (pv 1) (nomark _)))))
        (pss_one (ps_ret pe_bl)) pss_nil)
      (pss_one (ps_ret (pe_cmpR (op_eqD' K rfl (un64 hr)) (pe_lc (own := [("_law_x", 2)]) rfl sc_law_is_vector.nd (pi_tup' K rfl (pv 0)) (blkOk_by (by kernel_rfl)) (fun _ _ _ _ _ => (pg_name (i := 2) sc_law_is_vector.nd rfl (Or.inl rfl))) (fun _ _ _ _ _ => (pts_one (PW.pt (pw_or (pt_not (pt_val (pe_callB (call_isi' K rfl) (by rfl) T.isi boot_isinstance (pa_cons (pv 2) (pa_cons (pe_bltn (v := .ty "int") (by rfl) T.int (by decide +kernel) rfl) pa_nil))))) (pw_or1 (pt_val (pe_callB (call_isi' K rfl) (by rfl) T.isi boot_isinstance (pa_cons (pv 2) (pa_cons (pe_bltn (v := .ty "bool") (by rfl) T.bool (by decide +kernel) rfl) pa_nil))))))))) (fun _ _ _ _ _ => (pv 2))) (pe_lst pa_nil) (nomark _))))), ?_⟩
  rintro ⟨x, n⟩ vs H Q ⟨hx, hn⟩ r q
  obtain ⟨a, b, rfl, ha, hb⟩ := vs2 r
  have hb : (I (n : Int)).p b H := hb
  cases x with
  | iv ns =>
    have ha : (IT ns).p a H := ha
    have hn : n = ns.length := hn
    have few : ns.length ≤ 10 := hx
    subst hn
    refine q_when (b := false) (et_is (et_or (et_not (et_ofB (er_isi (b := true) (er_var rfl ha) ty_IT))) fun _ => et_of (er_neI (er_lenIT (er_var rfl ha)) (er_var rfl hb))) (by simp)) (fun h => by cases h) fun _ H1 e1 => ?_
    refine sr_ret (R := B true) (er_B (er_eqN (er_lcI (fun _ => false) (ei_IT (er_var rfl ((IT ns).mono e1 ha))) (by omega) (fun _ => rfl) (fun _ => rfl) fun k hk v H2 e2 rv => et_is (et_or (et_not (et_ofB (er_isi (b := true) (er_var rfl rv) ty_I))) fun _ => et_ofB (er_isi (b := false) (er_var rfl rv) ty_I)) rfl) (er_lst ea_nilR (by simp))) (by simp)) fun v H2 e2 r => q v H2 (e1.trans e2) r
  | one x =>
    have hx : flat3 x = true ∧ (∀ i, x ≠ .int i) ∧ ∀ s, x = .str s → PyData.strOk s = true := hx
    have hn : n = 1 := hn
    subst hn
    have ha : (TR is [x]).p a H := tupOf1 ha
    refine q_when (b := false) (et_is (et_or (et_not (et_ofB (er_isi (b := true) (er_var rfl ha) ty_TR))) fun _ => et_of (er_neI (er_lenV (n := 1) (er_var rfl ha) fun v H ⟨a, vs, e, h, r⟩ => ⟨a, vs, e, .inr (st_of h), (all2_len r).symm⟩) (er_var rfl hb))) (by simp)) (fun h => by cases h) fun _ H1 e1 => ?_
    have ha1 := (TR is [x]).mono e1 ha
    have hd : ∃ d : PyData, (∀ H : Hp, Dp K H x d) ∧ d.canLay0 = true ∧ d.depth ≤ 1 := by
      cases x with
      | bl b => exact ⟨.bool b, fun _ => .bl b, by simp [PyData.canLay0], by simp [PyData.depth]⟩
      | str b => exact ⟨.str b, fun _ => .str b, by simp [PyData.canLay0, hx.2.2 b rfl], by simp [PyData.depth]⟩
      | int i => exact absurd rfl (hx.2.1 i)
      | _ => cases hx.1
    obtain ⟨d, hd, h1, h2⟩ := hd
    refine sr_ret (R := B false) (er_B (er_eqD (d := .list [d]) (e := dL []) (er_lcN (R := is) (fun _ => true) (fun x => x) is (ei_tup (er_var rfl ha1)) (by simp) (fun _ => rfl) (fun y hy v H2 e2 rv => ?_) fun y hy v H2 e2 rv _ => er_var rfl rv) (er_lst ea_nilR (by simp)) (fun v H ⟨a, vs, ev, hv, r⟩ => ?_) (fun v H h => dp_IL (nilL h)) (shaped_of (by simp [PyData.canLay0, PyData.canLayAll0, h1]) (by simp [PyData.depth, PyData.depthAll]; omega)) (dL_shaped _)) ?_) fun v H2 e2 r => q v H2 (e1.trans e2) r
    · rw [List.mem_singleton.mp hy] at rv
      cases x with
      | bl b => exact et_is (et_or (et_not (et_ofB (er_isi (b := true) (er_var rfl rv) ty_B))) fun _ => et_ofB (er_isi (b := true) (er_var rfl rv) ty_B)) rfl
      | str b => exact et_is (et_or (b := true) (et_not (et_ofB (er_isi (b := false) (er_var rfl rv) ty_S))) fun h => by cases h) rfl
      | int i => exact absurd rfl (hx.2.1 i)
      | _ => cases hx.1
    · rw [ev]
      rw [filter_yes] at r
      cases r with
      | cons h3 r =>
        cases r
        rw [show _ = x from h3] at hv
        exact .lst (sq_of hv) (.cons (hd H) .nil)
    · simp [dL, PyData.eqv, PyData.eqvAll]
  | no R => exact hn.elim
end
end LD
set_option Elab.async false
set_option linter.all false
set_option maxRecDepth 100000
set_option maxHeartbeats 3200000
set_option autoImplicit false
/-! the law's dict, its slices -/
namespace LD
open PySem PySem.Spec PyProof.Rows L2 Evl
theorem un3 {k : Nat} {A : Around} (hr : Room k A) : A.units + 3 < cLine := by have := hr.un; omega
section
variable {K : PySem.W.Frag} {ρ : Rw} {σ : L2.St} {H H' : Hp} {ta tb tc te : TE} {t u : TT} {R S T : Rep}
def getV (es : Es) (S : List Int) : V := match look es S with
  | some n => .int n
  | none => .non
theorem dget_of {es : Es} {S : List Int} {d b : Addr} (hd : H d = some (.dT (kvs es))) (hb : H b = some (.tup (S.map V.int))) : DGet H d (.ref b) ((look es S).map V.int) := by
  rw [← valV_kvs]
  exact DGet.t hd (by rw [keyI_kV]; exact hb)
theorem er_inD {es : Es} {S : List Int} (ha : EvR ta σ H (IT S)) (hb : EvR tb σ H (Dt es)) : EvT (tB (tDIn ta tb)) σ H (decide (S ∈ keys es)) := fun H1 e Q q =>
  ha H1 e _ fun v H2 e2 ⟨b, ev, hv⟩ => hb H2 (e.trans e2) _ fun w H3 e3 ⟨d, ew, hd⟩ => ⟨d, (look es S).map V.int, ew, by rw [ev]; exact dget_of hd (e3 _ _ hv), _, rfl, by
    have : ((look es S).map V.int).isSome = decide (S ∈ keys es) := by
      by_cases z : S ∈ keys es
      · obtain ⟨n, hn⟩ := look_some z
        rw [hn, decide_eq_true z]; rfl
      · rw [look_none.mpr z, decide_eq_false z]; rfl
    rw [this]
    exact q H3 (e2.trans e3)⟩
theorem er_getD {es : Es} {S : List Int} (hb : EvR tb σ H (Dt es)) (ha : EvR ta σ H (IT S)) : EvR (tDGet2 tb ta (tC .non)) σ H (is (getV es S)) := fun H1 e Q q =>
  hb H1 e _ fun w H2 e2 ⟨d, ew, hd⟩ => ⟨d, ew, .inr ⟨_, .inl hd⟩, ha H2 (e.trans e2) _ fun v H3 e3 ⟨b, ev, hv⟩ => ⟨(look es S).map V.int, by rw [ev]; exact dget_of (e3 _ _ hd) hv, q _ H3 (e2.trans e3) (by
    show _ = getV es S
    unfold getV
    cases look es S <;> rfl)⟩⟩
theorem er_lenD {es : Es} (h : EvR te σ H (Dt es)) : EvR (tCB rLenT (tCons te tNil)) σ H (I (es.length : Int)) :=
  er_cb1 h fun x H1 _ ⟨d, ev, hd⟩ Q q => ⟨d, _, by rw [ev], hd, q _ H1 (Ex.refl _) (by rw [kvs_len]; rfl)⟩
theorem er_keys {es : Es} (h : EvR te σ H (Dt es)) : EvR (tCB rSortKeys (tCons (tBM0 K "dict" rKeysT te) tNil)) σ H (XR (fun ms => ms.Perm (keys es)) (LR IT)) := fun H1 e Q q =>
  h H1 e _ fun x H2 e2 ⟨d, ev, hd⟩ => by
    subst ev
    refine ⟨Or.inr (Or.inr (Or.inl ⟨rfl, .inr ⟨_, hd⟩⟩)), d, _, rfl, rfl, hd, fun p hp => ⟨p, d, _, rfl, upd_same, (Ex.new hp) _ _ hd, fun kv hkv => ?_, fun bs ys c ik pm hc => ?_⟩⟩
    · obtain ⟨e, _, rfl⟩ := List.mem_map.mp hkv
      exact ⟨e.1, rfl⟩
    · have r : All2 (fun S v => (IT S).p v (L2.upd H2 p (keysO p d))) (keys es) (bs.map V.ref) := by
        have key : ∀ {es : Es} {bs : List Addr}, IsKeys (L2.upd H2 p (keysO p d)) (kvs es) bs → All2 (fun S v => (IT S).p v (L2.upd H2 p (keysO p d))) (keys es) (bs.map V.ref) := by
          intro es
          induction es with
          | nil => intro bs ik; cases ik; exact .nil
          | cons e es ih =>
            intro bs ik
            cases ik with
            | cons h1 r => exact .cons ⟨_, rfl, by rw [← keyI_kV]; exact h1⟩ (ih r)
        exact key ik
      obtain ⟨ms, pm', r'⟩ := all2_perm pm r
      exact q _ _ ((e2.trans (Ex.new hp)).trans (Ex.new hc)) ⟨ms, pm', c, ys, rfl, upd_same, all2_up (Ex.new hc) r'⟩
theorem er_revIT {ns : List Int} (h : EvR te σ H (IT ns)) : EvR (tRevT K te) σ H (IT ns.reverse) := fun H1 e Q q =>
  h H1 e _ fun x H2 e2 ⟨a, ev, hv⟩ => ⟨a, _, ev, st_of hv, fun p hp => q _ _ (e2.trans (Ex.new hp)) ⟨p, rfl, by rw [upd_same, List.map_reverse]⟩⟩
theorem er_last {ns : List Int} (h : EvR te σ H (IT ns)) : EvR (tSl (rSlA K) te (tPart (tUn (rU fun i => .int (-i)) (tC (.int 1)))) tNoPart) σ H (IT (ns.drop (ns.length - 1))) := fun H1 e Q q =>
  h H1 e _ fun x H2 e2 ⟨a, ev, hv⟩ => ⟨1, rfl, -1, rfl, a, ns.map V.int, ev, st_of hv, by
    have s1 : HT.sIx (ns.map V.int).length 0 (some (-1)) = ns.length - 1 := by
      show (if (-1 : Int) < 0 then ((-1 : Int) + ((ns.map V.int).length : Int)).toNat else min (-1 : Int).toNat (ns.map V.int).length) = _
      rw [if_pos (by omega), List.length_map]
      omega
    have s2 : HT.sIx (ns.map V.int).length (ns.map V.int).length none = ns.length := by
      show (ns.map V.int).length = _
      rw [List.length_map]
    rw [s1, s2]
    refine ⟨fun z => q _ H2 e2 ⟨a, rfl, by rw [z.1, List.drop_zero]; exact hv⟩, fun _ p hp => q _ _ (e2.trans (Ex.new hp)) ⟨p, rfl, ?_⟩⟩
    rw [upd_same]
    unfold cutV
    rw [s1, s2, List.take_of_length_le (by rw [List.length_drop, List.length_map]; omega), List.map_drop]⟩
theorem er_tupRg {n : Nat} (hn : n ≤ 100000) (h : EvR te σ H (I (n : Int))) : EvR (tTupRg (tRg1 te)) σ H (IT (rng n)) := fun H1 e Q q =>
  h H1 e _ fun x H2 e2 r => ⟨(n : Int), r, RgOk.of_le (by omega) (by omega) (by omega) (by omega), fun p hp => q _ _ (e2.trans (Ex.new hp)) ⟨p, rfl, by
    rw [upd_same]
    unfold rgV rng
    rw [List.map_map, Int.sub_zero, Int.toNat_natCast]
    congr 2
    refine List.map_congr_left fun i _ => ?_
    show V.int (0 + (i : Int)) = V.int i
    rw [Int.zero_add]⟩⟩
theorem er_dnew : EvR tDNewT σ H (Dt []) := fun H1 _ Q q p hp => q _ _ (Ex.new hp) ⟨p, rfl, upd_same⟩
theorem ty_D {es : Es} : HasT K (Dt es) "dict" := fun _ _ ⟨a, e, h⟩ => e ▸ .base (.dT h)
instance (es : Es) : RM (Dt es) := ⟨fun h x ⟨a, e, q⟩ => ⟨a, e, x.2 a _ (h.ne q fun _ z => nomatch z) q⟩⟩
theorem ex_tupX {P : List Int → Prop} (ha : EvX K ρ ta σ H (XR P IL)) :
    EvX K ρ (tCB (fun xs H Q => ∃ p ys, xs = [.ref p] ∧ ((SqL K H p ys ∧ ∀ l, H l = none → Q (.ref l) (L2.upd H l (.tup ys))) ∨ (SqT K H p ys ∧ Q (.ref p) H))) (tCons ta tNil)) σ H (XR P IT) := fun H1 x1 Q q =>
  ha H1 x1 _ fun v H2 x2 ⟨ms, hP, a, e, h⟩ => ⟨a, _, by rw [e], .inl ⟨sq_of h, fun l hl => q _ _ (x2.exr (Ex.new hl)) ⟨ms, hP, l, rfl, upd_same⟩⟩⟩
/-- a pick from a list of standings -/
theorem ex_pick {P : List (List Int) → Prop} {p : List Int → Prop} {i : Nat} {E : XK} (hi : σ[i]? = some (some (.ref ρ.r))) (hP : ∀ ms, P ms → 1 ≤ ms.length ∧ ms.length ≤ 1000 ∧ ∀ m ∈ ms, p m) (h : ∀ H1, Xr K ρ H H1 → EvR te σ H1 (XR P (LR IT))) :
    EvX K ρ (tCall (p_law_pick K) [] E (tCons (tVar i) (tCons te tNil))) σ H (XR p IT) := fun H1 x1 Q q =>
  ⟨_, hi, h H1 x1 H1 (Ex.refl _) _ fun v H2 e2 ⟨ms, hms, r⟩ => by
    obtain ⟨h1, h2, h3⟩ := hP ms hms
    refine ⟨ρ, [v], ms.map IT, rfl, ⟨by rw [List.length_map]; exact h1, by rw [List.length_map]; exact h2, rm_lst⟩, x1.1.ex e2, .cons (LR_LstOf.mpr r) .nil, fun u H3 x3 ⟨R, hR, hu⟩ => ?_⟩
    obtain ⟨m, hm, rfl⟩ := List.mem_map.mp hR
    exact q u H3 ((Xr.ex x1.1 e2).trans x3) ⟨m, h3 m hm, hu⟩⟩
theorem qx_for {D : Ends} {tz tu : TS} {g : TG} {α : Type} {P : List α → Prop} {F : α → Rep} (h0 : RowAt K ρ H) (h : EvX K ρ te σ H (XR P (LR F))) (k : ∀ v xs H1, Xr K ρ H H1 → P xs → (LR F xs).p v H1 → tSeq (tFor (iList K (tC v)) g tu) tz D σ H1) : tSeq (tFor (iList K te) g tu) tz D σ H :=
  h H (Xr.refl h0) _ fun v H1 x ⟨xs, hP, r⟩ => k v xs H1 x hP r
end
end LD
set_option Elab.async false
set_option linter.all false
set_option maxRecDepth 100000
set_option maxHeartbeats 3200000
set_option autoImplicit false
/-! the search by rounds, in plain words; what the law asks of it -/
namespace LD
open PySem PySem.Spec PyProof.Rows L2 Evl
def Ph (W : Wb) (S : List Int) (n : Nat) (es : Es) (rows : List (List Int)) : Prop :=
  (n = 2 ∧ es = [(S, 0)] ∧ rows = [S]) ∨ (n = 1 ∧ Full W S es ∧ rows ≠ [] ∧ ∀ T ∈ rows, T ∈ keys es) ∨ (n = 0 ∧ Full W S es ∧ rows = [])
theorem phase_run {W : Wb} {S : List Int} {n : Nat} {es : Es} {rows : List (List Int)} (ok : WebOk W) (s : Std W.m S) (h : Ph W S n es rows) (ne : rows ≠ []) :
    ∃ J : Nat → Es × List (List Int) → Prop, J 0 (es, []) ∧ (∀ (i : Nat) (B : List Int) (st : Es × List (List Int)), rows[i]? = some B → J i st → B ∈ keys st.1 ∧ Std W.m B ∧ st.1.length ≤ 100 ∧ st.2.length ≤ 100) ∧
      (∀ (i : Nat) (B : List Int) (st : Es × List (List Int)) (Ls : List (List Int)) (k : Int), rows[i]? = some B → J i st → Ls.Perm (subs (loose W B)) → look st.1 B = some k → J (i + 1) ((Ls.map fun L => toggle W.m B L).foldl (add (k + 1)) st)) ∧
      ∀ st, J rows.length st → ∃ n', n' < n ∧ Ph W S n' st.1 st.2 := by
  rcases h with ⟨rfl, rfl, rfl⟩ | ⟨rfl, F, _, sub⟩ | ⟨_, _, z⟩
  · refine ⟨fun i st => (i = 0 ∧ st = ([(S, 0)], [])) ∨ (i = 1 ∧ Full W S st.1 ∧ ∀ T ∈ st.2, T ∈ keys st.1), .inl ⟨rfl, rfl⟩, ?_, ?_, ?_⟩
    · rintro i B st hB (⟨rfl, rfl⟩ | ⟨rfl, _⟩)
      · have : S = B := Option.some.inj hB
        subst this
        exact ⟨by simp, s, by simp, by simp⟩
      · cases hB
    · rintro i B st Ls k hB (⟨rfl, rfl⟩ | ⟨rfl, _⟩) pm hk
      · have : S = B := Option.some.inj hB
        subst this
        have hk : (if S = S then some (0 : Int) else none) = some k := hk
        rw [if_pos rfl] at hk
        cases hk
        exact .inr ⟨rfl, full_first s pm⟩
      · cases hB
    · rintro st (⟨z, _⟩ | ⟨_, F, sub⟩)
      · cases z
      · by_cases z : st.2 = []
        · exact ⟨0, by omega, .inr (.inr ⟨rfl, F, z⟩)⟩
        · exact ⟨1, by omega, .inr (.inl ⟨rfl, F, z, sub⟩)⟩
  · have few : es.length ≤ 32 := by
      rw [full_len s F]
      exact pow5 (Nat.le_trans (loose_len W S) ok.hi)
    refine ⟨fun i st => st = (es, []), rfl, ?_, ?_, ?_⟩
    · rintro i B st hB rfl
      have hk := sub B (List.mem_of_getElem? hB)
      exact ⟨hk, dir_std ok.hi ((F.all B).mp hk), by show es.length ≤ 100; omega, by simp⟩
    · rintro i B st Ls k hB rfl pm hk
      have hB' := (F.all B).mp (sub B (List.mem_of_getElem? hB))
      refine fold_in fun T hT => ?_
      obtain ⟨L, hL, rfl⟩ := List.mem_map.mp hT
      exact (F.all _).mpr (hB'.next ok fun k hk => (mem_subs.mp (pm.mem_iff.mp hL)).subset hk)
    · rintro st rfl
      exact ⟨0, by omega, .inr (.inr ⟨rfl, F, rfl⟩)⟩
  · exact absurd z ne
theorem get_rd {W : Wb} {S T : List Int} {es : Es} (s : Std W.m S) (t : Std W.m T) (F : Full W S es) : getV es T = rdV W S T := by
  have d := dir_iff s t
  unfold getV rdV
  by_cases z : T ∈ keys es
  · have q := d.mp ((F.all T).mp z)
    rw [F.val T z]
    show V.int (if T = S then 0 else 1) = if (differ W S T).any (frzB W S) = true then V.non else V.int (if differ W S T = [] then 0 else 1)
    rw [q, if_neg Bool.false_ne_true]
    congr 1
    by_cases y : T = S
    · rw [if_pos y, if_pos ((differ_nil s t).mpr y)]
    · rw [if_neg y, if_neg fun q => y ((differ_nil s t).mp q)]
  · rw [look_none.mpr z, if_pos]
    cases q : (differ W S T).any (frzB W S) with
    | true => rfl
    | false => exact absurd ((F.all T).mpr (d.mpr q)) z
theorem in_frz {W : Wb} {S T : List Int} {es : Es} (s : Std W.m S) (t : Std W.m T) (F : Full W S es) : (differ W S T).any (frzB W S) = !decide (T ∈ keys es) := by
  have d := dir_iff s t
  by_cases z : T ∈ keys es
  · rw [decide_eq_true z, d.mp ((F.all T).mp z)]; rfl
  · rw [decide_eq_false z]
    cases q : (differ W S T).any (frzB W S) with
    | true => rfl
    | false => exact absurd ((F.all T).mpr (d.mpr q)) z
theorem rdV_flat (W : Wb) (S T : List Int) : flatA (rdV W S T) = true := by
  unfold rdV
  split <;> rfl
theorem round_good {W : Wb} {S ns : List Int} : ((!decide (ns = []) && decide (Asc ns)) && decide (ns.filter (fun k => !decide (k ∈ loose W S)) = [])) = roundB W S ns := by
  unfold roundB
  have e : decide (ns.filter (fun k => !decide (k ∈ loose W S)) = []) = ((ns.all fun k => decide (0 ≤ k) && decide (k ≤ (W.m : Int) - 1)) && ns.all fun k => !frzB W S k) := by
    rw [Bool.eq_iff_iff, decide_eq_true_iff, List.filter_eq_nil_iff, Bool.and_eq_true, List.all_eq_true, List.all_eq_true]
    constructor
    · intro h
      have h' : ∀ k ∈ ns, k ∈ loose W S := fun k hk => by simpa using h k hk
      exact ⟨fun k hk => by have := (mem_loose.mp (h' k hk)).1; simp; omega, fun k hk => by rw [(mem_loose.mp (h' k hk)).2]; rfl⟩
    · rintro ⟨h1, h2⟩ k hk
      have a := h1 k hk
      have b := h2 k hk
      simp at a b
      have : k ∈ loose W S := mem_loose.mpr ⟨by omega, b⟩
      simp [this]
  rw [e]
  cases (ns.all fun k => decide (0 ≤ k) && decide (k ≤ (W.m : Int) - 1)) <;> cases (!decide (ns = [])) <;> cases decide (Asc ns) <;> rfl
def goodB : Vk → Bool
  | .iv ns => !decide (ns = []) && decide (Asc ns)
  | _ => false
section
variable {K : PySem.W.Frag} {σ : L2.St} {H H' : Hp} {ta tb tc te : TE} {t u : TT} {R S T : Rep}
theorem er_lenDX {P : Es → Prop} {n : Int} (h : EvR te σ H (XR P Dt)) (hn : ∀ es, P es → (es.length : Int) = n) : EvR (tCB rLenT (tCons te tNil)) σ H (I n) :=
  er_cb1 h fun x H1 _ ⟨es, hP, d, ev, hd⟩ Q q => ⟨d, _, by rw [ev], hd, q _ H1 (Ex.refl _) (by rw [kvs_len, hn es hP]; rfl)⟩
end
end LD
set_option Elab.async false
set_option linter.all false
set_option maxRecDepth 100000
set_option maxHeartbeats 16000000
set_option autoImplicit false
/-! the law -/
namespace LD
open PySem PySem.Spec PyProof.Rows L2 Evl
section
variable {P : Program} {w : World} {K : PySem.W.Frag} {mg : Str → Option Value} {base : Heap}
instance (W : Wb) : TM (wR W) := inferInstanceAs (TM (WB W.m W.A))
def spLaw (K : PySem.W.Frag) : Sp := fun vs H Q _ => ∃ (a : Addr) (ns : List Int), vs = [.ref a] ∧ SqL K H a (ns.map V.int) ∧ ∀ H', Q (.bl true) H'
theorem sc_law : FnScope ["_law_script", "_law_row", "_law_web_here", "_law_opened", "_law_found", "_law_rows", "_law_more", "_law_here", "_law_lot", "_law_there", "_law_other", "_law_differ", "_law_can", "_law_some", "_law_value", "_law_good", "_law_door", "_law_then", "_law_k"] ["_law_script"] (defScope (top 48)) := ⟨rfl, rfl, rfl, by decide +kernel, rfl, by decide +kernel, by decide +kernel⟩
theorem fn_mk {name : Str} {st : Stmt} {N ps : List Str} {k : Nat} {sp : Sp} {f : Addr} {fd : FuncData} (F : FunD K name name (defArgs st) (defBody st) (defScope st) [] [] f fd) (S : FnScope N ps (defScope st))
    (len : ∀ vs H Q E, sp vs H Q E → vs.length = ps.length)
    (body : ∀ (f : Addr) (cdv : Value) (A : Around) (outer : List Env) (s : Shared) (H : Hp) (vs : List V) (Q : VK) (E : XK), Room k (A.deeper (envOfC name (defScope st) s.heap.objs.size f cdv)) → sp vs H Q E →
      ∃ t, PSs (cxOf CX0 P w K mg base N name (defScope st) f cdv A outer s H E).nox (defBody st) t ∧ t { nx := fun _ H' => Q .non H', rt := Q } (start N vs) H) : FnOk P w K mg base CX0 (k + 1) f fd ps sp :=
  F.ok S len fun cdv A outer s vs H Q E hr h => by
    obtain ⟨t, h1, h2⟩ := body f cdv A outer s vs H Q E hr h
    exact ⟨t, h1.nox, h2⟩
theorem ok_law {f0 : Addr} {fd0 : FuncData} (F0 : FunD K "law" "law" (defArgs (top 48)) (defBody (top 48)) (defScope (top 48)) [] [] f0 fd0) (T : Names mg) (d_law_taken : D_law_taken P w K mg base) (d_law_pick : D_law_pick P w K mg base) (d_law_web : D_law_web P w K mg base) (d_law_standing : D_law_standing P w K mg base) (d_law_sets : D_law_sets P w K mg base) (d_law_after : D_law_after P w K mg base) (d_law_alike : D_law_alike P w K mg base) (d_law_is_vector : D_law_is_vector P w K mg base) (d_law_from : D_law_from P w K mg base) (d_round_count : D_round_count P w K mg base) (d_by_rounds_alone : D_by_rounds_alone P w K mg base) (d_fewest_rounds : D_fewest_rounds P w K mg base) (d_round_between : D_round_between P w K mg base) (d_is_round : D_is_round P w K mg base) :
    FnOk P w K mg base CX0 7 f0 fd0 ["_law_script"] (spLaw K) := by
  refine fn_mk (k := 6) F0 sc_law (fun vs H Q E ⟨a, ns, e, _⟩ => by rw [e]; rfl) fun f cdv A outer s H vs Q E hr ⟨a, ns, ea, hS, hq⟩ => ⟨_, (pss_cons (ps_set (i := 1) sc_law.nd rfl (Or.inr rfl) (pe_lst (pa_cons (pv 0) (pa_cons pe_int (pa_cons pe_int (pa_cons pe_int pa_nil))))))
      (pss_cons (ps_set (i := 2) sc_law.nd rfl (Or.inl rfl) (pe_def d_law_web (hr.mono (by decide)) rfl (pa_cons (pv 1) (pa_cons pe_int pa_nil))))
      (pss_cons (ps_set (i := 3) sc_law.nd rfl (Or.inr rfl) (pe_def d_law_standing (hr.mono (by decide)) rfl (pa_cons (pv 1) (pa_cons (pv 2) pa_nil))))
      (pss_cons (ps_par (i := 4) (j := 5) (by rfl) sc_law.nd rfl rfl (by decide) rfl rfl (pa_cons (pe_disp1 (hu_of hr) (pv 3) pe_int) (pa_cons (pe_lst (pa_cons (pv 3) pa_nil)) pa_nil)) (by rfl))
      (pss_cons (ps_while PassesOwn.never (pt_cmpR (op_neD' K rfl (un64 hr)) (pv 5) (pe_lst pa_nil) (nomark _))
        (pss_cons (ps_set (i := 6) sc_law.nd rfl (Or.inl rfl) (pe_lst pa_nil))
        (pss_cons (ps_for PassesOwn.never rfl (pi_list' K rfl (pv 5)) (pg_name (i := 7) sc_law.nd rfl (Or.inr rfl))
          (pss_one (ps_for PassesOwn.never rfl (pi_list' K rfl (pe_def d_law_sets (hr.mono (by decide)) rfl (pa_cons (pe_lc (own := [("_law_door", 16), ("_law_then", 17)]) rfl sc_law.nd (pi_list' K rfl (pe_def d_law_after (hr.mono (by decide)) rfl (pa_cons (pv 2) (pa_cons (pv 7) pa_nil)))) (blkOk_by (by kernel_rfl)) (fun _ _ _ _ _ => (pg_tup2 K rfl rfl (pgs_cons (pg_name (i := 16) sc_law.nd rfl (Or.inl rfl)) (pgs_cons (pg_name (i := 17) sc_law.nd rfl (Or.inl rfl)) pgs_nil)))) (fun _ _ _ _ _ => pts_nil) (fun _ _ _ _ _ => (pv 16))) pa_nil))) (pg_name (i := 8) sc_law.nd rfl (Or.inr rfl))
            (pss_cons (ps_set (i := 9) sc_law.nd rfl (Or.inl rfl) (pe_callTy (call_tuple' K rfl) (by rfl) T.tuple boot_tuple (pa_cons (pe_callB (cr_sorted' K rfl) (by rfl) T.sorted boot_sorted (pa_cons (pe_op op_cat (pe_lc (own := [("_law_k", 18)]) rfl sc_law.nd (pi_tup' K rfl (pv 7)) (blkOk_by (by kernel_rfl)) (fun _ _ _ _ _ => (pg_name (i := 18) sc_law.nd rfl (Or.inl rfl))) (fun _ _ _ _ _ => (pts_one (pt_cmpR (op_nin' K rfl) (pv 18) (pv 8) (by rfl)))) (fun _ _ _ _ _ => (pv 18))) (pe_lc (own := [("_law_k", 18)]) rfl sc_law.nd (pi_tup' K rfl (pv 8)) (blkOk_by (by kernel_rfl)) (fun _ _ _ _ _ => (pg_name (i := 18) sc_law.nd rfl (Or.inl rfl))) (fun _ _ _ _ _ => (pts_one (pt_cmpR (op_nin' K rfl) (pv 18) (pv 7) (by rfl)))) (fun _ _ _ _ _ => (pv 18)))) pa_nil)) pa_nil)))
            (pss_one (ps_if (pt_cmp (pc_dnotin (hu_of hr) (pv 9) (pv 4)))
              (pss_cons (ps_dput (hu_of hr) (pv 4) (pv 9) (pe_op op_add (pe_dget (hu_of hr) (pv 4) (pv 7) (fun _ _ => rfl)) pe_int) rfl)
              (pss_one (ps_expr (pe_bm PySem.F.plainAttrs_list PySem.F.slot_list_append PySem.F.type_list_append mt_append (pv 6) (pa_cons (pv 9) pa_nil))))) pss_nil))))))
        (pss_one (ps_set (i := 5) sc_law.nd rfl (Or.inl rfl) (pv 6))))))
      (pss_cons (ps_if (pt_not (pt_val (pe_def d_law_alike (hr.mono (by decide)) rfl (pa_cons (pe_def d_round_count (hr.mono (by decide)) rfl (pa_cons (pv 2) (pa_cons (pv 3) pa_nil))) (pa_cons (pe_callB call_len_dT (by rfl) T.len boot_len (pa_cons (pv 4) pa_nil)) pa_nil)))))
        (pss_one (ps_ret pe_bl)) pss_nil)
      (pss_cons (ps_if (pt_not (pt_val (pe_def d_law_alike (hr.mono (by decide)) rfl (pa_cons (pe_def d_by_rounds_alone (hr.mono (by decide)) rfl (pa_cons (pv 2) (pa_cons (pv 3) pa_nil))) (pa_cons (pe_op op_sub (pe_callB call_len_dT (by rfl) T.len boot_len (pa_cons (pv 4) pa_nil)) (pe_callB call_len_dT (by rfl) T.len boot_len (pa_cons (pe_def d_law_from (hr.mono (by decide)) rfl (pa_cons (pv 2) (pa_cons (pv 3) pa_nil))) pa_nil))) pa_nil)))))
        (pss_one (ps_ret pe_bl)) pss_nil)
      (pss_cons (ps_for PassesOwn.never rfl (pi_list' K rfl (pe_lst (pa_cons (pe_def d_law_standing (hr.mono (by decide)) rfl (pa_cons (pv 1) (pa_cons (pv 2) pa_nil))) (pa_cons (pe_def d_law_pick (hr.mono (by decide)) rfl (pa_cons (pv 1) (pa_cons (pe_callB (cr_sortKeys rfl (un3 hr)) (by rfl) T.sorted boot_sorted (pa_cons (pe_bm0 PySem.F.plainAttrs_dict PySem.F.slot_dict_keys PySem.F.type_dict_keys mt_keysT (pv 4)) pa_nil)) pa_nil))) pa_nil)))) (pg_name (i := 10) sc_law.nd rfl (Or.inr rfl))
        (pss_cons (ps_set (i := 11) sc_law.nd rfl (Or.inl rfl) (pe_callTy (call_tuple' K rfl) (by rfl) T.tuple boot_tuple (pa_cons (pe_lc (own := [("_law_k", 18)]) rfl sc_law.nd (pi_range1 (by rfl) T.range (pa_cons (pe_ix (ix_tup' K rfl) (pv 2) pe_int (fun _ _ => rfl)) pa_nil)) (blkOk_by (by kernel_rfl)) (fun _ _ _ _ _ => (pg_name (i := 18) sc_law.nd rfl (Or.inl rfl))) (fun _ _ _ _ _ => (pts_one (pt_cmpR op_ne (pe_cmpR (op_in' K rfl) (pv 18) (pv 3) (by rfl)) (pe_cmpR (op_in' K rfl) (pv 18) (pv 10) (by rfl)) (nomark _)))) (fun _ _ _ _ _ => (pv 18))) pa_nil)))
        (pss_cons (ps_if (pt_not (pt_val (pe_def d_law_alike (hr.mono (by decide)) rfl (pa_cons (pe_def d_fewest_rounds (hr.mono (by decide)) rfl (pa_cons (pv 2) (pa_cons (pv 3) (pa_cons (pv 10) pa_nil)))) (pa_cons (pe_dget2 (hu_of hr) (pv 4) (pv 10) pe_non ⟨by rfl, by rfl, by rfl, by rfl⟩) pa_nil)))))
          (pss_one (ps_ret pe_bl)) pss_nil)
        (pss_one (ps_if (pt_not (pt_val (pe_def d_law_alike (hr.mono (by decide)) rfl (pa_cons (pe_def d_round_between (hr.mono (by decide)) rfl (pa_cons (pv 2) (pa_cons (pv 3) (pa_cons (pv 10) pa_nil)))) (pa_cons (pe_ifExp (pt_cmp (pc_din (hu_of hr) (pv 10) (pv 4))) (pv 11) pe_non) pa_nil)))))
          (pss_one (ps_ret pe_bl)) pss_nil)))))
      (pss_cons (ps_set (i := 12) sc_law.nd rfl (Or.inr rfl) (pe_lc (own := [("_law_door", 16), ("_law_then", 17)]) rfl sc_law.nd (pi_list' K rfl (pe_def d_law_after (hr.mono (by decide)) rfl (pa_cons (pv 2) (pa_cons (pv 3) pa_nil)))) (blkOk_by (by kernel_rfl)) (fun _ _ _ _ _ => (pg_tup2 K rfl rfl (pgs_cons (pg_name (i := 16) sc_law.nd rfl (Or.inl rfl)) (pgs_cons (pg_name (i := 17) sc_law.nd rfl (Or.inl rfl)) pgs_nil)))) (fun _ _ _ _ _ => pts_nil) (fun _ _ _ _ _ => (pv 16))))
      (pss_cons (ps_set (i := 13) sc_law.nd rfl (Or.inl rfl) (pe_callTy (call_tuple' K rfl) (by rfl) T.tuple boot_tuple (pa_cons (pe_lc (own := [("_law_k", 18)]) rfl sc_law.nd (pi_range1 (by rfl) T.range (pa_cons (pe_ix (ix_tup' K rfl) (pv 2) pe_int (fun _ _ => rfl)) pa_nil)) (blkOk_by (by kernel_rfl)) (fun _ _ _ _ _ => (pg_name (i := 18) sc_law.nd rfl (Or.inl rfl))) (fun _ _ _ _ _ => (pts_one (pt_cmpR op_eq (pe_def d_law_taken (hr.mono (by decide)) rfl (pa_cons (pv 1) (pa_cons pe_int pa_nil))) pe_int (nomark _)))) (fun _ _ _ _ _ => (pv 18))) pa_nil)))
      (pss_cons (ps_for PassesOwn.never rfl (pi_list' K rfl (pe_lst (pa_cons (pv 13) (pa_cons (pe_callTy (call_list' K rfl) (by rfl) T.list boot_list (pa_cons (pv 13) pa_nil)) (pa_cons (pe_revT (pv 13)) (pa_cons (pe_op (op_catA' K rfl) (pv 13) (pe_slice sl_tupA (pv 13) (po_some (pe_un un_neg pe_int)) po_none)) (pa_cons (pe_tup pa_nil) (pa_cons pe_non (pa_cons pe_int (pa_cons pe_dnewT (pa_cons (pe_tup (pa_cons pe_int pa_nil)) (pa_cons (pe_tup (pa_cons pe_bl pa_nil)) (pa_cons (pe_tup (pa_cons pe_str pa_nil)) (pa_cons (pe_callTy (call_tuple' K rfl) (by rfl) T.tuple boot_tuple (pa_cons (pv 12) pa_nil)) (pa_cons (pe_tupRg rfl (by rfl) T.tuple (prg_1 (by rfl) T.range (pe_ix (ix_tup' K rfl) (pv 2) pe_int (fun _ _ => rfl)))) pa_nil))))))))))))))) (pg_name (i := 14) sc_law.nd rfl (Or.inl rfl))
        (pss_cons (ps_set (i := 15) sc_law.nd rfl (Or.inl rfl) (pe_and (pe_callB (call_isi' K rfl) (by rfl) T.isi boot_isinstance (pa_cons (pv 14) (pa_cons (pe_bltn (v := .ty "tuple") (by rfl) T.tuple (by decide +kernel) rfl) pa_nil))) (pe_and (pe_cmpR (op_neD' K rfl (un64 hr)) (pv 14) (pe_tup pa_nil) (nomark _)) (pe_and (pe_def d_law_is_vector (hr.mono (by decide)) rfl (pa_cons (pv 14) (pa_cons (pe_callB (call_len' K rfl) (by rfl) T.len boot_len (pa_cons (pv 14) pa_nil)) pa_nil))) (pe_one (pe_cmpR (op_eqD' K rfl (un64 hr)) (pe_callTy (call_list' K rfl) (by rfl) T.list boot_list (pa_cons (pv 14) pa_nil)) (pe_callB (cr_sortedSet' w rfl rfl) (by rfl) T.sorted boot_sorted (pa_cons (pe_callTy (cr_setI' K w rfl rfl rfl) (by rfl) T.set boot_set (pa_cons (pv 14) pa_nil)) pa_nil)) (nomark _)))))))
        (pss_one (ps_if (pt_not (pt_val (pe_def d_law_alike (hr.mono (by decide)) rfl (pa_cons (pe_def d_is_round (hr.mono (by decide)) rfl (pa_cons (pv 2) (pa_cons (pv 3) (pa_cons (pv 14) pa_nil)))) (pa_cons (pe_and (pv 15) (pe_one (pe_cmpR (op_eqD' K rfl (un64 hr)) (pe_lc (own := [("_law_k", 18)]) rfl sc_law.nd (pi_tup' K rfl (pv 14)) (blkOk_by (by kernel_rfl)) (fun _ _ _ _ _ => (pg_name (i := 18) sc_law.nd rfl (Or.inl rfl))) (fun _ _ _ _ _ => (pts_one (pt_cmpR (op_nin' K rfl) (pv 18) (pv 12) (by rfl)))) (fun _ _ _ _ _ => (pv 18))) (pe_lst pa_nil) (nomark _)))) pa_nil)))))
          (pss_one (ps_ret pe_bl)) pss_nil))))
      (pss_one (ps_ret pe_bl))))))))))))), ?_⟩
  subst ea
  refine ⟨_, rfl, sz_of (by simp), fun r nr => ?_⟩
  have hR : RowAt K ⟨r, a, ns⟩ (L2.upd H r (.lst [.ref a, .int 0, .int 9540, .int 0])) := ⟨0, 9540, 0, upd_same, ex_l (Ex.new nr) hS, by omega⟩
  refine qx_asg hR (ex_def () trivial rfl fun H1 _ => ea_consR er_c ea_nilR) fun wv H1 x1 ⟨W, ok, hw⟩ => ?_
  refine qx_asg x1.1 (ex_def W ok rfl fun H2 x2 => ea_consR (er_var rfl (RM.x x1.1 x2 hw)) ea_nilR) fun ov H2 x2 ⟨S, s, ho⟩ => ?_
  have hw2 : (wR W).p wv H2 := RM.x x1.1 x2 hw
  have hR2 := x2.1
  have hi := ok.hi
  have lo := ok.lo
  clear x1 x2 hR hS
  refine q_init (so := 3) (S := S) rfl ho fun d r0 H3 nd nr0 ne e3 hd hr0 => ?_
  refine q_while (fun n σ' H' => ∃ es rows rr o6 o7 o8 o9 vs, Ph W S n es rows ∧ σ' = [some (.ref a), some (.ref r), some wv, some ov, some (.ref d), some (.ref rr), o6, o7, o8, o9, none, none, none, none, none, none, none, none, none] ∧ Ex H2 H' ∧ H' d = some (.dT (kvs es)) ∧ H' rr = some (.lst vs) ∧ All2 (fun S v => (IT S).p v H') rows vs) 2
    ⟨[(S, 0)], [S], r0, _, _, _, _, [ov], .inl ⟨rfl, rfl, rfl⟩, rfl, e3, hd, hr0, .cons ((IT S).mono e3 ho) .nil⟩ ?_
  rintro n σ' H' ⟨es, rows, rr, o6, o7, o8, o9, vs, ph, rfl, e, hd, hrr, hrv⟩
  refine ⟨_, et_of (er_neNs (ss := rows) (er_var rfl ⟨rr, vs, rfl, hrr, hrv⟩) (er_lst ea_nilR (by simp))), ?_, ?_⟩
  · intro hne H4 e4
    have hne : rows ≠ [] := by simpa using hne
    obtain ⟨J, j0, jk, js, je⟩ := phase_run ok s ph hne
    refine ⟨fun σ2 H2' => ∃ n', n' < n ∧ ∃ es rows rr o6 o7 o8 o9 vs, Ph W S n' es rows ∧ σ2 = [some (.ref a), some (.ref r), some wv, some ov, some (.ref d), some (.ref rr), o6, o7, o8, o9, none, none, none, none, none, none, none, none, none] ∧ Ex H2 H2' ∧ H2' d = some (.dT (kvs es)) ∧ H2' rr = some (.lst vs) ∧ All2 (fun S v => (IT S).p v H2') rows vs, fun _ _ h => h, ?_⟩
    refine ⟨sz_of (by simp), fun l nl => ?_⟩
    have d4 := e4 _ _ hd
    have r4 := e4 _ _ hrr
    have ln : H2 l = none := fresh_back (e.trans e4) nl
    have ld : d ≠ l := fun z => by rw [z, nl] at d4; cases d4
    have lr : rr ≠ l := fun z => by rw [z, nl] at r4; cases r4
    have rd : rr ≠ d := fun z => by rw [z, d4] at r4; cases r4
    have e5 : Ex H4 (L2.upd H4 l (.lst [])) := Ex.new nl
    have bx0 : Bx H2 d l (es, []) (L2.upd H4 l (.lst [])) := ⟨(e.trans e4).trans e5, nd, ln, ld, e5 _ _ d4, [], upd_same, .nil⟩
    refine sr_forV (d := d) (l := l) (i := 5) (a := rr) (R := IT) (xs := rows) (vs := vs) rfl ⟨rd, lr⟩ (e5 _ _ r4) (all2_up (e4.trans e5) hrv) (fun i σ' H' => ∃ st o7 o8 o9, σ' = [some (.ref a), some (.ref r), some wv, some ov, some (.ref d), some (.ref rr), some (.ref l), o7, o8, o9, none, none, none, none, none, none, none, none, none] ∧ Bx H2 d l st H' ∧ J i st) ⟨(es, []), _, _, _, rfl, bx0, j0⟩ ?_ ?_
    · rintro i B v σ' H' hB chg ⟨st, o7, o8, o9, rfl, bx, hJ⟩ rv
      obtain ⟨hBk, sB, z1, z2⟩ := jk i B st hB hJ
      obtain ⟨k, hk⟩ := look_some hBk
      have lB := loose_len W B
      have rv : (IT B).p v H' := rv
      have haft : EvR (tLc (iList K (tCall p_law_after [] E0 (tCons (tVar 2) (tCons (tVar 7) tNil)))) (gTup K 2 (gCons (gName 16) (gCons (gName 17) gNil))) tYes (tVar 16) [16, 17]) [some (.ref a), some (.ref r), some wv, some ov, some (.ref d), some (.ref rr), some (.ref l), some v, o8, o9, none, none, none, none, none, none, none, none, none] H' (IL (loose W B)) :=
        (er_lcP (R := I) (R' := fun d => IT (toggle W.m B [d])) (fun _ => true) (fun d => d) I (ei_list (R := aftR W.m B) (en_def (W, B) ⟨ok, sB⟩ (ea_consR (er_var rfl ((wR W).mono bx.ex hw2)) (ea_consR (er_var rfl rv) ea_nilR))).r) (by show (loose W B).length ≤ 40000; omega) (fun _ _ => rfl) (fun _ _ _ _ _ _ _ _ => et_yes) fun _ _ u v H1 e1 hu hv _ => er_var rfl hu).to fun v H1 _ r => by
          rw [filter_yes, List.map_id'] at r
          exact LR_IL.mp r
      refine sr_forN (d := d) (l := l) (P := fun Ls => Ls.Perm (subs (loose W B))) (R := IT) (en_def (loose W B) (by omega) (ea_consR haft ea_nilR)) (by rw [bx.dv]; exact fun z => nomatch z) (by obtain ⟨ws, h, _⟩ := bx.lv; rw [h]; exact fun z => nomatch z)
        (fun Ls j σ' H'' => ∃ o8 o9, σ' = [some (.ref a), some (.ref r), some wv, some ov, some (.ref d), some (.ref rr), some (.ref l), some v, o8, o9, none, none, none, none, none, none, none, none, none] ∧ Bx H2 d l (((Ls.take j).map fun L => toggle W.m B L).foldl (add (k + 1)) st) H'' ∧ (IT B).p v H'') (fun xs H1 hx e => ⟨_, _, rfl, bx.up e, (IT B).mono e rv⟩) ?_ ?_
      · rintro Ls j L v2 σ' H5 H'' pm hx e chg2 ⟨o8, o9, rfl, bx2, rB⟩ rv2
        have fl := fold_len (k + 1) ((Ls.take j).map fun L => toggle W.m B L) st
        have l32 : Ls.length ≤ 32 := by
          rw [pm.length_eq, len_subs]
          exact pow5 (by omega)
        rw [List.length_map, List.length_take] at fl
        have hL := mem_subs.mp (pm.mem_iff.mp (List.mem_of_getElem? hx))
        have lL := hL.length_le
        have aL : Asc L := List.Pairwise.sublist hL (loose_asc W B)
        have fB := sB.few
        have rv2 : (IT L).p v2 H'' := rv2
        refine qr_asg (er_tupOfXL (er_sorted (ns := B.filter (fun k => !decide (k ∈ L)) ++ L.filter (fun k => !decide (k ∈ B))) (er_catI (er_lcI (fun k => !decide (k ∈ L)) (ei_IT (er_var rfl rB)) (by omega) (fun _ => rfl) (fun _ => rfl) fun k hk v H1 e1 rv => et_of (er_niT (er_var rfl rv) (er_var rfl ((IT L).mono e1 rv2)))) (er_lcI (fun k => !decide (k ∈ B)) (ei_IT (er_var rfl rv2)) (by omega) (fun _ => rfl) (fun _ => rfl) fun k hk v H1 e1 rv => et_of (er_niT (er_var rfl rv) (er_var rfl ((IT B).mono e1 rB)))) ?_) ?_)) fun tv H6 e6 ⟨ms, ⟨pm2, pw⟩, hms⟩ => ?_
        · have a1 := List.length_filter_le (fun k => !decide (k ∈ L)) B
          have a2 := List.length_filter_le (fun k => !decide (k ∈ B)) L
          omega
        · have a1 := List.length_filter_le (fun k => !decide (k ∈ L)) B
          have a2 := List.length_filter_le (fun k => !decide (k ∈ B)) L
          rw [List.length_append]
          omega
        · have eq : ms = toggle W.m B L := perm_is pm2 pw (by
            rw [List.nodup_append]
            refine ⟨(sB.asc.filter _).nodup, (aL.filter _).nodup, fun x hx y hy e => ?_⟩
            subst e
            have h1 := (List.mem_filter.mp hx)
            have h2 := (List.mem_filter.mp hy)
            simp at h1 h2
            exact h1.2 h2.1) toggle_asc fun k => by
            rw [mem_toggle, List.mem_append, List.mem_filter, List.mem_filter]
            have b1 := sB.ok k
            have b2 : k ∈ L → 0 ≤ k ∧ k < (W.m : Int) := fun z => (mem_loose.mp (hL.subset z)).1
            by_cases h1 : k ∈ B
            · by_cases h2 : k ∈ L
              · simp [h1, h2]
              · simp [h1, h2, b1 h1]
            · by_cases h2 : k ∈ L
              · simp [h1, h2, b2 h2]
              · simp [h1, h2]
          subst eq
          refine s_add (sd := 4) (st := 9) (sh := 7) (sl := 6) (es := ((((Ls.take j).map fun L => toggle W.m B L).foldl (add (k + 1)) st)).1) (more := ((((Ls.take j).map fun L => toggle W.m B L).foldl (add (k + 1)) st)).2) (bx2.up e6) rfl rfl rfl rfl hms ((IT B).mono e6 rB) (fold_look hk) (by omega) (by omega) fun H7 chg7 bx7 => ⟨(chg2.trans (Chg.ex e6)).trans chg7, _, _, rfl, ?_, TM.t chg7.2 ((IT B).mono e6 rB)⟩
          rw [fold_take hx]
          exact bx7
      · rintro Ls σ' H'' pm chg2 ⟨o8, o9, rfl, bx3, _⟩
        rw [List.take_length] at bx3
        exact ⟨chg.trans chg2, _, _, _, _, rfl, bx3, js i B st Ls k hB hJ pm hk⟩
    · rintro σ' H' chg ⟨st, o7, o8, o9, rfl, bx, hJ⟩
      obtain ⟨ws, h1, h2⟩ := bx.lv
      obtain ⟨n', hn', ph'⟩ := je st hJ
      exact ⟨_, rfl, n', hn', st.1, st.2, l, _, _, _, _, ws, ph', rfl, bx.ex, bx.dv, h1, h2⟩
  intro hne H4 e4
  have hne : rows = [] := by simpa using hne
  subst hne
  have F : Full W S es := by
    rcases ph with ⟨_, _, z⟩ | ⟨_, _, z, _⟩ | ⟨_, F, _⟩
    · cases z
    · exact absurd rfl z
    · exact F
  have d4 := e4 _ _ hd
  have e24 := e.trans e4
  have hw4 := (wR W).mono e24 hw2
  have ho4 := (IT S).mono e24 ho
  have hR4 := hR2.ex e24
  clear hd hrr hrv e e4 ph hR2 hw2 ho nr0 ne hr0 e3 nd e24
  have sc_res : ∀ {x : V} {H : Hp} {v : V}, ((Al.sc x).rep).p v H → v = x := fun h => h
  -- round_count
  refine q_when (b := false) (et_is (et_not (et_ofB (er_def (Al.sc (.int ((2 ^ (loose W S).length : Nat) : Int))) rfl (ea_consR (R := I ((2 ^ (loose W S).length : Nat) : Int)) (er_def (W, S) ⟨ok, s⟩ (ea_consR (er_var rfl hw4) (ea_consR (er_var rfl ho4) ea_nilR))) (ea_consR (R := I ((2 ^ (loose W S).length : Nat) : Int)) (er_I (er_lenD (er_var (R := Dt es) rfl ⟨d, rfl, d4⟩)) (by rw [full_len s F])) ea_nilR))))) rfl) (fun h => by cases h) fun _ H5 e5 => ?_
  have hw5 := (wR W).mono e5 hw4
  have ho5 := (IT S).mono e5 ho4
  have d5 := e5 _ _ d4
  -- by_rounds_alone
  refine q_when (b := false) (et_is (et_not (et_ofB (er_def (Al.sc (.int (((2 ^ (loose W S).length : Nat) : Int) - (countW W S : Int)))) rfl (ea_consR (R := I (((2 ^ (loose W S).length : Nat) : Int) - (countW W S : Int))) (er_def (W, S) ⟨ok, s⟩ (ea_consR (er_var rfl hw5) (ea_consR (er_var rfl ho5) ea_nilR))) (ea_consR (R := I (((2 ^ (loose W S).length : Nat) : Int) - (countW W S : Int))) (er_int2 (g := fun i j => .int (i - j)) (er_I (er_lenD (er_var (R := Dt es) rfl ⟨d, rfl, d5⟩)) (by rw [full_len s F])) (er_lenDX (er_def (W, S) ⟨ok, s⟩ (ea_consR (er_var rfl hw5) (ea_consR (er_var rfl ho5) ea_nilR))) fun es' h => by rw [reach_len ok s h.1 h.2])) ea_nilR))))) rfl) (fun h => by cases h) fun _ H6 e6 => ?_
  have hw6 := (wR W).mono e6 hw5
  have ho6 := (IT S).mono e6 ho5
  have d6 := e6 _ _ d5
  have hR6 := hR4.ex (e5.trans e6)
  have one : 1 ≤ es.length := by
    rw [full_len s F]
    exact Nat.one_le_two_pow
  have few : es.length ≤ 32 := by
    rw [full_len s F]
    exact pow5 (Nat.le_trans (loose_len W S) hi)
  -- two others
  refine qx_for (F := IT) (P := fun Ts : List (List Int) => (∀ T ∈ Ts, Std W.m T) ∧ Ts.length ≤ 2) hR6 ((ex_lst2 (R := XR (Std W.m) IT) (S := XR (Std W.m) IT) (ex_def W ok rfl fun H7 x7 => ea_consR (er_var rfl (RM.x hR6 x7 hw6)) ea_nilR) (ex_pick (P := fun ms => ms.Perm (keys es)) (p := Std W.m) rfl (fun ms pm => ⟨by rw [pm.length_eq, List.length_map]; exact one, by rw [pm.length_eq, List.length_map]; omega, fun T hT => dir_std hi ((F.all T).mp (pm.mem_iff.mp hT))⟩) fun H7 x7 => er_keys (er_var (R := Dt es) rfl (RM.x hR6 x7 (show (Dt es).p (.ref d) H6 from ⟨d, rfl, d6⟩))))).to fun v H7 x7 ⟨a', vs, ev, hv, rr⟩ => by
    cases rr with
    | cons h1 rr =>
      cases rr with
      | cons h2 rr =>
        cases rr
        obtain ⟨T1, t1, q1⟩ := h1
        obtain ⟨T2, t2, q2⟩ := h2
        exact ⟨[T1, T2], ⟨fun T hT => by
          rcases List.mem_cons.mp hT with z | z
          · rw [z]; exact t1
          · rw [List.mem_singleton.mp z]; exact t2, by simp⟩, a', _, ev, hv, .cons q1 (.cons q2 .nil)⟩) fun lv Ts H7 x7 ⟨hTs, hTl⟩ hlv => ?_
  have hw7 := RM.x hR6 x7 hw6
  have ho7 := RM.x hR6 x7 ho6
  have d7 : (Dt es).p (.ref d) H7 := RM.x hR6 x7 (show (Dt es).p (.ref d) H6 from ⟨d, rfl, d6⟩)
  have hR7 := x7.1
  clear hw6 ho6 d6 hR6 hw5 ho5 d5 hw4 ho4 d4 hR4 x7 e5 e6 one few
  have hw7' : (PR (I (W.m : Int)) (TR Pt W.A)).p wv H7 := hw7
  refine qr_for (R := IT) (xs := Ts) (ei_list (er_c.to fun u H8 e8 h => by cases (show u = lv from h); exact (LR IT Ts).mono e8 hlv)) (fun i σ' _ => ∃ o10 o11, σ' = [some (.ref a), some (.ref r), some wv, some ov, some (.ref d), some (.ref rr), o6, o7, o8, o9, o10, o11, none, none, none, none, none, none, none]) ⟨_, _, rfl⟩ ?_ (fun _ _ _ _ _ h => h) ?_
  · rintro i U v σ' H0 H' H'' hx ee0 e0 ⟨o10, o11, rfl⟩ e' rv
    have rv : (IT U).p v H'' := rv
    have t := hTs U (List.mem_of_getElem? hx)
    have e8 := (ee0.trans e0).trans e'
    have hw8 := (PR (I (W.m : Int)) (TR Pt W.A)).mono e8 hw7'
    have ho8 := (IT S).mono e8 ho7
    have d8 := (Dt es).mono e8 d7
    refine qr_asg (R := IT (differ W S U)) (er_tupOfL (er_lcI (ns := rng W.m) (fun k => decide (k ∈ S) != decide (k ∈ U)) (ei_rng (by omega) (ea_consR (er_ix0 (er_var rfl hw8)) ea_nilR)) (by rw [rng_len]; omega) (fun _ => rfl) (fun _ => rfl) fun k hk v H9 e9 rk => et_of (er_neB (er_inT (er_var rfl rk) (er_var rfl ((IT S).mono e9 ho8))) (er_inT (er_var rfl rk) (er_var rfl ((IT U).mono e9 rv)))))) fun dv H9 e9 hdv => ?_
    have hw9 : (wR W).p wv H9 := (PR (I (W.m : Int)) (TR Pt W.A)).mono e9 hw8
    have ho9 := (IT S).mono e9 ho8
    have d9 := (Dt es).mono e9 d8
    have rv9 := (IT U).mono e9 rv
    refine q_when (b := false) (et_is (et_not (et_ofB (er_def (Al.sc (rdV W S U)) (rdV_flat W S U) (ea_consR (R := is (rdV W S U)) (er_def (W, S, U) ⟨ok, s, t⟩ (ea_consR (er_var rfl hw9) (ea_consR (er_var rfl ho9) (ea_consR (er_var rfl rv9) ea_nilR)))) (ea_consR (R := is (rdV W S U)) (by
      rw [← get_rd s t F]
      exact er_getD (er_var rfl d9) (er_var rfl rv9)) ea_nilR))))) rfl) (fun h => by cases h) fun _ H10 e10 => ?_
    have hw10 := (wR W).mono e10 hw9
    have ho10 := (IT S).mono e10 ho9
    have d10 := (Dt es).mono e10 d9
    have rv10 := (IT U).mono e10 rv9
    have hdv10 := (IT (differ W S U)).mono e10 hdv
    have fin : ∀ {σ : L2.St} {A : Al} {ta tb : TE} {E : XK} {tu : TS} {D : Ends}, A.ok → EvR ta σ H10 A.rep → EvR tb σ H10 A.rep → (∀ H11, Ex H10 H11 → D.nx σ H11) → tIfS (tNot (tB (tCall p_law_alike [] E (tCons ta (tCons tb tNil))))) tu tNext D σ H10 := fun hA h1 h2 k =>
      s_when (b := false) (et_is (et_not (et_ofB (er_def _ hA (ea_consR h1 (ea_consR h2 ea_nilR))))) rfl) (fun h => by cases h) fun _ H11 e11 => k H11 e11
    by_cases z : U ∈ keys es
    · have zf : ¬ (differ W S U).any (frzB W S) = true := by rw [in_frz s t F, decide_eq_true z]; simp
      refine fin (A := .tu (differ W S U)) (by have := differ_len (W := W) (S := S) (T := U); show (differ W S U).length ≤ 10; omega) ((er_def (W, S, U) ⟨ok, s, t⟩ (ea_consR (er_var rfl hw10) (ea_consR (er_var rfl ho10) (ea_consR (er_var rfl rv10) ea_nilR)))).to fun v H _ r => by
        have r : (btR W S U).p v H := r
        rw [btR, if_neg zf] at r
        exact r) (er_if (er_inD (er_var rfl rv10) (er_var rfl d10)) (fun _ => er_var rfl hdv10) fun h => by rw [decide_eq_true z] at h; cases h) fun H11 e11 => ⟨((((e0.trans e').trans e9).trans e10).trans e11), _, _, rfl⟩
    · have zf : (differ W S U).any (frzB W S) = true := by rw [in_frz s t F, decide_eq_false z]; rfl
      refine fin (A := .sc .non) rfl ((er_def (W, S, U) ⟨ok, s, t⟩ (ea_consR (er_var rfl hw10) (ea_consR (er_var rfl ho10) (ea_consR (er_var rfl rv10) ea_nilR)))).to fun v H _ r => by
        have r : (btR W S U).p v H := r
        rw [btR, if_pos zf] at r
        exact r) (er_if (er_inD (er_var rfl rv10) (er_var rfl d10)) (fun h => by rw [decide_eq_false z] at h; cases h) fun _ => er_c) fun H11 e11 => ⟨((((e0.trans e').trans e9).trans e10).trans e11), _, _, rfl⟩
  rintro σ' H8 e8 ⟨o10, o11, rfl⟩
  have hw8 := (wR W).mono e8 hw7
  have hw8' := (PR (I (W.m : Int)) (TR Pt W.A)).mono e8 hw7'
  have ho8 := (IT S).mono e8 ho7
  have hR8 := hR7.ex e8
  have ll := loose_len W S
  -- can
  refine qr_asg (R := IL (loose W S)) ((er_lcP (R := I) (R' := fun d => IT (toggle W.m S [d])) (fun _ => true) (fun d => d) I (ei_list (R := aftR W.m S) (en_def (W, S) ⟨ok, s⟩ (ea_consR (er_var rfl hw8) (ea_consR (er_var rfl ho8) ea_nilR))).r) (by show (loose W S).length ≤ 40000; omega) (fun _ _ => rfl) (fun _ _ _ _ _ _ _ _ => et_yes) fun _ _ u v H1 e1 hu hv _ => er_var rfl hu).to fun v H1 _ r => by
    rw [filter_yes, List.map_id'] at r
    exact LR_IL.mp r) fun cv H9 e9 hcv => ?_
  have hw9 := (wR W).mono e9 hw8
  have hw9' := (PR (I (W.m : Int)) (TR Pt W.A)).mono e9 hw8'
  have ho9 := (IT S).mono e9 ho8
  have hR9 := hR8.ex e9
  have tk : ∀ {σ : L2.St} {H : Hp} (n : Nat) {E : XK} {te : TE}, 1 ≤ n → n ≤ 1000 → σ[1]? = some (some (.ref r)) → (∀ H1, Xr K ⟨r, a, ns⟩ H H1 → EvR te σ H1 (I (n : Int))) → EvX K ⟨r, a, ns⟩ (tCall (p_law_taken K) [] E (tCons (tVar 1) (tCons te tNil))) σ H (XR (fun k : Int => 0 ≤ k ∧ k < (n : Nat)) I) := fun n _ _ h1 h2 h3 h4 => ex_def n ⟨h1, h2⟩ h3 fun H1 x1 => ea_consR (h4 H1 x1) ea_nilR
  -- some
  refine qx_asg (R := XR (fun ms => ms.Sublist (rng W.m)) IT) hR9 (ex_tupX (ex_lcSub (ns := rng W.m) (eix_rng (by omega) fun H10 x10 => ea_consR (er_ix0 (er_var rfl (RM.x hR9 x10 hw9'))) ea_nilR) (by rw [rng_len]; omega) (fun _ => rfl) (fun _ => rfl) fun v => tn_eq0 (tk 3 (by omega) (by omega) rfl fun H10 _ => er_c))) fun sv H10 x10 ⟨ms, hms, hsv⟩ => ?_
  have lms : ms.length ≤ 5 := by
    have := hms.length_le
    rw [rng_len] at this
    omega
  have hw10 := RM.x hR9 x10 hw9
  have hw10' := RM.x hR9 x10 hw9'
  have ho10 := RM.x hR9 x10 ho9
  have hcv10 := RM.x hR9 x10 hcv
  clear hw9 hw9' ho9 hR9 x10 hcv hw8 hw8' ho8 hR8 hw7 hw7' ho7 d7 hR7 e8 e9 hlv tk
  let xs : List Vk := [.iv ms, .no (IL ms), .iv ms.reverse, .iv (ms ++ ms.drop (ms.length - 1)), .iv [], .no (is .non), .no (I 3), .no (Dt []), .iv [9], .one (.bl true), .one (.str "0"), .iv (loose W S), .iv (rng W.m)]
  have hok : ∀ x ∈ xs, x.ok K := by
    intro x hx
    simp only [xs, List.mem_cons, List.not_mem_nil, or_false] at hx
    rcases hx with rfl | rfl | rfl | rfl | rfl | rfl | rfl | rfl | rfl | rfl | rfl | rfl | rfl
    · show ms.length ≤ 10; omega
    · exact ⟨"list", ty_IL, by decide +kernel⟩
    · show ms.reverse.length ≤ 10; rw [List.length_reverse]; omega
    · show (ms ++ ms.drop (ms.length - 1)).length ≤ 10; rw [List.length_append, List.length_drop]; omega
    · show 0 ≤ 10; omega
    · exact ⟨"NoneType", ty_N, by decide +kernel⟩
    · exact ⟨"int", ty_I, by decide +kernel⟩
    · exact ⟨"dict", ty_D, by decide +kernel⟩
    · show 1 ≤ 10; omega
    · exact ⟨rfl, fun i h => (nomatch h), fun s h => (nomatch h)⟩
    · exact ⟨rfl, fun i h => (nomatch h), fun s h => by cases h; decide +kernel⟩
    · show (loose W S).length ≤ 10; omega
    · show (rng W.m).length ≤ 10; rw [rng_len]; omega
  refine qr_for (R := Vk.rep) (xs := xs) (ei_list ((er_lst (Rs := xs.map Vk.rep) (ea_consR (R := IT ms) (er_var rfl hsv) (ea_consR (R := IL ms) (er_listOf (er_var rfl hsv) fun _ _ h => .inr h) (ea_consR (R := IT ms.reverse) (er_revIT (er_var rfl hsv)) (ea_consR (R := IT (ms ++ ms.drop (ms.length - 1))) (er_catT (er_var rfl hsv) (er_last (er_var rfl hsv)) (by rw [List.length_drop]; omega)) (ea_consR (R := IT []) ((er_tup ea_nilR (by simp)).to fun _ _ _ r => nilT r) (ea_consR (R := is .non) er_c (ea_consR (R := I 3) er_c (ea_consR (R := Dt []) er_dnew
      (ea_consR (R := IT [9]) ((er_tup (ea_consR er_c ea_nilR) (by simp)).to fun _ _ _ r => tupOf_ints (ns := [9]) r) (ea_consR (R := TupOf [is (.bl true)]) (er_tup (ea_consR er_c ea_nilR) (by simp)) (ea_consR (R := TupOf [is (.str "0")]) (er_tup (ea_consR er_c ea_nilR) (by simp)) (ea_consR (R := IT (loose W S)) (er_tupOfL (er_var rfl hcv10)) (ea_consR (R := IT (rng W.m)) (er_tupRg (by omega) (er_ix0 (er_var rfl hw10'))) ea_nilR))))))))))))) (by simp [xs])).to fun v H _ r => LR_LstOf.mp r))
    (fun i σ' _ => ∃ o14 o15, σ' = [some (.ref a), some (.ref r), some wv, some ov, some (.ref d), some (.ref rr), o6, o7, o8, o9, o10, o11, some cv, some sv, o14, o15, none, none, none]) ⟨_, _, rfl⟩ ?_ (fun _ _ _ _ _ h => h) ?_
  · rintro i x v σ' H0 H' H'' hx ee0 e0 ⟨o14, o15, rfl⟩ e' rv
    have okx := hok x (List.mem_of_getElem? hx)
    have e11 := (ee0.trans e0).trans e'
    have hw11 := (wR W).mono e11 hw10
    have ho11 := (IT S).mono e11 ho10
    have hcv11 := (IL (loose W S)).mono e11 hcv10
    have fin : ∀ {σ : L2.St} {H10 : Hp} {A : Al} {ta tb : TE} {E : XK} {tu : TS} {D : Ends}, A.ok → EvR ta σ H10 A.rep → EvR tb σ H10 A.rep → (∀ H11, Ex H10 H11 → D.nx σ H11) → tIfS (tNot (tB (tCall p_law_alike [] E (tCons ta (tCons tb tNil))))) tu tNext D σ H10 := fun hA h1 h2 k =>
      s_when (b := false) (et_is (et_not (et_ofB (er_def _ hA (ea_consR h1 (ea_consR h2 ea_nilR))))) rfl) (fun h => by cases h) fun _ H11 e11 => k H11 e11
    cases x with
    | iv ls =>
      have rv : (IT ls).p v H'' := rv
      have few : ls.length ≤ 10 := okx
      refine qr_asg (R := B (goodB (.iv ls))) (er_B (er_and (er_isi (b := true) (er_var rfl rv) ty_IT) fun _ => er_and (er_neT (er_var rfl rv) (er_tup ea_nilR (by simp))) fun _ => er_and (er_def (Vk.iv ls, ls.length) ⟨okx, rfl⟩ (ea_consR (R := IT ls) (er_var rfl rv) (ea_consR (er_lenIT (er_var rfl rv)) ea_nilR))) fun _ => er_eqAsc (er_listOf (er_var rfl rv) fun _ _ h => .inr h) (er_sortSet (er_var rfl rv) (fun _ _ h => .inr h) (by omega))) (by simp [goodB, Vk.isV])) fun gv H12 e12 hg => ?_
      have rv12 := (IT ls).mono e12 rv
      refine fin (A := .sc (.bl (roundB W S ls))) rfl (er_def (W, S, Vk.iv ls) ⟨ok, s, okx⟩ (ea_consR (er_var rfl ((wR W).mono e12 hw11)) (ea_consR (er_var rfl ((IT S).mono e12 ho11)) (ea_consR (R := IT ls) (er_var rfl rv12) ea_nilR)))) (er_B (er_and (er_var (R := B (goodB (.iv ls))) rfl hg) fun _ => er_eqN (er_lcI (fun k => !decide (k ∈ loose W S)) (ei_IT (er_var rfl rv12)) (by omega) (fun _ => rfl) (fun _ => rfl) fun k hk u H13 e13 rk => et_of (er_niL (er_var rfl rk) (er_var rfl ((IL (loose W S)).mono (e12.trans e13) hcv11)))) (er_lst ea_nilR (by simp))) round_good) fun H13 e13 => ⟨((e0.trans e').trans e12).trans e13, _, _, rfl⟩
    | one y =>
      have hy : flat3 y = true ∧ (∀ i, y ≠ .int i) ∧ ∀ s, y = .str s → PyData.strOk s = true := okx
      have rv : (TupOf [is y]).p v H'' := rv
      have rt : (TR is [y]).p v H'' := tupOf1 rv
      have hd : ∃ d : PyData, (∀ H : Hp, Dp K H y d) ∧ d.canLay0 = true ∧ d.depth ≤ 1 := by
        cases y with
        | bl b => exact ⟨.bool b, fun _ => .bl b, by simp [PyData.canLay0], by simp [PyData.depth]⟩
        | str b => exact ⟨.str b, fun _ => .str b, by simp [PyData.canLay0, hy.2.2 b rfl], by simp [PyData.depth]⟩
        | int i => exact absurd rfl (hy.2.1 i)
        | _ => cases hy.1
      obtain ⟨dy, hd, h1, h2⟩ := hd
      refine qr_asg (R := B false) (er_B (er_and (er_isi (b := true) (er_var rfl rt) ty_TR) fun _ => er_and (er_neD (d := .tuple [dy]) (e := dT []) (er_var rfl rt) (er_tup ea_nilR (by simp)) (fun v H ⟨a, vs, ev, hv, r⟩ => by
        cases r with
        | cons h3 r =>
          cases r
          rw [show _ = y from h3] at hv
          exact ev ▸ .tup (st_of hv) (.cons (hd H) .nil)) (fun v H h => dp_IT (nilT h)) (shaped_of (by simp [PyData.canLay0, PyData.canLayAll0, h1]) (by simp [PyData.depth, PyData.depthAll]; omega)) (dT_shaped _)) fun _ => er_and (b := false) (er_def (Vk.one y, 1) ⟨okx, rfl⟩ (ea_consR (R := TupOf [is y]) (er_var rfl rv) (ea_consR (er_lenV (n := 1) (er_var rfl rt) fun v H ⟨a, vs, e, h, r⟩ => ⟨a, vs, e, .inr (st_of h), (all2_len r).symm⟩) ea_nilR))) fun h => by cases h) (by simp [Vk.isV])) fun gv H12 e12 hg => ?_
      refine fin (A := .sc (.bl false)) rfl (er_def (W, S, Vk.one y) ⟨ok, s, okx⟩ (ea_consR (er_var rfl ((wR W).mono e12 hw11)) (ea_consR (er_var rfl ((IT S).mono e12 ho11)) (ea_consR (R := TupOf [is y]) (er_var rfl ((TupOf [is y]).mono e12 rv)) ea_nilR)))) (er_B (er_and (b := false) (er_var (R := B false) rfl hg) fun h => by cases h) rfl) fun H13 e13 => ⟨((e0.trans e').trans e12).trans e13, _, _, rfl⟩
    | no R =>
      obtain ⟨T0, h1, h2⟩ := id okx
      have rv : R.p v H'' := rv
      refine qr_asg (R := B false) (er_B (er_and (b := false) (er_isi (b := false) (er_var rfl rv) h1 h2) fun h => by cases h) rfl) fun gv H12 e12 hg => ?_
      refine fin (A := .sc (.bl false)) rfl (er_def (W, S, Vk.no R) ⟨ok, s, okx⟩ (ea_consR (er_var rfl ((wR W).mono e12 hw11)) (ea_consR (er_var rfl ((IT S).mono e12 ho11)) (ea_consR (R := R) (er_var rfl (R.mono e12 rv)) ea_nilR)))) (er_B (er_and (b := false) (er_var (R := B false) rfl hg) fun h => by cases h) rfl) fun H13 e13 => ⟨((e0.trans e').trans e12).trans e13, _, _, rfl⟩
  · rintro σ' H11 e11 ⟨o14, o15, rfl⟩
    exact sr_ret (er_c (v := .bl true)) fun v H12 e12 r => by
      rw [show v = V.bl true from r]
      exact hq H12
end
end LD
set_option Elab.async false
set_option linter.all false
set_option maxRecDepth 100000
set_option maxHeartbeats 0
namespace LD
open PySem PySem.Spec PyProof.Rows L2
def dd (i : Nat) (x : Str) : He.DefD := ⟨(x, none), x, x, defArgs (top i), defBody (top i), defScope (top i), [], []⟩
def fn : List He.DefD := [dd 5 "is_in", dd 8 "is_arrow", dd 9 "need_web", dd 10 "need_opened", dd 11 "need_both", dd 13 "pairs_in", dd 14 "frozen_in", dd 15 "loose_in", dd 16 "standings", dd 18 "ringless", dd 19 "sets_in", dd 21 "power", dd 22 "fresh_in", dd 23 "sides_in", dd 24 "count_in", dd 26 "need_two", dd 28 "differ_in", dd 29 "rounds_in", dd 30 "fewest_rounds", dd 31 "round_between", dd 32 "round_count", dd 33 "is_round", dd 34 "by_rounds_alone", dd 36 "_law_taken", dd 37 "_law_pick", dd 38 "_law_web", dd 39 "_law_standing", dd 40 "_law_sets", dd 41 "_law_changed", dd 42 "_law_open", dd 43 "_law_shut", dd 44 "_law_after", dd 45 "_law_alike", dd 46 "_law_from", dd 47 "_law_is_vector", dd 48 "law"]
def fa : List He.Fa := [.glo "is_in", .glo "is_arrow", .glo "need_web", .glo "need_opened", .glo "need_both", .glo "pairs_in", .glo "frozen_in", .glo "loose_in", .glo "standings", .glo "ringless", .glo "sets_in", .glo "power", .glo "fresh_in", .glo "sides_in", .glo "count_in", .glo "need_two", .glo "differ_in", .glo "rounds_in", .glo "fewest_rounds", .glo "round_between", .glo "round_count", .glo "is_round", .glo "by_rounds_alone", .glo "_law_taken", .glo "_law_pick", .glo "_law_web", .glo "_law_standing", .glo "_law_sets", .glo "_law_changed", .glo "_law_open", .glo "_law_shut", .glo "_law_after", .glo "_law_alike", .glo "_law_from", .glo "_law_is_vector", .glo "law", .free "len", .free "isinstance", .free "sorted", .free "set", .free "list", .free "tuple", .free "range", .free "enumerate", .free "int", .free "bool", .free "str", .int "MOST_DOORS" 9]
abbrev R : PySem.W.OpenRow := PySem.W.OpenLaw.row PySem.Challenge.rw_latchdoors_k40_whole_rounds
abbrev hk : PySem.W.Hook := He.hookD 4 fa fn
def ob (s : PySem.W.SharedT) : He.AlD := He.obsDG 4 fa fn (HandSHeadRun.getT s)
theorem ob_eq (s : PySem.W.SharedT) : ob s = hk.obs s.abs := He.obsDG_eq (HandSHeadRun.getT_eq s)
def names1 : List PySem.Str := ["DoorError", "BadWeb", "BadOpened", "is_in", "is_arrow", "need_web", "need_opened", "need_both", "pairs_in", "frozen_in", "loose_in", "standings", "ringless", "sets_in", "power", "fresh_in", "sides_in", "count_in", "need_two"]
def names2 : List PySem.Str := ["differ_in", "rounds_in", "fewest_rounds", "round_between", "round_count", "is_round", "by_rounds_alone", "_law_taken", "_law_pick", "_law_web", "_law_standing", "_law_sets", "_law_changed", "_law_open", "_law_shut", "_law_after", "_law_alike", "_law_from", "_law_is_vector", "MOST_DOORS"]
def names : List PySem.Str := names1 ++ names2
theorem run (w : World) : HandSHeadRun.RunEq R (PySem.W.view R.prog [48]) hk ob 20000 names w := by
  intro os
  kernel_rfl
end LD
set_option Elab.async false
set_option linter.all false
set_option maxRecDepth 100000
set_option maxHeartbeats 0
set_option autoImplicit false
/-! the end: the defs by their facts, the law's statement -/
namespace LD
open PySem PySem.Spec PyProof.Rows L2
theorem raw_of {K : PySem.W.Frag} {h : Heap} {mg : Str → Option Value} (X : K.In h) (G : h.Ns mainGlobals mg) (c : He.SaysD fa fn K) (i j : Nat) (x : Str) (h1 : fn[i]? = some (dd j x)) (h2 : fa[i]? = some (.glo x)) : Raw K mg x (top j) := by
  obtain ⟨fd, F⟩ := c.def_ i (d := dd j x) h1
  exact ⟨_, fd, F, He.glo_ok X G (c.fact i (f := .glo x) h2)⟩
theorem facts {P : Program} {w : World} {K : PySem.W.Frag} {h : Heap} {mg : Str → Option Value} {f : Addr} (X : K.In h) (G : h.Ns mainGlobals mg) (hfa : mg ("law" : Str) = some (.ref f)) (c : He.SaysD fa fn K) :
    ∃ fd : FuncData, (∀ (s : Shared) (v : Value), BindsTo s fd ⟨[v], []⟩ [("_law_script", v)]) ∧ ∀ base : Heap, K.In base → base.Ns mainGlobals mg → FnOk P w K mg base CX0 7 f fd ["_law_script"] (spLaw K) := by
  obtain ⟨fd, F⟩ := c.def_ 35 (d := dd 48 "law") rfl
  have e := hfa.symm.trans (He.glo_ok X G (c.fact 35 (f := .glo "law") rfl))
  cases e
  have b := FunD.bindsA (ps := ["_law_script"]) F fun _ _ _ _ _ _ us hl => match us, hl with | [_], _ => rfl
  refine ⟨fd, fun s v => b s [v] rfl, fun base _ _ => ?_⟩
  have fr : ∀ (i : Nat) (x : Str), fa[i]? = some (.free x) → mg x = none := fun i x h => He.free_ok X G (c.fact i (f := .free x) h)
  have T : Names mg := ⟨fr 36 _ rfl, fr 37 _ rfl, fr 38 _ rfl, fr 39 _ rfl, fr 40 _ rfl, fr 41 _ rfl, fr 42 _ rfl, fr 43 _ rfl, fr 44 _ rfl, fr 45 _ rfl, fr 46 _ rfl⟩
  have mM := He.int_ok X G (c.fact 47 (f := .int "MOST_DOORS" 9) rfl)
  have R := raw_of X G c
  have is_in : D_is_in P w K mg base := d_is_in (R 0 5 _ rfl rfl) T
  have is_arrow : D_is_arrow P w K mg base := d_is_arrow (R 1 8 _ rfl rfl) T is_in
  have need_web : D_need_web P w K mg base := d_need_web (R 2 9 _ rfl rfl) T is_in is_arrow mM
  have need_opened : D_need_opened P w K mg base := d_need_opened (R 3 10 _ rfl rfl) T is_in
  have need_both : D_need_both P w K mg base := d_need_both (R 4 11 _ rfl rfl) T need_web need_opened
  have pairs_in : D_pairs_in P w K mg base := d_pairs_in (R 5 13 _ rfl rfl) T
  have frozen_in : D_frozen_in P w K mg base := d_frozen_in (R 6 14 _ rfl rfl) T pairs_in
  have loose_in : D_loose_in P w K mg base := d_loose_in (R 7 15 _ rfl rfl) T frozen_in
  have standings : D_standings P w K mg base := d_standings (R 8 16 _ rfl rfl) T
  have ringless : D_ringless P w K mg base := d_ringless (R 9 18 _ rfl rfl) T
  have sets_in : D_sets_in P w K mg base := d_sets_in (R 10 19 _ rfl rfl) T standings ringless
  have power : D_power P w K mg base := d_power (R 11 21 _ rfl rfl) T
  have fresh_in : D_fresh_in P w K mg base := d_fresh_in (R 12 22 _ rfl rfl) T
  have sides_in : D_sides_in P w K mg base := d_sides_in (R 13 23 _ rfl rfl) T loose_in
  have count_in : D_count_in P w K mg base := d_count_in (R 14 24 _ rfl rfl) T sides_in sets_in
  have need_two : D_need_two P w K mg base := d_need_two (R 15 26 _ rfl rfl) T need_both need_opened
  have differ_in : D_differ_in P w K mg base := d_differ_in (R 16 28 _ rfl rfl) T fresh_in
  have rounds_in : D_rounds_in P w K mg base := d_rounds_in (R 17 29 _ rfl rfl) T differ_in frozen_in
  have fewest_rounds : D_fewest_rounds P w K mg base := d_fewest_rounds (R 18 30 _ rfl rfl) T need_two rounds_in
  have round_between : D_round_between P w K mg base := d_round_between (R 19 31 _ rfl rfl) T need_two rounds_in differ_in
  have round_count : D_round_count P w K mg base := d_round_count (R 20 32 _ rfl rfl) T need_both loose_in power
  have is_round : D_is_round P w K mg base := d_is_round (R 21 33 _ rfl rfl) T need_both is_in frozen_in
  have by_rounds_alone : D_by_rounds_alone P w K mg base := d_by_rounds_alone (R 22 34 _ rfl rfl) T need_both loose_in power count_in
  have taken : D_law_taken P w K mg base := d_law_taken (R 23 36 _ rfl rfl) T
  have pick : D_law_pick P w K mg base := d_law_pick (R 24 37 _ rfl rfl) T taken
  have web : D_law_web P w K mg base := d_law_web (R 25 38 _ rfl rfl) T taken pick
  have standing : D_law_standing P w K mg base := d_law_standing (R 26 39 _ rfl rfl) T taken
  have sets : D_law_sets P w K mg base := d_law_sets (R 27 40 _ rfl rfl) T
  have changed : D_law_changed P w K mg base := d_law_changed (R 28 41 _ rfl rfl) T
  have opn : D_law_open P w K mg base := d_law_open (R 29 42 _ rfl rfl) T
  have shut : D_law_shut P w K mg base := d_law_shut (R 30 43 _ rfl rfl) T
  have after : D_law_after P w K mg base := d_law_after (R 31 44 _ rfl rfl) T changed opn shut
  have alike : D_law_alike P w K mg base := d_law_alike (R 32 45 _ rfl rfl) T
  have frm : D_law_from P w K mg base := d_law_from (R 33 46 _ rfl rfl) T after
  have vec : D_law_is_vector P w K mg base := d_law_is_vector (R 34 47 _ rfl rfl) T
  exact ok_law F T taken pick web standing sets after alike vec frm round_count by_rounds_alone fewest_rounds round_between is_round
end LD
open PySem PySem.W PySem.Calls PyProof.Rows
theorem PySem.Challenge.cw_latchdoors_k40_whole_rounds_holds : PySem.Challenge.rw_latchdoors_k40_whole_rounds.Holds := by
  w_on; o_law
  refine HandSHeadRun.head_any (r := OpenLaw.row PySem.Challenge.rw_latchdoors_k40_whole_rounds) (q := view (OpenLaw.row PySem.Challenge.rw_latchdoors_k40_whole_rounds).prog [48]) (H := LD.hk) (ob := LD.ob) (M := 20000) (loose := LD.names) (d := HandSHeadRun.topDef (OpenLaw.row PySem.Challenge.rw_latchdoors_k40_whole_rounds).prog 48) (kwd := []) LD.ob_eq
    (by kernel_rfl) (fun s => by kernel_rfl) LD.run (by kernel_rfl) (by kernel_rfl) (by kernel_rfl) (by rfl) (by first | assumption | decide +kernel) (by decide +kernel) ⟨rfl, rfl, rfl, rfl, rfl, by decide +kernel⟩ ?hw ?hc
  case hw => w_witness2
  case hc =>
    refine L2.walk_ofE (l := PySem.Challenge.rw_latchdoors_k40_whole_rounds) (n := 63) (k := 7) (x := "_law_script") (CX := L2.CX0) rfl (by decide) (by kernel_rfl) ⟨rfl, by decide, by decide⟩ ?F (fun _ _ _ _ z => z)
    intro w mg fa h Y G hmg0
    obtain ⟨K, KX, c⟩ := Y
    have hmg : mg ("law" : PySem.Str) = some (.ref fa) := by
      have e : (HandSHeadRun.topDef (OpenLaw.row PySem.Challenge.rw_latchdoors_k40_whole_rounds).prog 48).name = ("law" : PySem.Str) := by kernel_rfl
      rw [← e]
      exact hmg0
    obtain ⟨fd, hb, hF⟩ := LD.facts (P := (PySem.Challenge.rw_latchdoors_k40_whole_rounds).prog) (w := w) KX G hmg c
    exact ⟨K, fd, LD.spLaw K, KX, hb, fun H a ns hl _ hS => ⟨a, ns, rfl, hS, fun _ => rfl⟩, hF⟩
