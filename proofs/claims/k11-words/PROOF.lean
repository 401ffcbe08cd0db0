import PyProof.Rows.All
import Wide.All
import OpenK.AllK
import Wide.FinOn
import HandS.ForMost
import HandS.Slots
import HandS.Base
import HandS.Call
import HandS.List
import HandS.Set
import HandS.SetFor
import HandS.SetTxt0
import HandS.Strs
import HandS.TupSets
import PyProof.Rows.SortShellAny
import HandS.TupAny
import HandS.TupMul
import HandS.IsInst
import HandS.Wide
import HandS.Star
import HandS.Deep
import HandS.Defaults
import HandS.HeadEnd
import HandS.Head0
import HandS.Head1
import HandS.Head2
import HandS.HeadHook1
import HandS.HeadHook2
import HandS.HeadHook3
import PyProof.RowDictHeap
import KE.DatumOrd
import HandS.SortKw
import KE.KDictZip
import HandS.Iter
import HandS.DictComp
import HandS.RaiseMore
import PyProof.EqAt
import PyProof.StrLawsRepr
import PyProof.Rows.ReprShort
import PyProof.ReprText
import PyProof.ReprLen
import PySem.Challenge.RW_cutoutpieces_k11_words_of_any_value
set_option Elab.async false
set_option linter.all false
set_option maxRecDepth 100000
set_option maxHeartbeats 4000000
/-! sets of texts that can be walked -/
namespace Ts
open PySem PySem.Spec PyProof.Rows L2

abbrev Led (w : World) (t : SetTable) : Prop := w.params.followText "set-order" = true ∨ t.led = true
/-- at a stands a set of the texts l (each once, in any order) -/
def SetT (P : Program) (w : World) (h : Heap) (a : Addr) (l : List Str) : Prop := ∃ D : Froz.SD, h.get? a = some (Froz.sObj "set" D) ∧ Froz.TxOk P w D l ∧ l.Nodup ∧ Ris D.2.2.place.toList ∧ Led w D.2.2
section
variable {P : Program} {w : World} {A : Around} {E : Value → Shared → Prop} {s : Shared} {a : Addr} {l : List Str}
theorem SetT.on {h h' : Heap} (T : SetT P w h a l) (keep : ∀ o, h.get? a = some o → h'.get? a = some o) : SetT P w h' a l := by
  obtain ⟨D, d1, d2⟩ := T
  exact ⟨D, keep _ d1, d2⟩
theorem tail_ris {ep : Nat} {es : Array (Int × Value)} {t : SetTable} {b : Bool} (r : Ris t.place.toList) (l : Led w t) : Ris (Froz.tailTx ep es t b).2.2.place.toList ∧ Led w (Froz.tailTx ep es t b).2.2 := by
  unfold Froz.tailTx
  split
  · exact ⟨relayAll_ris t es _, l.imp id fun z => (relayAll_led t es _).trans z⟩
  · exact ⟨r, l⟩
theorem add_ris {hs : Int} {v : Value} {D : Froz.SD} (r : Ris D.2.2.place.toList) (l : Led w D.2.2) : Ris (Froz.addTx hs v D).2.2.place.toList ∧ Led w (Froz.addTx hs v D).2.2 := by
  unfold Froz.addTx
  have r1 := layNew_ris D.2.2 D.1 hs v r
  have l1 : Led w (layNew D.2.2 D.1 hs v).2.1 := l.imp id fun z => (layNew_led D.2.2 D.1 hs v).trans z
  apply tail_ris
  · split <;> exact r1
  · split <;> exact l1
/-- a text that the set has -/
theorem add_old {k : Str} {u : Tok} {Q : Bool → Shared → Prop} {D : Froz.SD} (at_ : s.heap.get? a = some (Froz.sObj "set" D)) (T : Froz.TxOk P w D l) (few : l.length < scanBound) (hk : k ∈ l) (q : Q false s) : wpAny (model P w) A (setAddHashed a (.str k u) (hashStr w k)) Q E s := by
  obtain ⟨es, ep, t⟩ := D
  have dat : (Froz.sObj "set" (es, ep, t)).data = .set es ep t := rfl
  have isk : (PySem.strKind P w).is k (.str k u) = true := Froz.is_str k u
  have sz : es.size < scanBound := (show es.size = l.length from T.sz) ▸ few
  unfold setAddHashed setAddHashedIn
  refine wpAny_holding (wpAny_bind (wpAny_setState_of at_ dat T.fit ?_))
  dsimp only
  rw [byScan_of (x := .str k u) rfl sz T.el]
  simp only [↓reduceIte]
  unfold setAddByScan
  refine wpAny_bind (wpAny_bind (wpAny_rule (wpAny_bind (wpAny_setScan_of (knd := PySem.strKind P w) (k := k) isk at_ dat T.fit T.el ?_))))
  obtain ⟨e, he, z⟩ := (T.mem k).mp hk
  cases f : List.findIdx? (fun e => (PySem.strKind P w).is k e.2) es.toList with
  | none =>
    have c := List.findIdx?_eq_none_iff.mp f e he
    rw [z] at c
    cases c
  | some j => exact wpAny_pure (wpAny_pure q)
/-- what is met so far -/
def got : List Str → List Str
  | [] => []
  | x :: xs => if x ∈ got xs then got xs else x :: got xs
theorem got_mem : ∀ (xs : List Str) (k : Str), k ∈ got xs ↔ k ∈ xs
  | [], _ => Iff.rfl
  | x :: xs, k => by
    unfold got
    split
    · rename_i h
      rw [got_mem xs, List.mem_cons]
      exact ⟨.inr, fun z => z.elim (fun e => e ▸ (got_mem xs x).mp h) id⟩
    · rw [List.mem_cons, List.mem_cons, got_mem xs]
theorem got_nodup : ∀ xs : List Str, (got xs).Nodup
  | [] => .nil
  | x :: xs => by
    unfold got
    split
    · exact got_nodup xs
    · rename_i h
      exact List.nodup_cons.mpr ⟨h, got_nodup xs⟩
theorem got_len : ∀ xs : List Str, (got xs).length ≤ xs.length
  | [] => Nat.le_refl _
  | x :: xs => by
    have := got_len xs
    unfold got
    split
    · exact Nat.le_succ_of_le this
    · exact Nat.succ_le_succ this
theorem rev_take {xs : List Str} {i : Nat} {x : Str} (h : xs[i]? = some x) : (xs.take (i + 1)).reverse = x :: (xs.take i).reverse := by
  rw [List.take_add_one, h, Option.toList_some, List.reverse_append]
  rfl
/-- one more -/
theorem add_any {k : Str} {u : Tok} {Q : Bool → Shared → Prop} {xs : List Str} (T : SetT P w s.heap a (got xs)) (few : (got xs).length + 1 < scanBound)
    (q : ∀ (b : Bool) (h' : Heap), Heap.SameBut a s.heap h' → SetT P w h' a (got (k :: xs)) → Q b { s with heap := h' }) : wpAny (model P w) A (setAddHashed a (.str k u) (hashStr w k)) Q E s := by
  obtain ⟨D, d1, d2, d3, d4, d5⟩ := id T
  by_cases c : k ∈ got xs
  · refine add_old d1 d2 (by omega) c (q false s.heap (Heap.SameBut.refl a _) ?_)
    unfold got
    rw [if_pos c]
    exact T
  · refine Froz.add_x d1 d2 c few (q true _ (Heap.SameBut.update s.heap a _) ?_)
    unfold got
    rw [if_neg c]
    obtain ⟨r1, l1⟩ := add_ris (w := w) (hs := hashStr w k) (v := .str k u) d4 d5
    exact ⟨_, Froz.get_upd _ d1 rfl, Froz.add_ok u d2, List.nodup_cons.mpr ⟨c, d3⟩, r1, l1⟩
theorem fresh_set {h : Heap} (o : h.get? a = some { cls := .type "set", dict := none, data := .set #[] 0 (.fresh 0 0 (!w.params.followText "set-order")) }) : SetT P w h a [] := by
  refine ⟨(#[], 0, .fresh 0 0 (!w.params.followText "set-order")), o, .nil rfl, .nil, List.Pairwise.nil, ?_⟩
  show _ ∨ (!w.params.followText "set-order") = true
  cases w.params.followText "set-order"
  · exact .inr rfl
  · exact .inl rfl
end
end Ts
set_option Elab.async false
set_option linter.all false
set_option maxRecDepth 100000
set_option maxHeartbeats 4000000
namespace Ts
open PySem PySem.Spec PyProof.Rows L2
section
variable {P : Program} {w : World} {A : Around} {R : Result → Shared → Prop} {J : Addr} {fp wr : List Addr} {GG : Array GenState → Array GenState → Prop} {n : Nat} {Pv : Nat → Value → Prop} {At : Nat → Shared → Prop}
/-- the loop of set.update over texts -/
theorem up_loop (W : WalksS P w A.in1 J fp wr GG n Pv At) (a : Addr) (off : a ∉ fp) (xs : List Str) (len : xs.length = n) (few : n + 1 < scanBound) (val : ∀ i v, Pv i v → ∃ x t, xs[i]? = some x ∧ v = .str x t) :
    ∀ (m i : Nat) (s : Shared), n - i = m → i ≤ n → At i s → SetT P w s.heap a (got (xs.take i).reverse) →
      (∀ s', Moved (a :: wr) GG s s' → SetT P w s'.heap a (got xs.reverse) → R (.ok (.ret .none)) s') → codeAny (model P w) A (.builtin "set.update.loop" ⟨[.ref a, .ref J], []⟩) R s := by
  have offw : a ∉ wr := fun z => off (W.sub _ z)
  have wider : ∀ b ∈ wr, b ∈ a :: wr := fun b z => List.mem_cons_of_mem _ z
  intro m
  induction m with
  | zero =>
    intro i s e1 e2 st T fin
    obtain rfl : i = n := by omega
    refine codeAny_builtin PyProof.Rows.F.entry_set_update_loop (?_ : wpAny _ (A.under (.builtin "set.update.loop" ⟨[.ref a, .ref J], []⟩)) _ _ _ s)
    rw [Around.under_plainId PyProof.Rows.F.plain_set_update_loop _]
    refine wpAny_bind (m := pyNext (.ref J)) (W.done s _ _ st fun s' mv => wpAny_pure (fin s' (mv.mono wider) ?_))
    rw [← len, List.take_length] at T
    exact T.on fun o z => mv.heap a o offw z
  | succ m ih =>
    intro i s e1 e2 st T fin
    have lt : i < n := by omega
    refine codeAny_builtin PyProof.Rows.F.entry_set_update_loop (?_ : wpAny _ (A.under (.builtin "set.update.loop" ⟨[.ref a, .ref J], []⟩)) _ _ _ s)
    rw [Around.under_plainId PyProof.Rows.F.plain_set_update_loop _]
    refine wpAny_bind (m := pyNext (.ref J)) (W.item i s _ _ lt st fun v s' hv st' mv => ?_)
    obtain ⟨x, t, hx, rfl⟩ := val i v hv
    have T' := T.on fun o z => mv.heap a o offw z
    refine wpAny_bind (m := holding [Value.str x t] (setAdd a (.str x t))) (wpAny_holding (wpAny_holding (wpAny_bind ((PySem.strKind P w).pyHash (k := x) (strKind_is P w x t) ?_))))
    refine add_any (s := { s' with toks := s'.toks + 1 }) T' ?_ fun b h' sb T2 => ?_
    · have q1 := got_len (xs.take i).reverse
      rw [List.length_reverse, List.length_take] at q1
      omega
    · have T3 : SetT P w h' a (got (xs.take (i + 1)).reverse) := by
        rw [rev_take hx]
        exact T2
      refine wpAny_pure ⟨plainId_quiet PyProof.Rows.F.plain_set_update_loop _, ih (i + 1) _ (by omega) lt (W.frame _ s' _ _ st' (Nat.le_succ _) fun b hb o z => ?_) T3 fun s2 mv2 T4 => ?_⟩
      · exact (sb.2 b fun z2 : b = a => off (z2 ▸ hb)).trans z
      · refine fin s2 (Moved.trans W.gtrans ((mv.mono wider).then_heap (Nat.le_succ _) fun b o hb z => ?_) mv2) T4
        exact (sb.2 b fun z2 : b = a => hb (by rw [z2]; exact List.mem_cons_self)).trans z
end
theorem strs_get : ∀ {us : List Value} {xs : List Str}, StrsAre us xs → ∀ (i : Nat) (v : Value), us[i]? = some v → ∃ x t, xs[i]? = some x ∧ v = .str x t
  | _, _, .nil, i, v, h => by simp at h
  | _, _, .cons n t hr, 0, v, h => by
    simp at h
    exact ⟨n, t, rfl, h.symm⟩
  | _, _, .cons n t hr, i + 1, v, h => by
    rw [List.getElem?_cons_succ] at h ⊢
    exact strs_get hr i v h
end Ts
set_option Elab.async false
set_option linter.all false
set_option maxRecDepth 100000
set_option maxHeartbeats 4000000
namespace Ts
open PySem PySem.Spec PyProof.Rows L2
section
variable {P : Program} {w : World} {A : Around} {E : Value → Shared → Prop} {s : Shared}
abbrev newSet (w : World) : Obj := { cls := .type "set", dict := none, data := .set #[] 0 (.fresh 0 0 (!w.params.followText "set-order")) }
/-- set(xs), xs a list of texts -/
theorem call_set_of {src : Addr} {items : Array Value} {xs : List Str} {Q : Value → Shared → Prop} (calm : A.handled = none) (isl : s.heap.IsList src items) (tx : StrsAre items.toList xs) (few : xs.length + 1 < scanBound)
    (q : ∀ (h' : Heap) (tk : Nat), SetT P w h' s.heap.objs.size (got xs.reverse) → (∀ b o, s.heap.get? b = some o → h'.get? b = some o) → Q (.ref s.heap.objs.size) { s with heap := h', toks := tk }) :
    wpAny (model P w) A (call (.type "set") [.ref src]) Q E s := by
  obtain ⟨c, tl, mro⟩ := PySem.F.called_set.mro
  have f1 := PySem.F.called_set.made
  have f2 := PySem.F.called_set.sub
  have f3 := PySem.F.called_set.notType
  have f4 := PySem.F.called_set.canCreate
  have f5 := PySem.F.typeCall_set_1 (.ref src)
  refine wpAny_call (codeAny_of_tree (?_ : wpAny _ _ (callAny (.type "set") _) _ _ _))
  refine wpAny_pure ⟨Code.quiet_builtin _ (by decide +kernel), codeAny_builtin PySem.F.entry_type_call ?_⟩
  rw [Around.under_plain (weight_type_call_type "set" [.ref src] []) rfl]
  repeat (any_goals (first | assumption | wp_step))
  refine codeAny_mono (code_set_led1 (.ref src) (E := E) (Q₁ := fun r t => r = .ref s.heap.objs.size ∧ t = { s with heap := s.heap.push (newSet w) }) ⟨rfl, rfl⟩) fun r t z => ?_
  match r, z with
  | .error e, z => exact z
  | .ok (.ret r), ⟨z1, z2⟩ =>
    subst z1 z2
    have o1 : (s.heap.push (newSet w)).get? s.heap.objs.size = some (newSet w) := Heap.get?_push_size _ rfl
    have ty : Shared.TypeIs { s with heap := s.heap.push (newSet w) } (.ref s.heap.objs.size) "set" := ⟨_, o1, rfl⟩
    have g1 := PySem.F.called_set.init.lookup
    have g2 := PySem.F.called_set.init.bind (.ref s.heap.objs.size)
    repeat (any_goals (first | assumption | wp_step))
    refine codeAny_mono (codeAny_call_builtin (R := wants (fun r t => r = .none ∧ ∃ h' tk, t = { s with heap := h', toks := tk } ∧ SetT P w h' s.heap.objs.size (got xs.reverse) ∧ ∀ b o, s.heap.get? b = some o → h'.get? b = some o) E)
      PySem.F.called_set.init.plain PySem.F.entry_set_init (check_set_init_1 ty ?_)) fun r2 t2 z2 => ?_
    · obtain ⟨⟨oc, od, odt, osl⟩, ho, hc, ln, hd⟩ := isl
      simp only at hc hd
      subst hc hd
      have ho2 : (s.heap.push (newSet w)).get? src = some { cls := .type "list", dict := od, data := .seq items ln, slots := osl } := Heap.get?_push_of_some _ ho
      have u1 := PySem.F.sub_list_set
      have u2 := PySem.F.sub_list_frozenset
      have u3 : (Value.type "list" == Value.type "dict") = false := by decide
      have isl2 : (s.heap.push (newSet w)).IsList src items := ⟨_, ho2, rfl, ln, rfl⟩
      unfold Builtin.«set.__init__» noKeywords Builtin.Frozenset.updateFrom
      generalize keep : pyIter = itr
      wp_walk
      subst keep
      refine wpAny_pyIter_list isl2 (wpAny_bind (wpAny_runValue ?_))
      have below : src < s.heap.objs.size := Heap.lt_size ho
      have pushed : (s.heap.push (newSet w)).objs.size = s.heap.objs.size + 1 := Heap.size_push ..
      have out3 : A.in1.in1.in1.handled = none := by simp [calm]
      have ne1 : src ≠ (s.heap.push (newSet w)).objs.size := by
        rw [pushed]
        exact Nat.ne_of_lt (Nat.lt_succ_of_lt below)
      have total : xs.length = items.size := by rw [← StrsAre.len_eq tx, Array.length_toList]
      refine up_loop (P := P) (w := w) ((Walks.list out3 _ src ne1 items).toS) s.heap.objs.size ?_ xs total (total ▸ few) (fun i v hv => strs_get tx i v (by rw [Array.getElem?_toList]; exact hv)) (items.size - 0) 0 _ (by omega) (Nat.zero_le _)
        ⟨⟨_, Heap.get?_push_size _ rfl, rfl, rfl⟩, (isl2.push _)⟩ (fresh_set (Heap.get?_push_of_some _ o1)) fun s' mv T => ?_
      · simp only [List.mem_cons, List.mem_singleton, List.not_mem_nil, or_false, not_or]
        exact ⟨Nat.ne_of_lt (by rw [pushed]; exact Nat.lt_succ_self _), Nat.ne_of_gt below⟩
      · obtain ⟨h', g', d', tk', os'⟩ := s'
        obtain rfl : g' = s.gens := mv.gens
        obtain rfl : d' = s.drawn := mv.drawn
        obtain rfl : os' = s.os := mv.os
        show wpAny _ _ _ _ _ _
        refine wpAny_pure (wpAny_pure ⟨rfl, h', tk', rfl, T, fun b o z => mv.heap b o (fun hb => ?_) (Heap.get?_push_of_some _ (Heap.get?_push_of_some _ z))⟩ : wpAny _ _ (ret Value.none) _ _ _)
        have hlt := Heap.lt_size z
        simp only [List.mem_cons, List.mem_singleton, List.not_mem_nil, or_false] at hb
        rcases hb with hb | hb
        · exact Nat.ne_of_lt hlt hb
        · rw [pushed] at hb
          exact Nat.ne_of_lt (Nat.lt_succ_of_lt hlt) hb
    · match r2, z2 with
      | .error e, z2 => exact z2
      | .ok (.ret r), ⟨z3, h', tk, z4, T, old⟩ =>
        subst z3 z4
        repeat (any_goals (first | assumption | wp_step))
        exact q _ _ T old
      | .ok .next, z2 => exact z2.elim
      | .ok .brk, z2 => exact z2.elim
      | .ok .cont, z2 => exact z2.elim
  | .ok .next, z => exact z.elim
  | .ok .brk, z => exact z.elim
  | .ok .cont, z => exact z.elim
end
end Ts
set_option Elab.async false
set_option linter.all false
set_option maxRecDepth 100000
set_option maxHeartbeats 4000000
namespace Ts
open PySem PySem.Spec PyProof.Rows L2
section
variable {P : Program} {w : World} {A : Around} {E : Value → Shared → Prop} {s : Shared}
theorem strs_split : ∀ {l : List (Int × Value)} {us : List Value}, us.Perm (l.map (·.2)) → (∀ e ∈ l, ∃ k t, e.2 = Value.str k t) → ∃ ks, StrsAre us ks := by
  intro l us hp hall
  have key : ∀ vs : List Value, (∀ v ∈ vs, ∃ k t, v = Value.str k t) → ∃ ks, StrsAre vs ks := by
    intro vs
    induction vs with
    | nil => exact fun _ => ⟨[], .nil⟩
    | cons v vs ih =>
      intro hv
      obtain ⟨k, t, rfl⟩ := hv v List.mem_cons_self
      obtain ⟨ks, q⟩ := ih fun u hu => hv u (List.mem_cons_of_mem _ hu)
      exact ⟨k :: ks, .cons k t q⟩
  refine key us fun v hv => ?_
  obtain ⟨e, he, rfl⟩ := List.mem_map.mp (hp.mem_iff.mp hv)
  exact hall e he
theorem strs_mem : ∀ {us : List Value} {ks : List Str}, StrsAre us ks → ∀ k, k ∈ ks ↔ ∃ t, Value.str k t ∈ us
  | _, _, .nil, k => by simp
  | _, _, .cons n t r, k => by
    rw [List.mem_cons, strs_mem r]
    constructor
    · rintro (rfl | ⟨u, h⟩)
      · exact ⟨t, List.mem_cons_self⟩
      · exact ⟨u, List.mem_cons_of_mem _ h⟩
    · rintro ⟨u, h⟩
      rcases List.mem_cons.mp h with z | z
      · cases z
        exact .inl rfl
      · exact .inr ⟨u, z⟩
theorem isStrOf_eq {k : Str} {v : Value} (h : (PySem.strKind P w).is k v = true) : ∃ t, v = .str k t := by
  have h' : Value.isStrOf k v = true := h
  unfold Value.isStrOf at h'
  split at h'
  · rename_i x t
    exact ⟨t, by rw [beq_iff_eq.mp h']⟩
  · cases h'
theorem perm_of {l : List Str} : ∀ {ks : List Str}, l.Nodup → (∀ k ∈ l, k ∈ ks) → ks.length = l.length → ks.Perm l := by
  induction l with
  | nil =>
    intro ks _ _ e
    rw [List.length_eq_zero_iff.mp e]
  | cons x l ih =>
    intro ks nd sub e
    obtain ⟨hx, nd'⟩ := List.nodup_cons.mp nd
    have mx : x ∈ ks := sub x List.mem_cons_self
    have p := List.perm_cons_erase mx
    refine p.trans ((ih nd' (fun k hk => ?_) ?_).cons x)
    · exact (List.mem_erase_of_ne (show k ≠ x from fun z => hx (z ▸ hk))).mpr (sub k (List.mem_cons_of_mem _ hk))
    · have := p.length_eq
      rw [List.length_cons] at this e
      omega
/-- the texts of the walked members are the set's, each once -/
theorem members {D : Froz.SD} {l : List Str} {us : List Value} {ks : List Str} (T : Froz.TxOk P w D l) (nd : l.Nodup) (hp : us.Perm (D.1.toList.map (·.2))) (q : StrsAre us ks) : ks.Perm l := by
  have hlen : ks.length = l.length := by
    rw [← StrsAre.len_eq q, hp.length_eq, List.length_map, Array.length_toList]
    exact T.sz
  refine perm_of nd (fun k hk => ?_) hlen
  obtain ⟨e, he, z⟩ := (T.mem k).mp hk
  obtain ⟨t, ht⟩ := isStrOf_eq z
  exact (strs_mem q k).mpr ⟨t, hp.mem_iff.mpr (ht ▸ List.mem_map.mpr ⟨e, he, rfl⟩)⟩
end
end Ts
set_option Elab.async false
set_option linter.all false
set_option maxRecDepth 100000
set_option maxHeartbeats 4000000
namespace Ts
open PySem PySem.Spec PyProof.Rows L2
section
variable {P : Program} {w : World} {A : Around} {E : Value → Shared → Prop} {s : Shared}
theorem sort_texts {a : Addr} {vs : List Value} {ss : List Str} {n : Nat} {Pf : Fin → Shared → Prop} (ho : s.heap.get? a = some (seqObj "list" vs.toArray n)) (hS : StrsAre vs ss) (hL : vs.length ≤ sizeLine)
    (h : ∀ (out : Array Value) (ks : List Str), StrsAre out.toList ks → ks.Perm ss → sortedS ks = true → Pf (.done (.ret .none)) { s with heap := sortedHeap s.heap a vs out }) : wpAny (model P w) A (Builtin.«list.sort» ⟨[.ref a], []⟩) Pf E s := by
  refine list_sort_treeKAny strKind_oneLt ho hS.keysOf (fun v1 v2 rest e => keyKind_strs (by rw [← e]; exact hS)) hL fun st' hp hs => ?_
  obtain ⟨ks, h1, h2, h3⟩ := sorted_out_str hS hp hs
  exact h _ ks h1 h2 h3
/-- sorted(s), s a set of texts -/
theorem sorted_of {a : Addr} {l : List Str} {Q : Value → Shared → Prop} (T : SetT P w s.heap a l) (calm : A.handled = none) (few : l.length < scanBound)
    (q : ∀ (s' : Shared) (p : Addr) (out : Array Value) (c : Nat) (ks : List Str), (∀ b o, s.heap.get? b = some o → s'.heap.get? b = some o) → s'.gens = s.gens → s'.os = s.os → s.heap.objs.size ≤ p → s'.heap.get? p = some (seqObj "list" out c) →
      StrsAre out.toList ks → ks.Perm l → sortedS ks = true → Q (.ref p) s') : wpAny (model P w) A (call (.builtin "sorted") [.ref a]) Q E s := by
  obtain ⟨D, d1, d2, d3, d4, d5⟩ := T
  have sz : D.1.size = l.length := d2.sz
  refine Calls.call_function_entry kind_sorted plain_sorted entry_sorted (args_sorted1 _) ?_
  unfold Builtin.«sorted»
  refine wpAny_bind (m := checkCount "sorted" 1 1 _) (wpAny_pure (wpAny_bind (collect_set (A := A.in1) (es := D.1) (ep := D.2.1) (t := D.2.2) calm ⟨_, d1, rfl, rfl⟩ d2.fit (by omega) d4 d5 fun s1 us k1 hz g1 o1 pm => ?_)))
  have total : us.length = l.length := by rw [pm.length_eq, List.length_map, Array.length_toList, sz]
  have bound : us.length ≤ sizeLine := by
    rw [total, sizeLine_eq]
    unfold scanBound at few
    omega
  obtain ⟨ks, hks⟩ := strs_split pm fun e he => by
    obtain ⟨k, hk⟩ := d2.el.keys e he
    obtain ⟨t, ht⟩ := isStrOf_eq hk
    exact ⟨k, t, ht⟩
  refine wpAny_bind (wpAny_newList ?_ bound)
  have ho : (s1.heap.push (seqObj "list" us.toArray 0)).get? s1.heap.objs.size = some (seqObj "list" us.toArray 0) := Heap.get?_push_size _ rfl
  refine wpAny_bind (wpAny_holding (wpAny_call_entry slot_list_sort ⟨_, ho, rfl⟩ entry_list_sort (sort_texts ho hks bound fun out ks' h1 h2 h3 => ⟨_, rfl, ?_⟩) (args_list_sort _)))
  obtain ⟨c, hc⟩ := sortedHeap_at (vs := us) (out := out) ho
  refine wpAny_pure ⟨_, rfl, q _ s1.heap.objs.size _ c ks' (fun b u e => ?_) g1 o1 hz hc h1 (h2.trans (members d2 d3 pm hks)) h3⟩
  have e1 := k1 b u e
  have lt := Heap.lt_size e1
  refine (sortedHeap_old (vs := us) (out := out) (Nat.ne_of_lt lt) ?_).trans (Heap.get?_push_of_some _ e1)
  rw [size_push']
  exact Nat.lt_succ_of_lt lt
end
end Ts
set_option Elab.async false
set_option linter.all false
set_option maxRecDepth 100000
set_option maxHeartbeats 4000000
namespace Ts
open PySem PySem.Spec PyProof.Rows L2
/-! the set of texts as an object of the heap; its rules -/
def SetX (P : Program) (w : World) (a : Addr) (l : List Str) : HO := .ext fun h => SetT P w h a l
section
variable {X : Cx}
theorem setX_ok {P : Program} {w : World} {H : Hp} {h : Heap} {a : Addr} {l : List Str} (T : SetT P w h a l) : ObjOk P w H h a (SetX P w a l) := by
  have ⟨D, d1, _⟩ := T
  exact ⟨T, ⟨_, d1⟩, fun _ _ p k => SetT.on p k⟩
theorem setX_at {pins : List (Addr × Obj)} {σ : L2.St} {H : Hp} {s : Shared} {a : Addr} {l : List Str} (I : Inv X pins σ H s) (ha : H a = some (SetX X.prog X.w a l)) : SetT X.prog X.w s.heap a l := (I.hok a _ ha).1
theorem texts_of : ∀ {ys : List Str} {us : List Value}, Vals (ys.map V.str) us → StrsAre us ys
  | [], _, .nil => .nil
  | y :: ys, _, .cons ⟨k, e⟩ t => e ▸ .cons y k (texts_of t)
/-- set(xs), xs a list of texts -/
theorem cr_setL (hc : X.calm = true) : CallR X (.type "set") (fun vs H Q => ∃ (l : Addr) (xs : List Str), vs = [.ref l] ∧ SqL X.K H l (xs.map V.str) ∧ xs.length + 1 < scanBound ∧ ∀ p, H p = none → Q (.ref p) (upd H p (SetX X.prog X.w p (got xs.reverse)))) := by
  intro pins s σ H vs us Q I r h
  obtain ⟨l, xs, rfl, hs, few, q⟩ := h
  obtain ⟨its, rv, hl, _⟩ := I.list hs
  rw [Vals.ref1 r]
  exact call_set_of (I.ok.hd hc) hl.isList (by simpa using texts_of rv) few fun h' tk T old => ⟨.ref _, _, I.laid (t' := tk) old (Nat.le_refl _) (setX_ok T), rfl, q _ (I.hok.fresh (Nat.le_refl _))⟩
/-- sorted(s), s a set of texts -/
theorem cr_sortedX (hc : X.calm = true) : CallR X (.builtin "sorted") (fun vs H Q => ∃ (a : Addr) (l : List Str), vs = [.ref a] ∧ H a = some (SetX X.prog X.w a l) ∧ l.length < scanBound ∧ ∀ (ks : List Str) (p : Addr), ks.Perm l → sortedS ks = true → H p = none → Q (.ref p) (upd H p (.lst (ks.map V.str)))) := by
  intro pins s σ H vs us Q I r h
  obtain ⟨a, l, rfl, ha, few, q⟩ := h
  rw [Vals.ref1 r]
  refine sorted_of (setX_at I ha) (I.ok.hd hc) few fun s' p out c ks old g o hp hget hks hperm hsort => ?_
  have sz : (ks.map V.str).length ≤ sizeLine := by
    rw [List.length_map, hperm.length_eq, sizeLine_eq]
    unfold scanBound at few
    omega
  have fresh : H p = none := I.hok.fresh hp
  have J : Inv X pins σ (upd H p (.lst (ks.map V.str))) { s with heap := s'.heap, gens := s'.gens, drawn := s'.drawn, toks := s'.toks } :=
    I.call (ch := []) (Un.laid old hp fresh) (I.hok.laid old hp ⟨sz, out.toList, c, vals_of_strs hks, hget⟩) (g ▸ I.bare) (fun _ z => nomatch z)
  have same : s' = { s with heap := s'.heap, gens := s'.gens, drawn := s'.drawn, toks := s'.toks } := by
    cases s'
    cases s
    cases o
    rfl
  rw [same]
  exact ⟨.ref p, _, J, rfl, q ks p hperm hsort fresh⟩
/-- sorted(xs), xs a list of texts -/
theorem cr_sortedA : CallR X (.builtin "sorted") (fun vs H Q => ∃ (a : Addr) (xs : List Str), vs = [.ref a] ∧ SqL X.K H a (xs.map V.str) ∧ xs.length ≤ sizeLine ∧ ∀ (ks : List Str) (p : Addr), ks.Perm xs → sortedS ks = true → H p = none → Q (.ref p) (upd H p (.lst (ks.map V.str)))) := by
  intro pins s σ H vs us Q I r h
  obtain ⟨a, xs, rfl, hs, bound, q⟩ := h
  obtain ⟨its, rv, hl, _⟩ := I.list hs
  rw [Vals.ref1 r]
  have n0 : xs.length = its.length := by rw [← rv.length, List.length_map]
  refine sorted_strsAny hl.isList (texts_of rv) (n0 ▸ bound) fun out ks h1 h2 h3 => ?_
  obtain ⟨c, hget⟩ := sortedAll_at s.heap its out
  have sz : (ks.map V.str).length ≤ sizeLine := by
    rw [List.length_map, h2.length_eq]
    exact bound
  exact ⟨.ref _, _, I.laid (a := s.heap.objs.size + 1) (t' := s.toks) (fun _ _ => sortedAll_old) (Nat.le_succ _) (show ObjOk _ _ _ _ _ (.lst (ks.map V.str)) from ⟨sz, out.toList, c, vals_of_strs h1, hget⟩), rfl, q ks _ h2 h3 (I.hok.fresh (Nat.le_succ _))⟩
/-- len(s) -/
theorem cr_lenX : CallR X (.builtin "len") (fun vs H Q => ∃ (a : Addr) (l : List Str), vs = [.ref a] ∧ H a = some (SetX X.prog X.w a l) ∧ l.length < scanBound ∧ Q (.int l.length) H) := by
  intro pins s σ H vs us Q I r h
  obtain ⟨a, l, rfl, ha, few, q⟩ := h
  rw [Vals.ref1 r]
  obtain ⟨D, d1, d2, _⟩ := setX_at I ha
  have sz : D.1.size = l.length := d2.sz
  refine call_len_set (es := D.1) (ep := D.2.1) (t := D.2.2) d1 ⟨rfl, rfl, rfl⟩ rfl d2.fit ?_ ⟨.int l.length, H, I.tok _, ⟨_, by rw [sz]⟩, q⟩
  rw [sz]
  unfold scanBound at few
  omega
end
/-! the one sorted list -/
def leS (x y : Str) : Prop := ltCps y.cps.toList x.cps.toList = false
theorem lt_irr : ∀ a : List Nat, ltCps a a = false
  | [] => rfl
  | a :: r => by simp [ltCps, lt_irr r]
theorem lt_tr : ∀ {a b c : List Nat}, ltCps b a = false → ltCps c b = false → ltCps c a = false
  | [], _, [], _, _ => rfl
  | [], [], _ :: _, _, h => by simp [ltCps] at h ⊢
  | [], _ :: _, _ :: _, _, _ => by simp [ltCps]
  | _ :: _, [], _, h, _ => by simp [ltCps] at h
  | _ :: _, _ :: _, [], _, h => by simp [ltCps] at h
  | a :: r, b :: t, c :: u, h1, h2 => by
    simp only [ltCps, Bool.or_eq_false_iff, Bool.and_eq_false_iff, decide_eq_false_iff_not, beq_eq_false_iff_ne, ne_eq] at h1 h2 ⊢
    refine ⟨by omega, ?_⟩
    by_cases e : c = a
    · right
      have e1 : b = a := by omega
      have e2 : c = b := by omega
      exact lt_tr (h1.2.resolve_left fun z => z e1) (h2.2.resolve_left fun z => z e2)
    · exact .inl e
theorem lt_anti : ∀ {a b : List Nat}, ltCps b a = false → ltCps a b = false → a = b
  | [], [], _, _ => rfl
  | [], _ :: _, _, h => by simp [ltCps] at h
  | _ :: _, [], h, _ => by simp [ltCps] at h
  | a :: r, b :: t, h1, h2 => by
    simp only [ltCps, Bool.or_eq_false_iff, Bool.and_eq_false_iff, decide_eq_false_iff_not, beq_eq_false_iff_ne, ne_eq] at h1 h2
    have e : a = b := by omega
    rw [e, lt_anti (h1.2.resolve_left fun z => z e.symm) (h2.2.resolve_left fun z => z e)]
theorem leS_anti {x y : Str} (h1 : leS x y) (h2 : leS y x) : x = y := by
  have := lt_anti h1 h2
  cases x
  cases y
  congr
  exact Array.toList_inj.mp this
theorem rising_pw : ∀ {l : List Str} {x : Str}, risingS x l = true → (x :: l).Pairwise leS
  | [], x, _ => List.pairwise_singleton ..
  | y :: l, x, h => by
    obtain ⟨h1, h2⟩ := Bool.and_eq_true_iff.mp (show (!ltCps y.cps.toList x.cps.toList && risingS y l) = true from h)
    have q := rising_pw h2
    refine List.pairwise_cons.mpr ⟨fun z hz => ?_, q⟩
    have xy : leS x y := by simpa [leS] using h1
    rcases List.mem_cons.mp hz with e | e
    · exact e ▸ xy
    · exact lt_tr xy ((List.pairwise_cons.mp q).1 z e)
theorem sorted_pw {l : List Str} (h : sortedS l = true) : l.Pairwise leS := by
  cases l with
  | nil => exact .nil
  | cons x l => exact rising_pw h
/-- put in its place -/
def ins (x : Str) : List Str → List Str
  | [] => [x]
  | y :: ys => if ltCps y.cps.toList x.cps.toList = true then y :: ins x ys else x :: y :: ys
def sort : List Str → List Str
  | [] => []
  | x :: xs => ins x (sort xs)
theorem ins_perm (x : Str) : ∀ l, (ins x l).Perm (x :: l)
  | [] => .refl _
  | y :: ys => by
    unfold ins
    split
    · exact ((ins_perm x ys).cons y).trans (.swap ..)
    · exact .refl _
theorem sort_perm : ∀ l, (sort l).Perm l
  | [] => .refl _
  | x :: xs => (ins_perm x (sort xs)).trans ((sort_perm xs).cons x)
theorem ins_pw (x : Str) : ∀ {l}, l.Pairwise leS → (ins x l).Pairwise leS
  | [], _ => List.pairwise_singleton ..
  | y :: ys, h => by
    obtain ⟨h1, h2⟩ := List.pairwise_cons.mp h
    unfold ins
    split
    · rename_i c
      refine List.pairwise_cons.mpr ⟨fun z hz => ?_, ins_pw x h2⟩
      rcases List.mem_cons.mp ((ins_perm x ys).mem_iff.mp hz) with e | e
      · subst e
        show ltCps z.cps.toList y.cps.toList = false
        cases q : ltCps z.cps.toList y.cps.toList with
        | false => rfl
        | true =>
          exfalso
          have two : ∀ a b : List Nat, ltCps a b = true → ltCps b a = true → False := by
            intro a
            induction a with
            | nil => intro b _ h; cases b <;> simp [ltCps] at h
            | cons a r ih =>
              intro b h1 h2
              cases b with
              | nil => simp [ltCps] at h1
              | cons b t =>
                simp only [ltCps, Bool.or_eq_true, Bool.and_eq_true, decide_eq_true_eq, beq_iff_eq] at h1 h2
                rcases h1 with h1 | h1
                · rcases h2 with h2 | h2 <;> omega
                · rcases h2 with h2 | h2
                  · omega
                  · exact ih t h1.2 h2.2
          exact two _ _ c q
      · exact h1 z e
    · rename_i c
      have xy : leS x y := by simpa [leS] using c
      refine List.pairwise_cons.mpr ⟨fun z hz => ?_, h⟩
      rcases List.mem_cons.mp hz with e | e
      · exact e ▸ xy
      · exact lt_tr xy (h1 z e)
theorem sort_pw : ∀ l, (sort l).Pairwise leS
  | [] => .nil
  | x :: xs => ins_pw x (sort_pw xs)
theorem pw_unique : ∀ {l m : List Str}, l.Pairwise leS → m.Pairwise leS → l.Perm m → l = m
  | [], m, _, _, p => p.nil_eq
  | x :: l, [], _, _, p => absurd p.length_eq (by simp)
  | x :: l, y :: m, h1, h2, p => by
    obtain ⟨a1, a2⟩ := List.pairwise_cons.mp h1
    obtain ⟨b1, b2⟩ := List.pairwise_cons.mp h2
    have e : x = y := by
      rcases List.mem_cons.mp (p.mem_iff.mp List.mem_cons_self) with e | e
      · exact e
      · rcases List.mem_cons.mp (p.mem_iff.mpr (show y ∈ y :: m from List.mem_cons_self)) with e2 | e2
        · exact e2.symm
        · exact leS_anti (a1 y e2) (b1 x e)
    subst e
    rw [pw_unique a2 b2 (p.cons_inv)]
theorem sort_unique {l m : List Str} (h : sortedS l = true) (p : l.Perm m) : l = sort m := pw_unique (sorted_pw h) (sort_pw m) (p.trans (sort_perm m).symm)
end Ts
set_option Elab.async false
set_option linter.all false
set_option maxRecDepth 100000
set_option maxHeartbeats 4000000
namespace Zf
open PySem L2

/-- data by value -/
inductive D where
  | non
  | bl (b : Bool)
  | int (i : Int)
  | str (x : Str)
  | lst (xs : List D)
  | ro (xs : List D)
  | tup (xs : List D)
  | dct (kvs : List (Key × D))
  | st (ks : List Str)
  | ins (c : Nat) (fs : List (Str × D))
/-- a value: data; a cell of the store; a list that belongs to the slot alone; a look at such a list -/
inductive W where
  | d (x : D)
  | r (n : Nat)
  | own (xs : List W)
  | bor (xs : List W)
  | od (kvs : List (Key × W))
  | bd (kvs : List (Key × W))
  | slf (c : Nat) (fs : List (Str × D))
  | slb (c : Nat) (fs : List (Str × D))
abbrev Store := List (List W)
abbrev Th := List Addr
abbrev En := List (Option W)

/-- what is known of the whole: the written part, the classes with slots by number -/
structure Gd where
  P : Program
  w : World
  K : PySem.W.Frag
  cls : Nat → Addr
  slf : Addr := 0

mutual
/-- the data d stands at the value v -/
def R (G : Gd) (F : Hp) : D → V → Prop
  | .non, v => v = .non
  | .bl b, v => v = .bl b
  | .int i, v => v = .int i
  | .str x, v => v = .str x
  | .lst xs, v => ∃ a vs, v = .ref a ∧ F a = some (.lst vs) ∧ Rs G F xs vs
  | .ro xs, v => ∃ a vs, v = .ref a ∧ SqL G.K F a vs ∧ Rs G F xs vs
  | .tup xs, v => ∃ a vs, v = .ref a ∧ SqT G.K F a vs ∧ Rs G F xs vs
  | .dct kvs, v => ∃ a kv, v = .ref a ∧ Rd F a (.dK kv) ∧ Rk G F kvs kv
  | .st ks, v => ∃ a, v = .ref a ∧ F a = some (Ts.SetX G.P G.w a ks)
  | .ins c fs, v => ∃ a dx vs, v = .ref a ∧ F a = some (.ins (G.cls c) dx vs) ∧ F dx = some (.own a) ∧ Rf G F fs vs
def Rs (G : Gd) (F : Hp) : List D → List V → Prop
  | [], vs => vs = []
  | x :: xs, vs => ∃ v r, vs = v :: r ∧ R G F x v ∧ Rs G F xs r
def Rk (G : Gd) (F : Hp) : List (Key × D) → List (Key × V) → Prop
  | [], vs => vs = []
  | (k, x) :: xs, vs => ∃ v r, vs = (k, v) :: r ∧ R G F x v ∧ Rk G F xs r
def Rf (G : Gd) (F : Hp) : List (Str × D) → List (Str × V) → Prop
  | [], vs => vs = []
  | (k, x) :: xs, vs => ∃ v r, vs = (k, v) :: r ∧ R G F x v ∧ Rf G F xs r
end
mutual
/-- a value, with the addresses of the lists that belong to it -/
def RW (G : Gd) (F : Hp) (θ : Th) (H : Hp) : W → V → List Addr → Prop
  | .d x, v, f => R G F x v ∧ f = []
  | .r n, v, f => (∃ a, v = .ref a ∧ θ[n]? = some a) ∧ f = []
  | .own xs, v, f => ∃ a vs fs, v = .ref a ∧ H a = some (.lst vs) ∧ RWs G F θ H xs vs fs ∧ f = a :: fs
  | .bor xs, v, f => ∃ a vs fs, v = .ref a ∧ H a = some (.lst vs) ∧ RWs G F θ H xs vs fs ∧ f = a :: fs
  | .od kvs, v, f => ∃ a vs fs, v = .ref a ∧ H a = some (.dK vs) ∧ RWk G F θ H kvs vs fs ∧ f = a :: fs
  | .bd kvs, v, f => ∃ a vs fs, v = .ref a ∧ H a = some (.dK vs) ∧ RWk G F θ H kvs vs fs ∧ f = a :: fs
  | .slf c fs, v, f => ∃ dx vs, v = .ref G.slf ∧ H G.slf = some (.ins (G.cls c) dx vs) ∧ H dx = some (.own G.slf) ∧ Rf G F fs vs ∧ f = [G.slf, dx]
  | .slb c fs, v, f => ∃ dx vs, v = .ref G.slf ∧ H G.slf = some (.ins (G.cls c) dx vs) ∧ H dx = some (.own G.slf) ∧ Rf G F fs vs ∧ f = [G.slf, dx]
def RWk (G : Gd) (F : Hp) (θ : Th) (H : Hp) : List (Key × W) → List (Key × V) → List Addr → Prop
  | [], vs, f => vs = [] ∧ f = []
  | (k, x) :: xs, vs, f => ∃ v r f1 f2, vs = (k, v) :: r ∧ RW G F θ H x v f1 ∧ RWk G F θ H xs r f2 ∧ f = f1 ++ f2
def RWs (G : Gd) (F : Hp) (θ : Th) (H : Hp) : List W → List V → List Addr → Prop
  | [], vs, f => vs = [] ∧ f = []
  | x :: xs, vs, f => ∃ v r f1 f2, vs = v :: r ∧ RW G F θ H x v f1 ∧ RWs G F θ H xs r f2 ∧ f = f1 ++ f2
end
/-- the slots -/
def RE (G : Gd) (F : Hp) (θ : Th) (H : Hp) : En → L2.St → List Addr → Prop
  | [], σ, f => σ = [] ∧ f = []
  | none :: e, σ, f => ∃ o r, σ = o :: r ∧ RE G F θ H e r f
  | some x :: e, σ, f => ∃ v r f1 f2, σ = some v :: r ∧ RW G F θ H x v f1 ∧ RE G F θ H e r f2 ∧ f = f1 ++ f2
/-- the store -/
structure RS (G : Gd) (F : Hp) (θ : Th) (H : Hp) (S : Store) : Prop where
  len : θ.length = S.length
  nd : θ.Nodup
  cell : ∀ (n : Nat) xs, S[n]? = some xs → ∃ a vs, θ[n]? = some a ∧ F a = none ∧ H a = some (.lst vs) ∧ RWs G F θ H xs vs []
structure St (G : Gd) (F : Hp) (θ : Th) (H : Hp) (S : Store) (env : En) (σ : L2.St) (fp : List Addr) : Prop where
  sub : ∀ a u, F a = some u → H a = some u
  store : RS G F θ H S
  env : RE G F θ H env σ fp
  nd : fp.Nodup
  apart : ∀ a ∈ fp, F a = none ∧ a ∉ θ

/-! ### what stays -/
/-- frozen things stay; a dict may be locked and set free -/
def IsDk (u : HO) : Prop := ∃ kv, u = .dK kv ∨ ∃ o, u = .frz o (.dK kv)
def Le (F F' : Hp) : Prop := ∀ a u, F a = some u → F' a = some u ∨ ∃ kv, (u = .dK kv ∨ ∃ o, u = .frz o (.dK kv)) ∧ (F' a = some (.dK kv) ∨ ∃ o, F' a = some (.frz o (.dK kv)))
theorem Le.refl (F : Hp) : Le F F := fun _ _ h => .inl h
theorem Le.of {F F' : Hp} (h : ∀ a u, F a = some u → F' a = some u) : Le F F' := fun a u e => .inl (h a u e)
theorem Le.trans {F F1 F2 : Hp} (a : Le F F1) (b : Le F1 F2) : Le F F2 := fun x u h => by
  rcases a x u h with h1 | ⟨kv, h1, h2⟩
  · exact b x u h1
  · refine .inr ⟨kv, h1, ?_⟩
    rcases h2 with h2 | ⟨o, h2⟩
    · rcases b x _ h2 with h3 | ⟨kv', h3, h4⟩
      · exact .inl h3
      · rcases h3 with h3 | ⟨o', h3⟩
        · cases h3
          exact h4
        · cases h3
    · rcases b x _ h2 with h3 | ⟨kv', h3, h4⟩
      · exact .inr ⟨o, h3⟩
      · rcases h3 with h3 | ⟨o', h3⟩
        · cases h3
        · cases h3
          exact h4
theorem Le.rd {F F' : Hp} (e : Le F F') {a : Addr} {u : HO} (hu : ¬ IsDk u) (hu' : ∀ o, ¬ IsDk (.frz o u)) (h : Rd F a u) : Rd F' a u := by
  rcases h with h | ⟨o, h⟩
  · rcases e a u h with h | ⟨kv, h1, _⟩
    · exact .inl h
    · exact absurd ⟨kv, h1⟩ hu
  · rcases e a _ h with h | ⟨kv, h1, _⟩
    · exact .inr ⟨o, h⟩
    · exact absurd ⟨kv, h1⟩ (hu' o)
theorem Le.at {F F' : Hp} (e : Le F F') {a : Addr} {u : HO} (hu : ¬ IsDk u) (h : F a = some u) : F' a = some u := by
  rcases e a u h with h | ⟨kv, h1, _⟩
  · exact h
  · exact absurd ⟨kv, h1⟩ hu
theorem not_dk_lst {xs : List V} : ¬ IsDk (.lst xs) := fun ⟨_, h⟩ => by
  rcases h with h | ⟨_, h⟩ <;> cases h
theorem not_dk_tup {xs : List V} : ¬ IsDk (.tup xs) := fun ⟨_, h⟩ => by
  rcases h with h | ⟨_, h⟩ <;> cases h
theorem not_dk_xd {xs : List (Str × V)} : ¬ IsDk (.xd xs) := fun ⟨_, h⟩ => by
  rcases h with h | ⟨_, h⟩ <;> cases h
theorem not_dk_ext {φ : Heap → Prop} : ¬ IsDk (.ext φ) := fun ⟨_, h⟩ => by
  rcases h with h | ⟨_, h⟩ <;> cases h
theorem not_dk_ins {C dx : Addr} {xs : List (Str × V)} : ¬ IsDk (.ins C dx xs) := fun ⟨_, h⟩ => by
  rcases h with h | ⟨_, h⟩ <;> cases h
theorem not_dk_own {x : Addr} : ¬ IsDk (.own x) := fun ⟨_, h⟩ => by
  rcases h with h | ⟨_, h⟩ <;> cases h
theorem not_fdk {o : Obj} {u : HO} (h : ∀ kv, u ≠ .dK kv) : ¬ IsDk (.frz o u) := fun ⟨kv, q⟩ => by
  rcases q with q | ⟨_, q⟩
  · cases q
  · cases q
    exact h kv rfl
theorem Le.sqL {K : PySem.W.Frag} {F F' : Hp} (e : Le F F') {a : Addr} {vs : List V} (h : SqL K F a vs) : SqL K F' a vs := by
  rcases h with h | h
  · exact .inl (e.rd not_dk_lst (fun o => not_fdk fun _ z => by cases z) h)
  · exact .inr h
theorem Le.sqT {K : PySem.W.Frag} {F F' : Hp} (e : Le F F') {a : Addr} {vs : List V} (h : SqT K F a vs) : SqT K F' a vs := by
  rcases h with h | h
  · exact .inl (e.rd not_dk_tup (fun o => not_fdk fun _ z => by cases z) h)
  · exact .inr h
theorem Le.dk {F F' : Hp} (e : Le F F') {a : Addr} {kv : List (Key × V)} (h : Rd F a (.dK kv)) : Rd F' a (.dK kv) := by
  have key : ∀ kv', ((HO.dK kv) = .dK kv' ∨ ∃ o, (HO.dK kv) = .frz o (.dK kv')) → kv' = kv := fun kv' q => by
    rcases q with q | ⟨_, q⟩ <;> cases q
    rfl
  rcases h with h | ⟨o, h⟩
  · rcases e a _ h with h | ⟨kv', h1, h2⟩
    · exact .inl h
    · rw [key kv' h1] at h2
      exact h2
  · rcases e a _ h with h | ⟨kv', h1, h2⟩
    · exact .inr ⟨o, h⟩
    · rcases h1 with h1 | ⟨o', h1⟩
      · cases h1
      · cases h1
        exact h2
section
variable {G : Gd} {F F' : Hp} (e : Le F F')
include e
mutual
theorem R.mono : ∀ (d : D) (v : V), R G F d v → R G F' d v
  | .non, _, h => h
  | .bl _, _, h => h
  | .int _, _, h => h
  | .str _, _, h => h
  | .lst xs, _, ⟨a, vs, h1, h2, h3⟩ => ⟨a, vs, h1, e.at not_dk_lst h2, Rs.mono xs vs h3⟩
  | .ro xs, _, ⟨a, vs, h1, h2, h3⟩ => ⟨a, vs, h1, e.sqL h2, Rs.mono xs vs h3⟩
  | .tup xs, _, ⟨a, vs, h1, h2, h3⟩ => ⟨a, vs, h1, e.sqT h2, Rs.mono xs vs h3⟩
  | .dct kvs, _, ⟨a, kv, h1, h2, h3⟩ => ⟨a, kv, h1, e.dk h2, Rk.mono kvs kv h3⟩
  | .st ks, _, ⟨a, h1, h2⟩ => ⟨a, h1, e.at not_dk_ext h2⟩
  | .ins c fs, _, ⟨a, dx, vs, h1, h2, h3, h4⟩ => ⟨a, dx, vs, h1, e.at not_dk_ins h2, e.at not_dk_own h3, Rf.mono fs vs h4⟩
theorem Rs.mono : ∀ (ds : List D) (vs : List V), Rs G F ds vs → Rs G F' ds vs
  | [], _, h => h
  | x :: xs, _, ⟨v, r, h1, h2, h3⟩ => ⟨v, r, h1, R.mono x v h2, Rs.mono xs r h3⟩
theorem Rk.mono : ∀ (ds : List (Key × D)) (vs : List (Key × V)), Rk G F ds vs → Rk G F' ds vs
  | [], _, h => h
  | (k, x) :: xs, _, ⟨v, r, h1, h2, h3⟩ => ⟨v, r, h1, R.mono x v h2, Rk.mono xs r h3⟩
theorem Rf.mono : ∀ (ds : List (Str × D)) (vs : List (Str × V)), Rf G F ds vs → Rf G F' ds vs
  | [], _, h => h
  | (k, x) :: xs, _, ⟨v, r, h1, h2, h3⟩ => ⟨v, r, h1, R.mono x v h2, Rf.mono xs r h3⟩
end
end
/-- a step of an expression: nothing that stood changes but the store's lists -/
structure Tr (F : Hp) (θ : Th) (H : Hp) (F' : Hp) (θ' : Th) (H' : Hp) : Prop where
  le : Le F F'
  th : ∃ m, θ' = θ ++ m
  newF : ∀ a, F a = none → F' a ≠ none → H a = none
  newT : ∀ a, a ∈ θ' → a ∉ θ → H a = none
  keep : ∀ a u, a ∉ θ → H a = some u → H' a = some u
  live : ∀ a u, H a = some u → ∃ u', H' a = some u'
theorem Tr.refl (F : Hp) (θ : Th) (H : Hp) : Tr F θ H F θ H where
  le := .refl F
  th := ⟨[], (List.append_nil θ).symm⟩
  newF := fun a h1 h2 => absurd h1 h2
  newT := fun a h1 h2 => absurd h1 h2
  keep := fun _ _ _ h => h
  live := fun _ u h => ⟨u, h⟩
theorem Tr.back {F F' H H' : Hp} {θ θ' : Th} (t : Tr F θ H F' θ' H') {a : Addr} (h : H' a = none) : H a = none := by
  cases e : H a with
  | none => rfl
  | some u =>
    obtain ⟨u', h'⟩ := t.live a u e
    rw [h] at h'
    cases h'
theorem Tr.get {F F' H H' : Hp} {θ θ' : Th} (t : Tr F θ H F' θ' H') {n : Nat} {a : Addr} (h : θ[n]? = some a) : θ'[n]? = some a := by
  obtain ⟨m, rfl⟩ := t.th
  have hn := (List.getElem?_eq_some_iff.mp h).1
  rw [List.getElem?_append_left hn]
  exact h
theorem Tr.trans {F F1 F2 H H1 H2 : Hp} {θ θ1 θ2 : Th} (a : Tr F θ H F1 θ1 H1) (b : Tr F1 θ1 H1 F2 θ2 H2) : Tr F θ H F2 θ2 H2 where
  le := a.le.trans b.le
  th := by
    obtain ⟨m1, rfl⟩ := a.th
    obtain ⟨m2, rfl⟩ := b.th
    exact ⟨m1 ++ m2, List.append_assoc ..⟩
  newF := fun x h1 h2 => by
    cases e : F1 x with
    | none => exact a.back (b.newF x e h2)
    | some u => exact a.newF x h1 (by rw [e]; exact fun z => by cases z)
  newT := fun x h1 h2 => by
    by_cases h : x ∈ θ1
    · exact a.newT x h h2
    · exact a.back (b.newT x h1 h)
  keep := fun x u h1 h2 => by
    refine b.keep x u (fun h => ?_) (a.keep x u h1 h2)
    have z := a.newT x h h1
    rw [h2] at z
    cases z
  live := fun x u h => by
    obtain ⟨u1, h1⟩ := a.live x u h
    exact b.live x u1 h1
section
variable {G : Gd} {F F' H H' : Hp} {θ θ' : Th} (t : Tr F θ H F' θ' H')
include t
mutual
theorem RW.mono : ∀ (w : W) (v : V) (f : List Addr), (∀ a ∈ f, a ∉ θ) → RW G F θ H w v f → RW G F' θ' H' w v f
  | .d x, v, f, _, ⟨h, e⟩ => ⟨R.mono t.le x v h, e⟩
  | .r n, v, f, _, ⟨⟨a, h1, h2⟩, e⟩ => ⟨⟨a, h1, t.get h2⟩, e⟩
  | .own xs, v, f, hf, ⟨a, vs, fs, h1, h2, h3, h4⟩ => by
    subst h4
    exact ⟨a, vs, fs, h1, t.keep a _ (hf a (List.mem_cons_self ..)) h2, RWs.mono xs vs fs (fun b hb => hf b (List.mem_cons_of_mem _ hb)) h3, rfl⟩
  | .bor xs, v, f, hf, ⟨a, vs, fs, h1, h2, h3, h4⟩ => by
    subst h4
    exact ⟨a, vs, fs, h1, t.keep a _ (hf a (List.mem_cons_self ..)) h2, RWs.mono xs vs fs (fun b hb => hf b (List.mem_cons_of_mem _ hb)) h3, rfl⟩
  | .od xs, v, f, hf, ⟨a, vs, fs, h1, h2, h3, h4⟩ => by
    subst h4
    exact ⟨a, vs, fs, h1, t.keep a _ (hf a (List.mem_cons_self ..)) h2, RWk.mono xs vs fs (fun b hb => hf b (List.mem_cons_of_mem _ hb)) h3, rfl⟩
  | .bd xs, v, f, hf, ⟨a, vs, fs, h1, h2, h3, h4⟩ => by
    subst h4
    exact ⟨a, vs, fs, h1, t.keep a _ (hf a (List.mem_cons_self ..)) h2, RWk.mono xs vs fs (fun b hb => hf b (List.mem_cons_of_mem _ hb)) h3, rfl⟩
  | .slf c xs, v, f, hf, ⟨dx, vs, h1, h2, h3, h4, h5⟩ => by
    subst h5
    exact ⟨dx, vs, h1, t.keep _ _ (hf _ (by simp)) h2, t.keep dx _ (hf dx (by simp)) h3, Rf.mono t.le xs vs h4, rfl⟩
  | .slb c xs, v, f, hf, ⟨dx, vs, h1, h2, h3, h4, h5⟩ => by
    subst h5
    exact ⟨dx, vs, h1, t.keep _ _ (hf _ (by simp)) h2, t.keep dx _ (hf dx (by simp)) h3, Rf.mono t.le xs vs h4, rfl⟩
theorem RWk.mono : ∀ (ws : List (Key × W)) (vs : List (Key × V)) (f : List Addr), (∀ a ∈ f, a ∉ θ) → RWk G F θ H ws vs f → RWk G F' θ' H' ws vs f
  | [], _, _, _, h => h
  | (k, x) :: xs, vs, f, hf, ⟨v, r, f1, f2, h1, h2, h3, h4⟩ => by
    subst h4
    exact ⟨v, r, f1, f2, h1, RW.mono x v f1 (fun a ha => hf a (List.mem_append_left _ ha)) h2, RWk.mono xs r f2 (fun a ha => hf a (List.mem_append_right _ ha)) h3, rfl⟩
theorem RWs.mono : ∀ (ws : List W) (vs : List V) (f : List Addr), (∀ a ∈ f, a ∉ θ) → RWs G F θ H ws vs f → RWs G F' θ' H' ws vs f
  | [], _, _, _, h => h
  | x :: xs, vs, f, hf, ⟨v, r, f1, f2, h1, h2, h3, h4⟩ => by
    subst h4
    exact ⟨v, r, f1, f2, h1, RW.mono x v f1 (fun a ha => hf a (List.mem_append_left _ ha)) h2, RWs.mono xs r f2 (fun a ha => hf a (List.mem_append_right _ ha)) h3, rfl⟩
end
theorem RE.mono : ∀ (env : En) (σ : L2.St) (f : List Addr), (∀ a ∈ f, a ∉ θ) → RE G F θ H env σ f → RE G F' θ' H' env σ f
  | [], _, _, _, h => h
  | none :: e, σ, f, hf, ⟨o, r, h1, h2⟩ => ⟨o, r, h1, RE.mono e r f hf h2⟩
  | some x :: e, σ, f, hf, ⟨v, r, f1, f2, h1, h2, h3, h4⟩ => by
    subst h4
    exact ⟨v, r, f1, f2, h1, RW.mono t x v f1 (fun a ha => hf a (List.mem_append_left _ ha)) h2, RE.mono e r f2 (fun a ha => hf a (List.mem_append_right _ ha)) h3, rfl⟩
end
mutual
theorem RW.there {G : Gd} {F H : Hp} {θ : Th} : ∀ (w : W) (v : V) (f : List Addr), RW G F θ H w v f → ∀ a ∈ f, ∃ u, H a = some u
  | .d x, v, f, ⟨_, e⟩, a, ha => by
    rw [e] at ha
    cases ha
  | .r n, v, f, ⟨_, e⟩, a, ha => by
    rw [e] at ha
    cases ha
  | .own xs, v, f, ⟨b, vs, fs, _, h2, h3, h4⟩, a, ha => by
    rw [h4] at ha
    rcases List.mem_cons.mp ha with e | ha
    · exact ⟨_, by rw [e]; exact h2⟩
    · exact RWs.there xs vs fs h3 a ha
  | .bor xs, v, f, ⟨b, vs, fs, _, h2, h3, h4⟩, a, ha => by
    rw [h4] at ha
    rcases List.mem_cons.mp ha with e | ha
    · exact ⟨_, by rw [e]; exact h2⟩
    · exact RWs.there xs vs fs h3 a ha
  | .od xs, v, f, ⟨b, vs, fs, _, h2, h3, h4⟩, a, ha => by
    rw [h4] at ha
    rcases List.mem_cons.mp ha with e | ha
    · exact ⟨_, by rw [e]; exact h2⟩
    · exact RWk.there xs vs fs h3 a ha
  | .bd xs, v, f, ⟨b, vs, fs, _, h2, h3, h4⟩, a, ha => by
    rw [h4] at ha
    rcases List.mem_cons.mp ha with e | ha
    · exact ⟨_, by rw [e]; exact h2⟩
    · exact RWk.there xs vs fs h3 a ha
  | .slf c xs, v, f, ⟨dx, vs, _, h2, h3, h4, h5⟩, a, ha => by
    rw [h5] at ha
    rcases List.mem_cons.mp ha with e | ha
    · exact ⟨_, by rw [e]; exact h2⟩
    · exact ⟨_, by rw [List.mem_singleton.mp ha]; exact h3⟩
  | .slb c xs, v, f, ⟨dx, vs, _, h2, h3, h4, h5⟩, a, ha => by
    rw [h5] at ha
    rcases List.mem_cons.mp ha with e | ha
    · exact ⟨_, by rw [e]; exact h2⟩
    · exact ⟨_, by rw [List.mem_singleton.mp ha]; exact h3⟩
theorem RWk.there {G : Gd} {F H : Hp} {θ : Th} : ∀ (ws : List (Key × W)) (vs : List (Key × V)) (f : List Addr), RWk G F θ H ws vs f → ∀ a ∈ f, ∃ u, H a = some u
  | [], _, f, ⟨_, e⟩, a, ha => by
    rw [e] at ha
    cases ha
  | (k, x) :: xs, vs, f, ⟨v, r, f1, f2, _, h2, h3, h4⟩, a, ha => by
    rw [h4] at ha
    rcases List.mem_append.mp ha with ha | ha
    · exact RW.there x v f1 h2 a ha
    · exact RWk.there xs r f2 h3 a ha
theorem RWs.there {G : Gd} {F H : Hp} {θ : Th} : ∀ (ws : List W) (vs : List V) (f : List Addr), RWs G F θ H ws vs f → ∀ a ∈ f, ∃ u, H a = some u
  | [], _, f, ⟨_, e⟩, a, ha => by
    rw [e] at ha
    cases ha
  | x :: xs, vs, f, ⟨v, r, f1, f2, _, h2, h3, h4⟩, a, ha => by
    rw [h4] at ha
    rcases List.mem_append.mp ha with ha | ha
    · exact RW.there x v f1 h2 a ha
    · exact RWs.there xs r f2 h3 a ha
end
theorem RE.there {G : Gd} {F H : Hp} {θ : Th} : ∀ (env : En) (σ : L2.St) (f : List Addr), RE G F θ H env σ f → ∀ a ∈ f, ∃ u, H a = some u
  | [], _, f, ⟨_, e⟩, a, ha => by
    rw [e] at ha
    cases ha
  | none :: e, σ, f, ⟨o, r, _, h2⟩, a, ha => RE.there e r f h2 a ha
  | some x :: e, σ, f, ⟨v, r, f1, f2, _, h2, h3, h4⟩, a, ha => by
    rw [h4] at ha
    rcases List.mem_append.mp ha with ha | ha
    · exact RW.there x v f1 h2 a ha
    · exact RE.there e r f2 h3 a ha
/-- the slots stay through a step; the store and what is frozen are told anew -/
theorem St.step {G : Gd} {F F' H H' : Hp} {θ θ' : Th} {S S' : Store} {env : En} {σ : L2.St} {fp : List Addr} (s : St G F θ H S env σ fp) (t : Tr F θ H F' θ' H')
    (sub : ∀ a u, F' a = some u → H' a = some u) (store : RS G F' θ' H' S') : St G F' θ' H' S' env σ fp where
  sub := sub
  store := store
  env := RE.mono t env σ fp (fun a ha => (s.apart a ha).2) s.env
  nd := s.nd
  apart := fun a ha => by
    obtain ⟨u, hu⟩ := RE.there env σ fp s.env a ha
    refine ⟨?_, fun h => ?_⟩
    · cases e : F' a with
      | none => rfl
      | some x =>
        have z := t.newF a (s.apart a ha).1 (by rw [e]; exact fun z => by cases z)
        rw [hu] at z
        cases z
    · have z := t.newT a h (s.apart a ha).2
      rw [hu] at z
      cases z
end Zf
set_option Elab.async false
set_option linter.all false
set_option maxRecDepth 100000
set_option maxHeartbeats 4000000
namespace Zf
open PySem L2

abbrev ME := En → Store → Option (W × Store)
abbrev MT := En → Store → Option (Bool × Store)
abbrev MA := En → Store → Option (List W × Store)

def IsOwn : W → Prop
  | .own _ => True
  | .od _ => True
  | _ => False
/-- what a value that was just reckoned is worth; fp: the lists of the slots, H: the heap ahead -/
structure Res (G : Gd) (H : Hp) (fp : List Addr) (F' : Hp) (θ' : Th) (H' : Hp) (w : W) (v : V) (f : List Addr) : Prop where
  rw : RW G F' θ' H' w v f
  nd : f.Nodup
  ap : ∀ a ∈ f, F' a = none ∧ a ∉ θ'
  src : ∀ a ∈ f, a ∈ fp ∨ H a = none
  own : IsOwn w → ∀ a ∈ f, H a = none
theorem Res.d {G : Gd} {H : Hp} {fp : List Addr} {F' : Hp} {θ' : Th} {H' : Hp} {x : D} {v : V} (h : R G F' x v) : Res G H fp F' θ' H' (.d x) v [] :=
  ⟨⟨h, rfl⟩, .nil, fun _ h => absurd h (by simp), fun _ h => absurd h (by simp), fun h => h.elim⟩
theorem RW.dAt {G : Gd} {F : Hp} {θ : Th} {H : Hp} {x : D} {v : V} {f : List Addr} (h : RW G F θ H (.d x) v f) : R G F x v := h.1
/-- a value stays through further steps -/
theorem Res.mono {G : Gd} {H H1 H2 : Hp} {fp f : List Addr} {F1 F2 : Hp} {θ1 θ2 : Th} {w : W} {v : V} (r : Res G H fp F1 θ1 H1 w v f) (t : Tr F1 θ1 H1 F2 θ2 H2) : Res G H fp F2 θ2 H2 w v f where
  rw := RW.mono t w v f (fun a ha => (r.ap a ha).2) r.rw
  nd := r.nd
  ap := fun a ha => by
    obtain ⟨u, hu⟩ := RW.there w v f r.rw a ha
    refine ⟨?_, fun h => ?_⟩
    · cases e : F2 a with
      | none => rfl
      | some x =>
        have z := t.newF a (r.ap a ha).1 (by rw [e]; exact fun z => by cases z)
        rw [hu] at z
        cases z
    · have z := t.newT a h (r.ap a ha).2
      rw [hu] at z
      cases z
  src := r.src
  own := r.own
/-- the heap ahead taken earlier -/
theorem Res.earlier {G : Gd} {H0 H H' : Hp} {fp f : List Addr} {F0 F F' : Hp} {θ0 θ θ' : Th} {w : W} {v : V} (r : Res G H fp F' θ' H' w v f) (t : Tr F0 θ0 H0 F θ H) : Res G H0 fp F' θ' H' w v f where
  rw := r.rw
  nd := r.nd
  ap := r.ap
  src := fun a ha => (r.src a ha).imp id t.back
  own := fun h a ha => t.back (r.own h a ha)

/-! ### readings of what is reckoned -/
def tOf (G : Gd) (m : ME) : TE := fun σ H Q => ∃ F θ S env fp w S', St G F θ H S env σ fp ∧ m env S = some (w, S') ∧
  ∀ F' θ' H' v f, Tr F θ H F' θ' H' → St G F' θ' H' S' env σ fp → Res G H fp F' θ' H' w v f → Q v H'
def tOfT (G : Gd) (m : MT) : TT := fun σ H Q => ∃ F θ S env fp b S', St G F θ H S env σ fp ∧ m env S = some (b, S') ∧
  ∀ F' θ' H', Tr F θ H F' θ' H' → St G F' θ' H' S' env σ fp → Q b H'
def RsA (G : Gd) (H : Hp) (fp : List Addr) (F' : Hp) (θ' : Th) (H' : Hp) : List W → List V → Prop
  | [], vs => vs = []
  | w :: ws, vs => ∃ v r f, vs = v :: r ∧ Res G H fp F' θ' H' w v f ∧ RsA G H fp F' θ' H' ws r
def tOfA (G : Gd) (m : MA) : TA := fun σ H Q => ∃ F θ S env fp ws S', St G F θ H S env σ fp ∧ m env S = some (ws, S') ∧
  ∀ F' θ' H' vs, Tr F θ H F' θ' H' → St G F' θ' H' S' env σ fp → RsA G H fp F' θ' H' ws vs → Q vs H'
theorem RsA.mono {G : Gd} {H H1 H2 : Hp} {fp : List Addr} {F1 F2 : Hp} {θ1 θ2 : Th} (t : Tr F1 θ1 H1 F2 θ2 H2) : ∀ {ws : List W} {vs : List V}, RsA G H fp F1 θ1 H1 ws vs → RsA G H fp F2 θ2 H2 ws vs
  | [], _, h => h
  | _ :: _, _, ⟨v, r, f, h1, h2, h3⟩ => ⟨v, r, f, h1, h2.mono t, RsA.mono t h3⟩
theorem RsA.earlier {G : Gd} {H0 H H' : Hp} {fp : List Addr} {F0 F F' : Hp} {θ0 θ θ' : Th} (t : Tr F0 θ0 H0 F θ H) : ∀ {ws : List W} {vs : List V}, RsA G H fp F' θ' H' ws vs → RsA G H0 fp F' θ' H' ws vs
  | [], _, h => h
  | _ :: _, _, ⟨v, r, f, h1, h2, h3⟩ => ⟨v, r, f, h1, h2.earlier t, RsA.earlier t h3⟩
/-- weaker ends, other readings -/
theorem pe_imp {X : Cx} {e : Expr} {t t' : TE} (h : PE X e t) (i : ∀ σ H Q, t' σ H Q → t σ H Q) : PE X e t' := ⟨fun pins s σ H Q I q => h.run pins s σ H Q I (i σ H Q q)⟩
theorem pt_imp {X : Cx} {e : Expr} {t t' : TT} (h : PT X e t) (i : ∀ σ H Q, t' σ H Q → t σ H Q) : PT X e t' := ⟨fun pins s σ H Q I q => h.run pins s σ H Q I (i σ H Q q)⟩
theorem pw_imp {X : Cx} {e : Expr} {t t' : TT} (h : PW X e t) (i : ∀ σ H Q, t' σ H Q → t σ H Q) : PW X e t' := ⟨fun wh pins s σ H Q I q => h.run wh pins s σ H Q I (i σ H Q q)⟩
theorem pa_imp {X : Cx} {es : List Expr} {t t' : TA} (h : PA X es t) (i : ∀ σ H Q, t' σ H Q → t σ H Q) : PA X es t' := ⟨fun pos pins s σ H Q I q => h.run pos pins s σ H Q I (i σ H Q q)⟩
theorem pe_or {X : Cx} {e : Expr} {t t' : TE} (h : PE X e t) (h' : PE X e t') : PE X e (fun σ H Q => t σ H Q ∨ t' σ H Q) := ⟨fun pins s σ H Q I q => q.elim (h.run pins s σ H Q I) (h'.run pins s σ H Q I)⟩

/-! ### slots and constants -/
def toBor : W → W
  | .own xs => .bor xs
  | .od xs => .bd xs
  | .slf c xs => .slb c xs
  | w => w
def mVar (i : Nat) : ME := fun env S => match env[i]? with
  | some (some w) => some (toBor w, S)
  | _ => none
def mD (d : D) : ME := fun _ S => some (.d d, S)
theorem RW.bor {G : Gd} {F : Hp} {θ : Th} {H : Hp} : ∀ {w : W} {v : V} {f : List Addr}, RW G F θ H w v f → RW G F θ H (toBor w) v f
  | .d _, _, _, h => h
  | .r _, _, _, h => h
  | .own _, _, _, h => h
  | .bor _, _, _, h => h
  | .od _, _, _, h => h
  | .bd _, _, _, h => h
  | .slf _ _, _, _, h => h
  | .slb _ _, _, _, h => h
theorem not_own_bor (w : W) : ¬ IsOwn (toBor w) := fun h => by cases w <;> exact h
theorem RE.at {G : Gd} {F : Hp} {θ : Th} {H : Hp} : ∀ {env : En} {σ : L2.St} {fp : List Addr} {i : Nat} {w : W}, RE G F θ H env σ fp → env[i]? = some (some w) → ∃ v f, σ[i]? = some (some v) ∧ RW G F θ H w v f ∧ f.Sublist fp
  | [], _, _, i, _, _, e => by simp at e
  | none :: en, σ, fp, i, w, ⟨o, r, h1, h2⟩, e => by
    cases i with
    | zero => simp at e
    | succ i =>
      obtain ⟨v, f, a, b, c⟩ := RE.at (i := i) h2 (by simpa using e)
      exact ⟨v, f, by rw [h1]; simpa using a, b, c⟩
  | some x :: en, σ, fp, i, w, ⟨v, r, f1, f2, h1, h2, h3, h4⟩, e => by
    cases i with
    | zero =>
      have e' : x = w := by simpa using e
      subst e'
      exact ⟨v, f1, by rw [h1]; rfl, h2, by rw [h4]; exact List.sublist_append_left ..⟩
    | succ i =>
      obtain ⟨v, f, a, b, c⟩ := RE.at (i := i) h3 (by simpa using e)
      exact ⟨v, f, by rw [h1]; simpa using a, b, by rw [h4]; exact c.trans (List.sublist_append_right ..)⟩
theorem St.at {G : Gd} {F : Hp} {θ : Th} {H : Hp} {S : Store} {env : En} {σ : L2.St} {fp : List Addr} (s : St G F θ H S env σ fp) {i : Nat} {w : W} (e : env[i]? = some (some w)) :
    ∃ v f, σ[i]? = some (some v) ∧ Res G H fp F θ H (toBor w) v f := by
  obtain ⟨v, f, a, b, c⟩ := RE.at s.env e
  exact ⟨v, f, a, b.bor, s.nd.sublist c, fun x hx => s.apart x (c.subset hx), fun x hx => .inl (c.subset hx), fun h => (not_own_bor w h).elim⟩
section
variable {X : Cx} {G : Gd}
theorem z_var (i : Nat) {x : Str} {pos : Pos} (hN : X.N[i]? = some x := by rfl) (hv : Vis X.env.scope x := by first | exact Or.inl rfl | exact Or.inr (Or.inl rfl) | exact Or.inr (Or.inr rfl)) (hd : (x == ("__debug__" : Str)) = false := by decide)
    (hcd : (x == ("__classdict__" : Str)) = false := by decide) : PE X (.Name x pos) (tOf G (mVar i)) := by
  refine pe_imp (pe_var hN hv hd hcd) fun σ H Q h => ?_
  obtain ⟨F, θ, S, env, fp, w, S', st, e, k⟩ := h
  unfold mVar at e
  split at e
  · rename_i w0 hw
    cases e
    obtain ⟨v, f, h1, h2⟩ := st.at hw
    exact ⟨v, h1, k F θ H v f (Tr.refl ..) st h2⟩
  · cases e
theorem z_d {e : Expr} {v : V} {d : D} (h : PE X e (tC v)) (hd : ∀ F, R G F d v) : PE X e (tOf G (mD d)) := by
  refine pe_imp h fun σ H Q h => ?_
  obtain ⟨F, θ, S, env, fp, w, S', st, e, k⟩ := h
  cases e
  exact k F θ H v [] (Tr.refl ..) st (.d (hd F))
theorem z_int {i : Int} {j pos} : PE X (.Constant (.int i) j pos) (tOf G (mD (.int i))) := z_d pe_int fun _ => rfl
theorem z_bl {b : Bool} {j pos} : PE X (.Constant (.bool b) j pos) (tOf G (mD (.bl b))) := z_d pe_bl fun _ => rfl
theorem z_non {j pos} : PE X (.Constant .none j pos) (tOf G (mD .non)) := z_d pe_non fun _ => rfl
theorem z_str {x : Str} {j pos} : PE X (.Constant (.str x) j pos) (tOf G (mD (.str x))) := z_d pe_str fun _ => rfl
end

/-! ### two operands -/
abbrev Op2 := Store → W → W → Option W
def mBin (g : Op2) (a b : ME) : ME := fun env S => (a env S).bind fun p => (b env p.2).bind fun q => (g q.2 p.1 q.1).map fun w => (w, q.2)
/-- what follows a value -/
def Kt (G : Gd) (F : Hp) (θ : Th) (H0 H : Hp) (S : Store) (env : En) (σ : L2.St) (fp : List Addr) (w : W) (Q : VK) : Prop :=
  ∀ F' θ' H' v f, Tr F θ H F' θ' H' → St G F' θ' H' S env σ fp → Res G H0 fp F' θ' H' w v f → Q v H'
structure Sim2 (G : Gd) (r : R2) (g : Op2) : Prop where
  run : ∀ {F θ H0 H S env σ fp x y vx vy fx fy z Q}, St G F θ H S env σ fp → Res G H0 fp F θ H x vx fx → Res G H0 fp F θ H y vy fy → g S x y = some z →
    (∀ a u, H0 a = some u → ∃ u', H a = some u') → Kt G F θ H0 H S env σ fp z Q → r vx vy H Q
theorem Sim2.or {G : Gd} {r r' : R2} {g g' : Op2} (h : Sim2 G r g) (h' : Sim2 G r' g') : Sim2 G (fun x y H Q => r x y H Q ∨ r' x y H Q) (fun S x y => (g S x y).or (g' S x y)) := by
  refine ⟨fun {F θ H0 H S env σ fp x y vx vy fx fy z Q} st rx ry e l k => ?_⟩
  cases q : g S x y with
  | some w =>
    have e' : w = z := by
      simpa [q] using e
    subst e'
    exact .inl (h.run st rx ry q l k)
  | none =>
    have e' : g' S x y = some z := by
      simpa [q] using e
    exact .inr (h'.run st rx ry e' l k)
theorem tOf_bin {G : Gd} {r : R2} {g : Op2} {ma mb : ME} (s : Sim2 G r g) {σ : L2.St} {H : Hp} {Q : VK} (h : tOf G (mBin g ma mb) σ H Q) : tOp r (tOf G ma) (tOf G mb) σ H Q := by
  obtain ⟨F, θ, S, env, fp, w, S', st, e, k⟩ := h
  unfold mBin at e
  cases ea : ma env S with
  | none =>
    rw [ea] at e
    cases e
  | some p =>
    obtain ⟨x, S1⟩ := p
    rw [ea] at e
    simp only [Option.bind_some] at e
    cases eb : mb env S1 with
    | none =>
      rw [eb] at e
      cases e
    | some q =>
      obtain ⟨y, S2⟩ := q
      rw [eb] at e
      simp only [Option.bind_some, Option.map_eq_some_iff] at e
      obtain ⟨z, ez, e⟩ := e
      cases e
      refine ⟨F, θ, S, env, fp, x, S1, st, ea, fun F1 θ1 H1 vx fx t1 st1 rx => ?_⟩
      refine ⟨F1, θ1, S1, env, fp, y, _, st1, eb, fun F2 θ2 H2 vy fy t2 st2 ry => ?_⟩
      have t := t1.trans t2
      exact s.run st2 (rx.mono t2) (ry.earlier t1) ez t.live fun F3 θ3 H3 v f t3 st3 rv => k F3 θ3 H3 v f (t.trans t3) st3 rv
section
variable {X : Cx} {G : Gd} {a b : Expr} {ma mb : ME} {g : Op2} {r : R2} {pos : Pos}
theorem z_bin {op : Operator} (ho : OpR X (binaryOp op) r) (s : Sim2 G r g) (ha : PE X a (tOf G ma)) (hb : PE X b (tOf G mb)) : PE X (.BinOp a op b pos) (tOf G (mBin g ma mb)) :=
  pe_imp (pe_op ho ha hb) fun _ _ _ h => tOf_bin s h
theorem z_cmp {op : CmpOp} (ho : OpR X (compareOp op) r) (s : Sim2 G r g) (ha : PE X a (tOf G ma)) (hb : PE X b (tOf G mb)) (hm : behindInMarks op b = false) : PE X (.Compare a [op] [b] pos) (tOf G (mBin g ma mb)) :=
  pe_imp (pe_cmpR ho ha hb hm) fun _ _ _ h => tOf_bin s h
/-- a comparison as a test: its value must be a truth -/
def mTst (m : ME) : MT := fun env S => (m env S).bind fun p => match p.1 with
  | .d (.bl b) => some (b, p.2)
  | _ => none
theorem tOfT_tst {m : ME} {σ : L2.St} {H : Hp} {Q : Bool → Hp → Prop} (h : tOfT G (mTst m) σ H Q) : tOf G m σ H fun x H' => ∃ k, x = .bl k ∧ Q k H' := by
  obtain ⟨F, θ, S, env, fp, b, S', st, e, k⟩ := h
  unfold mTst at e
  obtain ⟨⟨w, S1⟩, ea, e⟩ := Option.bind_eq_some_iff.mp e
  dsimp only at e
  split at e
  · cases e
    exact ⟨F, θ, S, env, fp, _, _, st, ea, fun F1 θ1 H1 v f t1 st1 rv => ⟨b, rv.rw.dAt, k F1 θ1 H1 t1 st1⟩⟩
  · cases e
theorem z_cmpT {op : CmpOp} (ho : OpR X (compareOp op) r) (s : Sim2 G r g) (ha : PE X a (tOf G ma)) (hb : PE X b (tOf G mb)) (hm : behindInMarks op b = false) : PT X (.Compare a [op] [b] pos) (tOfT G (mTst (mBin g ma mb))) :=
  pt_imp (pt_cmpR ho ha hb hm) fun σ H Q h => tOf_bin s (tOfT_tst h)
theorem z_val {e : Expr} {m : ME} (h : PE X e (tOf G m)) (he : ∀ whole, isTrue e X.env whole = (do let v ← whole; standAt e.pos; holding [v] (truthy v)) := by intro _; rfl) : PT X e (tOfT G (mTst m)) :=
  pt_imp (pt_val h he) fun σ H Q h => tOfT_tst h
end

/-! ### and, or, not; if as a value -/
def mAndT (a b : MT) : MT := fun env S => (a env S).bind fun p => if p.1 = true then b env p.2 else some (false, p.2)
def mOrT (a b : MT) : MT := fun env S => (a env S).bind fun p => if p.1 = true then some (true, p.2) else b env p.2
def mNotT (a : MT) : MT := fun env S => (a env S).map fun p => (!p.1, p.2)
theorem tOfT_bind {G : Gd} {m : MT} {k : Bool → MT} {σ : L2.St} {H : Hp} {Q : Bool → Hp → Prop} (h : tOfT G (fun env S => (m env S).bind fun p => k p.1 env p.2) σ H Q) :
    tOfT G m σ H fun b H1 => tOfT G (k b) σ H1 Q := by
  obtain ⟨F, θ, S, env, fp, b, S', st, e, kk⟩ := h
  obtain ⟨⟨c, S1⟩, ea, e⟩ := Option.bind_eq_some_iff.mp e
  refine ⟨F, θ, S, env, fp, c, S1, st, ea, fun F1 θ1 H1 t1 st1 => ?_⟩
  exact ⟨F1, θ1, S1, env, fp, b, S', st1, e, fun F2 θ2 H2 t2 st2 => kk F2 θ2 H2 (t1.trans t2) st2⟩
theorem tOfT_pure {G : Gd} {b : Bool} {σ : L2.St} {H : Hp} {Q : Bool → Hp → Prop} (h : tOfT G (fun _ S => some (b, S)) σ H Q) : Q b H := by
  obtain ⟨F, θ, S, env, fp, b', S', st, e, kk⟩ := h
  cases e
  exact kk F θ H (Tr.refl ..) st
section
variable {X : Cx} {G : Gd} {a b : Expr} {ma mb : MT} {rest : List Expr} {pos : Pos}
theorem z_and1 (ha : PT X a (tOfT G ma)) : PW X (.BoolOp .And [a] pos) (tOfT G ma) := pw_and1 ha
theorem z_or1 (ha : PT X a (tOfT G ma)) : PW X (.BoolOp .Or [a] pos) (tOfT G ma) := pw_or1 ha
theorem z_and (ha : PT X a (tOfT G ma)) (hb : PW X (.BoolOp .And (b :: rest) pos) (tOfT G mb)) : PW X (.BoolOp .And (a :: b :: rest) pos) (tOfT G (mAndT ma mb)) := by
  refine pw_imp (pw_and ha hb) fun σ H Q h => ?_
  have h' := tOfT_bind (m := ma) (k := fun c => if c = true then mb else fun _ S => some (false, S)) (σ := σ) (H := H) (Q := Q) (by
    obtain ⟨F, θ, S, env, fp, b, S', st, e, kk⟩ := h
    refine ⟨F, θ, S, env, fp, b, S', st, ?_, kk⟩
    rw [← e]
    show (ma env S).bind _ = (ma env S).bind _
    congr 1
    funext p
    cases p.1 <;> rfl)
  obtain ⟨F, θ, S, env, fp, b, S', st, e, kk⟩ := h'
  refine ⟨F, θ, S, env, fp, b, S', st, e, fun F' θ' H' t s => ?_⟩
  have q := kk F' θ' H' t s
  cases b with
  | true => exact q
  | false => exact tOfT_pure q
theorem z_or (ha : PT X a (tOfT G ma)) (hb : PW X (.BoolOp .Or (b :: rest) pos) (tOfT G mb)) : PW X (.BoolOp .Or (a :: b :: rest) pos) (tOfT G (mOrT ma mb)) := by
  refine pw_imp (pw_or ha hb) fun σ H Q h => ?_
  have h' := tOfT_bind (m := ma) (k := fun c => if c = true then fun _ S => some (true, S) else mb) (σ := σ) (H := H) (Q := Q) (by
    obtain ⟨F, θ, S, env, fp, b, S', st, e, kk⟩ := h
    refine ⟨F, θ, S, env, fp, b, S', st, ?_, kk⟩
    rw [← e]
    show (ma env S).bind _ = (ma env S).bind _
    congr 1
    funext p
    cases p.1 <;> rfl)
  obtain ⟨F, θ, S, env, fp, b, S', st, e, kk⟩ := h'
  refine ⟨F, θ, S, env, fp, b, S', st, e, fun F' θ' H' t s => ?_⟩
  have q := kk F' θ' H' t s
  cases b with
  | true => exact tOfT_pure q
  | false => exact q
theorem z_not (ha : PT X a (tOfT G ma)) : PT X (.UnaryOp .Not a pos) (tOfT G (mNotT ma)) := by
  refine pt_imp (pt_not ha) fun σ H Q h => ?_
  obtain ⟨F, θ, S, env, fp, b, S', st, e, kk⟩ := h
  unfold mNotT at e
  simp only [Option.map_eq_some_iff] at e
  obtain ⟨p, ep, e⟩ := e
  cases e
  exact ⟨F, θ, S, env, fp, p.1, p.2, st, ep, fun F' θ' H' t s => kk F' θ' H' t s⟩
end
/-- a test in a value's place -/
def mOfT (m : MT) : ME := fun env S => (m env S).map fun p => (.d (.bl p.1), p.2)
def mIf (c : MT) (a b : ME) : ME := fun env S => (c env S).bind fun p => if p.1 = true then a env p.2 else b env p.2
section
variable {X : Cx} {G : Gd} {a b c : Expr} {mc : MT} {ma mb : ME} {rest : List Expr} {pos : Pos}
theorem z_ifE (hc : PT X c (tOfT G mc)) (ha : PE X a (tOf G ma)) (hb : PE X b (tOf G mb)) : PE X (.IfExp c a b pos) (tOf G (mIf mc ma mb)) := by
  refine pe_imp (pe_ifExp hc ha hb) fun σ H Q h => ?_
  obtain ⟨F, θ, S, env, fp, w, S', st, e, kk⟩ := h
  unfold mIf at e
  cases ea : mc env S with
  | none =>
    rw [ea] at e
    cases e
  | some p =>
    obtain ⟨c, S1⟩ := p
    rw [ea] at e
    simp only [Option.bind_some] at e
    refine ⟨F, θ, S, env, fp, c, S1, st, ea, fun F1 θ1 H1 t1 st1 => ?_⟩
    cases c with
    | true => exact ⟨F1, θ1, S1, env, fp, w, S', st1, e, fun F2 θ2 H2 v f t2 st2 rv => kk F2 θ2 H2 v f (t1.trans t2) st2 (rv.earlier t1)⟩
    | false => exact ⟨F1, θ1, S1, env, fp, w, S', st1, e, fun F2 θ2 H2 v f t2 st2 rv => kk F2 θ2 H2 v f (t1.trans t2) st2 (rv.earlier t1)⟩
def mAndV (a b : ME) : ME := fun env S => (a env S).bind fun p => match p.1 with
  | .d (.bl true) => (b env p.2).bind fun q => match q.1 with
    | .d (.bl c) => some (.d (.bl c), q.2)
    | _ => none
  | .d (.bl false) => some (.d (.bl false), p.2)
  | _ => none
def mOrV (a b : ME) : ME := fun env S => (a env S).bind fun p => match p.1 with
  | .d (.bl false) => (b env p.2).bind fun q => match q.1 with
    | .d (.bl c) => some (.d (.bl c), q.2)
    | _ => none
  | .d (.bl true) => some (.d (.bl true), p.2)
  | _ => none
def mNotV (a : ME) : ME := fun env S => (a env S).bind fun p => match p.1 with
  | .d (.bl c) => some (.d (.bl (!c)), p.2)
  | _ => none
theorem z_one {op} (h : PE X a (tOf G ma)) : PE X (.BoolOp op [a] pos) (tOf G ma) := pe_one h
theorem z_andV (ha : PE X a (tOf G ma)) (hb : PE X (.BoolOp .And (b :: rest) pos) (tOf G mb)) : PE X (.BoolOp .And (a :: b :: rest) pos) (tOf G (mAndV ma mb)) := by
  refine pe_imp (pe_and ha hb) fun σ H Q h => ?_
  obtain ⟨F, θ, S, env, fp, w, S', st, e, kk⟩ := h
  unfold mAndV at e
  cases ea : ma env S with
  | none =>
    rw [ea] at e
    cases e
  | some p =>
    obtain ⟨x, S1⟩ := p
    rw [ea] at e
    simp only [Option.bind_some] at e
    refine ⟨F, θ, S, env, fp, x, S1, st, ea, fun F1 θ1 H1 v f t1 st1 rv => ?_⟩
    split at e
    · refine ⟨true, rv.rw.dAt, ?_⟩
      cases eb : mb env S1 with
      | none =>
        rw [eb] at e
        cases e
      | some q =>
        obtain ⟨y, S2⟩ := q
        rw [eb] at e
        simp only [Option.bind_some] at e
        split at e
        · cases e
          exact ⟨F1, θ1, S1, env, fp, _, _, st1, eb, fun F2 θ2 H2 v f t2 st2 rv => kk F2 θ2 H2 v f (t1.trans t2) st2 (rv.earlier t1)⟩
        · cases e
    · cases e
      refine ⟨false, rv.rw.dAt, ?_⟩
      exact kk F1 θ1 H1 _ _ t1 st1 (.d rfl)
    · cases e
theorem z_orV (ha : PE X a (tOf G ma)) (hb : PE X (.BoolOp .Or (b :: rest) pos) (tOf G mb)) : PE X (.BoolOp .Or (a :: b :: rest) pos) (tOf G (mOrV ma mb)) := by
  refine pe_imp (PE.mk (L2.pe_or ha hb).run) fun σ H Q h => ?_
  obtain ⟨F, θ, S, env, fp, w, S', st, e, kk⟩ := h
  unfold mOrV at e
  cases ea : ma env S with
  | none =>
    rw [ea] at e
    cases e
  | some p =>
    obtain ⟨x, S1⟩ := p
    rw [ea] at e
    simp only [Option.bind_some] at e
    refine ⟨F, θ, S, env, fp, x, S1, st, ea, fun F1 θ1 H1 v f t1 st1 rv => ?_⟩
    split at e
    · refine ⟨false, rv.rw.dAt, ?_⟩
      cases eb : mb env S1 with
      | none =>
        rw [eb] at e
        cases e
      | some q =>
        obtain ⟨y, S2⟩ := q
        rw [eb] at e
        simp only [Option.bind_some] at e
        split at e
        · cases e
          exact ⟨F1, θ1, S1, env, fp, _, _, st1, eb, fun F2 θ2 H2 v f t2 st2 rv => kk F2 θ2 H2 v f (t1.trans t2) st2 (rv.earlier t1)⟩
        · cases e
    · cases e
      refine ⟨true, rv.rw.dAt, ?_⟩
      exact kk F1 θ1 H1 _ _ t1 st1 (.d rfl)
    · cases e
theorem z_notV (ha : PE X a (tOf G ma)) : PE X (.UnaryOp .Not a pos) (tOf G (mNotV ma)) := by
  refine pe_imp (pe_not ha) fun σ H Q h => ?_
  obtain ⟨F, θ, S, env, fp, w, S', st, e, kk⟩ := h
  unfold mNotV at e
  cases ea : ma env S with
  | none =>
    rw [ea] at e
    cases e
  | some p =>
    obtain ⟨x, S1⟩ := p
    rw [ea] at e
    simp only [Option.bind_some] at e
    refine ⟨F, θ, S, env, fp, x, S1, st, ea, fun F1 θ1 H1 v f t1 st1 rv => ?_⟩
    split at e
    · cases e
      exact ⟨_, rv.rw.dAt, kk F1 θ1 H1 _ _ t1 st1 (.d rfl)⟩
    · cases e
end

/-! ### arguments -/
def mNil : MA := fun _ S => some ([], S)
def mCons (a : ME) (r : MA) : MA := fun env S => (a env S).bind fun p => (r env p.2).map fun q => (p.1 :: q.1, q.2)
section
variable {X : Cx} {G : Gd} {e : Expr} {es : List Expr} {m : ME} {ms : MA}
theorem z_nil : PA X [] (tOfA G mNil) := by
  refine pa_imp pa_nil fun σ H Q h => ?_
  obtain ⟨F, θ, S, env, fp, ws, S', st, e, kk⟩ := h
  cases e
  exact kk F θ H [] (Tr.refl ..) st rfl
theorem z_cons (ha : PE X e (tOf G m)) (hr : PA X es (tOfA G ms)) (hs : starEach (e :: es) X.env = (false, eval e X.env) :: starEach es X.env := by rfl) : PA X (e :: es) (tOfA G (mCons m ms)) := by
  refine pa_imp (pa_cons ha hr hs) fun σ H Q h => ?_
  obtain ⟨F, θ, S, env, fp, ws, S', st, e, kk⟩ := h
  unfold mCons at e
  cases ea : m env S with
  | none =>
    rw [ea] at e
    cases e
  | some p =>
    obtain ⟨x, S1⟩ := p
    rw [ea] at e
    simp only [Option.bind_some, Option.map_eq_some_iff] at e
    obtain ⟨⟨ys, S2⟩, er, e⟩ := e
    cases e
    refine ⟨F, θ, S, env, fp, x, S1, st, ea, fun F1 θ1 H1 v f t1 st1 rv => ?_⟩
    refine ⟨F1, θ1, S1, env, fp, ys, S2, st1, er, fun F2 θ2 H2 vs t2 st2 rvs => ?_⟩
    exact kk F2 θ2 H2 _ (t1.trans t2) st2 ⟨v, vs, f, rfl, rv.mono t2, rvs.earlier t1⟩
end
end Zf
set_option Elab.async false
set_option linter.all false
set_option maxRecDepth 100000
set_option maxHeartbeats 4000000
namespace Zf
open PySem L2

def cap : Nat := 10000000
theorem cap_ok {n : Nat} (h : n ≤ cap) : n ≤ sizeLine := Nat.le_trans h (by decide)
theorem cap_lt {n : Nat} (h : n < cap) : n < sizeLine := Nat.lt_of_lt_of_le h (by decide)

/-! ### looks at values -/
def asDs : List W → Option (List D)
  | [] => some []
  | .d x :: r => (asDs r).map (x :: ·)
  | _ :: _ => none
/-- a list, as the heap holds it -/
def vL (S : Store) : W → Option (List W)
  | .d (.lst xs) => some (xs.map .d)
  | .r n => S[n]?
  | .own xs => some xs
  | .bor xs => some xs
  | _ => none
def vT : W → Option (List D)
  | .d (.tup xs) => some xs
  | _ => none
section
variable {G : Gd} {F : Hp} {θ : Th} {H : Hp}
theorem RWs.ofD : ∀ {xs : List D} {vs : List V}, Rs G F xs vs → RWs G F θ H (xs.map .d) vs []
  | [], _, h => ⟨h, rfl⟩
  | _ :: _, _, ⟨v, r, h1, h2, h3⟩ => ⟨v, r, [], [], h1, ⟨h2, rfl⟩, RWs.ofD h3, rfl⟩
theorem RWs.toD : ∀ {ws : List W} {xs : List D} {vs : List V} {f : List Addr}, RWs G F θ H ws vs f → asDs ws = some xs → Rs G F xs vs
  | [], _, _, _, h, e => by
    cases e
    exact h.1
  | .d x :: r, _, _, _, ⟨v, r', f1, f2, h1, h2, h3, _⟩, e => by
    obtain ⟨ys, e1, e2⟩ := Option.map_eq_some_iff.mp e
    cases e2
    exact ⟨v, r', h1, h2.1, RWs.toD h3 e1⟩
  | .r _ :: _, _, _, _, _, e => by cases e
  | .own _ :: _, _, _, _, _, e => by cases e
  | .bor _ :: _, _, _, _, _, e => by cases e
  | .od _ :: _, _, _, _, _, e => by cases e
  | .bd _ :: _, _, _, _, _, e => by cases e
  | .slf _ _ :: _, _, _, _, _, e => by cases e
  | .slb _ _ :: _, _, _, _, _, e => by cases e
theorem Rs.len : ∀ {xs : List D} {vs : List V}, Rs G F xs vs → vs.length = xs.length
  | [], _, h => by
    rw [h]
    rfl
  | _ :: _, _, ⟨v, r, h1, _, h3⟩ => by rw [h1, List.length_cons, List.length_cons, Rs.len h3]
theorem RWs.len : ∀ {xs : List W} {vs : List V} {f : List Addr}, RWs G F θ H xs vs f → vs.length = xs.length
  | [], _, _, h => by
    rw [h.1]
    rfl
  | _ :: _, _, _, ⟨v, r, _, _, h1, _, h3, _⟩ => by rw [h1, List.length_cons, List.length_cons, RWs.len h3]
theorem Rs.app : ∀ {xs ys : List D} {vs ws : List V}, Rs G F xs vs → Rs G F ys ws → Rs G F (xs ++ ys) (vs ++ ws)
  | [], _, _, _, h, h' => by
    rw [h]
    exact h'
  | _ :: _, _, _, _, ⟨v, r, h1, h2, h3⟩, h' => ⟨v, r ++ _, by rw [h1]; rfl, h2, Rs.app h3 h'⟩
theorem Rs.get : ∀ {xs : List D} {vs : List V} {i : Nat} {x : D}, Rs G F xs vs → xs[i]? = some x → ∃ v, vs[i]? = some v ∧ R G F x v
  | [], _, _, _, _, e => by simp at e
  | y :: _, _, 0, x, ⟨v, r, h1, h2, h3⟩, e => by
    have e' : y = x := by simpa using e
    subst e'
    exact ⟨v, by rw [h1]; rfl, h2⟩
  | _ :: _, _, i + 1, x, ⟨v, r, h1, h2, h3⟩, e => by
    obtain ⟨u, a, b⟩ := Rs.get (i := i) h3 (by simpa using e)
    exact ⟨u, by rw [h1]; simpa using a, b⟩
theorem RWs.get : ∀ {xs : List W} {vs : List V} {f : List Addr} {i : Nat} {x : W}, RWs G F θ H xs vs f → xs[i]? = some x → ∃ v f', vs[i]? = some v ∧ RW G F θ H x v f' ∧ f'.Sublist f
  | [], _, _, _, _, _, e => by simp at e
  | y :: _, _, _, 0, x, ⟨v, r, f1, f2, h1, h2, h3, h4⟩, e => by
    have e' : y = x := by simpa using e
    subst e'
    exact ⟨v, f1, by rw [h1]; rfl, h2, by rw [h4]; exact List.sublist_append_left ..⟩
  | _ :: _, _, _, i + 1, x, ⟨v, r, f1, f2, h1, h2, h3, h4⟩, e => by
    obtain ⟨u, f', a, b, c⟩ := RWs.get (i := i) h3 (by simpa using e)
    exact ⟨u, f', by rw [h1]; simpa using a, b, by rw [h4]; exact c.trans (List.sublist_append_right ..)⟩
theorem Rs.drop : ∀ {xs : List D} {vs : List V} (n : Nat), Rs G F xs vs → Rs G F (xs.drop n) (vs.drop n)
  | _, _, 0, h => h
  | [], _, _ + 1, h => by
    rw [h]
    rfl
  | _ :: _, _, n + 1, ⟨v, r, h1, h2, h3⟩ => by
    rw [h1]
    exact Rs.drop n h3
theorem Rs.take : ∀ {xs : List D} {vs : List V} (n : Nat), Rs G F xs vs → Rs G F (xs.take n) (vs.take n)
  | _, _, 0, _ => rfl
  | [], _, _ + 1, h => by
    rw [h]
    rfl
  | _ :: _, _, n + 1, ⟨v, r, h1, h2, h3⟩ => by
    rw [h1]
    exact ⟨v, _, rfl, h2, Rs.take n h3⟩
theorem Rs.rep {xs : List D} {vs : List V} (h : Rs G F xs vs) : ∀ k : Nat, Rs G F (List.replicate k xs).flatten (List.replicate k vs).flatten
  | 0 => rfl
  | k + 1 => by
    rw [List.replicate_succ, List.replicate_succ, List.flatten_cons, List.flatten_cons]
    exact h.app (Rs.rep h k)
/-- what is frozen is new -/
theorem St.new {S : Store} {env : En} {σ : L2.St} {fp : List Addr} (s : St G F θ H S env σ fp) {p : Addr} (hp : H p = none) (o : HO) : Tr F θ H (upd F p o) θ (upd H p o) ∧ St G (upd F p o) θ (upd H p o) S env σ fp := by
  have fF : F p = none := by
    cases e : F p with
    | none => rfl
    | some u =>
      rw [s.sub p u e] at hp
      cases hp
  have t : Tr F θ H (upd F p o) θ (upd H p o) := by
    refine ⟨Le.of fun a u e => ?_, ⟨[], (List.append_nil θ).symm⟩, fun a h1 h2 => ?_, fun a h1 h2 => absurd h1 h2, fun a u _ e => ?_, fun a u e => ?_⟩
    · rw [upd_ne (ne_of_none e fF)]
      exact e
    · by_cases q : a = p
      · rw [q]
        exact hp
      · rw [upd_ne q] at h2
        exact absurd h1 h2
    · rw [upd_ne (ne_of_none e hp)]
      exact e
    · exact ⟨u, by rw [upd_ne (ne_of_none e hp)]; exact e⟩
  refine ⟨t, s.step t (fun a u e => ?_) ⟨s.store.len, s.store.nd, fun n xs e => ?_⟩⟩
  · by_cases q : a = p
    · rw [q, upd_same] at e ⊢
      exact e
    · rw [upd_ne q] at e ⊢
      exact s.sub a u e
  · obtain ⟨a, vs, h1, h2, h3, h4⟩ := s.store.cell n xs e
    have q : a ≠ p := ne_of_none h3 hp
    exact ⟨a, vs, h1, by rw [upd_ne q]; exact h2, by rw [upd_ne q]; exact h3, RWs.mono t xs vs [] (fun _ h => absurd h (by simp)) h4⟩
theorem Res.newL {H0 : Hp} {fp : List Addr} {p : Addr} {xs : List D} {vs : List V} (r : Rs G (upd F p (.lst vs)) xs vs) : Res G H0 fp (upd F p (.lst vs)) θ (upd H p (.lst vs)) (.d (.lst xs)) (.ref p) [] := .d ⟨p, vs, rfl, upd_same, r⟩
theorem Res.newT {H0 : Hp} {fp : List Addr} {p : Addr} {xs : List D} {vs : List V} (r : Rs G (upd F p (.tup vs)) xs vs) : Res G H0 fp (upd F p (.tup vs)) θ (upd H p (.tup vs)) (.d (.tup xs)) (.ref p) [] := .d ⟨p, vs, rfl, SqT.of upd_same, r⟩
/-- a list at hand -/
theorem vL_ok {S : Store} {env : En} {σ : L2.St} {fp : List Addr} {H0 : Hp} {w : W} {v : V} {f : List Addr} {ws : List W} (s : St G F θ H S env σ fp) (r : Res G H0 fp F θ H w v f) (e : vL S w = some ws) :
    ∃ a vs fs, v = .ref a ∧ H a = some (.lst vs) ∧ RWs G F θ H ws vs fs ∧ fs.Sublist f := by
  cases w with
  | d x =>
    cases x with
    | lst xs =>
      cases e
      obtain ⟨a, vs, h1, h2, h3⟩ := r.rw.dAt
      exact ⟨a, vs, [], h1, s.sub _ _ h2, .ofD h3, List.nil_sublist _⟩
    | _ => cases e
  | r n =>
    obtain ⟨a, vs, h1, h2, h3, h4⟩ := s.store.cell n ws e
    obtain ⟨⟨b, h5, h6⟩, _⟩ := r.rw
    rw [h1] at h6
    cases h6
    exact ⟨a, vs, [], h5, h3, h4, List.nil_sublist _⟩
  | own xs =>
    cases e
    obtain ⟨a, vs, fs, h1, h2, h3, h4⟩ := r.rw
    exact ⟨a, vs, fs, h1, h2, h3, by rw [h4]; exact List.sublist_cons_self ..⟩
  | bor xs =>
    cases e
    obtain ⟨a, vs, fs, h1, h2, h3, h4⟩ := r.rw
    exact ⟨a, vs, fs, h1, h2, h3, by rw [h4]; exact List.sublist_cons_self ..⟩
  | od xs => cases e
  | bd xs => cases e
  | slf _ _ => cases e
  | slb _ _ => cases e
theorem vT_ok {S : Store} {env : En} {σ : L2.St} {fp : List Addr} {H0 : Hp} {w : W} {v : V} {f : List Addr} {xs : List D} (s : St G F θ H S env σ fp) (r : Res G H0 fp F θ H w v f) (e : vT w = some xs) :
    ∃ a vs, v = .ref a ∧ SqT G.K H a vs ∧ Rs G F xs vs := by
  cases w with
  | d x =>
    cases x with
    | tup ys =>
      cases e
      obtain ⟨a, vs, h1, h2, h3⟩ := r.rw.dAt
      refine ⟨a, vs, h1, ?_, h3⟩
      rcases h2 with (h2 | ⟨o, h2⟩) | h2
      · exact .inl (.inl (s.sub _ _ h2))
      · exact .inl (.inr ⟨o, s.sub _ _ h2⟩)
      · exact .inr h2
    | _ => cases e
  | _ => cases e
end

/-! ### operators -/
def gInt (c : Int → Int → Bool) (g : Int → Int → D) : Op2 := fun _ x y => match x, y with
  | .d (.int i), .d (.int j) => if c i j = true then some (.d (g i j)) else none
  | _, _ => none
def vOf : D → V
  | .int i => .int i
  | .bl b => .bl b
  | .str x => .str x
  | _ => .non
def Flt : D → Prop
  | .int _ => True
  | .bl _ => True
  | .str _ => True
  | .non => True
  | _ => False
theorem R.flat {G : Gd} {F : Hp} {d : D} (h : Flt d) : R G F d (vOf d) := by
  cases d <;> first | exact h.elim | rfl
theorem sim_int {G : Gd} {C : Int → Int → Prop} {c : Int → Int → Bool} {g : Int → Int → D} (hc : ∀ i j, c i j = true → C i j) (hf : ∀ i j, Flt (g i j)) : Sim2 G (rI C fun i j => vOf (g i j)) (gInt c g) := by
  refine ⟨fun {F θ H0 H S env σ fp x y vx vy fx fy z Q} st rx ry e l k => ?_⟩
  unfold gInt at e
  split at e
  · rename_i i j
    split at e
    · rename_i h
      cases e
      exact ⟨i, j, rx.rw.dAt, ry.rw.dAt, hc i j h, k F θ H _ _ (Tr.refl ..) st (.d (.flat (hf i j)))⟩
    · cases e
  · cases e
theorem sim_int0 {G : Gd} {g : Int → Int → D} (hf : ∀ i j, Flt (g i j)) : Sim2 G (rI0 fun i j => vOf (g i j)) (gInt (fun _ _ => true) g) := by
  refine ⟨fun {F θ H0 H S env σ fp x y vx vy fx fy z Q} st rx ry e l k => ?_⟩
  obtain ⟨i, j, h1, h2, _, h4⟩ := (sim_int (G := G) (C := fun _ _ => True) (c := fun _ _ => true) (g := g) (fun _ _ _ => trivial) hf).run st rx ry e l k
  exact ⟨i, j, h1, h2, h4⟩
def gStr2 (g : Str → Str → D) : Op2 := fun _ x y => match x, y with
  | .d (.str i), .d (.str j) => some (.d (g i j))
  | _, _ => none
theorem sim_str2 {G : Gd} {g : Str → Str → D} (hf : ∀ i j, Flt (g i j)) : Sim2 G (fun x y H Q => ∃ i j, x = .str i ∧ y = .str j ∧ Q (vOf (g i j)) H) (gStr2 g) := by
  refine ⟨fun {F θ H0 H S env σ fp x y vx vy fx fy z Q} st rx ry e l k => ?_⟩
  unfold gStr2 at e
  split at e
  · rename_i i j
    cases e
    exact ⟨i, j, rx.rw.dAt, ry.rw.dAt, k F θ H _ _ (Tr.refl ..) st (.d (.flat (hf i j)))⟩
  · cases e
/-- a + b -/
def gAddS : Op2 := fun _ x y => match x, y with
  | .d (.str i), .d (.str j) => if i.length + j.length ≤ cap then some (.d (.str (i ++ j))) else none
  | _, _ => none
def gAddL : Op2 := fun S x y => (vL S x).bind fun xs => (vL S y).bind fun ys => (asDs xs).bind fun xs => (asDs ys).bind fun ys => if xs.length + ys.length ≤ cap then some (.d (.lst (xs ++ ys))) else none
def gAddT : Op2 := fun _ x y => (vT x).bind fun xs => (vT y).bind fun ys => if xs.length + ys.length ≤ cap then some (.d (.tup (xs ++ ys))) else none
theorem sim_addS {G : Gd} : Sim2 G (fun x y H Q => ∃ i j, x = .str i ∧ y = .str j ∧ i.length + j.length ≤ sizeLine ∧ Q (.str (i ++ j)) H) gAddS := by
  refine ⟨fun {F θ H0 H S env σ fp x y vx vy fx fy z Q} st rx ry e l k => ?_⟩
  unfold gAddS at e
  split at e
  · rename_i i j
    split at e
    · rename_i h
      cases e
      exact ⟨i, j, rx.rw.dAt, ry.rw.dAt, cap_ok h, k F θ H _ _ (Tr.refl ..) st (.d rfl)⟩
    · cases e
  · cases e
theorem sim_addL {G : Gd} : Sim2 G rCat gAddL := by
  refine ⟨fun {F θ H0 H S env σ fp x y vx vy fx fy z Q} st rx ry e l k => ?_⟩
  unfold gAddL at e
  obtain ⟨xs, e1, e⟩ := Option.bind_eq_some_iff.mp e
  obtain ⟨ys, e2, e⟩ := Option.bind_eq_some_iff.mp e
  obtain ⟨xd, e3, e⟩ := Option.bind_eq_some_iff.mp e
  obtain ⟨yd, e4, e⟩ := Option.bind_eq_some_iff.mp e
  split at e
  · rename_i h
    cases e
    obtain ⟨a, vs, f1, h1, h2, h3, _⟩ := vL_ok st rx e1
    obtain ⟨b, us, f2, h4, h5, h6, _⟩ := vL_ok st ry e2
    have q1 := h3.toD e3
    have q2 := h6.toD e4
    refine ⟨a, b, vs, us, h1, h4, h2, h5, by rw [q1.len, q2.len]; exact cap_ok h, fun p hp => ?_⟩
    obtain ⟨t, s⟩ := st.new hp (.lst (vs ++ us))
    exact k _ _ _ _ _ t s (.newL (Rs.mono t.le _ _ (q1.app q2)))
  · cases e
theorem sim_addT {G : Gd} : Sim2 G (rCatA G.K) gAddT := by
  refine ⟨fun {F θ H0 H S env σ fp x y vx vy fx fy z Q} st rx ry e l k => ?_⟩
  unfold gAddT at e
  obtain ⟨xs, e1, e⟩ := Option.bind_eq_some_iff.mp e
  obtain ⟨ys, e2, e⟩ := Option.bind_eq_some_iff.mp e
  split at e
  · rename_i h
    cases e
    obtain ⟨a, vs, h1, h2, h3⟩ := vT_ok st rx e1
    obtain ⟨b, us, h4, h5, h6⟩ := vT_ok st ry e2
    refine ⟨a, b, vs, us, h1, h4, h2, h5, by rw [h3.len, h6.len]; exact cap_ok h, fun hv => ?_, fun _ hu => ?_, fun _ _ p hp => ?_⟩
    · have z : xs = [] := List.length_eq_zero_iff.mp (by rw [← h3.len, hv]; rfl)
      subst z
      rw [← h4]
      exact k F θ H vy fy (Tr.refl ..) st ⟨by
        have q : y = .d (.tup ys) := by
          cases y with
          | d x =>
            cases x with
            | tup xs =>
              cases e2
              rfl
            | _ => cases e2
          | _ => cases e2
        rw [q] at ry
        exact ry.rw, ry.nd, ry.ap, ry.src, fun h => h.elim⟩
    · have z : ys = [] := List.length_eq_zero_iff.mp (by rw [← h6.len, hu]; rfl)
      subst z
      rw [List.append_nil, ← h1] at *
      exact k F θ H vx fx (Tr.refl ..) st ⟨by
        have q : x = .d (.tup xs) := by
          cases x with
          | d x =>
            cases x with
            | tup xs =>
              cases e1
              rfl
            | _ => cases e1
          | _ => cases e1
        rw [q] at rx
        exact rx.rw, rx.nd, rx.ap, rx.src, fun h => h.elim⟩
    · obtain ⟨t, s⟩ := st.new hp (.tup (vs ++ us))
      exact k _ _ _ _ _ t s (.newT (Rs.mono t.le _ _ (h3.app h6)))
  · cases e
def gAdd : Op2 := fun S x y => (gInt (fun _ _ => true) (fun i j => .int (i + j)) S x y).or ((gAddS S x y).or ((gAddL S x y).or (gAddT S x y)))
/-- a * b -/
def cMul (i j : Int) : Bool := (decide (-(2 ^ 64) < i) && decide (i < 2 ^ 64)) || (decide (-(2 ^ 64) < j) && decide (j < 2 ^ 64))
def gRepL : Op2 := fun S x y => match y with
  | .d (.int k) => (vL S x).bind fun xs => (asDs xs).bind fun xs => if 0 ≤ k ∧ k < 100000 ∧ xs.length * k.toNat ≤ cap then some (.d (.lst (List.replicate k.toNat xs).flatten)) else none
  | _ => none
def gMul : Op2 := fun S x y => (gInt cMul (fun i j => .int (i * j)) S x y).or (gRepL S x y)
theorem sim_repL {G : Gd} : Sim2 G rRep gRepL := by
  refine ⟨fun {F θ H0 H S env σ fp x y vx vy fx fy z Q} st rx ry e l k => ?_⟩
  unfold gRepL at e
  split at e
  · rename_i n
    obtain ⟨xs, e1, e⟩ := Option.bind_eq_some_iff.mp e
    obtain ⟨xd, e3, e⟩ := Option.bind_eq_some_iff.mp e
    split at e
    · rename_i h
      cases e
      obtain ⟨a, vs, f1, h1, h2, h3, _⟩ := vL_ok st rx e1
      have q1 := h3.toD e3
      refine ⟨a, n, vs, h1, ry.rw.dAt, h2, by omega, by omega, by rw [q1.len]; exact cap_ok h.2.2, fun p hp => ?_⟩
      obtain ⟨t, s⟩ := st.new hp (.lst (List.replicate n.toNat vs).flatten)
      exact k _ _ _ _ _ t s (.newL (Rs.mono t.le _ _ (q1.rep _)))
    · cases e
  · cases e
theorem cMul_ok {i j : Int} (h : cMul i j = true) : CMul i j := by
  unfold cMul at h
  rw [Bool.or_eq_true, Bool.and_eq_true, Bool.and_eq_true, decide_eq_true_iff, decide_eq_true_iff, decide_eq_true_iff, decide_eq_true_iff] at h
  exact h
section
variable {X : Cx} {G : Gd} {a b : Expr} {ma mb : ME} {pos : Pos}
theorem z_add (ha : PE X a (tOf G ma)) (hb : PE X b (tOf G mb)) (hK : X.K = G.K := by rfl) : PE X (.BinOp a .Add b pos) (tOf G (mBin gAdd ma mb)) :=
  z_bin (op_add.or (op_add_str.or (op_cat.or op_catA))) ((sim_int0 (g := fun i j => .int (i + j)) fun _ _ => trivial).or (sim_addS.or (sim_addL.or (by rw [hK]; exact sim_addT)))) ha hb
theorem z_sub (ha : PE X a (tOf G ma)) (hb : PE X b (tOf G mb)) : PE X (.BinOp a .Sub b pos) (tOf G (mBin (gInt (fun _ _ => true) fun i j => .int (i - j)) ma mb)) :=
  z_bin op_sub (sim_int0 (g := fun i j => .int (i - j)) fun _ _ => trivial) ha hb
theorem z_mul (ha : PE X a (tOf G ma)) (hb : PE X b (tOf G mb)) : PE X (.BinOp a .Mult b pos) (tOf G (mBin gMul ma mb)) :=
  z_bin (op_mul.or op_rep) ((sim_int (g := fun i j => .int (i * j)) (fun _ _ h => cMul_ok h) fun _ _ => trivial).or sim_repL) ha hb
theorem z_mod (ha : PE X a (tOf G ma)) (hb : PE X b (tOf G mb)) : PE X (.BinOp a .Mod b pos) (tOf G (mBin (gInt (fun _ j => decide (0 < j)) fun i j => .int (i % j)) ma mb)) :=
  z_bin op_mod (sim_int (g := fun i j => .int (i % j)) (fun _ _ h => of_decide_eq_true h) fun _ _ => trivial) ha hb
def cDiv (i j : Int) : Bool := decide (0 < j) && decide (j < 1073741824)
theorem z_fdiv (ha : PE X a (tOf G ma)) (hb : PE X b (tOf G mb)) : PE X (.BinOp a .FloorDiv b pos) (tOf G (mBin (gInt cDiv fun i j => .int (i / j)) ma mb)) :=
  z_bin op_fdiv (sim_int (g := fun i j => .int (i / j)) (fun i j h => by
    unfold cDiv at h
    rw [Bool.and_eq_true, decide_eq_true_iff, decide_eq_true_iff] at h
    exact h) fun _ _ => trivial) ha hb
def cPow (i j : Int) : Bool := decide (0 ≤ j) && (decide (j ≤ 1000000) && decide (i.natAbs < 2 ^ 64))
theorem z_pow (ha : PE X a (tOf G ma)) (hb : PE X b (tOf G mb)) : PE X (.BinOp a .Pow b pos) (tOf G (mBin (gInt cPow fun i j => .int (i ^ j.toNat)) ma mb)) :=
  z_bin op_pow (sim_int (g := fun i j => .int (i ^ j.toNat)) (fun i j h => by
    unfold cPow at h
    rw [Bool.and_eq_true, Bool.and_eq_true, decide_eq_true_iff, decide_eq_true_iff, decide_eq_true_iff] at h
    exact h) fun _ _ => trivial) ha hb
end

end Zf
set_option Elab.async false
set_option linter.all false
set_option maxRecDepth 100000
set_option maxHeartbeats 4000000
namespace Zf
open PySem L2
/-! ### comparisons -/
def gLt : Op2 := fun S x y => (gInt (fun _ _ => true) (fun i j => .bl (decide (i < j))) S x y).or (gStr2 (fun i j => .bl (decide (i.cps.toList < j.cps.toList))) S x y)
def gLe : Op2 := fun S x y => (gInt (fun _ _ => true) (fun i j => .bl (decide (i ≤ j))) S x y).or (gStr2 (fun i j => .bl (!decide (j.cps.toList < i.cps.toList))) S x y)
def gGt : Op2 := fun S x y => (gInt (fun _ _ => true) (fun i j => .bl (decide (j < i))) S x y).or (gStr2 (fun i j => .bl (decide (j.cps.toList < i.cps.toList))) S x y)
def gGe : Op2 := fun S x y => (gInt (fun _ _ => true) (fun i j => .bl (decide (j ≤ i))) S x y).or (gStr2 (fun i j => .bl (!decide (i.cps.toList < j.cps.toList))) S x y)
theorem sim_lt {G : Gd} : Sim2 G (fun x y H Q => (rI0 fun i j => .bl (decide (i < j))) x y H Q ∨ ∃ i j, x = .str i ∧ y = .str j ∧ Q (.bl (decide (i.cps.toList < j.cps.toList))) H) gLt := (sim_int0 (g := fun i j => .bl (decide (i < j))) fun _ _ => trivial).or (sim_str2 (g := fun i j => .bl (decide (i.cps.toList < j.cps.toList))) fun _ _ => trivial)
theorem sim_le {G : Gd} : Sim2 G (fun x y H Q => (rI0 fun i j => .bl (decide (i ≤ j))) x y H Q ∨ ∃ i j, x = .str i ∧ y = .str j ∧ Q (.bl (!decide (j.cps.toList < i.cps.toList))) H) gLe := (sim_int0 (g := fun i j => .bl (decide (i ≤ j))) fun _ _ => trivial).or (sim_str2 (g := fun i j => .bl (!decide (j.cps.toList < i.cps.toList))) fun _ _ => trivial)
theorem sim_gt {G : Gd} : Sim2 G (fun x y H Q => (rI0 fun i j => .bl (decide (j < i))) x y H Q ∨ ∃ i j, x = .str i ∧ y = .str j ∧ Q (.bl (decide (j.cps.toList < i.cps.toList))) H) gGt := (sim_int0 (g := fun i j => .bl (decide (j < i))) fun _ _ => trivial).or (sim_str2 (g := fun i j => .bl (decide (j.cps.toList < i.cps.toList))) fun _ _ => trivial)
theorem sim_ge {G : Gd} : Sim2 G (fun x y H Q => (rI0 fun i j => .bl (decide (j ≤ i))) x y H Q ∨ ∃ i j, x = .str i ∧ y = .str j ∧ Q (.bl (!decide (i.cps.toList < j.cps.toList))) H) gGe := (sim_int0 (g := fun i j => .bl (decide (j ≤ i))) fun _ _ => trivial).or (sim_str2 (g := fun i j => .bl (!decide (i.cps.toList < j.cps.toList))) fun _ _ => trivial)
/- data as the library's own data -/
mutual
def dpy : D → Option PyData
  | .non => some .none
  | .bl b => some (.bool b)
  | .int i => some (.int i)
  | .str x => some (.str x)
  | .lst xs => (dpys xs).map .list
  | .tup xs => (dpys xs).map .tuple
  | .ro xs => (dpys xs).map .list
  | _ => none
def dpys : List D → Option (List PyData)
  | [] => some []
  | x :: r => (dpy x).bind fun a => (dpys r).map (a :: ·)
end
mutual
def wpyG (c : Nat → Option PyData) : W → Option PyData
  | .d x => dpy x
  | .r n => c n
  | .own xs => (wpysG c xs).map .list
  | .bor xs => (wpysG c xs).map .list
  | _ => none
def wpysG (c : Nat → Option PyData) : List W → Option (List PyData)
  | [] => some []
  | x :: r => (wpyG c x).bind fun a => (wpysG c r).map (a :: ·)
end
/-- a cell's data; cells within cells are read to this depth -/
def cellPy (S : Store) : Nat → Nat → Option PyData
  | 0, _ => none
  | k + 1, n => (S[n]?).bind fun xs => (wpysG (cellPy S k) xs).map .list
def wpy (S : Store) : W → Option PyData := wpyG (cellPy S 5)
section
variable {G : Gd} {F : Hp} {H : Hp} (sub : ∀ a u, F a = some u → H a = some u)
include sub
theorem sub_sqL {K : PySem.W.Frag} {a : Addr} {vs : List V} (h : SqL K F a vs) : SqL K H a vs := by
  rcases h with (h | ⟨o, h⟩) | h
  · exact .inl (.inl (sub _ _ h))
  · exact .inl (.inr ⟨o, sub _ _ h⟩)
  · exact .inr h
theorem sub_sqT {K : PySem.W.Frag} {a : Addr} {vs : List V} (h : SqT K F a vs) : SqT K H a vs := by
  rcases h with (h | ⟨o, h⟩) | h
  · exact .inl (.inl (sub _ _ h))
  · exact .inl (.inr ⟨o, sub _ _ h⟩)
  · exact .inr h
mutual
theorem dpD : ∀ {d : D} {v : V} {p : PyData}, R G F d v → dpy d = some p → Dp G.K H v p
  | .non, _, _, h, e => by
    cases e
    rw [show _ = V.non from h]
    exact .non
  | .bl b, _, _, h, e => by
    cases e
    rw [show _ = V.bl b from h]
    exact .bl b
  | .int b, _, _, h, e => by
    cases e
    rw [show _ = V.int b from h]
    exact .int b
  | .str b, _, _, h, e => by
    cases e
    rw [show _ = V.str b from h]
    exact .str b
  | .lst xs, _, _, ⟨a, vs, h1, h2, h3⟩, e => by
    obtain ⟨ps, e1, e2⟩ := Option.map_eq_some_iff.mp e
    cases e2
    rw [h1]
    exact .lst (SqL.of (sub _ _ h2)) (dpsD h3 e1)
  | .ro xs, _, _, ⟨a, vs, h1, h2, h3⟩, e => by
    obtain ⟨ps, e1, e2⟩ := Option.map_eq_some_iff.mp e
    cases e2
    rw [h1]
    exact .lst (sub_sqL sub h2) (dpsD h3 e1)
  | .tup xs, _, _, ⟨a, vs, h1, h2, h3⟩, e => by
    obtain ⟨ps, e1, e2⟩ := Option.map_eq_some_iff.mp e
    cases e2
    rw [h1]
    exact .tup (sub_sqT sub h2) (dpsD h3 e1)
  | .dct _, _, _, _, e => by cases e
  | .st _, _, _, _, e => by cases e
  | .ins _ _, _, _, _, e => by cases e
theorem dpsD : ∀ {ds : List D} {vs : List V} {ps : List PyData}, Rs G F ds vs → dpys ds = some ps → DpAll G.K H vs ps
  | [], _, _, h, e => by
    cases e
    rw [show _ = [] from h]
    exact .nil
  | x :: r, _, _, ⟨v, r', h1, h2, h3⟩, e => by
    obtain ⟨a, e1, e⟩ := Option.bind_eq_some_iff.mp e
    obtain ⟨ps, e2, e3⟩ := Option.map_eq_some_iff.mp e
    cases e3
    rw [h1]
    exact .cons (dpD h2 e1) (dpsD h3 e2)
end
end
section
variable {G : Gd} {F : Hp} {θ : Th} {H : Hp} {S : Store} (sub : ∀ a u, F a = some u → H a = some u)
include sub
section
variable {c : Nat → Option PyData} (hc : ∀ n p a, c n = some p → θ[n]? = some a → Dp G.K H (.ref a) p)
include hc
mutual
theorem dpWG : ∀ {w : W} {v : V} {f : List Addr} {p : PyData}, RW G F θ H w v f → wpyG c w = some p → Dp G.K H v p
  | .d x, _, _, _, h, e => dpD sub h.1 e
  | .r n, _, _, _, ⟨⟨a, h1, h2⟩, _⟩, e => by
    rw [h1]
    exact hc n _ a e h2
  | .own xs, _, _, _, ⟨a, vs, fs, h1, h2, h3, _⟩, e => by
    obtain ⟨ps, e1, e2⟩ := Option.map_eq_some_iff.mp e
    cases e2
    rw [h1]
    exact .lst (SqL.of h2) (dpsWG h3 e1)
  | .bor xs, _, _, _, ⟨a, vs, fs, h1, h2, h3, _⟩, e => by
    obtain ⟨ps, e1, e2⟩ := Option.map_eq_some_iff.mp e
    cases e2
    rw [h1]
    exact .lst (SqL.of h2) (dpsWG h3 e1)
  | .od _, _, _, _, _, e => by cases e
  | .bd _, _, _, _, _, e => by cases e
  | .slf _ _, _, _, _, _, e => by cases e
  | .slb _ _, _, _, _, _, e => by cases e
theorem dpsWG : ∀ {ws : List W} {vs : List V} {f : List Addr} {ps : List PyData}, RWs G F θ H ws vs f → wpysG c ws = some ps → DpAll G.K H vs ps
  | [], _, _, _, h, e => by
    cases e
    rw [h.1]
    exact .nil
  | x :: r, _, _, _, ⟨v, r', f1, f2, h1, h2, h3, _⟩, e => by
    obtain ⟨a, e1, e⟩ := Option.bind_eq_some_iff.mp e
    obtain ⟨ps, e2, e3⟩ := Option.map_eq_some_iff.mp e
    cases e3
    rw [h1]
    exact .cons (dpWG h2 e1) (dpsWG h3 e2)
end
end
theorem dpCell (rs : RS G F θ H S) : ∀ (k n : Nat) (p : PyData) (a : Addr), cellPy S k n = some p → θ[n]? = some a → Dp G.K H (.ref a) p
  | 0, _, _, _, e, _ => by cases e
  | k + 1, n, p, a, e, h => by
    obtain ⟨xs, e1, e⟩ := Option.bind_eq_some_iff.mp e
    obtain ⟨ps, e2, e3⟩ := Option.map_eq_some_iff.mp e
    cases e3
    obtain ⟨b, vs, h3, _, h5, h6⟩ := rs.cell n xs e1
    rw [h] at h3
    cases h3
    exact .lst (SqL.of h5) (dpsWG sub (dpCell rs k) h6 e2)
theorem dpW (rs : RS G F θ H S) {w : W} {v : V} {f : List Addr} {p : PyData} (h : RW G F θ H w v f) (e : wpy S w = some p) : Dp G.K H v p := dpWG sub (dpCell sub rs 5) h e
end
end Zf
set_option Elab.async false
set_option linter.all false
set_option maxRecDepth 100000
set_option maxHeartbeats 4000000
namespace Zf
open PySem L2
/-- == and != of data -/
def gEqS (neg : Bool) : Op2 := fun _ x y => match x, y with
  | .d (.int i), .d (.int j) => some (.d (.bl (neg != decide (i = j))))
  | .d (.str i), .d (.str j) => some (.d (.bl (neg != decide (i = j))))
  | .d (.bl i), .d (.bl j) => some (.d (.bl (neg != decide (i = j))))
  | _, _ => none
def gEqP (neg : Bool) : Op2 := fun S x y => (wpy S x).bind fun a => (wpy S y).bind fun b => if SeqAt.shaped a = true ∧ SeqAt.shaped b = true then some (.d (.bl (neg != PyData.eqv a b))) else none
def gEq : Op2 := fun S x y => (gEqS false S x y).or (gEqP false S x y)
def gNe : Op2 := fun S x y => (gEqS true S x y).or (gEqP true S x y)
theorem sim_eqS {G : Gd} : Sim2 G rEq (gEqS false) := by
  refine ⟨fun {F θ H0 H S env σ fp x y vx vy fx fy z Q} st rx ry e l k => ?_⟩
  unfold gEqS at e
  split at e
  · rename_i i j
    cases e
    rw [show vx = .int i from rx.rw.dAt, show vy = .int j from ry.rw.dAt]
    refine ⟨rfl, k F θ H _ _ (Tr.refl ..) st (.d (show _ = _ from ?_))⟩
    congr 1
    by_cases h : i = j
    · simp [h]
    · simp [h]
  · rename_i i j
    cases e
    rw [show vx = .str i from rx.rw.dAt, show vy = .str j from ry.rw.dAt]
    refine ⟨rfl, k F θ H _ _ (Tr.refl ..) st (.d (show _ = _ from ?_))⟩
    congr 1
    by_cases h : i = j
    · simp [h]
    · simp [h]
  · rename_i i j
    cases e
    rw [show vx = .bl i from rx.rw.dAt, show vy = .bl j from ry.rw.dAt]
    refine ⟨rfl, k F θ H _ _ (Tr.refl ..) st (.d (show _ = _ from ?_))⟩
    congr 1
    by_cases h : i = j
    · simp [h]
    · simp [h]
  · cases e
theorem sim_neS {G : Gd} : Sim2 G rNe (gEqS true) := by
  refine ⟨fun {F θ H0 H S env σ fp x y vx vy fx fy z Q} st rx ry e l k => ?_⟩
  unfold gEqS at e
  split at e
  · rename_i i j
    cases e
    rw [show vx = .int i from rx.rw.dAt, show vy = .int j from ry.rw.dAt]
    refine ⟨rfl, k F θ H _ _ (Tr.refl ..) st (.d (show _ = _ from ?_))⟩
    congr 1
    by_cases h : i = j
    · simp [h]
    · simp [h]
  · rename_i i j
    cases e
    rw [show vx = .str i from rx.rw.dAt, show vy = .str j from ry.rw.dAt]
    refine ⟨rfl, k F θ H _ _ (Tr.refl ..) st (.d (show _ = _ from ?_))⟩
    congr 1
    by_cases h : i = j
    · simp [h]
    · simp [h]
  · rename_i i j
    cases e
    rw [show vx = .bl i from rx.rw.dAt, show vy = .bl j from ry.rw.dAt]
    refine ⟨rfl, k F θ H _ _ (Tr.refl ..) st (.d (show _ = _ from ?_))⟩
    congr 1
    by_cases h : i = j
    · simp [h]
    · simp [h]
  · cases e
theorem sim_eqP {G : Gd} : Sim2 G (rEqD G.K) (gEqP false) := by
  refine ⟨fun {F θ H0 H S env σ fp x y vx vy fx fy z Q} st rx ry e l k => ?_⟩
  unfold gEqP at e
  obtain ⟨a, e1, e⟩ := Option.bind_eq_some_iff.mp e
  obtain ⟨b, e2, e⟩ := Option.bind_eq_some_iff.mp e
  split at e
  · rename_i h
    cases e
    exact ⟨a, b, dpW st.sub st.store rx.rw e1, dpW st.sub st.store ry.rw e2, h.1, h.2, k F θ H _ _ (Tr.refl ..) st (.d (show _ = _ by simp))⟩
  · cases e
theorem sim_neP {G : Gd} : Sim2 G (rNeD G.K) (gEqP true) := by
  refine ⟨fun {F θ H0 H S env σ fp x y vx vy fx fy z Q} st rx ry e l k => ?_⟩
  unfold gEqP at e
  obtain ⟨a, e1, e⟩ := Option.bind_eq_some_iff.mp e
  obtain ⟨b, e2, e⟩ := Option.bind_eq_some_iff.mp e
  split at e
  · rename_i h
    cases e
    exact ⟨a, b, dpW st.sub st.store rx.rw e1, dpW st.sub st.store ry.rw e2, h.1, h.2, k F θ H _ _ (Tr.refl ..) st (.d (show _ = _ by simp))⟩
  · cases e
end Zf
set_option Elab.async false
set_option linter.all false
set_option maxRecDepth 100000
set_option maxHeartbeats 4000000
namespace Zf
open PySem L2
/-- in, not in: flat items; one sign in a text -/
def eqF : D → D → Bool
  | .non, .non => true
  | .bl a, .bl b => a == b
  | .bl a, .int b => (if a then 1 else 0) == b
  | .int a, .bl b => a == (if b then 1 else 0)
  | .int a, .int b => a == b
  | .str a, .str b => a == b
  | _, _ => false
def flatD : D → Bool
  | .non => true
  | .bl _ => true
  | .int _ => true
  | .str _ => true
  | _ => false
def vSeq (S : Store) (w : W) : Option (List D) := ((vL S w).bind asDs).or (vT w)
def gIn (neg : Bool) : Op2 := fun S x y => match x with
  | .d x => (vSeq S y).bind fun ys => if flatD x = true ∧ ys.all flatD = true then some (.d (.bl (neg != ys.any fun z => eqF z x))) else none
  | _ => none
def sign1 (x : Str) : Option Nat := match x.cps.toList with
  | [c] => some c
  | _ => none
theorem sign1_ok {x : Str} {c : Nat} (h : sign1 x = some c) : x = ⟨#[c]⟩ := by
  unfold sign1 at h
  split at h
  · rename_i e
    cases h
    obtain ⟨a⟩ := x
    have e' : a.toList = [c] := e
    have q : a = #[c] := by
      rw [← Array.toArray_toList (xs := a), e']
    rw [q]
  · cases h
def gInC (neg : Bool) : Op2 := fun _ x y => match x, y with
  | .d (.str s), .d (.str z) => (sign1 s).map fun c => .d (.bl (neg != decide (c ∈ z.cps.toList)))
  | _, _ => none
theorem flat_v {G : Gd} {F : Hp} {d : D} {v : V} (h : R G F d v) (f : flatD d = true) : v = vOf d ∧ flatV v = true := by
  cases d with
  | non =>
    rw [show v = V.non from h]
    exact ⟨rfl, rfl⟩
  | bl b =>
    rw [show v = V.bl b from h]
    exact ⟨rfl, rfl⟩
  | int b =>
    rw [show v = V.int b from h]
    exact ⟨rfl, rfl⟩
  | str b =>
    rw [show v = V.str b from h]
    exact ⟨rfl, rfl⟩
  | _ => exact absurd f Bool.false_ne_true
theorem eqF_v : ∀ {d e : D}, flatD d = true → flatD e = true → eqV (vOf d) (vOf e) = eqF d e := by
  intro d e hd he
  cases d <;> first | exact absurd hd Bool.false_ne_true | (cases e <;> first | exact absurd he Bool.false_ne_true | rfl)
theorem flat_vs {G : Gd} {F : Hp} {x : D} (hx : flatD x = true) : ∀ {ys : List D} {vs : List V}, Rs G F ys vs → ys.all flatD = true → vs.all flatV = true ∧ inV (vOf x) vs = ys.any fun z => eqF z x
  | [], _, h, _ => by
    rw [show _ = [] from h]
    exact ⟨rfl, rfl⟩
  | y :: ys, _, ⟨v, r, h1, h2, h3⟩, ha => by
    rw [List.all_cons, Bool.and_eq_true] at ha
    obtain ⟨q1, q2⟩ := flat_v h2 ha.1
    obtain ⟨q3, q4⟩ := flat_vs hx h3 ha.2
    rw [h1]
    refine ⟨by rw [List.all_cons, q2, q3]; rfl, ?_⟩
    unfold inV at q4 ⊢
    rw [List.any_cons, List.any_cons, q4, q1, eqF_v ha.1 hx]
theorem vSeq_ok {G : Gd} {F : Hp} {θ : Th} {H : Hp} {S : Store} {env : En} {σ : L2.St} {fp : List Addr} {H0 : Hp} {w : W} {v : V} {f : List Addr} {xs : List D} (s : St G F θ H S env σ fp) (r : Res G H0 fp F θ H w v f) (e : vSeq S w = some xs) :
    ∃ a vs, v = .ref a ∧ (SqL G.K H a vs ∨ SqT G.K H a vs) ∧ Rs G F xs vs := by
  unfold vSeq at e
  cases q : (vL S w).bind asDs with
  | none =>
    rw [q] at e
    obtain ⟨a, vs, h1, h2, h3⟩ := vT_ok s r (by simpa using e)
    exact ⟨a, vs, h1, .inr h2, h3⟩
  | some ys =>
    rw [q] at e
    have e' : ys = xs := by simpa using e
    subst e'
    obtain ⟨ws, e1, e2⟩ := Option.bind_eq_some_iff.mp q
    obtain ⟨a, vs, fs, h1, h2, h3, _⟩ := vL_ok s r e1
    exact ⟨a, vs, h1, .inl (SqL.of h2), h3.toD e2⟩
theorem sim_in {G : Gd} (neg : Bool) : Sim2 G (rIn G.K neg) (gIn neg) := by
  refine ⟨fun {F θ H0 H S env σ fp x y vx vy fx fy z Q} st rx ry e l k => ?_⟩
  unfold gIn at e
  split at e
  · rename_i d
    obtain ⟨ys, e1, e⟩ := Option.bind_eq_some_iff.mp e
    split at e
    · rename_i h
      cases e
      obtain ⟨a, vs, h1, h2, h3⟩ := vSeq_ok st ry e1
      obtain ⟨q1, q2⟩ := flat_v rx.rw.dAt h.1
      obtain ⟨q3, q4⟩ := flat_vs h.1 h3 h.2
      refine ⟨a, vs, h1, h2, q2, q3, k F θ H _ _ (Tr.refl ..) st (.d (show _ = _ from ?_))⟩
      rw [q1, q4]
      cases neg <;> simp
    · cases e
  · cases e
theorem sim_inC {G : Gd} : Sim2 G (fun x y H Q => ∃ (c : Nat) (z : Str), x = .str ⟨#[c]⟩ ∧ y = .str z ∧ Q (.bl (decide (c ∈ z.cps.toList))) H) (gInC false) := by
  refine ⟨fun {F θ H0 H S env σ fp x y vx vy fx fy z Q} st rx ry e l k => ?_⟩
  unfold gInC at e
  split at e
  · rename_i s z
    obtain ⟨c, e1, e2⟩ := Option.map_eq_some_iff.mp e
    cases e2
    have q := sign1_ok e1
    subst q
    exact ⟨c, z, rx.rw.dAt, ry.rw.dAt, k F θ H _ _ (Tr.refl ..) st (.d (show _ = _ by simp))⟩
  · cases e
theorem sim_niC {G : Gd} : Sim2 G (fun x y H Q => ∃ (c : Nat) (z : Str), x = .str ⟨#[c]⟩ ∧ y = .str z ∧ Q (.bl (!decide (c ∈ z.cps.toList))) H) (gInC true) := by
  refine ⟨fun {F θ H0 H S env σ fp x y vx vy fx fy z Q} st rx ry e l k => ?_⟩
  unfold gInC at e
  split at e
  · rename_i s z
    obtain ⟨c, e1, e2⟩ := Option.map_eq_some_iff.mp e
    cases e2
    have q := sign1_ok e1
    subst q
    exact ⟨c, z, rx.rw.dAt, ry.rw.dAt, k F θ H _ _ (Tr.refl ..) st (.d (show _ = _ by simp))⟩
  · cases e
end Zf
set_option Elab.async false
set_option linter.all false
set_option maxRecDepth 100000
set_option maxHeartbeats 1000000
namespace Zf
open PySem L2

/-! ### is None -/
def isNon : W → Bool
  | .d .non => true
  | _ => false
def gIs (neg : Bool) : Op2 := fun _ x y => match y with
  | .d .non => some (.d (.bl (neg != isNon x)))
  | _ => none
theorem isNon_ok {G : Gd} {F : Hp} {θ : Th} {H : Hp} {x : W} {v : V} {f : List Addr} (h : RW G F θ H x v f) : decide (v = .non) = isNon x := by
  cases x with
  | d x =>
    have h1 := h.1
    cases x with
    | non =>
      rw [show v = V.non from h1]
      rfl
    | bl b =>
      rw [show v = V.bl b from h1]
      rfl
    | int b =>
      rw [show v = V.int b from h1]
      rfl
    | str b =>
      rw [show v = V.str b from h1]
      rfl
    | lst xs =>
      obtain ⟨a, vs, e, _⟩ := h1
      rw [e]
      rfl
    | ro xs =>
      obtain ⟨a, vs, e, _⟩ := h1
      rw [e]
      rfl
    | tup xs =>
      obtain ⟨a, vs, e, _⟩ := h1
      rw [e]
      rfl
    | dct xs =>
      obtain ⟨a, vs, e, _⟩ := h1
      rw [e]
      rfl
    | st xs =>
      obtain ⟨a, e, _⟩ := h1
      rw [e]
      rfl
    | ins c xs =>
      obtain ⟨a, _, _, e, _⟩ := h1
      rw [e]
      rfl
  | r n =>
    obtain ⟨⟨a, e, _⟩, _⟩ := h
    rw [e]
    rfl
  | own xs =>
    obtain ⟨a, _, _, e, _⟩ := h
    rw [e]
    rfl
  | bor xs =>
    obtain ⟨a, _, _, e, _⟩ := h
    rw [e]
    rfl
  | od xs =>
    obtain ⟨a, _, _, e, _⟩ := h
    rw [e]
    rfl
  | bd xs =>
    obtain ⟨a, _, _, e, _⟩ := h
    rw [e]
    rfl
  | slf c xs =>
    obtain ⟨_, _, e, _⟩ := h
    rw [e]
    rfl
  | slb c xs =>
    obtain ⟨_, _, e, _⟩ := h
    rw [e]
    rfl
theorem sim_is {G : Gd} : Sim2 G (fun x y H Q => y = .non ∧ Q (.bl (decide (x = .non))) H) (gIs false) := by
  refine ⟨fun {F θ H0 H S env σ fp x y vx vy fx fy z Q} st rx ry e l k => ?_⟩
  unfold gIs at e
  split at e
  · cases e
    exact ⟨ry.rw.dAt, k F θ H _ _ (Tr.refl ..) st (.d (show _ = _ by rw [isNon_ok rx.rw]; simp))⟩
  · cases e
theorem sim_isnot {G : Gd} : Sim2 G (fun x y H Q => y = .non ∧ Q (.bl (!decide (x = .non))) H) (gIs true) := by
  refine ⟨fun {F θ H0 H S env σ fp x y vx vy fx fy z Q} st rx ry e l k => ?_⟩
  unfold gIs at e
  split at e
  · cases e
    exact ⟨ry.rw.dAt, k F θ H _ _ (Tr.refl ..) st (.d (show _ = _ by rw [isNon_ok rx.rw]; simp))⟩
  · cases e

/-! ### subscripts -/
def gIx : Op2 := fun S x y => match y with
  | .d (.int i) => match x with
    | .d (.str z) => if z.length ≤ cap then (atI z.cps.toList i).map fun c => .d (.str ⟨#[c]⟩) else none
    | x => match vT x with
      | some xs => (atI xs i).map .d
      | none => (vL S x).bind fun xs => (atI xs i).map toBor
  | _ => none
theorem atI_len {α β : Type} {xs : List α} {ys : List β} (h : xs.length = ys.length) {i : Int} {x : α} (e : atI xs i = some x) : ∃ j : Nat, xs[j]? = some x ∧ ∀ y, ys[j]? = some y → atI ys i = some y := by
  unfold atI at e ⊢
  obtain ⟨j, e1, e2⟩ := Option.bind_eq_some_iff.mp e
  refine ⟨j, e2, fun y hy => ?_⟩
  rw [← h, e1]
  exact hy
theorem sim_ix {G : Gd} : Sim2 G (rIx G.K) gIx := by
  refine ⟨fun {F θ H0 H S env σ fp x y vx vy fx fy z Q} st rx ry e l k => ?_⟩
  unfold gIx at e
  split at e
  · rename_i i
    split at e
    · rename_i zz
      split at e
      · rename_i hz
        obtain ⟨c, e1, e2⟩ := Option.map_eq_some_iff.mp e
        cases e2
        exact .inr (.inr ⟨zz, i, c, rx.rw.dAt, ry.rw.dAt, cap_ok hz, e1, k F θ H _ _ (Tr.refl ..) st (.d rfl)⟩)
      · cases e
    · split at e
      · rename_i xs hT
        obtain ⟨d, e1, e2⟩ := Option.map_eq_some_iff.mp e
        cases e2
        obtain ⟨a, vs, h1, h2, h3⟩ := vT_ok st rx hT
        obtain ⟨j, h4, h5⟩ := atI_len h3.len.symm e1
        obtain ⟨v, h6, h7⟩ := h3.get h4
        exact .inr (.inl ⟨a, vs, i, v, h1, ry.rw.dAt, h2, h5 v h6, k F θ H _ _ (Tr.refl ..) st (.d h7)⟩)
      · obtain ⟨xs, e1, e2⟩ := Option.bind_eq_some_iff.mp e
        obtain ⟨w, e3, e4⟩ := Option.map_eq_some_iff.mp e2
        cases e4
        obtain ⟨a, vs, fs, h1, h2, h3, h3'⟩ := vL_ok st rx e1
        obtain ⟨j, h4, h5⟩ := atI_len h3.len.symm e3
        obtain ⟨v, f, h6, h7, h8⟩ := h3.get h4
        have sb := h8.trans h3'
        exact .inl ⟨a, vs, i, v, h1, ry.rw.dAt, SqL.of h2, h5 v h6, k F θ H _ _ (Tr.refl ..) st ⟨h7.bor, rx.nd.sublist sb, fun b hb => rx.ap b (sb.subset hb), fun b hb => rx.src b (sb.subset hb), fun h => (not_own_bor w h).elim⟩⟩
  · cases e
section
variable {X : Cx} {G : Gd} {a b : Expr} {ma mb : ME} {pos : Pos}
theorem z_ix (ha : PE X a (tOf G ma)) (hb : PE X b (tOf G mb)) (hs : PlainIx b := by exact fun _ _ => rfl) (hK : X.K = G.K := by rfl) : PE X (.Subscript a b pos) (tOf G (mBin gIx ma mb)) :=
  pe_imp (pe_ix ix_seq ha hb hs) fun _ _ _ h => by
    rw [hK]
    exact tOf_bin sim_ix h
end

/-! ### slices -/
abbrev MO := En → Store → Option (Option Int × Store)
def tOfO (G : Gd) (m : MO) : TO := fun σ H Q => ∃ F θ S env fp o S', St G F θ H S env σ fp ∧ m env S = some (o, S') ∧
  ∀ F' θ' H', Tr F θ H F' θ' H' → St G F' θ' H' S' env σ fp → Q o H'
def mNoPart : MO := fun _ S => some (none, S)
def mPart (m : ME) : MO := fun env S => (m env S).bind fun p => match p.1 with
  | .d (.int i) => some (some i, p.2)
  | _ => none
def cutA {α : Type} (xs : List α) (lo hi : Option Int) : List α := (xs.drop (HT.sIx xs.length 0 lo)).take (HT.sIx xs.length xs.length hi - HT.sIx xs.length 0 lo)
def gSl (S : Store) (w : W) (lo hi : Option Int) : Option W := match w with
  | .d (.str z) => if z.length ≤ cap then some (.d (.str (cutS z lo hi))) else none
  | .d (.ro xs) => some (.d (.lst (cutA xs lo hi)))
  | w => match vT w with
    | some xs => some (.d (.tup (cutA xs lo hi)))
    | none => ((vL S w).bind asDs).map fun xs => .d (.lst (cutA xs lo hi))
def mSl (m : ME) (lo hi : MO) : ME := fun env S => (m env S).bind fun p => (lo env p.2).bind fun q => (hi env q.2).bind fun r => (gSl r.2 p.1 q.1 r.1).map fun w => (w, r.2)
theorem Rs.cut {G : Gd} {F : Hp} {xs : List D} {vs : List V} (h : Rs G F xs vs) (lo hi : Option Int) : Rs G F (cutA xs lo hi) (cutV vs lo hi) := by
  unfold cutA cutV
  rw [h.len]
  exact (h.drop _).take _
section
variable {X : Cx} {G : Gd} {e : Expr} {me : ME} {lo hi : Option Expr} {ml mh : MO} {pos p2 : Pos}
theorem z_noPart : PO X none (tOfO G mNoPart) := ⟨fun pins s σ H Q I h => by
  refine po_none.run pins s σ H Q I ?_
  obtain ⟨F, θ, S, env, fp, o, S', st, e, k⟩ := h
  cases e
  exact k F θ H (Tr.refl ..) st⟩
theorem z_part {x : Expr} {m : ME} (h : PE X x (tOf G m)) : PO X (some x) (tOfO G (mPart m)) := ⟨fun pins s σ H Q I h0 => by
  refine (po_some h).run pins s σ H Q I ?_
  obtain ⟨F, θ, S, env, fp, o, S', st, e, k⟩ := h0
  unfold mPart at e
  obtain ⟨⟨w, S1⟩, ea, e⟩ := Option.bind_eq_some_iff.mp e
  dsimp only at e
  split at e
  · cases e
    exact ⟨F, θ, S, env, fp, _, _, st, ea, fun F1 θ1 H1 v f t1 st1 rv => ⟨_, rv.rw.dAt, k F1 θ1 H1 t1 st1⟩⟩
  · cases e⟩
theorem z_sl (he : PE X e (tOf G me)) (hl : PO X lo (tOfO G ml)) (hh : PO X hi (tOfO G mh)) (hK : X.K = G.K := by rfl) : PE X (.Subscript e (.Slice lo hi none p2) pos) (tOf G (mSl me ml mh)) := by
  refine pe_imp (pe_slice (sl_str.or (sl_tupA.or sl_list)) he hl hh) fun σ H Q h => ?_
  rw [hK]
  obtain ⟨F, θ, S, env, fp, w, S', st, e, k⟩ := h
  unfold mSl at e
  obtain ⟨⟨x, S1⟩, e1, e⟩ := Option.bind_eq_some_iff.mp e
  obtain ⟨⟨l, S2⟩, e2, e⟩ := Option.bind_eq_some_iff.mp e
  obtain ⟨⟨u, S3⟩, e3, e⟩ := Option.bind_eq_some_iff.mp e
  obtain ⟨z, e4, e⟩ := Option.map_eq_some_iff.mp e
  cases e
  refine ⟨F, θ, S, env, fp, x, S1, st, e1, fun F1 θ1 H1 v f t1 st1 rv => ?_⟩
  refine ⟨F1, θ1, S1, env, fp, l, S2, st1, e2, fun F2 θ2 H2 t2 st2 => ?_⟩
  refine ⟨F2, θ2, S2, env, fp, u, _, st2, e3, fun F3 θ3 H3 t3 st3 => ?_⟩
  have t := t1.trans (t2.trans t3)
  have r3 := rv.mono (t2.trans t3)
  dsimp only at e4
  unfold gSl at e4
  split at e4
  · split at e4
    · rename_i hz
      cases e4
      exact .inl ⟨_, r3.rw.dAt, cap_ok hz, k F3 θ3 H3 _ _ t st3 (.d rfl)⟩
    · cases e4
  · cases e4
    obtain ⟨a, vs, h1, h2, h3⟩ := r3.rw.dAt
    refine .inr (.inr ⟨a, vs, h1, sub_sqL st3.sub h2, fun p hp => ?_⟩)
    obtain ⟨t4, s4⟩ := st3.new hp (.lst (cutV vs l u))
    exact k _ _ _ _ _ (t.trans t4) s4 (.newL (Rs.mono t4.le _ _ (h3.cut l u)))
  · split at e4
    · rename_i xs hT
      cases e4
      obtain ⟨a, vs, h1, h2, h3⟩ := vT_ok st3 r3 hT
      refine .inr (.inl ⟨a, vs, h1, h2, fun hw => ?_, fun _ p hp => ?_⟩)
      · have hc := h3.cut l u
        have ev : cutV vs l u = vs := by
          unfold cutV
          rw [hw.1, hw.2, List.drop_zero, Nat.sub_zero, List.take_length]
        rw [ev] at hc
        rw [← h1]
        exact k F3 θ3 H3 _ _ t st3 (.d (by
          obtain ⟨a', vs', q1, q2, q3⟩ := (show R G F3 (.tup xs) v from by
            cases x with
            | d x =>
              cases x with
              | tup ys =>
                cases hT
                exact r3.rw.dAt
              | _ => cases hT
            | _ => cases hT)
          rw [h1] at q1
          cases q1
          refine ⟨a, vs', h1, q2, ?_⟩
          have hc2 := q3.cut l u
          have ev2 : cutV vs' l u = vs' := by
            unfold cutV
            rw [show vs'.length = vs.length by rw [q3.len, h3.len], hw.1, hw.2, List.drop_zero, Nat.sub_zero, ← q3.len.trans h3.len.symm, List.take_length]
          rw [ev2] at hc2
          exact hc2))
      · obtain ⟨t4, s4⟩ := st3.new hp (.tup (cutV vs l u))
        exact k _ _ _ _ _ (t.trans t4) s4 (.newT (Rs.mono t4.le _ _ (h3.cut l u)))
    · obtain ⟨xs, e5, e6⟩ := Option.map_eq_some_iff.mp e4
      cases e6
      obtain ⟨ws, e7, e8⟩ := Option.bind_eq_some_iff.mp e5
      obtain ⟨a, vs, fs, h1, h2, h3, _⟩ := vL_ok st3 r3 e7
      have q := h3.toD e8
      refine .inr (.inr ⟨a, vs, h1, SqL.of h2, fun p hp => ?_⟩)
      obtain ⟨t4, s4⟩ := st3.new hp (.lst (cutV vs l u))
      exact k _ _ _ _ _ (t.trans t4) s4 (.newL (Rs.mono t4.le _ _ (q.cut l u)))
end

/-! ### displays -/
theorem RsA.d {G : Gd} {H0 : Hp} {fp : List Addr} {F : Hp} {θ : Th} {H : Hp} : ∀ {ws : List W} {xs : List D} {vs : List V}, RsA G H0 fp F θ H ws vs → asDs ws = some xs → Rs G F xs vs
  | [], _, _, h, e => by
    cases e
    exact h
  | .d x :: r, _, _, ⟨v, r', f, h1, h2, h3⟩, e => by
    obtain ⟨ys, e1, e2⟩ := Option.map_eq_some_iff.mp e
    cases e2
    exact ⟨v, r', h1, h2.rw.dAt, RsA.d h3 e1⟩
  | .r _ :: _, _, _, _, e => by cases e
  | .own _ :: _, _, _, _, e => by cases e
  | .bor _ :: _, _, _, _, e => by cases e
  | .od _ :: _, _, _, _, e => by cases e
  | .bd _ :: _, _, _, _, e => by cases e
  | .slf _ _ :: _, _, _, _, e => by cases e
  | .slb _ _ :: _, _, _, _, e => by cases e
def mTup (m : MA) : ME := fun env S => (m env S).bind fun p => (asDs p.1).bind fun xs => if xs.length ≤ cap then some (.d (.tup xs), p.2) else none
def mLst (m : MA) : ME := fun env S => (m env S).bind fun p => (asDs p.1).bind fun xs => if xs.length ≤ cap then some (.d (.lst xs), p.2) else none
section
variable {X : Cx} {G : Gd} {es : List Expr} {ms : MA} {pos : Pos}
theorem z_tup {x1} (h : PA X es (tOfA G ms)) : PE X (.Tuple es x1 pos) (tOf G (mTup ms)) := by
  refine pe_imp (pe_tup h) fun σ H Q h => ?_
  obtain ⟨F, θ, S, env, fp, w, S', st, e, k⟩ := h
  unfold mTup at e
  obtain ⟨⟨ws, S1⟩, e1, e⟩ := Option.bind_eq_some_iff.mp e
  obtain ⟨xs, e2, e⟩ := Option.bind_eq_some_iff.mp e
  split at e
  · rename_i hl
    cases e
    refine ⟨F, θ, S, env, fp, ws, _, st, e1, fun F1 θ1 H1 vs t1 st1 rs => ?_⟩
    have q := rs.d e2
    refine ⟨by rw [q.len]; exact cap_ok hl, fun p hp => ?_⟩
    obtain ⟨t4, s4⟩ := st1.new hp (.tup vs)
    exact k _ _ _ _ _ (t1.trans t4) s4 (.newT (Rs.mono t4.le _ _ q))
  · cases e
theorem z_lst (h : PA X es (tOfA G ms)) : PE X (.List es pos) (tOf G (mLst ms)) := by
  refine pe_imp (pe_lst h) fun σ H Q h => ?_
  obtain ⟨F, θ, S, env, fp, w, S', st, e, k⟩ := h
  unfold mLst at e
  obtain ⟨⟨ws, S1⟩, e1, e⟩ := Option.bind_eq_some_iff.mp e
  obtain ⟨xs, e2, e⟩ := Option.bind_eq_some_iff.mp e
  split at e
  · rename_i hl
    cases e
    refine ⟨F, θ, S, env, fp, ws, _, st, e1, fun F1 θ1 H1 vs t1 st1 rs => ?_⟩
    have q := rs.d e2
    refine ⟨by rw [q.len]; exact cap_ok hl, fun p hp => ?_⟩
    obtain ⟨t4, s4⟩ := st1.new hp (.lst vs)
    exact k _ _ _ _ _ (t1.trans t4) s4 (.newL (Rs.mono t4.le _ _ q))
  · cases e
/-- a starred item -/
def mStar (m : ME) (r : MA) : MA := fun env S => (m env S).bind fun p => (vSeq p.2 p.1).bind fun xs => (r env p.2).map fun q => (xs.map .d ++ q.1, q.2)
theorem RsA.ofD {H0 : Hp} {fp : List Addr} {F : Hp} {θ : Th} {H : Hp} {ws : List W} {us : List V} (h : RsA G H0 fp F θ H ws us) : ∀ {xs : List D} {vs : List V}, Rs G F xs vs → RsA G H0 fp F θ H (xs.map .d ++ ws) (vs ++ us)
  | [], _, q => by
    rw [show _ = [] from q]
    exact h
  | _ :: _, _, ⟨v, r, h1, h2, h3⟩ => ⟨v, r ++ us, [], by rw [h1]; rfl, .d h2, RsA.ofD h h3⟩
theorem z_star {e : Expr} {p : Pos} {m : ME} (he : PE X e (tOf G m)) (hr : PA X es (tOfA G ms)) (hs : starEach (.Starred e p :: es) X.env = (true, eval e X.env) :: starEach es X.env := by rfl) (hK : X.K = G.K := by rfl) :
    PA X (.Starred e p :: es) (tOfA G (mStar m ms)) := by
  refine pa_imp (StX.pa_star he hr hs) fun σ H Q h => ?_
  rw [hK]
  obtain ⟨F, θ, S, env, fp, w, S', st, e, k⟩ := h
  unfold mStar at e
  obtain ⟨⟨x, S1⟩, e1, e⟩ := Option.bind_eq_some_iff.mp e
  obtain ⟨xs, e2, e⟩ := Option.bind_eq_some_iff.mp e
  obtain ⟨⟨ws, S2⟩, e3, e4⟩ := Option.map_eq_some_iff.mp e
  cases e4
  refine ⟨F, θ, S, env, fp, x, S1, st, e1, fun F1 θ1 H1 v f t1 st1 rv => ?_⟩
  obtain ⟨a, vs, h1, h2, h3⟩ := vSeq_ok st1 rv e2
  refine ⟨a, vs, h1, h2.symm, ?_⟩
  refine ⟨F1, θ1, S1, env, fp, ws, _, st1, e3, fun F2 θ2 H2 us t2 st2 rs => ?_⟩
  exact k F2 θ2 H2 _ (t1.trans t2) st2 (.ofD (rs.earlier t1) (Rs.mono t2.le _ _ h3))
end
end Zf
set_option Elab.async false
set_option linter.all false
set_option maxRecDepth 100000
set_option maxHeartbeats 1000000
namespace Zf
open PySem L2

section
variable {G : Gd} {F F' H H' : Hp} {θ θ' : Th} (le : Le F F') (th : ∀ (n : Nat) a, θ[n]? = some a → θ'[n]? = some a)
include le th
mutual
theorem RW.move : ∀ (w : W) (v : V) (f : List Addr), (∀ a ∈ f, ∀ u, H a = some u → H' a = some u) → RW G F θ H w v f → RW G F' θ' H' w v f
  | .d x, v, f, _, ⟨h, e⟩ => ⟨R.mono le x v h, e⟩
  | .r n, v, f, _, ⟨⟨a, h1, h2⟩, e⟩ => ⟨⟨a, h1, th n a h2⟩, e⟩
  | .own xs, v, f, hf, ⟨a, vs, fs, h1, h2, h3, h4⟩ => by
    subst h4
    exact ⟨a, vs, fs, h1, hf a (List.mem_cons_self ..) _ h2, RWs.move xs vs fs (fun b hb => hf b (List.mem_cons_of_mem _ hb)) h3, rfl⟩
  | .bor xs, v, f, hf, ⟨a, vs, fs, h1, h2, h3, h4⟩ => by
    subst h4
    exact ⟨a, vs, fs, h1, hf a (List.mem_cons_self ..) _ h2, RWs.move xs vs fs (fun b hb => hf b (List.mem_cons_of_mem _ hb)) h3, rfl⟩
  | .od xs, v, f, hf, ⟨a, vs, fs, h1, h2, h3, h4⟩ => by
    subst h4
    exact ⟨a, vs, fs, h1, hf a (List.mem_cons_self ..) _ h2, RWk.move xs vs fs (fun b hb => hf b (List.mem_cons_of_mem _ hb)) h3, rfl⟩
  | .bd xs, v, f, hf, ⟨a, vs, fs, h1, h2, h3, h4⟩ => by
    subst h4
    exact ⟨a, vs, fs, h1, hf a (List.mem_cons_self ..) _ h2, RWk.move xs vs fs (fun b hb => hf b (List.mem_cons_of_mem _ hb)) h3, rfl⟩
  | .slf c xs, v, f, hf, ⟨dx, vs, h1, h2, h3, h4, h5⟩ => by
    subst h5
    exact ⟨dx, vs, h1, hf _ (by simp) _ h2, hf dx (by simp) _ h3, Rf.mono le xs vs h4, rfl⟩
  | .slb c xs, v, f, hf, ⟨dx, vs, h1, h2, h3, h4, h5⟩ => by
    subst h5
    exact ⟨dx, vs, h1, hf _ (by simp) _ h2, hf dx (by simp) _ h3, Rf.mono le xs vs h4, rfl⟩
theorem RWk.move : ∀ (ws : List (Key × W)) (vs : List (Key × V)) (f : List Addr), (∀ a ∈ f, ∀ u, H a = some u → H' a = some u) → RWk G F θ H ws vs f → RWk G F' θ' H' ws vs f
  | [], _, _, _, h => h
  | (k, x) :: xs, vs, f, hf, ⟨v, r, f1, f2, h1, h2, h3, h4⟩ => by
    subst h4
    exact ⟨v, r, f1, f2, h1, RW.move x v f1 (fun a ha => hf a (List.mem_append_left _ ha)) h2, RWk.move xs r f2 (fun a ha => hf a (List.mem_append_right _ ha)) h3, rfl⟩
theorem RWs.move : ∀ (ws : List W) (vs : List V) (f : List Addr), (∀ a ∈ f, ∀ u, H a = some u → H' a = some u) → RWs G F θ H ws vs f → RWs G F' θ' H' ws vs f
  | [], _, _, _, h => h
  | x :: xs, vs, f, hf, ⟨v, r, f1, f2, h1, h2, h3, h4⟩ => by
    subst h4
    exact ⟨v, r, f1, f2, h1, RW.move x v f1 (fun a ha => hf a (List.mem_append_left _ ha)) h2, RWs.move xs r f2 (fun a ha => hf a (List.mem_append_right _ ha)) h3, rfl⟩
end
theorem RE.move : ∀ (env : En) (σ : L2.St) (f : List Addr), (∀ a ∈ f, ∀ u, H a = some u → H' a = some u) → RE G F θ H env σ f → RE G F' θ' H' env σ f
  | [], _, _, _, h => h
  | none :: e, σ, f, hf, ⟨o, r, h1, h2⟩ => ⟨o, r, h1, RE.move e r f hf h2⟩
  | some x :: e, σ, f, hf, ⟨v, r, f1, f2, h1, h2, h3, h4⟩ => by
    subst h4
    exact ⟨v, r, f1, f2, h1, RW.move le th x v f1 (fun a ha => hf a (List.mem_append_left _ ha)) h2, RE.move e r f2 (fun a ha => hf a (List.mem_append_right _ ha)) h3, rfl⟩
end
/-- a slot apart from those ahead of it and behind -/
theorem RE.cut {G : Gd} {F : Hp} {θ : Th} {H : Hp} : ∀ {env : En} {σ : L2.St} {fp : List Addr} {i : Nat}, RE G F θ H env σ fp → i < env.length →
    ∃ (ea eb : En) (o : Option W) (sa sb : L2.St) (v : Option V) (pre old post : List Addr), env = ea ++ o :: eb ∧ σ = sa ++ v :: sb ∧ ea.length = i ∧ sa.length = i ∧ fp = pre ++ (old ++ post) ∧ RE G F θ H ea sa pre ∧ RE G F θ H eb sb post ∧
      (o = none → old = []) ∧ ∀ w, o = some w → ∃ u, v = some u ∧ RW G F θ H w u old
  | [], _, _, i, _, h => absurd h (Nat.not_lt_zero _)
  | none :: e, σ, fp, i, ⟨o, r, h1, h2⟩, hi => by
    cases i with
    | zero => exact ⟨[], e, none, [], r, o, [], [], fp, rfl, h1, rfl, rfl, rfl, ⟨rfl, rfl⟩, h2, fun _ => rfl, fun w h => by cases h⟩
    | succ i =>
      obtain ⟨ea, eb, x, sa, sb, v, pre, old, post, q1, q2, q3, q4, q5, q6, q7, q8, q9⟩ := RE.cut (i := i) h2 (Nat.lt_of_succ_lt_succ hi)
      exact ⟨none :: ea, eb, x, o :: sa, sb, v, pre, old, post, by rw [q1]; rfl, by rw [h1, q2]; rfl, by rw [List.length_cons, q3], by rw [List.length_cons, q4], q5, ⟨o, sa, rfl, q6⟩, q7, q8, q9⟩
  | some x :: e, σ, fp, i, ⟨v, r, f1, f2, h1, h2, h3, h4⟩, hi => by
    cases i with
    | zero => exact ⟨[], e, some x, [], r, some v, [], f1, f2, rfl, h1, rfl, rfl, h4, ⟨rfl, rfl⟩, h3, fun h => (by cases h), fun w h => ⟨v, rfl, Option.some.inj h ▸ h2⟩⟩
    | succ i =>
      obtain ⟨ea, eb, y, sa, sb, u, pre, old, post, q1, q2, q3, q4, q5, q6, q7, q8, q9⟩ := RE.cut (i := i) h3 (Nat.lt_of_succ_lt_succ hi)
      exact ⟨some x :: ea, eb, y, some v :: sa, sb, u, f1 ++ pre, old, post, by rw [q1]; rfl, by rw [h1, q2]; rfl, by rw [List.length_cons, q3], by rw [List.length_cons, q4], by rw [h4, q5, List.append_assoc], ⟨v, sa, f1, pre, rfl, h2, q6, rfl⟩, q7, q8, q9⟩
theorem RE.join {G : Gd} {F : Hp} {θ : Th} {H : Hp} : ∀ {ea eb : En} {sa sb : L2.St} {pre post : List Addr}, RE G F θ H ea sa pre → RE G F θ H eb sb post → RE G F θ H (ea ++ eb) (sa ++ sb) (pre ++ post)
  | [], _, _, _, _, _, h, h' => by
    rw [h.1, h.2]
    exact h'
  | none :: e, _, _, _, _, _, ⟨o, r, h1, h2⟩, h' => by
    rw [h1]
    exact ⟨o, _, rfl, RE.join h2 h'⟩
  | some x :: e, _, _, _, _, _, ⟨v, r, f1, f2, h1, h2, h3, h4⟩, h' => by
    rw [h1, h4, List.append_assoc]
    exact ⟨v, _, f1, _, rfl, h2, RE.join h3 h', rfl⟩
theorem RE.len {G : Gd} {F : Hp} {θ : Th} {H : Hp} : ∀ {env : En} {σ : L2.St} {fp : List Addr}, RE G F θ H env σ fp → σ.length = env.length
  | [], _, _, h => by
    rw [h.1]
    rfl
  | none :: e, _, _, ⟨o, r, h1, h2⟩ => by rw [h1, List.length_cons, List.length_cons, RE.len h2]
  | some x :: e, _, _, ⟨v, r, f1, f2, h1, _, h3, _⟩ => by rw [h1, List.length_cons, List.length_cons, RE.len h3]
theorem set_mid {α : Type} {a b : List α} {x y : α} {i : Nat} (h : a.length = i) : (a ++ x :: b).set i y = a ++ y :: b := by
  subst h
  simp

/-! ### statements -/
inductive Fl where
  | nx | brk | cont
  | ret (w : W)
abbrev MS := En → Store → Option (Fl × En × Store)
structure TrS (F : Hp) (θ : Th) (H : Hp) (fp : List Addr) (F' : Hp) (θ' : Th) (H' : Hp) (fp' : List Addr) : Prop where
  le : Le F F'
  th : ∃ m, θ' = θ ++ m
  newF : ∀ a, F a = none → F' a ≠ none → H a = none ∨ a ∈ fp
  newT : ∀ a, a ∈ θ' → a ∉ θ → H a = none ∨ a ∈ fp
  newP : ∀ a, a ∈ fp' → a ∈ fp ∨ H a = none
  keep : ∀ a u, a ∉ θ → a ∉ fp → H a = some u → H' a = some u
  live : ∀ a u, H a = some u → ∃ u', H' a = some u'
theorem TrS.refl (F : Hp) (θ : Th) (H : Hp) (fp : List Addr) : TrS F θ H fp F θ H fp where
  le := .refl F
  th := ⟨[], (List.append_nil θ).symm⟩
  newF := fun a h1 h2 => absurd h1 h2
  newT := fun a h1 h2 => absurd h1 h2
  newP := fun _ h => .inl h
  keep := fun _ _ _ _ h => h
  live := fun _ u h => ⟨u, h⟩
theorem Tr.toS {F F' H H' : Hp} {θ θ' : Th} (t : Tr F θ H F' θ' H') (fp : List Addr) : TrS F θ H fp F' θ' H' fp where
  le := t.le
  th := t.th
  newF := fun a h1 h2 => .inl (t.newF a h1 h2)
  newT := fun a h1 h2 => .inl (t.newT a h1 h2)
  newP := fun _ h => .inl h
  keep := fun a u h _ => t.keep a u h
  live := t.live
theorem TrS.back {F F' H H' : Hp} {θ θ' : Th} {fp fp' : List Addr} (t : TrS F θ H fp F' θ' H' fp') {a : Addr} (h : H' a = none) : H a = none := by
  cases e : H a with
  | none => rfl
  | some u =>
    obtain ⟨u', h'⟩ := t.live a u e
    rw [h] at h'
    cases h'
theorem TrS.trans {F F1 F2 H H1 H2 : Hp} {θ θ1 θ2 : Th} {fp fp1 fp2 : List Addr} (a : TrS F θ H fp F1 θ1 H1 fp1) (b : TrS F1 θ1 H1 fp1 F2 θ2 H2 fp2) : TrS F θ H fp F2 θ2 H2 fp2 where
  le := a.le.trans b.le
  th := by
    obtain ⟨m1, rfl⟩ := a.th
    obtain ⟨m2, rfl⟩ := b.th
    exact ⟨m1 ++ m2, List.append_assoc ..⟩
  newF := fun x h1 h2 => by
    cases e : F1 x with
    | none =>
      rcases b.newF x e h2 with z | z
      · exact .inl (a.back z)
      · exact (a.newP x z).symm
    | some u => exact a.newF x h1 (by rw [e]; exact fun z => by cases z)
  newT := fun x h1 h2 => by
    by_cases h : x ∈ θ1
    · exact a.newT x h h2
    · rcases b.newT x h1 h with z | z
      · exact .inl (a.back z)
      · exact (a.newP x z).symm
  newP := fun x h => by
    rcases b.newP x h with z | z
    · exact a.newP x z
    · exact .inr (a.back z)
  keep := fun x u h1 h2 h3 => by
    refine b.keep x u (fun h => ?_) (fun h => ?_) (a.keep x u h1 h2 h3)
    · rcases a.newT x h h1 with z | z
      · rw [h3] at z
        cases z
      · exact h2 z
    · rcases a.newP x h with z | z
      · exact h2 z
      · rw [h3] at z
        cases z
  live := fun x u h => by
    obtain ⟨u1, h1⟩ := a.live x u h
    exact b.live x u1 h1
/-- what a returned value is worth -/
structure Rr (G : Gd) (H : Hp) (fp : List Addr) (F' : Hp) (θ' : Th) (H' : Hp) (w : W) (v : V) (f : List Addr) : Prop where
  rw : RW G F' θ' H' w v f
  nd : f.Nodup
  ap : ∀ a ∈ f, F' a = none ∧ a ∉ θ'
  src : ∀ a ∈ f, a ∈ fp ∨ H a = none
def Ke (G : Gd) (H : Hp) (fp : List Addr) (D : Ends) (F' : Hp) (θ' : Th) (H' : Hp) (σ' : L2.St) : Fl → Prop
  | .nx => D.nx σ' H'
  | .brk => D.bk σ' H'
  | .cont => D.ct σ' H'
  | .ret w => ∀ v f, Rr G H fp F' θ' H' w v f → D.rt v H'
def tOfS (G : Gd) (m : MS) : TS := fun D σ H => ∃ F θ S env fp fl env' S', St G F θ H S env σ fp ∧ m env S = some (fl, env', S') ∧
  ∀ F' θ' H' σ' fp', TrS F θ H fp F' θ' H' fp' → St G F' θ' H' S' env' σ' fp' → Ke G H fp D F' θ' H' σ' fl
theorem Ke.earlier {G : Gd} {F0 F H0 H : Hp} {θ0 θ : Th} {fp0 fp : List Addr} {D : Ends} {F' : Hp} {θ' : Th} {H' : Hp} {σ' : L2.St} {fl : Fl} (t : TrS F0 θ0 H0 fp0 F θ H fp) (k : Ke G H0 fp0 D F' θ' H' σ' fl) : Ke G H fp D F' θ' H' σ' fl := by
  cases fl with
  | nx => exact k
  | brk => exact k
  | cont => exact k
  | ret w => exact fun v f r => k v f ⟨r.rw, r.nd, r.ap, fun a ha => by
      rcases r.src a ha with z | z
      · exact t.newP a z
      · exact .inr (t.back z)⟩
theorem ps_imp {X : Cx} {st : Stmt} {t t' : TS} (h : PS X st t) (i : ∀ D σ H, t' D σ H → t D σ H) : PS X st t' := ⟨fun pins s σ H D I q => h.run pins s σ H D I (i D σ H q)⟩
theorem pss_imp {X : Cx} {st : List Stmt} {t t' : TS} (h : PSs X st t) (i : ∀ D σ H, t' D σ H → t D σ H) : PSs X st t' := ⟨fun pins s σ H D I q => h.run pins s σ H D I (i D σ H q)⟩
def mNext : MS := fun env S => some (.nx, env, S)
def mSeq (a b : MS) : MS := fun env S => (a env S).bind fun p => match p.1 with
  | .nx => b p.2.1 p.2.2
  | fl => some (fl, p.2.1, p.2.2)
def mStuck : MS := fun _ _ => none
section
variable {X : Cx} {G : Gd} {st : Stmt} {rest : List Stmt} {ma mb : MS}
theorem zs_nil : PSs X [] (tOfS G mNext) := pss_imp pss_nil fun D σ H h => by
  obtain ⟨F, θ, S, env, fp, fl, env', S', s, e, k⟩ := h
  cases e
  exact k F θ H σ fp (.refl ..) s
theorem zs_one (h : PS X st (tOfS G ma)) : PSs X [st] (tOfS G ma) := pss_one h
theorem zs_cons (h1 : PS X st (tOfS G ma)) (h2 : PSs X rest (tOfS G mb)) : PSs X (st :: rest) (tOfS G (mSeq ma mb)) := by
  refine pss_imp (pss_cons h1 h2) fun D σ H h => ?_
  obtain ⟨F, θ, S, env, fp, fl, env', S', s, e, k⟩ := h
  unfold mSeq at e
  obtain ⟨⟨f1, en1, S1⟩, e1, e⟩ := Option.bind_eq_some_iff.mp e
  refine ⟨F, θ, S, env, fp, f1, en1, S1, s, e1, fun F1 θ1 H1 σ1 fp1 t1 s1 => ?_⟩
  cases f1 with
  | nx => exact ⟨F1, θ1, S1, en1, fp1, fl, env', S', s1, e, fun F2 θ2 H2 σ2 fp2 t2 s2 => (k F2 θ2 H2 σ2 fp2 (t1.trans t2) s2).earlier t1⟩
  | brk =>
    cases e
    exact k F1 θ1 H1 σ1 fp1 t1 s1
  | cont =>
    cases e
    exact k F1 θ1 H1 σ1 fp1 t1 s1
  | ret w =>
    cases e
    exact k F1 θ1 H1 σ1 fp1 t1 s1
theorem z_stuck : PS X st (tOfS G mStuck) := ps_imp ps_never fun D σ H h => by
  obtain ⟨F, θ, S, env, fp, fl, env', S', s, e, k⟩ := h
  cases e
/-- a step of our own ahead of a block: nothing happens in the program -/
def Ghost (G : Gd) (g : MS) : Prop := ∀ {D : Ends} {σ : L2.St} {H : Hp}, tOfS G g D σ H → D.nx σ H
theorem z_pass {pos : Pos} : PS X (.Pass pos) (tOfS G mNext) := ps_imp ps_pass fun D σ H h => by
  obtain ⟨F, θ, S, env, fp, fl, env', S', s, e, k⟩ := h
  cases e
  exact k F θ H σ fp (.refl ..) s
theorem z_doc {x : Str} {j pos pos'} : PS X (.Expr (.Constant (.str x) j pos) pos') (tOfS G mNext) := ps_imp ps_doc fun D σ H h => by
  obtain ⟨F, θ, S, env, fp, fl, env', S', s, e, k⟩ := h
  cases e
  exact k F θ H σ fp (.refl ..) s
def mBrk : MS := fun env S => some (.brk, env, S)
def mCont : MS := fun env S => some (.cont, env, S)
theorem z_break {pos : Pos} : PS X (.Break pos) (tOfS G mBrk) := ps_imp ps_break fun D σ H h => by
  obtain ⟨F, θ, S, env, fp, fl, env', S', s, e, k⟩ := h
  cases e
  exact k F θ H σ fp (.refl ..) s
theorem z_cont {pos : Pos} : PS X (.Continue pos) (tOfS G mCont) := ps_imp ps_continue fun D σ H h => by
  obtain ⟨F, θ, S, env, fp, fl, env', S', s, e, k⟩ := h
  cases e
  exact k F θ H σ fp (.refl ..) s
end
/-! ### an expression as a statement, return, if -/
def mDrop (m : ME) : MS := fun env S => (m env S).map fun p => (.nx, env, p.2)
def mRet (m : ME) : MS := fun env S => (m env S).map fun p => (.ret p.1, env, p.2)
def mIfS (c : MT) (a b : MS) : MS := fun env S => (c env S).bind fun p => if p.1 = true then a env p.2 else b env p.2
section
variable {X : Cx} {G : Gd} {e c : Expr} {m : ME} {mc : MT} {a b : List Stmt} {ma mb : MS} {pos : Pos}
theorem z_expr (he : PE X e (tOf G m)) (hs : swapsWith e none pos.line X.env = pure false := by rfl) : PS X (.Expr e pos) (tOfS G (mDrop m)) := by
  refine ps_imp (ps_expr he hs) fun D σ H h => ?_
  obtain ⟨F, θ, S, env, fp, fl, env', S', s, e, k⟩ := h
  unfold mDrop at e
  obtain ⟨⟨w, S1⟩, e1, e⟩ := Option.map_eq_some_iff.mp e
  cases e
  exact ⟨F, θ, S, env, fp, w, _, s, e1, fun F1 θ1 H1 v f t1 s1 _ => k F1 θ1 H1 σ fp (t1.toS fp) s1⟩
theorem z_ret (he : PE X e (tOf G m)) : PS X (.Return (some e) pos) (tOfS G (mRet m)) := by
  refine ps_imp (ps_ret he) fun D σ H h => ?_
  obtain ⟨F, θ, S, env, fp, fl, env', S', s, e, k⟩ := h
  unfold mRet at e
  obtain ⟨⟨w, S1⟩, e1, e⟩ := Option.map_eq_some_iff.mp e
  cases e
  exact ⟨F, θ, S, env, fp, w, _, s, e1, fun F1 θ1 H1 v f t1 s1 r => k F1 θ1 H1 σ fp (t1.toS fp) s1 v f ⟨r.rw, r.nd, r.ap, r.src⟩⟩
theorem z_retN : PS X (.Return none pos) (tOfS G (mRet (mD .non))) := ps_imp ps_retN fun D σ H h => by
  obtain ⟨F, θ, S, env, fp, fl, env', S', s, e, k⟩ := h
  cases e
  exact k F θ H σ fp (.refl ..) s .non [] ⟨⟨rfl, rfl⟩, .nil, fun _ h => absurd h (by simp), fun _ h => absurd h (by simp)⟩
theorem z_if (hc : PT X c (tOfT G mc)) (ha : PSs X a (tOfS G ma)) (hb : PSs X b (tOfS G mb)) : PS X (.If c a b pos) (tOfS G (mIfS mc ma mb)) := by
  refine ps_imp (ps_if hc ha hb) fun D σ H h => ?_
  obtain ⟨F, θ, S, env, fp, fl, env', S', s, e, k⟩ := h
  unfold mIfS at e
  obtain ⟨⟨c, S1⟩, e1, e⟩ := Option.bind_eq_some_iff.mp e
  refine ⟨F, θ, S, env, fp, c, S1, s, e1, fun F1 θ1 H1 t1 s1 => ?_⟩
  cases c with
  | true => exact ⟨F1, θ1, S1, env, fp, fl, env', S', s1, e, fun F2 θ2 H2 σ2 fp2 t2 s2 => (k F2 θ2 H2 σ2 fp2 ((t1.toS fp).trans t2) s2).earlier (t1.toS fp)⟩
  | false => exact ⟨F1, θ1, S1, env, fp, fl, env', S', s1, e, fun F2 θ2 H2 σ2 fp2 t2 s2 => (k F2 θ2 H2 σ2 fp2 ((t1.toS fp).trans t2) s2).earlier (t1.toS fp)⟩
end
/-! ### stores into slots -/
def canSet : W → Bool
  | .bor _ => false
  | .bd _ => false
  | .slf _ _ => false
  | .slb _ _ => false
  | _ => true
/-- a slot gets a value -/
theorem St.set {G : Gd} {F H0 H : Hp} {θ : Th} {S : Store} {env : En} {σ : L2.St} {fp f : List Addr} {w : W} {v : V} {i : Nat} (s : St G F θ H S env σ fp) (r : Res G H0 fp F θ H w v f) (hl : ∀ a ∈ fp, H0 a ≠ none) (hi : i < env.length) (hw : canSet w = true) :
    ∃ fp', St G F θ H S (env.set i (some w)) (σ.set i (some v)) fp' ∧ ∀ a ∈ fp', a ∈ fp ∨ H0 a = none := by
  obtain ⟨ea, eb, o, sa, sb, v0, pre, old, post, q1, q2, q3, q4, q5, q6, q7, q8, q9⟩ := RE.cut s.env hi
  have dj : ∀ a ∈ f, H0 a = none := fun a ha => by
    cases w with
    | d x =>
      rw [r.rw.2] at ha
      cases ha
    | r n =>
      rw [r.rw.2] at ha
      cases ha
    | own xs => exact r.own trivial a ha
    | od xs => exact r.own trivial a ha
    | bor xs => cases hw
    | bd xs => cases hw
    | slf _ _ => cases hw
    | slb _ _ => cases hw
  have nd := s.nd
  rw [q5] at nd
  have hf : ∀ a ∈ fp, a ∉ f := fun a h1 h2 => hl a h1 (dj a h2)
  refine ⟨pre ++ (f ++ post), ⟨s.sub, s.store, ?_, ?_, fun a ha => ?_⟩, fun a ha => ?_⟩
  · rw [q1, q2, set_mid q3, set_mid q4]
    exact RE.join q6 ⟨v, sb, f, post, rfl, r.rw, q7, rfl⟩
  · obtain ⟨n1, n2, n3⟩ := List.nodup_append.mp nd
    obtain ⟨n4, n5, n6⟩ := List.nodup_append.mp n2
    refine List.nodup_append.mpr ⟨n1, List.nodup_append.mpr ⟨r.nd, n5, fun a h1 b h2 e => ?_⟩, fun a h1 b h2 e => ?_⟩
    · subst e
      exact hf a (by rw [q5]; simp [h2]) h1
    · subst e
      rcases List.mem_append.mp h2 with h2 | h2
      · exact hf a (by rw [q5]; simp [h1]) h2
      · exact n3 a h1 a (List.mem_append_right _ h2) rfl
  · rcases List.mem_append.mp ha with ha | ha
    · exact s.apart a (by rw [q5]; simp [ha])
    · rcases List.mem_append.mp ha with ha | ha
      · exact r.ap a ha
      · exact s.apart a (by rw [q5]; simp [ha])
  · rcases List.mem_append.mp ha with ha | ha
    · exact .inl (by rw [q5]; simp [ha])
    · rcases List.mem_append.mp ha with ha | ha
      · exact .inr (dj a ha)
      · exact .inl (by rw [q5]; simp [ha])
def mSet (i : Nat) (m : ME) : MS := fun env S => (m env S).bind fun p => if i < env.length ∧ canSet p.1 = true then some (.nx, env.set i (some p.1), p.2) else none
theorem St.fpH {G : Gd} {F H : Hp} {θ : Th} {S : Store} {env : En} {σ : L2.St} {fp : List Addr} (s : St G F θ H S env σ fp) : ∀ a ∈ fp, H a ≠ none := fun a ha e => by
  obtain ⟨u, hu⟩ := RE.there env σ fp s.env a ha
  rw [hu] at e
  cases e
/-- what a slot's store reads -/
theorem tOf_set {G : Gd} {i : Nat} {m : ME} {D : Ends} {σ : L2.St} {H : Hp} (h : tOfS G (mSet i m) D σ H) : tOf G m σ H fun v H1 => D.nx (σ.set i (some v)) H1 := by
  obtain ⟨F, θ, S, env, fp, fl, env', S', s, e, k⟩ := h
  unfold mSet at e
  obtain ⟨⟨w, S1⟩, e1, e⟩ := Option.bind_eq_some_iff.mp e
  dsimp only at e
  split at e
  · rename_i hc
    cases e
    refine ⟨F, θ, S, env, fp, w, _, s, e1, fun F1 θ1 H1 v f t1 s1 r => ?_⟩
    obtain ⟨fp', s2, h2⟩ := s1.set r s.fpH hc.1 hc.2
    exact k F1 θ1 H1 _ fp' ⟨t1.le, t1.th, fun a h1 h2 => .inl (t1.newF a h1 h2), fun a h1 h2 => .inl (t1.newT a h1 h2), h2, fun a u h _ => t1.keep a u h, t1.live⟩ s2
  · cases e
section
variable {X : Cx} {G : Gd} {e : Expr} {m : ME} {pos : Pos}
theorem z_set {i : Nat} {x : Str} {pos' : Pos} (hN : X.N.Nodup) (hi : X.N[i]? = some x) (hx : Loc X.env.scope x) (he : PE X e (tOf G m)) (hs : swapsWith e (some (.Name x pos')) pos.line X.env = pure false := by rfl)
    (hf : X.fn x = true ∨ X.env.scope.names.lookup x = some .local := by first | exact .inl rfl | exact .inr rfl | assumption) : PS X (.Assign [.Name x pos'] e pos) (tOfS G (mSet i m)) :=
  ps_imp (ps_set hN hi hx he hs hf) fun D σ H h => tOf_set h
end
end Zf
set_option Elab.async false
set_option linter.all false
set_option maxRecDepth 100000
set_option maxHeartbeats 1000000
namespace Zf
open PySem L2

/-! ### what is walked -/
/-- nothing changes, something frozen may come -/
structure Grow (F H F' H' : Hp) : Prop where
  f : ∀ a u, F a = some u → F' a = some u
  h : ∀ a u, H a = some u → H' a = some u
  new : ∀ a, F a = none → F' a ≠ none → H a = none
  sub : ∀ a u, F' a = some u → H' a = some u
theorem Grow.refl {F H : Hp} (s : ∀ a u, F a = some u → H a = some u) : Grow F H F H := ⟨fun _ _ h => h, fun _ _ h => h, fun a h1 h2 => absurd h1 h2, s⟩
theorem Grow.tr {F H F' H' : Hp} (g : Grow F H F' H') (θ : Th) : Tr F θ H F' θ H' where
  le := Le.of g.f
  th := ⟨[], (List.append_nil θ).symm⟩
  newF := g.new
  newT := fun a h1 h2 => absurd h1 h2
  keep := fun a u _ h => g.h a u h
  live := fun a u h => ⟨u, g.h a u h⟩
theorem RS.move {G : Gd} {F F' H H' : Hp} {θ : Th} {S : Store} (r : RS G F θ H S) (le : Le F F') (hF : ∀ a ∈ θ, F a = none → F' a = none) (hH : ∀ a ∈ θ, ∀ u, H a = some u → H' a = some u) : RS G F' θ H' S where
  len := r.len
  nd := r.nd
  cell := fun n xs e => by
    obtain ⟨a, vs, h1, h2, h3, h4⟩ := r.cell n xs e
    exact ⟨a, vs, h1, hF a (List.mem_of_getElem? h1) h2, hH a (List.mem_of_getElem? h1) _ h3, RWs.move le (fun _ _ h => h) xs vs [] (fun _ h => absurd h (by simp)) h4⟩
theorem RS.there {G : Gd} {F H : Hp} {θ : Th} {S : Store} (r : RS G F θ H S) {a : Addr} (h : a ∈ θ) : F a = none ∧ ∃ u, H a = some u := by
  obtain ⟨n, hn, e⟩ := List.getElem_of_mem h
  have hs : n < S.length := by
    rw [← r.len]
    exact hn
  obtain ⟨b, vs, h1, h2, h3, _⟩ := r.cell n S[n] (List.getElem?_eq_getElem hs)
  rw [List.getElem?_eq_getElem hn, e] at h1
  cases h1
  exact ⟨h2, _, h3⟩
theorem St.grow {G : Gd} {F F' H H' : Hp} {θ : Th} {S : Store} {env : En} {σ : L2.St} {fp : List Addr} (s : St G F θ H S env σ fp) (g : Grow F H F' H') : St G F' θ H' S env σ fp :=
  s.step (g.tr θ) g.sub (s.store.move (Le.of g.f) (fun a ha h => by
    obtain ⟨_, u, hu⟩ := s.store.there ha
    cases e : F' a with
    | none => rfl
    | some x =>
      have z := g.new a h (by rw [e]; exact fun z => by cases z)
      rw [hu] at z
      cases z) fun a _ u h => g.h a u h)
theorem Grow.new1 {F H : Hp} (s : ∀ a u, F a = some u → H a = some u) {p : Addr} (hp : H p = none) (o : HO) : Grow F H (upd F p o) (upd H p o) := by
  have fF : F p = none := by
    cases e : F p with
    | none => rfl
    | some u =>
      rw [s p u e] at hp
      cases hp
  refine ⟨fun a u e => ?_, fun a u e => ?_, fun a h1 h2 => ?_, fun a u e => ?_⟩
  · rw [upd_ne (ne_of_none e fF)]
    exact e
  · rw [upd_ne (ne_of_none e hp)]
    exact e
  · by_cases q : a = p
    · rw [q]
      exact hp
    · rw [upd_ne q] at h2
      exact absurd h1 h2
  · by_cases q : a = p
    · rw [q, upd_same] at e ⊢
      exact e
    · rw [upd_ne q] at e ⊢
      exact s a u e
/-- an iterator J gives the data ds, one after another, as long as what is frozen stays -/
def Runs (G : Gd) (F : Hp) (J : It) (ds : List D) : Prop := ∀ (i : Nat) (F2 H2 : Hp), Le F F2 → (∀ a u, F2 a = some u → H2 a = some u) →
  (∀ d, ds[i]? = some d → J.go i H2 ∧ ∀ x H3, J.yld i H2 x H3 → ∃ F3, Grow F2 H2 F3 H3 ∧ R G F3 d x) ∧ (ds.length = i → J.stop i H2)
abbrev MI := En → Store → Option (List D × Store)
def tOfI (G : Gd) (m : MI) : TI := fun σ H R => ∃ F θ S env fp ds S', St G F θ H S env σ fp ∧ m env S = some (ds, S') ∧
  ∀ F' θ' H' J, Tr F θ H F' θ' H' → St G F' θ' H' S' env σ fp → Runs G F' J ds → R J H'
theorem pi_imp {X : Cx} {tg e : Expr} {t t' : TI} (h : PI X tg e t) (i : ∀ σ H R, t' σ H R → t σ H R) : PI X tg e t' := ⟨fun pins s σ H R I q => h.run pins s σ H R I (i σ H R q)⟩
theorem pi_or {X : Cx} {tg e : Expr} {t t' : TI} (h : PI X tg e t) (h' : PI X tg e t') : PI X tg e (fun σ H R => t σ H R ∨ t' σ H R) := ⟨fun pins s σ H R I q => q.elim (h.run pins s σ H R I) (h'.run pins s σ H R I)⟩
theorem inj_lst {G : Gd} {F : Hp} {a : Addr} {vs us : List V} (h : F a = some (.lst vs)) (h' : F a = some (.lst us)) : vs = us := by
  rw [h] at h'
  cases h'
  rfl
/-- a list or a tuple -/
def mISeq (m : ME) : MI := fun env S => (m env S).bind fun p => match p.1 with
  | .d (.lst xs) => some (xs, p.2)
  | .d (.tup xs) => some (xs, p.2)
  | _ => none
section
variable {X : Cx} {G : Gd} {tg l : Expr} {m : ME}
theorem zi_seq (h : PE X l (tOf G m)) (hK : X.K = G.K := by rfl) : PI X tg l (tOfI G (mISeq m)) := by
  refine pi_imp (pi_or (pi_list h) (pi_tup h)) fun σ H Rr q => ?_
  rw [hK]
  obtain ⟨F, θ, S, env, fp, ds, S', s, e, k⟩ := q
  unfold mISeq at e
  obtain ⟨⟨w, S1⟩, e1, e⟩ := Option.bind_eq_some_iff.mp e
  dsimp only at e
  split at e
  · cases e
    refine .inl ⟨F, θ, S, env, fp, _, _, s, e1, fun F1 θ1 H1 v f t1 s1 r => ?_⟩
    obtain ⟨a, vs, h1, h2, h3⟩ := r.rw.dAt
    refine ⟨a, h1, ⟨vs, SqL.of (s1.sub _ _ h2)⟩, k F1 θ1 H1 _ t1 s1 fun i F2 H2 le sub => ⟨fun d hd => ?_, fun hi => ?_⟩⟩
    · obtain ⟨v, e2, e3⟩ := (Rs.mono le _ _ h3).get hd
      have hl : H2 a = some (.lst vs) := sub _ _ (le.at not_dk_lst h2)
      refine ⟨⟨vs, v, SqL.of hl, e2⟩, fun x H3 y => ?_⟩
      obtain ⟨rfl, y⟩ := y
      have y1 := y vs (SqL.of hl)
      rw [e2] at y1
      cases y1
      exact ⟨F2, .refl sub, e3⟩
    · have hl : H2 a = some (.lst vs) := sub _ _ (le.at not_dk_lst h2)
      exact ⟨vs, SqL.of hl, by rw [h3.len]; omega⟩
  · cases e
    refine .inr ⟨F, θ, S, env, fp, _, _, s, e1, fun F1 θ1 H1 v f t1 s1 r => ?_⟩
    obtain ⟨a, vs, h1, h2, h3⟩ := r.rw.dAt
    refine ⟨a, h1, ⟨vs, sub_sqT s1.sub h2⟩, k F1 θ1 H1 _ t1 s1 fun i F2 H2 le sub => ⟨fun d hd => ?_, fun hi => ?_⟩⟩
    · obtain ⟨v, e2, e3⟩ := (Rs.mono le _ _ h3).get hd
      have hl : SqT G.K H2 a vs := sub_sqT sub (le.sqT h2)
      refine ⟨⟨vs, v, hl, e2⟩, fun x H3 y => ?_⟩
      obtain ⟨rfl, y⟩ := y
      have y1 := y vs hl
      rw [e2] at y1
      cases y1
      exact ⟨F2, .refl sub, e3⟩
    · exact ⟨vs, sub_sqT sub (le.sqT h2), by rw [h3.len]; omega⟩
  · cases e
end
/-- range(n), range(a, b) -/
def dRange (lo : Int) (n : Nat) : List D := (List.range n).map fun (i : Nat) => .int (lo + (i : Int))
def mIRng1 (m : MA) : MI := fun env S => (m env S).bind fun p => match p.1 with
  | [.d (.int n)] => if -1000000 < n ∧ n < 1000000 then some (dRange 0 n.toNat, p.2) else none
  | _ => none
def mIRng2 (m : MA) : MI := fun env S => (m env S).bind fun p => match p.1 with
  | [.d (.int a), .d (.int n)] => if -1000000 < a ∧ a < 1000000 ∧ n < 1000000 ∧ -1000000 < n then some (dRange a (n - a).toNat, p.2) else none
  | _ => none
section
variable {X : Cx} {G : Gd} {tg a b : Expr} {m : MA} {p pos : Pos}
theorem runs_rng {F : Hp} (lo : Int) (n : Nat) : Runs G F (Itr lo n) (dRange lo n) := fun i F2 H2 le sub => by
  unfold dRange
  refine ⟨fun d hd => ?_, fun hi => ?_⟩
  · rw [List.getElem?_map] at hd
    obtain ⟨j, e1, e2⟩ := Option.map_eq_some_iff.mp hd
    have hl : i < n := by
      have z := (List.getElem?_eq_some_iff.mp e1).1
      rw [List.length_range] at z
      exact z
    rw [List.getElem?_range hl] at e1
    cases e1
    refine ⟨hl, fun x H3 y => ?_⟩
    obtain ⟨rfl, rfl⟩ := y
    exact ⟨F2, .refl sub, by rw [← e2]; rfl⟩
  · rw [List.length_map, List.length_range] at hi
    exact Nat.le_of_eq hi
theorem zi_rng1 (hg : Gl X "range") (hm : X.mg "range" = none) (h : PA X [a] (tOfA G m)) (hs : starEach [a] X.env = [(false, eval a X.env)] := by rfl) : PI X tg (.Call (.Name "range" p) [a] [] pos) (tOfI G (mIRng1 m)) := by
  refine pi_imp (pi_range1 hg hm h hs) fun σ H Rr q => ?_
  obtain ⟨F, θ, S, env, fp, ds, S', s, e, k⟩ := q
  unfold mIRng1 at e
  obtain ⟨⟨ws, S1⟩, e1, e⟩ := Option.bind_eq_some_iff.mp e
  dsimp only at e
  split at e
  · rename_i n
    split at e
    · rename_i hn
      cases e
      refine ⟨F, θ, S, env, fp, _, _, s, e1, fun F1 θ1 H1 vs t1 s1 r => ?_⟩
      obtain ⟨v, r', f, h1, h2, h3⟩ := r
      have h3' : r' = [] := h3
      exact ⟨n, by rw [h1, h3', show v = V.int n from h2.rw.dAt], by omega, by omega, k F1 θ1 H1 _ t1 s1 (runs_rng 0 n.toNat)⟩
    · cases e
  · cases e
theorem zi_rng2 (hg : Gl X "range") (hm : X.mg "range" = none) (h : PA X [a, b] (tOfA G m)) (hs : starEach [a, b] X.env = [(false, eval a X.env), (false, eval b X.env)] := by rfl) (hs2 : starEach [b] X.env = [(false, eval b X.env)] := by rfl) :
    PI X tg (.Call (.Name "range" p) [a, b] [] pos) (tOfI G (mIRng2 m)) := by
  refine pi_imp (pi_range2 hg hm h hs hs2) fun σ H Rr q => ?_
  obtain ⟨F, θ, S, env, fp, ds, S', s, e, k⟩ := q
  unfold mIRng2 at e
  obtain ⟨⟨ws, S1⟩, e1, e⟩ := Option.bind_eq_some_iff.mp e
  dsimp only at e
  split at e
  · rename_i c n
    split at e
    · rename_i hn
      cases e
      refine ⟨F, θ, S, env, fp, _, _, s, e1, fun F1 θ1 H1 vs t1 s1 r => ?_⟩
      obtain ⟨v, r1, f, h1, h2, u, r2, f2, h3, h4, h5⟩ := r
      have h5' : r2 = [] := h5
      exact ⟨c, n, by rw [h1, h3, h5', show v = V.int c from h2.rw.dAt, show u = V.int n from h4.rw.dAt], ⟨by omega, by omega, by omega, by omega⟩, k F1 θ1 H1 _ t1 s1 (runs_rng c _)⟩
    · cases e
  · cases e
end
/-- enumerate(xs), zip(xs, ys): to several names -/
def dEnum : Nat → List D → List D
  | _, [] => []
  | n, x :: xs => .tup [.int (n : Int), x] :: dEnum (n + 1) xs
def dZip : List D → List D → List D
  | x :: xs, y :: ys => .tup [x, y] :: dZip xs ys
  | _, _ => []
theorem dEnum_get : ∀ {xs : List D} {n i : Nat} {d : D}, (dEnum n xs)[i]? = some d → ∃ x, xs[i]? = some x ∧ d = .tup [.int ((n + i : Nat) : Int), x]
  | [], _, _, _, h => by simp [dEnum] at h
  | x :: xs, n, 0, d, h => by
    have h' : D.tup [.int (n : Int), x] = d := by simpa [dEnum] using h
    exact ⟨x, rfl, h'.symm⟩
  | x :: xs, n, i + 1, d, h => by
    obtain ⟨y, h1, h2⟩ := dEnum_get (xs := xs) (n := n + 1) (i := i) (by simpa [dEnum] using h)
    exact ⟨y, by simpa using h1, by rw [h2, show n + 1 + i = n + (i + 1) by omega]⟩
theorem dEnum_len : ∀ (xs : List D) (n : Nat), (dEnum n xs).length = xs.length
  | [], _ => rfl
  | _ :: xs, n => by rw [dEnum, List.length_cons, List.length_cons, dEnum_len xs]
theorem dZip_get : ∀ {xs ys : List D} {i : Nat} {d : D}, (dZip xs ys)[i]? = some d → ∃ x y, xs[i]? = some x ∧ ys[i]? = some y ∧ d = .tup [x, y]
  | [], _, _, _, h => by simp [dZip] at h
  | _ :: _, [], _, _, h => by simp [dZip] at h
  | x :: xs, y :: ys, 0, d, h => by
    have h' : D.tup [x, y] = d := by simpa [dZip] using h
    exact ⟨x, y, rfl, rfl, h'.symm⟩
  | x :: xs, y :: ys, i + 1, d, h => by
    obtain ⟨a, b, h1, h2, h3⟩ := dZip_get (xs := xs) (ys := ys) (i := i) (by simpa [dZip] using h)
    exact ⟨a, b, by simpa using h1, by simpa using h2, h3⟩
theorem dZip_len : ∀ (xs ys : List D), (dZip xs ys).length = xs.length ∨ (dZip xs ys).length = ys.length
  | [], _ => .inl rfl
  | _ :: _, [] => .inr rfl
  | _ :: xs, _ :: ys => by
    rcases dZip_len xs ys with h | h
    · exact .inl (by rw [dZip, List.length_cons, List.length_cons, h])
    · exact .inr (by rw [dZip, List.length_cons, List.length_cons, h])
def mIEnum (m : MA) : MI := fun env S => (m env S).bind fun p => match p.1 with
  | [.d (.lst xs)] => some (dEnum 0 xs, p.2)
  | _ => none
def mIZip (m : MA) : MI := fun env S => (m env S).bind fun p => match p.1 with
  | [.d (.lst xs), .d (.lst ys)] => some (dZip xs ys, p.2)
  | _ => none
section
variable {X : Cx} {G : Gd} {e e2 : Expr} {m : MA} {p pos tpos : Pos} {elts : List Expr} {kk : Nat}
theorem runs_enum {F : Hp} {a : Addr} {xs : List D} {vs : List V} (h : F a = some (.lst vs)) (r : Rs G F xs vs) : Runs G F (Ite G.K a) (dEnum 0 xs) := fun i F2 H2 le sub => by
  have hl : H2 a = some (.lst vs) := sub _ _ (le.at not_dk_lst h)
  refine ⟨fun d hd => ?_, fun hi => ?_⟩
  · obtain ⟨x, h1, h2⟩ := dEnum_get hd
    obtain ⟨v, e2, e3⟩ := (Rs.mono le _ _ r).get h1
    refine ⟨⟨vs, v, SqL.of hl, e2⟩, fun y H3 q => ?_⟩
    obtain ⟨T, z, q1, q2, q3, q4⟩ := q
    have z1 := q4 vs (SqL.of hl)
    rw [e2] at z1
    cases z1
    subst q3
    refine ⟨_, Grow.new1 sub q2 _, ?_⟩
    rw [h2, q1]
    refine ⟨T, _, rfl, SqT.of upd_same, .int (i : Nat), [v], rfl, ?_, v, [], rfl, R.mono (Le.of (Grow.new1 sub q2 _).f) _ _ e3, rfl⟩
    rw [Nat.zero_add]
    rfl
  · exact ⟨vs, SqL.of hl, by rw [dEnum_len] at hi; rw [r.len]; omega⟩
theorem zi_enum (hg : Gl X "enumerate") (hm : X.mg "enumerate" = none) (h : PA X [e] (tOfA G m)) (hs : starEach [e] X.env = [(false, eval e X.env)] := by rfl) (hK : X.K = G.K := by rfl) :
    PI X (.Tuple elts kk tpos) (.Call (.Name "enumerate" p) [e] [] pos) (tOfI G (mIEnum m)) := by
  refine pi_imp (pi_enum hg hm h hs) fun σ H Rr q => ?_
  rw [hK]
  obtain ⟨F, θ, S, env, fp, ds, S', s, e, k⟩ := q
  unfold mIEnum at e
  obtain ⟨⟨ws, S1⟩, e1, e⟩ := Option.bind_eq_some_iff.mp e
  dsimp only at e
  split at e
  · cases e
    refine ⟨F, θ, S, env, fp, _, _, s, e1, fun F1 θ1 H1 vs t1 s1 r => ?_⟩
    obtain ⟨v, r', f, h1, h2, h3⟩ := r
    have h3' : r' = [] := h3
    obtain ⟨a, us, q1, q2, q3⟩ := h2.rw.dAt
    exact ⟨a, us, by rw [h1, h3', q1], SqL.of (s1.sub _ _ q2), k F1 θ1 H1 _ t1 s1 (runs_enum q2 q3)⟩
  · cases e
theorem runs_zip {F : Hp} {a b : Addr} {xs ys : List D} {vs us : List V} (h : F a = some (.lst vs)) (r : Rs G F xs vs) (h' : F b = some (.lst us)) (r' : Rs G F ys us) : Runs G F (Itz G.K a b) (dZip xs ys) := fun i F2 H2 le sub => by
  have hl : H2 a = some (.lst vs) := sub _ _ (le.at not_dk_lst h)
  have hl' : H2 b = some (.lst us) := sub _ _ (le.at not_dk_lst h')
  refine ⟨fun d hd => ?_, fun hi => ?_⟩
  · obtain ⟨x, y, h1, h2, h3⟩ := dZip_get hd
    obtain ⟨v, e2, e3⟩ := (Rs.mono le _ _ r).get h1
    obtain ⟨u, e4, e5⟩ := (Rs.mono le _ _ r').get h2
    refine ⟨⟨vs, us, v, u, SqL.of hl, SqL.of hl', e2, e4⟩, fun w H3 q => ?_⟩
    obtain ⟨T, x', y', q1, q2, q3, q4, q5⟩ := q
    have z1 := q4 vs (SqL.of hl)
    rw [e2] at z1
    cases z1
    have z2 := q5 us (SqL.of hl')
    rw [e4] at z2
    cases z2
    subst q3
    refine ⟨_, Grow.new1 sub q2 _, ?_⟩
    rw [h3, q1]
    exact ⟨T, _, rfl, SqT.of upd_same, v, [u], rfl, R.mono (Le.of (Grow.new1 sub q2 _).f) _ _ e3, u, [], rfl, R.mono (Le.of (Grow.new1 sub q2 _).f) _ _ e5, rfl⟩
  · refine ⟨vs, us, SqL.of hl, SqL.of hl', ?_⟩
    rcases dZip_len xs ys with z | z
    · exact .inl (by rw [r.len]; omega)
    · exact .inr (by rw [r'.len]; omega)
theorem zi_zip (hg : Gl X "zip") (hm : X.mg "zip" = none) (h : PA X [e, e2] (tOfA G m)) (hs : starEach [e, e2] X.env = (false, eval e X.env) :: starEach [e2] X.env := by rfl) (hpl : (backTo pos (starEach [e2] X.env)).any (·.1) = false := by rfl) (hK : X.K = G.K := by rfl) :
    PI X (.Tuple elts kk tpos) (.Call (.Name "zip" p) [e, e2] [] pos) (tOfI G (mIZip m)) := by
  refine pi_imp (pi_zip hg hm h hs hpl) fun σ H Rr q => ?_
  rw [hK]
  obtain ⟨F, θ, S, env, fp, ds, S', s, e, k⟩ := q
  unfold mIZip at e
  obtain ⟨⟨ws, S1⟩, e1, e⟩ := Option.bind_eq_some_iff.mp e
  dsimp only at e
  split at e
  · cases e
    refine ⟨F, θ, S, env, fp, _, _, s, e1, fun F1 θ1 H1 vs t1 s1 r => ?_⟩
    obtain ⟨v, r1, f, h1, h2, u, r2, f2, h3, h4, h5⟩ := r
    have h5' : r2 = [] := h5
    obtain ⟨a, us, q1, q2, q3⟩ := h2.rw.dAt
    obtain ⟨b, us2, q4, q5, q6⟩ := h4.rw.dAt
    exact ⟨a, b, us, us2, by rw [h1, h3, h5', q1, q4], SqL.of (s1.sub _ _ q2), SqL.of (s1.sub _ _ q5), k F1 θ1 H1 _ t1 s1 (runs_zip q2 q3 q5 q6)⟩
  · cases e
end

/-! ### targets -/
inductive Tg where
  | nm (i : Nat)
  | tup (is : List Nat)
def bindAll : List Nat → List D → En → Option En
  | [], [], env => some env
  | i :: is, x :: xs, env => if i < env.length then bindAll is xs (env.set i (some (.d x))) else none
  | _, _, _ => none
def bindT : Tg → En → D → Option En
  | .nm i, env, x => if i < env.length then some (env.set i (some (.d x))) else none
  | .tup is, env, .tup xs => bindAll is xs env
  | _, _, _ => none
def gAll : List Nat → TGs
  | [] => gNil
  | i :: is => gCons (gName i) (gAll is)
def gOf (K : PySem.W.Frag) : Tg → TG
  | .nm i => gName i
  | .tup is => gTup K is.length (gAll is)
section
variable {G : Gd} {F H : Hp} {θ : Th} {S : Store}
theorem St.setD {env : En} {σ : L2.St} {fp : List Addr} (s : St G F θ H S env σ fp) {i : Nat} {x : D} {v : V} (hi : i < env.length) (r : R G F x v) : ∃ fp', St G F θ H S (env.set i (some (.d x))) (σ.set i (some v)) fp' ∧ ∀ a ∈ fp', a ∈ fp := by
  obtain ⟨fp', h1, h2⟩ := s.set (H0 := H) (Res.d (θ' := θ) (H' := H) r) s.fpH hi rfl
  refine ⟨fp', h1, fun a ha => ?_⟩
  rcases h2 a ha with z | z
  · exact z
  · exact absurd z (h1.fpH a ha)
theorem bindAll_ok : ∀ {is : List Nat} {xs : List D} {vs : List V} {env env' : En} {σ : L2.St} {fp : List Addr} {Q : L2.St → Hp → Prop}, St G F θ H S env σ fp → Rs G F xs vs → bindAll is xs env = some env' →
    (∀ σ' fp', St G F θ H S env' σ' fp' → (∀ a ∈ fp', a ∈ fp) → Q σ' H) → gAll is vs σ H Q
  | [], [], vs, env, env', σ, fp, Q, s, r, e, k => by
    cases e
    exact ⟨r, k σ fp s fun _ h => h⟩
  | i :: is, x :: xs, vs, env, env', σ, fp, Q, s, ⟨v, r', h1, h2, h3⟩, e, k => by
    unfold bindAll at e
    split at e
    · rename_i hi
      obtain ⟨fp1, s1, h4⟩ := s.setD hi h2
      exact ⟨v, r', h1, bindAll_ok s1 h3 e fun σ' fp' s' h => k σ' fp' s' fun a ha => h4 a (h a ha)⟩
    · cases e
  | [], _ :: _, _, _, _, _, _, _, _, _, e, _ => by cases e
  | _ :: _, [], _, _, _, _, _, _, _, _, e, _ => by cases e
theorem bindT_ok {t : Tg} {x : D} {v : V} {env env' : En} {σ : L2.St} {fp : List Addr} {Q : L2.St → Hp → Prop} (s : St G F θ H S env σ fp) (r : R G F x v) (e : bindT t env x = some env')
    (k : ∀ σ' fp', St G F θ H S env' σ' fp' → (∀ a ∈ fp', a ∈ fp) → Q σ' H) : gOf G.K t v σ H Q := by
  cases t with
  | nm i =>
    have e : (if i < env.length then some (env.set i (some (W.d x))) else none) = some env' := e
    split at e
    · rename_i hi
      cases e
      obtain ⟨fp1, s1, h4⟩ := s.setD hi r
      exact k _ fp1 s1 h4
    · cases e
  | tup is =>
    cases x with
    | tup xs =>
      obtain ⟨a, vs, h1, h2, h3⟩ := r
      have hl : ∀ {is : List Nat} {xs : List D} {env : En}, bindAll is xs env = some env' → xs.length = is.length := by
        intro is
        induction is with
        | nil =>
          intro xs env e
          cases xs with
          | nil => rfl
          | cons _ _ => cases e
        | cons i is ih =>
          intro xs env e
          cases xs with
          | nil => cases e
          | cons x xs =>
            unfold bindAll at e
            split at e
            · rw [List.length_cons, List.length_cons, ih e]
            · cases e
      exact ⟨a, vs, h1, sub_sqT s.sub h2, by rw [h3.len, hl e], bindAll_ok s h3 e k⟩
    | _ => cases e
end

/-! ### for -/
def goFor (t : Tg) (body : MS) : List D → MS
  | [], env, S => some (.nx, env, S)
  | x :: xs, env, S => (bindT t env x).bind fun env1 => (body env1 S).bind fun p => match p.1 with
    | .nx => goFor t body xs p.2.1 p.2.2
    | .cont => goFor t body xs p.2.1 p.2.2
    | .brk => some (.nx, p.2.1, p.2.2)
    | .ret w => some (.ret w, p.2.1, p.2.2)
def mFor (mi : MI) (t : Tg) (body : MS) : MS := fun env S => (mi env S).bind fun p => goFor t body p.1 env p.2
theorem Grow.toS {F F' H H' : Hp} (g : Grow F H F' H') (θ : Th) (fp : List Addr) : TrS F θ H fp F' θ H' fp := (g.tr θ).toS fp
theorem TrS.fpSub {F H : Hp} {θ : Th} {fp fp' : List Addr} (h : ∀ a ∈ fp', a ∈ fp) : TrS F θ H fp F θ H fp' where
  le := .refl F
  th := ⟨[], (List.append_nil θ).symm⟩
  newF := fun a h1 h2 => absurd h1 h2
  newT := fun a h1 h2 => absurd h1 h2
  newP := fun a ha => .inl (h a ha)
  keep := fun _ _ _ _ h => h
  live := fun _ u h => ⟨u, h⟩
section
variable {X : Cx} {G : Gd} {tg iter : Expr} {body : List Stmt} {mi : MI} {t : Tg} {mb : MS} {pos : Pos}
theorem z_for (hp : PassesOwn (model X.prog X.w) X.A X.env X.xe) (hi : PI X tg iter (tOfI G mi)) (hg : PG X tg (gOf G.K t)) (hb : PSs X body (tOfS G mb)) (hc : X.calm = true := by rfl)
    (hs : ∀ x, foldedSetIterable iter X.env x = pure x := by intro _; rfl) : PS X (.For tg iter body [] pos) (tOfS G (mFor mi t mb)) := by
  refine ps_imp (ps_for hp hc hi hg hb hs) fun D σ H h => ?_
  obtain ⟨F, θ, S, env, fp, fl, envE, SE, s, e, k⟩ := h
  unfold mFor at e
  obtain ⟨⟨ds, S1⟩, e1, e⟩ := Option.bind_eq_some_iff.mp e
  refine ⟨F, θ, S, env, fp, ds, S1, s, e1, fun F1 θ1 H1 J t1 s1 run => ?_⟩
  refine ⟨fun i m σ' H' => m = ds.length - i ∧ i ≤ ds.length ∧ ∃ F' θ' fp' env' S', TrS F θ H fp F' θ' H' fp' ∧ Le F1 F' ∧ St G F' θ' H' S' env' σ' fp' ∧ goFor t mb (ds.drop i) env' S' = some (fl, envE, SE),
    ⟨ds.length, by rw [Nat.sub_zero], Nat.zero_le _, F1, θ1, fp, env, S1, t1.toS fp, .refl _, s1, e⟩, ?_⟩
  rintro i m σ' H' ⟨rfl, hi, F', θ', fp', env', S', ts, le, s', e'⟩
  have rr := run i F' H' le s'.sub
  by_cases hl : i < ds.length
  · right
    rw [List.drop_eq_getElem_cons hl] at e'
    unfold goFor at e'
    obtain ⟨env1, e2, e'⟩ := Option.bind_eq_some_iff.mp e'
    obtain ⟨⟨f1, en2, S2⟩, e3, e'⟩ := Option.bind_eq_some_iff.mp e'
    obtain ⟨go, yl⟩ := rr.1 ds[i] (List.getElem?_eq_getElem hl)
    refine ⟨go, fun σ'' H'' => ∃ m', m' < ds.length - i ∧ (m' = ds.length - (i + 1) ∧ i + 1 ≤ ds.length ∧ ∃ F' θ' fp' env' S', TrS F θ H fp F' θ' H'' fp' ∧ Le F1 F' ∧ St G F' θ' H'' S' env' σ'' fp' ∧ goFor t mb (ds.drop (i + 1)) env' S' = some (fl, envE, SE)), fun σ'' H'' q => q, fun x H3 y => ?_⟩
    obtain ⟨F3, g, rx⟩ := yl x H3 y
    have s3 := s'.grow g
    refine bindT_ok s3 rx e2 fun σ4 fp4 s4 h4 => ?_
    refine ⟨F3, θ', S', env1, fp4, f1, en2, S2, s4, e3, fun F5 θ5 H5 σ5 fp5 t5 s5 => ?_⟩
    have tt : TrS F θ H fp F5 θ5 H5 fp5 := ts.trans ((g.toS θ' fp').trans ((TrS.fpSub h4).trans t5))
    have lee : Le F1 F5 := le.trans ((Le.of g.f).trans t5.le)
    cases f1 with
    | nx => exact ⟨ds.length - (i + 1), by omega, rfl, hl, F5, θ5, fp5, en2, S2, tt, lee, s5, e'⟩
    | cont => exact ⟨ds.length - (i + 1), by omega, rfl, hl, F5, θ5, fp5, en2, S2, tt, lee, s5, e'⟩
    | brk =>
      cases e'
      exact k F5 θ5 H5 σ5 fp5 tt s5
    | ret w =>
      cases e'
      intro v f r
      exact k F5 θ5 H5 σ5 fp5 tt s5 v f ⟨r.rw, r.nd, r.ap, fun a ha => by
        rcases r.src a ha with z | z
        · exact ts.newP a (h4 a z)
        · refine .inr (ts.back ?_)
          cases q : H' a with
          | none => rfl
          | some u =>
            rw [g.h a u q] at z
            cases z⟩
  · left
    have hi' : ds.length = i := by omega
    rw [← hi', List.drop_length] at e'
    cases e'
    exact ⟨rr.2 hi', k F' θ' H' σ' fp' ts s'⟩
end
end Zf
set_option Elab.async false
set_option linter.all false
set_option maxRecDepth 100000
set_option maxHeartbeats 1000000
namespace Zf
open PySem L2

/-! ### list comprehensions -/
def wipeE (env : En) : List Nat → En
  | [] => env
  | v :: vs => (wipeE env vs).set v none
theorem wipeE_len (env : En) : ∀ vs : List Nat, (wipeE env vs).length = env.length
  | [] => rfl
  | v :: vs => by
    unfold wipeE
    rw [List.length_set, wipeE_len env vs]
theorem St.unset {G : Gd} {F H : Hp} {θ : Th} {S : Store} {env : En} {σ : L2.St} {fp : List Addr} (s : St G F θ H S env σ fp) (i : Nat) : ∃ fp', St G F θ H S (env.set i none) (σ.set i none) fp' ∧ ∀ a ∈ fp', a ∈ fp := by
  by_cases hi : i < env.length
  · obtain ⟨ea, eb, o, sa, sb, v0, pre, old, post, q1, q2, q3, q4, q5, q6, q7, q8, q9⟩ := RE.cut s.env hi
    have nd := s.nd
    rw [q5] at nd
    refine ⟨pre ++ post, ⟨s.sub, s.store, ?_, nd.sublist ((List.Sublist.refl pre).append (List.sublist_append_right ..)), fun a ha => ?_⟩, fun a ha => ?_⟩
    · rw [q1, q2, set_mid q3, set_mid q4]
      exact RE.join q6 ⟨none, sb, rfl, q7⟩
    · rcases List.mem_append.mp ha with ha | ha
      · exact s.apart a (by rw [q5]; simp [ha])
      · exact s.apart a (by rw [q5]; simp [ha])
    · rcases List.mem_append.mp ha with ha | ha
      · rw [q5]
        simp [ha]
      · rw [q5]
        simp [ha]
  · have e1 : env.set i none = env := List.set_eq_of_length_le (by omega)
    have e2 : σ.set i none = σ := List.set_eq_of_length_le (by rw [RE.len s.env]; omega)
    rw [e1, e2]
    exact ⟨fp, s, fun _ h => h⟩
theorem St.wipe {G : Gd} {F H : Hp} {θ : Th} {S : Store} {env : En} {σ : L2.St} {fp : List Addr} (s : St G F θ H S env σ fp) : ∀ vs : List Nat, ∃ fp', St G F θ H S (wipeE env vs) (L2.wipe σ vs) fp' ∧ ∀ a ∈ fp', a ∈ fp
  | [] => ⟨fp, s, fun _ h => h⟩
  | v :: vs => by
    obtain ⟨f1, s1, h1⟩ := St.wipe s vs
    obtain ⟨f2, s2, h2⟩ := s1.unset v
    exact ⟨f2, s2, fun a ha => h1 a (h2 a ha)⟩
/-- the tests of a comprehension -/
def mYes : MT := fun _ S => some (true, S)
section
variable {X : Cx} {G : Gd}
theorem z_tests0 : PTs X [] (tOfT G mYes) := ⟨fun pins s σ H Q I h => by
  refine pts_nil.run pins s σ H Q I ?_
  obtain ⟨F, θ, S, env, fp, b, S', st, e, k⟩ := h
  cases e
  exact k F θ H (Tr.refl ..) st⟩
theorem z_tests1 {c : Expr} {m : MT} (h : PT X c (tOfT G m)) : PTs X [c] (tOfT G m) := pts_one h
end
def goLc (t : Tg) (mt : MT) (me : ME) (ew : En) : List D → Store → List D → Option (List D × Store)
  | [], S, acc => some (acc, S)
  | x :: xs, S, acc => (bindT t ew x).bind fun env1 => (mt env1 S).bind fun p => if p.1 = true then
      (me env1 p.2).bind fun q => match q.1 with
        | .d y => if acc.length < cap then goLc t mt me ew xs q.2 (acc ++ [y]) else none
        | _ => none
    else goLc t mt me ew xs p.2 acc
def mLc (mi : MI) (t : Tg) (mt : MT) (me : ME) (vs : List Nat) : ME := fun env S => (mi env S).bind fun p => (goLc t mt me (wipeE env vs) p.1 p.2 []).map fun q => (.d (.lst q.1), q.2)
theorem wipe_idem {σ : L2.St} {vs : List Nat} : ∀ {i : Nat}, i ∈ vs → ∀ o, L2.wipe (σ.set i o) vs = L2.wipe σ vs := by
  induction vs with
  | nil =>
    intro i h
    cases h
  | cons v vs ih =>
    intro i h o
    unfold L2.wipe
    by_cases hv : i ∈ vs
    · rw [ih hv]
    · rcases List.mem_cons.mp h with e | h
      · subst e
        have key : ∀ {ws : List Nat} {σ : L2.St}, i ∉ ws → L2.wipe (σ.set i o) ws = (L2.wipe σ ws).set i o := by
          intro ws
          induction ws with
          | nil =>
            intro σ _
            rfl
          | cons w ws ih2 =>
            intro σ hn
            unfold L2.wipe
            rw [ih2 (fun z => hn (List.mem_cons_of_mem _ z)), List.set_comm _ _ (fun z => hn (by rw [z]; exact List.mem_cons_self ..))]
        rw [key hv, List.set_set]
      · exact absurd h hv
theorem wipe_wipe (σ : L2.St) (vs : List Nat) : L2.wipe (L2.wipe σ vs) vs = L2.wipe σ vs := by
  have key : ∀ ws : List Nat, (∀ w ∈ ws, w ∈ vs) → L2.wipe (L2.wipe σ ws) vs = L2.wipe σ vs := by
    intro ws
    induction ws with
    | nil =>
      intro _
      rfl
    | cons w ws ih =>
      intro h
      show L2.wipe ((L2.wipe σ ws).set w none) vs = _
      rw [wipe_idem (h w (List.mem_cons_self ..))]
      exact ih fun x hx => h x (List.mem_cons_of_mem _ hx)
  exact key vs fun _ h => h
/-- the slots of a target -/
def Tg.slots : Tg → List Nat
  | .nm i => [i]
  | .tup is => is
/-- the state with D hidden is moved at D -/
theorem St.hid {G : Gd} {F H : Hp} {θ : Th} {S : Store} {env : En} {σ : L2.St} {fp : List Addr} (s : St G F θ H S env σ fp) {p : Addr} (o : HO) (h1 : F p = none) (h2 : p ∉ θ) (h3 : p ∉ fp) : St G F θ (upd H p o) S env σ fp where
  sub := fun a u e => by
    rw [upd_ne (ne_of_none e h1)]
    exact s.sub a u e
  store := s.store.move (.refl F) (fun _ _ h => h) fun a ha u e => by
    rw [upd_ne (show a ≠ p from fun z => h2 (z ▸ ha))]
    exact e
  env := RE.move (.refl F) (fun _ _ h => h) env σ fp (fun a ha u e => by
    rw [upd_ne (show a ≠ p from fun z => h3 (z ▸ ha))]
    exact e) s.env
  nd := s.nd
  apart := s.apart
theorem bindAll_slots {G : Gd} {F H : Hp} {θ : Th} {S : Store} {ks : List Nat} : ∀ {is : List Nat} {xs : List D} {vs : List V} {env env' : En} {σ : L2.St} {fp : List Addr} {Q : L2.St → Hp → Prop}, (∀ i ∈ is, i ∈ ks) → St G F θ H S env σ fp → Rs G F xs vs → bindAll is xs env = some env' →
    (∀ σ' fp', St G F θ H S env' σ' fp' → (∀ a ∈ fp', a ∈ fp) → L2.wipe σ' ks = L2.wipe σ ks → Q σ' H) → gAll is vs σ H Q
  | [], [], vs, env, env', σ, fp, Q, hk, s, r, e, k => by
    cases e
    exact ⟨r, k σ fp s (fun _ h => h) rfl⟩
  | i :: is, x :: xs, vs, env, env', σ, fp, Q, hk, s, ⟨v, r', h1, h2, h3⟩, e, k => by
    unfold bindAll at e
    split at e
    · rename_i hi
      obtain ⟨fp1, s1, h4⟩ := s.setD hi h2
      exact ⟨v, r', h1, bindAll_slots (fun j hj => hk j (List.mem_cons_of_mem _ hj)) s1 h3 e fun σ' fp' s' h hw => k σ' fp' s' (fun a ha => h4 a (h a ha)) (hw.trans (wipe_idem (hk i (List.mem_cons_self ..)) _))⟩
    · cases e
  | [], _ :: _, _, _, _, _, _, _, _, _, _, e, _ => by cases e
  | _ :: _, [], _, _, _, _, _, _, _, _, _, e, _ => by cases e
theorem bindT_slots {G : Gd} {F H : Hp} {θ : Th} {S : Store} {t : Tg} {ks : List Nat} {x : D} {v : V} {env env' : En} {σ : L2.St} {fp : List Addr} {Q : L2.St → Hp → Prop} (hk : ∀ i ∈ t.slots, i ∈ ks) (s : St G F θ H S env σ fp) (r : R G F x v) (e : bindT t env x = some env')
    (k : ∀ σ' fp', St G F θ H S env' σ' fp' → (∀ a ∈ fp', a ∈ fp) → L2.wipe σ' ks = L2.wipe σ ks → Q σ' H) : gOf G.K t v σ H Q := by
  cases t with
  | nm i =>
    have e : (if i < env.length then some (env.set i (some (W.d x))) else none) = some env' := e
    split at e
    · rename_i hi
      cases e
      obtain ⟨fp1, s1, h4⟩ := s.setD hi r
      exact k _ fp1 s1 h4 (wipe_idem (hk i (List.mem_cons_self ..)) _)
    · cases e
  | tup is =>
    cases x with
    | tup xs =>
      obtain ⟨a, vs, h1, h2, h3⟩ := r
      have hl : ∀ {is : List Nat} {xs : List D} {env : En}, bindAll is xs env = some env' → xs.length = is.length := by
        intro is
        induction is with
        | nil =>
          intro xs env e
          cases xs with
          | nil => rfl
          | cons _ _ => cases e
        | cons i is ih =>
          intro xs env e
          cases xs with
          | nil => cases e
          | cons x xs =>
            unfold bindAll at e
            split at e
            · rw [List.length_cons, List.length_cons, ih e]
            · cases e
      exact ⟨a, vs, h1, sub_sqT s.sub h2, by rw [h3.len, hl e], bindAll_slots hk s h3 e k⟩
    | _ => cases e
/-- what stands between two turns -/
structure LcInv (G : Gd) (F1 : Hp) (θ1 : Th) (H1 : Hp) (ew : En) (σw : L2.St) (Da : Addr) (acc : List D) (S' : Store) (H' : Hp) : Prop where
  ex : ∃ F' θ' fpw vs, Tr F1 θ1 H1 F' θ' H' ∧ St G F' θ' H' S' ew σw fpw ∧ F' Da = none ∧ Da ∉ θ' ∧ Da ∉ fpw ∧ H' Da = some (.lst vs) ∧ Rs G F' acc vs
theorem lc_reads {G : Gd} {mi : MI} {t : Tg} {mt : MT} {me : ME} {vs : List Nat} (hk : ∀ i ∈ t.slots, i ∈ vs) {σ : L2.St} {H : Hp} {Q : VK} (h : tOf G (mLc mi t mt me vs) σ H Q) : tLc (tOfI G mi) (gOf G.K t) (tOfT G mt) (tOf G me) vs σ H Q := by
  obtain ⟨F, θ, S, env, fp, w, SE, s, e, k⟩ := h
  unfold mLc at e
  obtain ⟨⟨ds, S1⟩, e1, e⟩ := Option.bind_eq_some_iff.mp e
  obtain ⟨⟨res, SE'⟩, e2, e3⟩ := Option.map_eq_some_iff.mp e
  cases e3
  refine ⟨F, θ, S, env, fp, ds, S1, s, e1, fun F1 θ1 H1 J t1 s1 run Da hD => ?_⟩
  obtain ⟨fpw, sw, hw⟩ := s1.wipe vs
  have fD : F1 Da = none := by
    cases q : F1 Da with
    | none => rfl
    | some u =>
      rw [s1.sub Da u q] at hD
      cases hD
  have tD : Da ∉ θ1 := fun z => by
    obtain ⟨_, u, hu⟩ := s1.store.there z
    rw [hD] at hu
    cases hu
  have pD : Da ∉ fpw := fun z => sw.fpH Da z hD
  refine ⟨fun i m H' => m = ds.length - i ∧ i ≤ ds.length ∧ ∃ acc S' F' θ' fpw us, Tr F1 θ1 H1 F' θ' H' ∧ St G F' θ' H' S' (wipeE env vs) (L2.wipe σ vs) fpw ∧ F' Da = none ∧ Da ∉ θ' ∧ Da ∉ fpw ∧ H' Da = some (.lst us) ∧ Rs G F' acc us ∧
      goLc t mt me (wipeE env vs) (ds.drop i) S' acc = some (res, SE'), ?_, ?_⟩
  · have tn : Tr F1 θ1 H1 F1 θ1 (upd H1 Da (.lst [])) := ⟨.refl F1, ⟨[], (List.append_nil θ1).symm⟩, fun a h1 h2 => absurd h1 h2, fun a h1 h2 => absurd h1 h2, fun a u _ e => by
      rw [upd_ne (ne_of_none e hD)]
      exact e, fun a u e => ⟨u, by rw [upd_ne (ne_of_none e hD)]; exact e⟩⟩
    exact ⟨ds.length, by rw [Nat.sub_zero], Nat.zero_le _, [], S1, F1, θ1, fpw, [], tn, sw.hid _ fD tD pD, fD, tD, pD, upd_same, rfl, e2⟩
  · rintro i m H' ⟨rfl, hi, acc, S', F', θ', fpw', us, tr, sw', fD', tD', pD', hD', rs, e4⟩
    have rr := run i F' H' tr.le sw'.sub
    by_cases hl : i < ds.length
    · right
      rw [List.drop_eq_getElem_cons hl] at e4
      unfold goLc at e4
      obtain ⟨env1, e5, e4⟩ := Option.bind_eq_some_iff.mp e4
      obtain ⟨⟨b, S2⟩, e6, e4⟩ := Option.bind_eq_some_iff.mp e4
      obtain ⟨go, yl⟩ := rr.1 ds[i] (List.getElem?_eq_getElem hl)
      refine ⟨go, fun H'' => ∃ m', m' < ds.length - i ∧ (m' = ds.length - (i + 1) ∧ i + 1 ≤ ds.length ∧ ∃ acc S' F' θ' fpw us, Tr F1 θ1 H1 F' θ' H'' ∧ St G F' θ' H'' S' (wipeE env vs) (L2.wipe σ vs) fpw ∧ F' Da = none ∧ Da ∉ θ' ∧ Da ∉ fpw ∧ H'' Da = some (.lst us) ∧ Rs G F' acc us ∧
        goLc t mt me (wipeE env vs) (ds.drop (i + 1)) S' acc = some (res, SE')), fun _ q => q, fun x H3 y => ?_⟩
      obtain ⟨F3, g, rx⟩ := yl x H3 y
      have t3 := g.tr θ'
      have s3 := sw'.grow g
      have keepD : ∀ {Fa Ha : Hp} {θa : Th}, Tr F' θ' H' Fa θa Ha → Fa Da = none ∧ Da ∉ θa ∧ Ha Da = some (.lst us) := fun {Fa Ha θa} tt => by
        refine ⟨?_, fun z => ?_, tt.keep Da _ tD' hD'⟩
        · cases q : Fa Da with
          | none => rfl
          | some u =>
            have z := tt.newF Da fD' (by rw [q]; exact fun z => by cases z)
            rw [hD'] at z
            cases z
        · have z2 := tt.newT Da z tD'
          rw [hD'] at z2
          cases z2
      refine bindT_slots hk s3 rx e5 fun σ4 fp4 s4 h4 hw4 => ?_
      refine ⟨by rw [hw4, wipe_wipe], F3, θ', S', env1, fp4, b, S2, s4, e6, fun F5 θ5 H5 t5 s5 => ?_⟩
      have tt5 := t3.trans t5
      -- the slots as they stood ahead of the turn
      have back : ∀ {F5 H5 : Hp} {θ5 : Th} {S5 : Store}, Tr F' θ' H' F5 θ5 H5 → (∀ a u, F5 a = some u → H5 a = some u) → RS G F5 θ5 H5 S5 → St G F5 θ5 H5 S5 (wipeE env vs) (L2.wipe σ vs) fpw' := fun tt sub st => sw'.step tt sub st
      cases b with
      | false =>
        obtain ⟨k1, k2, k3⟩ := keepD tt5
        exact ⟨ds.length - (i + 1), by omega, rfl, hl, acc, S2, F5, θ5, fpw', us, tr.trans tt5, back tt5 s5.sub s5.store, k1, k2, pD', k3, Rs.mono tt5.le _ _ rs, e4⟩
      | true =>
        simp only [if_true] at e4
        obtain ⟨⟨y, S6⟩, e7, e4⟩ := Option.bind_eq_some_iff.mp e4
        dsimp only at e4
        split at e4
        · split at e4
          · rename_i yd hc
            refine ⟨F5, θ5, S2, env1, fp4, _, S6, s5, e7, fun F6 θ6 H6 v f t6 s6 r6 => ?_⟩
            have tt6 := tt5.trans t6
            obtain ⟨k1, k2, k3⟩ := keepD tt6
            refine ⟨us, k3, by rw [rs.len]; exact cap_lt hc, ds.length - (i + 1), by omega, rfl, hl, _, S6, F6, θ6, fpw', _, ?_, (back tt6 s6.sub s6.store).hid _ k1 k2 pD', k1, k2, pD', upd_same, (Rs.mono tt6.le _ _ rs).app (show Rs G F6 [yd] [v] from ⟨v, [], rfl, r6.rw.dAt, rfl⟩), e4⟩
            have t16 := tr.trans tt6
            refine ⟨t16.le, t16.th, t16.newF, t16.newT, fun a u h1 h2 => ?_, fun a u h1 => ?_⟩
            · rw [upd_ne (ne_of_none h2 hD)]
              exact t16.keep a u h1 h2
            · obtain ⟨u', h'⟩ := t16.live a u h1
              exact ⟨u', by rw [upd_ne (ne_of_none h1 hD)]; exact h'⟩
          · cases e4
        · cases e4
    · left
      have hi' : ds.length = i := by omega
      rw [← hi', List.drop_length] at e4
      cases e4
      refine ⟨rr.2 hi', ?_⟩
      have tf : Tr F1 θ1 H1 (upd F' Da (.lst us)) θ' H' := by
        refine ⟨tr.le.trans (Le.of fun a u e => ?_), tr.th, fun a h1 h2 => ?_, tr.newT, tr.keep, tr.live⟩
        · rw [upd_ne (ne_of_none e fD')]
          exact e
        · by_cases q : a = Da
          · rw [q]
            exact hD
          · rw [upd_ne q] at h2
            exact tr.newF a h1 h2
      have subf : ∀ a u, upd F' Da (.lst us) a = some u → H' a = some u := fun a u e => by
        by_cases q : a = Da
        · rw [q, upd_same] at e
          rw [q, hD', ← e]
        · rw [upd_ne q] at e
          exact sw'.sub a u e
      have lef : Le F' (upd F' Da (.lst us)) := Le.of fun a u e => by
        rw [upd_ne (ne_of_none e fD')]
        exact e
      refine k _ θ' H' _ [] (t1.trans tf) (s1.step tf subf (sw'.store.move lef (fun a ha h => ?_) fun _ _ _ h => h)) (.d ⟨Da, us, rfl, upd_same, Rs.mono lef _ _ rs⟩)
      rw [upd_ne (show a ≠ Da from fun z => tD' (z ▸ ha))]
      exact h
section
variable {X : Cx} {G : Gd} {elt tg iter : Expr} {ifs : List Expr} {scope : Scope} {own : List (Str × Nat)} {pos : Pos} {mi : MI} {t : Tg} {mt : MT} {me : ME}
theorem z_lc (hN : X.N.Nodup) (hi : PI X tg iter (tOfI G mi)) (ok : BlkOk X.N X.env.scope scope own)
    (hg : ∀ (s : Shared) (H : Hp) (C : Addr) (cl : List (Str × Addr)) (fp : List Addr), PG (X.blk s H scope (PySem.compEnvC scope cl C X.env) fp) tg (gOf G.K t))
    (ht : ∀ (s : Shared) (H : Hp) (C : Addr) (cl : List (Str × Addr)) (fp : List Addr), PTs (X.blk s H scope (PySem.compEnvC scope cl C X.env) fp) ifs (tOfT G mt))
    (he : ∀ (s : Shared) (H : Hp) (C : Addr) (cl : List (Str × Addr)) (fp : List Addr), PE (X.blk s H scope (PySem.compEnvC scope cl C X.env) fp) elt (tOf G me))
    (hk : ∀ i ∈ t.slots, i ∈ own.map (·.2) := by decide) (hc : X.calm = true := by rfl) (hs : ∀ x, foldedSetIterable iter X.env x = pure x := by intro _; rfl) : PE X (.ListComp elt [⟨tg, iter, ifs, 0⟩] scope pos) (tOf G (mLc mi t mt me (own.map (·.2)))) :=
  pe_imp (pe_lc hc hN hi ok hg ht he hs) fun _ _ _ h => lc_reads hk h
/-- name = [..] on one line -/
theorem z_setLc {i : Nat} {y : Str} {py spos : Pos} (hN : X.N.Nodup) (hy : X.N[i]? = some y) (hyl : X.env.scope.names.lookup y = some .local)
    (hsw : swapsWith (.ListComp elt [⟨tg, iter, ifs, 0⟩] scope pos) (some (.Name y py)) spos.line X.env = pure true) (hi : PI X tg iter (tOfI G mi)) (ok : BlkOk X.N X.env.scope scope own)
    (hg : ∀ (s : Shared) (H : Hp) (C : Addr) (cl : List (Str × Addr)) (fp : List Addr), PG (X.blk s H scope (PySem.compEnvC scope cl C X.env) fp) tg (gOf G.K t))
    (ht : ∀ (s : Shared) (H : Hp) (C : Addr) (cl : List (Str × Addr)) (fp : List Addr), PTs (X.blk s H scope (PySem.compEnvC scope cl C X.env) fp) ifs (tOfT G mt))
    (he : ∀ (s : Shared) (H : Hp) (C : Addr) (cl : List (Str × Addr)) (fp : List Addr), PE (X.blk s H scope (PySem.compEnvC scope cl C X.env) fp) elt (tOf G me))
    (hk : ∀ i ∈ t.slots, i ∈ own.map (·.2) := by decide) (hc : X.calm = true := by rfl) (hs : ∀ x, foldedSetIterable iter X.env x = pure x := by intro _; rfl) :
    PS X (.Assign [.Name y py] (.ListComp elt [⟨tg, iter, ifs, 0⟩] scope pos) spos) (tOfS G (mSet i (mLc mi t mt me (own.map (·.2))))) :=
  ps_imp (ps_setLc hc hN hy hyl hsw hi ok hg ht he hs) fun D σ H h => lc_reads hk (tOf_set h)
end
end Zf
set_option Elab.async false
set_option linter.all false
set_option maxRecDepth 100000
set_option maxHeartbeats 1000000
namespace Zf
open PySem PySem.Spec PyProof.Rows L2

/-! ### defs -/
abbrev MF := List W → Store → Option (W × Store)
def unBor : W → W
  | .bor xs => .own xs
  | .bd xs => .od xs
  | .slb c xs => .slf c xs
  | w => w
theorem RW.unBor {G : Gd} {F : Hp} {θ : Th} {H : Hp} : ∀ {w : W} {v : V} {f : List Addr}, RW G F θ H w v f → RW G F θ H (unBor w) v f
  | .d _, _, _, h => h
  | .r _, _, _, h => h
  | .own _, _, _, h => h
  | .bor _, _, _, h => h
  | .od _, _, _, h => h
  | .bd _, _, _, h => h
  | .slf _ _, _, _, h => h
  | .slb _ _, _, _, h => h
/-- the arguments that a def takes here: data, or cells of the store -/
def isArg : W → Bool
  | .d _ => true
  | .r _ => true
  | _ => false
/-- what a def of k parameters and n slots reckons -/
def mFn (k n : Nat) (body : MS) : MF := fun as S => if as.length = k ∧ as.all isArg = true then (body (as.map some ++ List.replicate (n - k) none) S).bind fun p => match p.1 with
  | .nx => some (.d .non, p.2.2)
  | .ret w => some (unBor w, p.2.2)
  | _ => none else none
/-- a call's end -/
def CeG (G : Gd) (outer : List Env) (H : Hp) (s : Shared) (F : Hp) (θ : Th) (w : W) (S' : Store) (r : Result) (s' : Shared) : Prop := match r with
  | .ok (.ret u) => ∃ v H' F' θ' f, s'.os = s.os ∧ AllBare s'.gens ∧ Un (frs outer) [] H H' s.heap s'.heap ∧ HOk G.P G.w H' s'.heap ∧ RelV v u ∧ Tr F θ H F' θ' H' ∧ (∀ a u, F' a = some u → H' a = some u) ∧ RS G F' θ' H' S' ∧ Rr G H [] F' θ' H' w v f
  | _ => False
/-- the def at f reckons m -/
structure FnG (G : Gd) (mg : Str → Option Value) (base : Heap) (k : Nat) (f : Addr) (fd : FuncData) (ps : List Str) (m : MF) : Prop where
  len : ∀ as S r, m as S = some r → as.length = ps.length
  run : ∀ (A : Around) (outer : List Env) (s : Shared) (H : Hp) (args : Args) (us : List Value) (vs : List V) (F : Hp) (θ : Th) (S : Store) (as : List W) (w : W) (S' : Store), Room k A → A.guards = some [] → Env0 G.P G.w G.K mg base A outer s H →
    BindsTo s fd args (ps.zip us) → Vals vs us → (∀ a u, F a = some u → H a = some u) → RS G F θ H S → RWs G F θ H as vs [] → m as S = some (w, S') → codeAny (model G.P G.w) A (.call (.ref f) args) (CeG G outer H s F θ w S') s
theorem FnG.mono {G : Gd} {mg : Str → Option Value} {base : Heap} {j k : Nat} {f : Addr} {fd : FuncData} {ps : List Str} {m : MF} (F : FnG G mg base j f fd ps m) (h : j ≤ k) : FnG G mg base k f fd ps m :=
  ⟨F.len, fun A outer s H args us vs F0 θ S as w S' hr => F.run A outer s H args us vs F0 θ S as w S' (hr.mono h)⟩
theorem RE.ofArgs {G : Gd} {F : Hp} {θ : Th} {H : Hp} : ∀ {as : List W} {vs : List V} {f : List Addr} (n : Nat), RWs G F θ H as vs f → RE G F θ H (as.map some ++ List.replicate n none) (vs.map some ++ List.replicate n none) f
  | [], vs, f, n, h => by
    rw [h.1, h.2]
    show RE G F θ H (List.replicate n none) (List.replicate n none) []
    induction n with
    | zero => exact ⟨rfl, rfl⟩
    | succ n ih => exact ⟨none, _, rfl, ih⟩
  | x :: as, vs, f, n, ⟨v, r, f1, f2, h1, h2, h3, h4⟩ => by
    rw [h1]
    exact ⟨v, _, f1, f2, rfl, h2, RE.ofArgs n h3, h4⟩
/-- THE RULE for a def: its body -/
theorem fn_rule {G : Gd} {mg : Str → Option Value} {base : Heap} {k : Nat} {f : Addr} {name qual : Str} {params : Arguments} {body : List Stmt} {scope : Scope} {dvs : List V} {kws : List (Str × V)} {fd : FuncData} {N ps : List Str} {mb : MS} {m : MF}
    (D : FunD G.K name qual params body scope dvs kws f fd) (sc : FnScope N ps scope) (hm : m = mFn ps.length N.length mb)
    (hb : ∀ (cdv : Value) (A : Around) (outer : List Env) (s : Shared) (H : Hp), Room k (A.deeper (envOfC qual scope s.heap.objs.size f cdv)) → A.guards = some [] →
      PSs (cxOf CX0 G.P G.w G.K mg base N qual scope f cdv A outer s H E0).nox body (tOfS G mb)) : FnG G mg base (k + 1) f fd ps m := by
  obtain ⟨oc, od, dV, kV, doc, pm, an, cdv, ct, osl, hfd, lk, hcd, _, _⟩ := D.ex
  subst hfd
  have hlen : ∀ as S r, m as S = some r → as.length = ps.length := fun as S r e => by
    rw [hm] at e
    unfold mFn at e
    split at e
    · rename_i h
      exact h.1
    · cases e
  refine ⟨hlen, fun A outer s H args us vs F θ S as w S' hr hgd e0 hbd rv sub rs ra e => ?_⟩
  have hl0 := hlen _ _ _ e
  have hl : vs.length = ps.length := by rw [ra.len, hl0]
  have kin : G.K.In s.heap := e0.mod.kin.keeps fun b o z => (e0.bs b o z).1
  have nolim : s.heap.NoLimit := e0.mod.nolimit.keeps fun b o z => (e0.bs b o z).1
  have kinds : ∀ y ∈ ps.zip us, scope.names.lookup y.1 = some .local ∨ (scope.names.lookup y.1 = some .cell ∧ ((cellsFrom (s.heap.objs.size + 1) scope.names []).lookup y.1).isSome = true) := fun ⟨n, v⟩ hy => by
    rcases sc.par n (List.of_mem_zip hy).1 with q | q
    · exact .inl q
    · exact .inr ⟨q, PySem.W.cellsFrom_some _ _ _ (.inl q)⟩
  refine codeAny_call_function hr.depth (kin _ _ lk) rfl sc.co sc.gen rfl (PySem.W.codeRec_of kin hcd) (hbd _ _ _ _ ?_)
  refine wpAny_newFunctionEnv_cells sc.kind kinds fun env he s1 x => ?_
  subst he
  refine ⟨nolim.keeps x.toInCall.keep, codeAny_func ?_⟩
  have inv : Inv (cxOf CX0 G.P G.w G.K mg base N qual scope f cdv A outer s H E0) [] (L2.start N vs) H s1 := inv_start sc hr.hd e0 hl rv x
  rw [hm] at e
  unfold mFn at e
  split at e
  · rename_i hc
    obtain ⟨⟨fl, en, S1⟩, e1, e2⟩ := Option.bind_eq_some_iff.mp e
    have st0 : St G F θ H S (as.map some ++ List.replicate (N.length - ps.length) none) (L2.start N vs) [] := by
      refine ⟨sub, rs, ?_, .nil, fun a h => absurd h (by simp)⟩
      unfold L2.start
      rw [hl]
      exact RE.ofArgs _ ra
    let rt0 : VK := fun v H' => ∃ F' θ' f, Tr F θ H F' θ' H' ∧ (∀ a u, F' a = some u → H' a = some u) ∧ RS G F' θ' H' S' ∧ Rr G H [] F' θ' H' w v f
    refine wpAny_mono ((hb cdv A outer s H (hr.deeper _) hgd).nox.run [] s1 (L2.start N vs) H { nx := fun _ H' => rt0 .non H', rt := rt0 } inv ⟨F, θ, S, _, [], fl, en, S1, st0, e1, fun F1 θ1 H1 σ1 fp1 t1 s2 => ?_⟩) (fun fl' s' hs => ?_) fun e s' hs => hs
    · have tr : Tr F θ H F1 θ1 H1 := ⟨t1.le, t1.th, fun a h1 h2 => (t1.newF a h1 h2).elim id fun z => absurd z (by simp), fun a h1 h2 => (t1.newT a h1 h2).elim id fun z => absurd z (by simp), fun a u h => t1.keep a u h (by simp), t1.live⟩
      cases fl with
      | nx =>
        cases e2
        exact ⟨F1, θ1, [], tr, s2.sub, s2.store, ⟨⟨rfl, rfl⟩, .nil, fun _ h => absurd h (by simp), fun _ h => absurd h (by simp)⟩⟩
      | ret w0 =>
        cases e2
        exact fun v f r => ⟨F1, θ1, f, tr, s2.sub, s2.store, ⟨r.rw.unBor, r.nd, r.ap, r.src⟩⟩
      | brk => cases e2
      | cont => cases e2
    · cases fl' with
      | ret u =>
        obtain ⟨v, σ', H', J, rv', F', θ', f, t, sb, r1, r2⟩ := hs
        exact ⟨v, H', F', θ', f, J.os, J.bare, J.base, J.hok, rv', t, sb, r1, r2⟩
      | next =>
        obtain ⟨σ', H', J, F', θ', f, t, sb, r1, r2⟩ := hs
        exact ⟨.non, H', F', θ', f, J.os, J.bare, J.base, J.hok, rfl, t, sb, r1, r2⟩
      | brk =>
        obtain ⟨_, _, _, q⟩ := hs
        exact q.elim
      | cont =>
        obtain ⟨_, _, _, q⟩ := hs
        exact q.elim
  · cases e
/-! ### calls -/
def mCall (m : MF) (ms : MA) : ME := fun env S => (ms env S).bind fun p => if p.1.all isArg = true then m p.1 p.2 else none
theorem RsA.args {G : Gd} {H0 : Hp} {fp : List Addr} {F : Hp} {θ : Th} {H : Hp} : ∀ {ws : List W} {vs : List V}, RsA G H0 fp F θ H ws vs → ws.all isArg = true → RWs G F θ H ws vs []
  | [], _, h, _ => ⟨h, rfl⟩
  | w :: ws, _, ⟨v, r, f, h1, h2, h3⟩, ha => by
    rw [List.all_cons, Bool.and_eq_true] at ha
    refine ⟨v, r, [], [], h1, ?_, RsA.args h3 ha.2, rfl⟩
    cases w with
    | d x => exact ⟨h2.rw.1, rfl⟩
    | r n => exact ⟨h2.rw.1, rfl⟩
    | own _ => cases ha.1
    | bor _ => cases ha.1
    | od _ => cases ha.1
    | bd _ => cases ha.1
    | slf _ _ => cases ha.1
    | slb _ _ => cases ha.1
section
variable {X : Cx} {G : Gd} {k : Nat} {f : Addr} {fd : FuncData} {ps : List Str} {m : MF} {ms : MA} {x : Str} {p pos : Pos} {e : Expr} {es : List Expr}
theorem Inv.wish' {X : Cx} {pins : List (Addr × Obj)} {σ : L2.St} {H : Hp} {s : Shared} (I : Inv X pins σ H s) {u : Value} {Q : VK} (h : CE X.stack X.prog X.w H s Q u s) : EP X pins σ Q u s := I.after h
/-- the callee runs -/
theorem run_g {pins : List (Addr × Obj)} {σ : L2.St} {H : Hp} {s : Shared} {Q : VK} {us : List Value} {vs : List V} {F : Hp} {θ : Th} {S S' : Store} {as : List W} {w : W} {env : En} {fp : List Addr} (C : FnG G X.mg X.base k f fd ps m) (hr : Room k X.A) (hgd : X.A.guards = some []) (hb : Binds G.K fd ps [])
    (hG : X.prog = G.P ∧ X.w = G.w ∧ X.K = G.K) (I : Inv X pins σ H s) (r : Vals vs us) (st : St G F θ H S env σ fp) (ra : RWs G F θ H as vs []) (e : m as S = some (w, S'))
    (h : ∀ F' θ' H' v f, Tr F θ H F' θ' H' → St G F' θ' H' S' env σ fp → Res G H fp F' θ' H' w v f → Q v H') : wpAny (model X.prog X.w) X.A (call (.ref f) us) (EP X pins σ Q) X.xe s := by
  obtain ⟨h1, h2, h3⟩ := hG
  have hl : (us ++ []).length = ps.length := by
    rw [List.append_nil, ← r.length, ra.len]
    exact C.len _ _ _ e
  have kin : G.K.In s.heap := h3 ▸ I.kIn
  have e0 : Env0 G.P G.w G.K X.mg X.base X.A X.stack s H := by
    have z := I.env0
    rw [h1, h2, h3] at z
    exact z
  have bd := hb s us kin hl
  rw [List.append_nil] at bd
  rw [h1, h2]
  refine wpAny_call (codeAny_mono (C.run X.A X.stack s H ⟨us, []⟩ us vs F θ S as w S' hr hgd e0 bd r st.sub st.store ra e) fun rr s' hq => ?_)
  cases rr with
  | error e => exact hq.elim
  | ok fl =>
    cases fl with
    | ret u =>
      obtain ⟨v, H', F', θ', f', os, bare, un, hok, rv, t, sb, rs, rw⟩ := hq
      refine I.after ⟨v, H', os, bare, un, by rw [h1, h2]; exact hok, rv, ?_⟩
      exact h F' θ' H' v f' t (st.step t sb rs) ⟨rw.rw, rw.nd, rw.ap, fun a ha => .inr ((rw.src a ha).elim (fun z => absurd z (by simp)) id), fun _ a ha => (rw.src a ha).elim (fun z => absurd z (by simp)) id⟩
    | next => exact hq.elim
    | brk => exact hq.elim
    | cont => exact hq.elim
theorem z_call (C : FnG G X.mg X.base k f fd ps m) (hr : Room k X.A) (hgd : X.A.guards = some []) (hg : Gl X x) (hm : X.mg x = some (.ref f)) (hk : PySem.W.keepIn G.K (.ref f) = true) (hb : Binds G.K fd ps []) (ha : PA X (e :: es) (tOfA G ms))
    (hdb : (x == ("__debug__" : Str)) = false := by decide) (he : starEach (e :: es) X.env = (false, eval e X.env) :: starEach es X.env := by rfl) (hpl : (backTo pos (starEach es X.env)).any (·.1) = false := by rfl) (hG : X.prog = G.P ∧ X.w = G.w ∧ X.K = G.K := by exact ⟨rfl, rfl, rfl⟩) :
    PE X (.Call (.Name x p) (e :: es) [] pos) (tOf G (mCall m ms)) := by
  refine ⟨fun pins s σ H Q I h => ?_⟩
  obtain ⟨F, θ, S, env, fp, w, S', st, e1, q⟩ := h
  unfold mCall at e1
  obtain ⟨⟨as, S1⟩, e2, e1⟩ := Option.bind_eq_some_iff.mp e1
  dsimp only at e1
  split at e1
  · rename_i hA
    refine wpAny_Call_Name_kw (ld_glob I hg hm ?_ hdb)
    refine PySem.W.callWith_K (h₀ := X.base) I.ok.mod.kin (by rw [hG.2.2]; exact hk) (thn (ha.run pos pins s σ H (fun vs H1 => ∃ F1 θ1, Tr F θ H F1 θ1 H1 ∧ St G F1 θ1 H1 S1 env σ fp ∧ RsA G H fp F1 θ1 H1 as vs) I ⟨F, θ, S, env, fp, as, S1, st, e2, fun F1 θ1 H1 vs t1 s1 r1 => ⟨F1, θ1, t1, s1, r1⟩⟩) fun us s1 ⟨vs, H1, I1, r, F1, θ1, t1, st1, r1⟩ => ⟨I1.kIn, ?_⟩) he hpl
    exact run_g C hr hgd hb hG I1 r st1 (r1.args hA) e1 fun F2 θ2 H2 v f t2 s2 rv => q F2 θ2 H2 v f (t1.trans t2) s2 (rv.earlier t1)
  · cases e1
theorem z_call0 (C : FnG G X.mg X.base k f fd ps m) (hr : Room k X.A) (hgd : X.A.guards = some []) (hg : Gl X x) (hm : X.mg x = some (.ref f)) (hk : PySem.W.keepIn G.K (.ref f) = true) (hb : Binds G.K fd ps [])
    (hdb : (x == ("__debug__" : Str)) = false := by decide) (hG : X.prog = G.P ∧ X.w = G.w ∧ X.K = G.K := by exact ⟨rfl, rfl, rfl⟩) : PE X (.Call (.Name x p) [] [] pos) (tOf G (mCall m mNil)) := by
  refine ⟨fun pins s σ H Q I h => ?_⟩
  obtain ⟨F, θ, S, env, fp, w, S', st, e1, q⟩ := h
  have e2 : m [] S = some (w, S') := e1
  refine wpAny_Call_Name_kw (ld_glob I hg hm ?_ hdb)
  exact PySem.W.callWith_K0 I.kIn (by rw [hG.2.2]; exact hk) (run_g (as := []) (us := []) C hr hgd hb hG I .nil st ⟨rfl, rfl⟩ e2 q)
end
/-! ### the law -/
theorem ro_ints {G : Gd} {F : Hp} : ∀ ns : List Int, Rs G F (ns.map .int) (ns.map V.int)
  | [] => rfl
  | n :: ns => ⟨.int n, ns.map V.int, rfl, rfl, ro_ints ns⟩
/-- the law's call, at the heap behind the top: its def reckons True -/
theorem law_g {G : Gd} {mg mb : Str → Option Value} {k : Nat} {fa sa : Addr} {fd : FuncData} {px : Str} {m : MF} {z : Shared} {us : List Value} {ns : List Int}
    (kin : G.K.In z.heap) (hns : z.heap.Ns mainGlobals mg) (hbl : z.heap.Ns builtinsNs mb) (hbb : ∀ y : Str, y ≠ "__name__" → mb y = bootBuiltins y) (nol : z.heap.NoLimit) (hgn : z.gens = #[])
    (hs : z.heap.get? sa = some { cls := .type "list", data := .seq us.toArray }) (hi : IntsAre us ns) (hz : ns.length ≤ sizeLine) (hr : Room k callerA)
    (C : ∀ base : Heap, G.K.In base → base.Ns mainGlobals mg → FnG G mg base k fa fd [px] m) (hbind : ∀ (s : Shared) (u : Value), BindsTo s fd ⟨[u], []⟩ [(px, u)])
    (hm : ∃ S', m [.d (.ro (ns.map .int))] [] = some (.d (.bl true), S')) :
    codeAny (model G.P G.w) callerA (.call (.ref fa) ⟨[.ref sa], []⟩) (fun r t => r = .ok (.ret (.bool true)) ∧ OldK z.heap t.heap ∧ t.os = z.os ∧ AllBare t.gens) z := by
  obtain ⟨S', hm⟩ := hm
  have rv := vals_ints hi
  have hlen := hi.length
  have key : ∀ H : Hp, (∀ b, H b = none ∨ ∃ o xs, H b = some (.frz o (.lst xs))) → SqL G.K H sa (ns.map V.int) → HOk G.P G.w H z.heap → (∀ b, H b ≠ none → b = sa) → (H sa ≠ none → G.K.lookup sa = none) →
      codeAny (model G.P G.w) callerA (.call (.ref fa) ⟨[.ref sa], []⟩) (fun r t => r = .ok (.ret (.bool true)) ∧ OldK z.heap t.heap ∧ t.os = z.os ∧ AllBare t.gens) z := by
    intro H only sq hok one free
    have nd : ∀ {b : Addr} {o : Obj} {es : Array DictEntry} {n : Nat}, z.heap.get? b = some o → o.data = .dict es n → H b = none := fun {b o es n} g d => by
      cases q : H b with
      | none => rfl
      | some u =>
        have e := one b (by rw [q]; simp)
        rw [e, hs] at g
        cases g
        have d' : Data.seq us.toArray _ = Data.dict es n := d
        cases d'
    have nsT : ∀ {b : Addr} {mm : Str → Option Value}, z.heap.Ns b mm → (hidT z.heap H).Ns b mm := fun {b mm} ⟨o, es, n, g, d, r⟩ => ⟨o, es, n, hidT_get g (nd g d), d, r⟩
    have kT : G.K.In (hidT z.heap H) := fun b o lk => hidT_get (kin b o lk) (by
      cases q : H b with
      | none => rfl
      | some u =>
        have e := one b (by rw [q]; simp)
        rw [e] at lk q
        rw [free (by rw [q]; simp)] at lk
        cases lk)
    have md : Mod G.K mg (hidT z.heap H) := ⟨kT, nsT hns, ⟨mb, nsT hbl, hbb⟩, let ⟨mc, q1, q2⟩ := nol; ⟨mc, nsT q1, q2⟩⟩
    have e0 : Env0 G.P G.w G.K mg (hidT z.heap H) callerA [] z H := ⟨rfl, md, fun b o g => of_hidT g, Nat.le_of_eq (hidT_size _ _), trivial, fun b hb => absurd (show b ∈ ([] : List Addr) from hb) (by simp), hok, .of_eq hgn⟩
    refine codeAny_mono ((C _ kT (nsT hns)).run callerA [] z H ⟨[.ref sa], []⟩ [.ref sa] [.ref sa] H [] [] [.d (.ro (ns.map .int))] _ S' hr rfl e0 (hbind z (.ref sa)) (.cons rfl .nil) (fun _ _ q => q) ⟨rfl, .nil, fun n xs e => by simp at e⟩
      ⟨.ref sa, [], [], [], rfl, ⟨⟨sa, _, rfl, sq, ro_ints ns⟩, rfl⟩, ⟨rfl, rfl⟩, rfl⟩ hm) fun r t hq => ?_
    cases r with
    | error e => exact hq.elim
    | ok fl =>
      cases fl with
      | next => exact hq.elim
      | brk => exact hq.elim
      | cont => exact hq.elim
      | ret u =>
        obtain ⟨v, H', F', θ', f, os, bare, un, hok', rv', tr, sb, rs, rr⟩ := hq
        have ev : v = .bl true := rr.rw.1
        subst ev
        obtain rfl : u = Value.bool true := rv'
        refine ⟨rfl, OldK.of_keep fun b o g => ?_, os, bare⟩
        cases q : H b with
        | none => exact un.keep b o g q (fun hb => absurd (show b ∈ ([] : List Addr) from hb) (by simp)) (by simp)
        | some w =>
          rcases only b with n | ⟨ob, xs, e⟩
          · rw [q] at n
            cases n
          · obtain ⟨g1, _⟩ := hok b _ e
            obtain ⟨g2, _⟩ := hok' b _ (un.frzs b ob _ e)
            rw [g] at g1
            cases g1
            exact g2
  cases lk : G.K.lookup sa with
  | some o =>
    have g := kin sa o lk
    rw [hs] at g
    cases g
    refine key (fun _ => none) (fun _ => .inl rfl) (.inr ⟨_, us.toArray, _, lk, rfl, rfl, rfl, ?_, by simpa using rv⟩) (fun b u q => ?_) (fun b q => absurd rfl q) fun q => absurd rfl q
    · rw [List.size_toArray, hlen]
      exact hz
    · cases (show (none : Option HO) = some u from q)
  | none =>
    let fo : HO := .frz { cls := .type "list", data := .seq us.toArray } (.lst (ns.map V.int))
    have at_ : ∀ b, upd (fun _ => none) sa fo b ≠ none → b = sa := fun b q => by
      by_cases e : b = sa
      · exact e
      · rw [upd_ne e] at q
        exact absurd rfl q
    refine key (upd (fun _ => none) sa fo) (fun b => ?_) (.inl (.inr ⟨_, upd_same⟩)) (fun b u q => ?_) at_ fun _ => lk
    · by_cases e : b = sa
      · exact .inr ⟨_, _, by rw [e, upd_same]⟩
      · exact .inl (upd_ne e)
    · have e := at_ b (by rw [q]; simp)
      rw [e, upd_same] at q
      cases q
      rw [e]
      exact ⟨hs, by rw [List.length_map]; exact hz, us, _, rv, hs⟩
/-- the end over a head by facts -/
theorem walk_g {l : PySem.W.OpenLaw} {n k : Nat} {q : Program} {loose : List Str} {XP : (Str → Option Value) → Heap → Prop} {YP : World → Heap → Prop} {d : DefRec} {px : Str}
    (hn : l.most = some n) (hn2 : n ≤ sizeLine) (hdf : d.params.defaults = []) (hr : Room k callerA)
    (C : ∀ (w : World) (mg : Str → Option Value) (fa : Addr) (h : Heap), YP w h → h.Ns mainGlobals mg → mg d.name = some (.ref fa) →
      ∃ (G : Gd) (fd : FuncData) (m : MF), G.P = l.prog ∧ G.w = w ∧ G.K.In h ∧ (∀ (s : Shared) (u : Value), BindsTo s fd ⟨[u], []⟩ [(px, u)]) ∧
        (∀ ns : List Int, ns.length ≤ n → ∃ S', m [.d (.ro (ns.map .int))] [] = some (.d (.bl true), S')) ∧
        ∀ base : Heap, G.K.In base → base.Ns mainGlobals mg → FnG G mg base k fa fd [px] m) :
    PySem.W.WalkO q loose XP YP l.row.toRowW d [] (fun f vs => PySem.call f vs) := by
  refine Att.attach_call hn hdf fun w s₀ s₁ mg mb fa o pm cd doc a vs ns Gr Y ho hd hcd hmg hobj hints hlen hg => ?_
  obtain ⟨G, fd, m, e1, e2, kin, hb, hm, hC⟩ := C w mg fa _ Y Gr.T.g hmg
  rw [← e1, ← e2]
  exact law_g kin Gr.T.g Gr.T.b Gr.T.builtins Gr.T.nolimit hg hobj hints (Nat.le_trans hlen hn2) hr hC hb (hm ns hlen)
end Zf
set_option Elab.async false
set_option linter.all false
set_option maxRecDepth 100000
set_option maxHeartbeats 1000000
namespace Zf
open PySem PySem.Spec PyProof.Rows L2

/-! ### built-in calls -/
abbrev OpN := Store → List W → Option W
structure SimC (G : Gd) (r : List V → Hp → VK → Prop) (g : OpN) : Prop where
  run : ∀ {F θ H0 H S env σ fp ws vs z Q}, St G F θ H S env σ fp → RsA G H0 fp F θ H ws vs → g S ws = some z → (∀ a u, H0 a = some u → ∃ u', H a = some u') → Kt G F θ H0 H S env σ fp z Q → r vs H Q
def mCB (g : OpN) (ms : MA) : ME := fun env S => (ms env S).bind fun p => (g p.2 p.1).map fun w => (w, p.2)
theorem tOf_cb {G : Gd} {r : List V → Hp → VK → Prop} {g : OpN} {ms : MA} (s : SimC G r g) {σ : L2.St} {H : Hp} {Q : VK} (h : tOf G (mCB g ms) σ H Q) : tCB r (tOfA G ms) σ H Q := by
  obtain ⟨F, θ, S, env, fp, w, S', st, e, k⟩ := h
  unfold mCB at e
  obtain ⟨⟨ws, S1⟩, e1, e⟩ := Option.bind_eq_some_iff.mp e
  obtain ⟨z, e2, e3⟩ := Option.map_eq_some_iff.mp e
  cases e3
  exact ⟨F, θ, S, env, fp, ws, _, st, e1, fun F1 θ1 H1 vs t1 st1 rs => s.run st1 rs e2 t1.live fun F3 θ3 H3 v f t3 st3 rv => k F3 θ3 H3 v f (t1.trans t3) st3 rv⟩
theorem SimC.or {G : Gd} {r r' : List V → Hp → VK → Prop} {g g' : OpN} (h : SimC G r g) (h' : SimC G r' g') : SimC G (fun xs H Q => r xs H Q ∨ r' xs H Q) (fun S ws => (g S ws).or (g' S ws)) := by
  refine ⟨fun {F θ H0 H S env σ fp ws vs z Q} st rx e l k => ?_⟩
  cases q : g S ws with
  | some w =>
    have e' : w = z := by simpa [q] using e
    subst e'
    exact .inl (h.run st rx q l k)
  | none =>
    have e' : g' S ws = some z := by simpa [q] using e
    exact .inr (h'.run st rx e' l k)
/-- one argument -/
def g1 (g : Store → W → Option W) : OpN := fun S ws => match ws with
  | [w] => g S w
  | _ => none
theorem sim1 {G : Gd} {r : V → Hp → VK → Prop} {g : Store → W → Option W}
    (h : ∀ {F θ H0 H S env σ fp w v f z Q}, St G F θ H S env σ fp → Res G H0 fp F θ H w v f → g S w = some z → (∀ a u, H0 a = some u → ∃ u', H a = some u') → Kt G F θ H0 H S env σ fp z Q → r v H Q) :
    SimC G (fun xs H Q => ∃ x, xs = [x] ∧ r x H Q) (g1 g) := by
  refine ⟨fun {F θ H0 H S env σ fp ws vs z Q} st rx e l k => ?_⟩
  unfold g1 at e
  split at e
  · obtain ⟨v, r', f, h1, h2, h3⟩ := rx
    have h3' : r' = [] := h3
    exact ⟨v, by rw [h1, h3'], h st h2 e l k⟩
  · cases e
theorem callR_imp {X : Cx} {f : Value} {r r' : List V → Hp → VK → Prop} (h : CallR X f r) (i : ∀ xs H Q, r' xs H Q → r xs H Q) : CallR X f r' := fun pins s σ H xs us Q I rv q => h pins s σ H xs us Q I rv (i _ _ _ q)
section
variable {X : Cx} {G : Gd} {e : Expr} {es : List Expr} {ms : MA} {x : Str} {p pos : Pos} {id T : String} {r : List V → Hp → VK → Prop} {g : OpN}
theorem z_cb (hc : CallR X (.builtin id) r) (s : SimC G r g) (hg : Gl X x) (hm : X.mg x = none) (hv : bootBuiltins x = some (.builtin id)) (ha : PA X (e :: es) (tOfA G ms)) (hn : x ≠ "__name__" := by decide) (hdb : (x == ("__debug__" : Str)) = false := by decide)
    (he : starEach (e :: es) X.env = (false, eval e X.env) :: starEach es X.env := by rfl) (hpl : (backTo pos (starEach es X.env)).any (·.1) = false := by rfl) : PE X (.Call (.Name x p) (e :: es) [] pos) (tOf G (mCB g ms)) :=
  pe_imp (pe_callB hc hg hm hv ha hn hdb he hpl) fun _ _ _ h => tOf_cb s h
theorem z_ct (hc : CallR X (.type T) r) (s : SimC G r g) (hg : Gl X x) (hm : X.mg x = none) (hv : bootBuiltins x = some (.type T)) (ha : PA X (e :: es) (tOfA G ms)) (hn : x ≠ "__name__" := by decide) (hdb : (x == ("__debug__" : Str)) = false := by decide)
    (he : starEach (e :: es) X.env = (false, eval e X.env) :: starEach es X.env := by rfl) (hpl : (backTo pos (starEach es X.env)).any (·.1) = false := by rfl) : PE X (.Call (.Name x p) (e :: es) [] pos) (tOf G (mCB g ms)) :=
  pe_imp (pe_callTy hc hg hm hv ha hn hdb he hpl) fun _ _ _ h => tOf_cb s h
end
/-- len, abs, int -/
def gLen (S : Store) (w : W) : Option W := match w with
  | .d (.str z) => if z.length ≤ cap then some (.d (.int z.length)) else none
  | w => match vT w with
    | some xs => some (.d (.int xs.length))
    | none => (vL S w).map fun xs => .d (.int xs.length)
theorem sim_len {G : Gd} : SimC G (fun xs H Q => ∃ x, xs = [x] ∧ ∃ n, LenV G.K x H n ∧ Q (.int n) H) (g1 gLen) := sim1 fun {F θ H0 H S env σ fp w v f z Q} st r e l k => by
  unfold gLen at e
  split at e
  · rename_i zz
    split at e
    · rename_i hz
      cases e
      rw [show v = V.str zz from r.rw.dAt]
      exact ⟨_, ⟨cap_ok hz, rfl⟩, k F θ H _ _ (Tr.refl ..) st (.d rfl)⟩
    · cases e
  · split at e
    · rename_i xs hT
      cases e
      obtain ⟨a, vs, h1, h2, h3⟩ := vT_ok st r hT
      rw [h1]
      exact ⟨_, .inr ⟨vs, h2, rfl⟩, k F θ H _ _ (Tr.refl ..) st (.d (by rw [h3.len]; rfl))⟩
    · obtain ⟨xs, e1, e2⟩ := Option.map_eq_some_iff.mp e
      cases e2
      obtain ⟨a, vs, fs, h1, h2, h3, _⟩ := vL_ok st r e1
      rw [h1]
      exact ⟨_, .inl ⟨vs, SqL.of h2, rfl⟩, k F θ H _ _ (Tr.refl ..) st (.d (by rw [h3.len]; rfl))⟩
def gAbs (_ : Store) (w : W) : Option W := match w with
  | .d (.int i) => some (.d (.int (if i < 0 then -i else i)))
  | _ => none
theorem sim_abs {G : Gd} : SimC G (fun xs H Q => ∃ x, xs = [x] ∧ ∃ i, x = .int i ∧ Q (.int (if i < 0 then -i else i)) H) (g1 gAbs) := sim1 fun {F θ H0 H S env σ fp w v f z Q} st r e l k => by
  unfold gAbs at e
  split at e
  · cases e
    exact ⟨_, r.rw.dAt, k F θ H _ _ (Tr.refl ..) st (.d rfl)⟩
  · cases e
def gInt1 (_ : Store) (w : W) : Option W := match w with
  | .d (.int i) => some (.d (.int i))
  | .d (.bl b) => some (.d (.int (if b then 1 else 0)))
  | _ => none
theorem sim_int1 {G : Gd} : SimC G (fun xs H Q => ∃ x, xs = [x] ∧ ((∃ i, x = .int i ∧ Q (.int i) H) ∨ ∃ k, x = .bl k ∧ Q (.int (if k then 1 else 0)) H)) (g1 gInt1) := sim1 fun {F θ H0 H S env σ fp w v f z Q} st r e l k => by
  unfold gInt1 at e
  split at e
  · cases e
    exact .inl ⟨_, r.rw.dAt, k F θ H _ _ (Tr.refl ..) st (.d rfl)⟩
  · cases e
    exact .inr ⟨_, r.rw.dAt, k F θ H _ _ (Tr.refl ..) st (.d rfl)⟩
  · cases e
/-- list(xs), tuple(xs) -/
def gList (S : Store) (w : W) : Option W := (vSeq S w).map fun xs => .d (.lst xs)
theorem sim_list {G : Gd} : SimC G (fun xs H Q => ∃ x, xs = [x] ∧ ∃ p ys, x = .ref p ∧ (SqL G.K H p ys ∨ SqT G.K H p ys) ∧ ∀ l, H l = none → Q (.ref l) (upd H l (.lst ys))) (g1 gList) := sim1 fun {F θ H0 H S env σ fp w v f z Q} st r e l k => by
  unfold gList at e
  obtain ⟨xs, e1, e2⟩ := Option.map_eq_some_iff.mp e
  cases e2
  obtain ⟨a, vs, h1, h2, h3⟩ := vSeq_ok st r e1
  refine ⟨a, vs, h1, h2, fun p hp => ?_⟩
  obtain ⟨t, s⟩ := st.new hp (.lst vs)
  exact k _ _ _ _ _ t s (.newL (Rs.mono t.le _ _ h3))
def gTuple (S : Store) (w : W) : Option W := match vT w with
  | some xs => some (.d (.tup xs))
  | none => ((vL S w).bind asDs).map fun xs => .d (.tup xs)
theorem sim_tuple {G : Gd} : SimC G (fun xs H Q => ∃ x, xs = [x] ∧ ∃ p ys, x = .ref p ∧ ((SqL G.K H p ys ∧ ∀ l, H l = none → Q (.ref l) (upd H l (.tup ys))) ∨ (SqT G.K H p ys ∧ Q (.ref p) H))) (g1 gTuple) := sim1 fun {F θ H0 H S env σ fp w v f z Q} st r e l k => by
  unfold gTuple at e
  split at e
  · rename_i xs hT
    cases e
    have hw : w = .d (.tup xs) := by
      cases w with
      | d x =>
        cases x with
        | tup ys =>
          cases hT
          rfl
        | _ => cases hT
      | _ => cases hT
    subst hw
    obtain ⟨a, vs, h1, h2, h3⟩ := r.rw.dAt
    exact ⟨a, vs, h1, .inr ⟨sub_sqT st.sub h2, by rw [← h1]; exact k F θ H _ _ (Tr.refl ..) st (.d r.rw.dAt)⟩⟩
  · obtain ⟨xs, e1, e2⟩ := Option.map_eq_some_iff.mp e
    cases e2
    obtain ⟨ws, e3, e4⟩ := Option.bind_eq_some_iff.mp e1
    obtain ⟨a, vs, fs, h1, h2, h3, _⟩ := vL_ok st r e3
    refine ⟨a, vs, h1, .inl ⟨SqL.of h2, fun p hp => ?_⟩⟩
    obtain ⟨t, s⟩ := st.new hp (.tup vs)
    exact k _ _ _ _ _ t s (.newT (Rs.mono t.le _ _ (h3.toD e4)))
/-- all(xs), any(xs) -/
def asBls : List W → Option (List Bool)
  | [] => some []
  | .d (.bl b) :: r => (asBls r).map (b :: ·)
  | _ :: _ => none
theorem RWs.bls {G : Gd} {F : Hp} {θ : Th} {H : Hp} : ∀ {ws : List W} {bs : List Bool} {vs : List V} {f : List Addr}, RWs G F θ H ws vs f → asBls ws = some bs → vs = bs.map V.bl
  | [], _, _, _, h, e => by
    cases e
    exact h.1
  | w :: r, bs, _, _, ⟨v, r', f1, f2, h1, h2, h3, _⟩, e => by
    unfold asBls at e
    split at e
    · cases ‹_ = []›
    · rename_i b t hw
      cases hw
      obtain ⟨ys, e1, e2⟩ := Option.map_eq_some_iff.mp e
      cases e2
      rw [h1, show v = V.bl b from h2.1, RWs.bls h3 e1]
      rfl
    · cases e
def gAllB (S : Store) (w : W) : Option W := ((vL S w).bind asBls).map fun bs => .d (.bl (bs.all id))
theorem sim_all {G : Gd} : SimC G (fun xs H Q => ∃ x, xs = [x] ∧ ∃ (a : Addr) (bs : List Bool), x = V.ref a ∧ SqL G.K H a (bs.map V.bl) ∧ Q (.bl (bs.all id)) H) (g1 gAllB) := sim1 fun {F θ H0 H S env σ fp w v f z Q} st r e l k => by
  unfold gAllB at e
  obtain ⟨bs, e1, e2⟩ := Option.map_eq_some_iff.mp e
  cases e2
  obtain ⟨ws, e3, e4⟩ := Option.bind_eq_some_iff.mp e1
  obtain ⟨a, vs, fs, h1, h2, h3, _⟩ := vL_ok st r e3
  have q := h3.bls e4
  subst q
  exact ⟨a, bs, h1, SqL.of h2, k F θ H _ _ (Tr.refl ..) st (.d rfl)⟩
/-- sorted texts -/
def ltS (x y : Str) : Bool := decide (x.cps.toList < y.cps.toList)
def insS (x : Str) : List Str → List Str
  | [] => [x]
  | y :: ys => if ltS y x = true then y :: insS x ys else x :: y :: ys
def sortS : List Str → List Str
  | [] => []
  | x :: xs => insS x (sortS xs)
def asStrs : List D → Option (List Str)
  | [] => some []
  | .str x :: r => (asStrs r).map (x :: ·)
  | _ :: _ => none
theorem Rs.strs {G : Gd} {F : Hp} : ∀ {ds : List D} {ss : List Str} {vs : List V}, Rs G F ds vs → asStrs ds = some ss → vs = ss.map V.str
  | [], _, _, h, e => by
    cases e
    exact h
  | d :: r, ss, _, ⟨v, r', h1, h2, h3⟩, e => by
    unfold asStrs at e
    split at e
    · cases ‹_ = []›
    · rename_i b t hw
      cases hw
      obtain ⟨ys, e1, e2⟩ := Option.map_eq_some_iff.mp e
      cases e2
      rw [h1, show v = V.str b from h2, Rs.strs h3 e1]
      rfl
    · cases e
theorem Rs.ofStrs {G : Gd} {F : Hp} : ∀ ss : List Str, Rs G F (ss.map .str) (ss.map V.str)
  | [] => rfl
  | x :: ss => ⟨.str x, ss.map V.str, rfl, rfl, Rs.ofStrs ss⟩
/-- isinstance -/
def tyD (S : Store) (w : W) : Option String := match w with
  | .d .non => some "NoneType"
  | .d (.bl _) => some "bool"
  | .d (.int _) => some "int"
  | .d (.str _) => some "str"
  | .d (.lst _) => some "list"
  | .d (.tup _) => some "tuple"
  | .d (.dct _) => some "dict"
  | .own _ => some "list"
  | .bor _ => some "list"
  | .od _ => some "dict"
  | .bd _ => some "dict"
  | .r n => (S[n]?).map fun _ => "list"
  | _ => none
theorem tyD_ok {G : Gd} {F : Hp} {θ : Th} {H : Hp} {S : Store} {env : En} {σ : L2.St} {fp : List Addr} {H0 : Hp} {w : W} {v : V} {f : List Addr} {t : String} (s : St G F θ H S env σ fp) (r : Res G H0 fp F θ H w v f) (e : tyD S w = some t) : TyX G.K H v (.type t) := by
  unfold tyD at e
  split at e
  · cases e
    rw [show v = V.non from r.rw.dAt]
    exact .base .non
  · cases e
    rw [show v = V.bl _ from r.rw.dAt]
    exact .base (.bl _)
  · cases e
    rw [show v = V.int _ from r.rw.dAt]
    exact .base (.int _)
  · cases e
    rw [show v = V.str _ from r.rw.dAt]
    exact .base (.str _)
  · cases e
    obtain ⟨a, vs, h1, h2, _⟩ := r.rw.dAt
    rw [h1]
    exact .base (.lst (s.sub _ _ h2))
  · cases e
    obtain ⟨a, vs, h1, h2, _⟩ := r.rw.dAt
    rw [h1]
    rcases h2 with (h2 | ⟨o, h2⟩) | ⟨o, its, n, h2, h3, _⟩
    · exact .base (.tup (s.sub _ _ h2))
    · exact .fTuple (s.sub _ _ h2)
    · exact .kTuple h2 h3
  · cases e
    obtain ⟨a, vs, h1, h2, _⟩ := r.rw.dAt
    rw [h1]
    rcases h2 with h2 | ⟨o, h2⟩
    · exact .base (.dK (s.sub _ _ h2))
    · exact .fDict (s.sub _ _ h2)
  · cases e
    obtain ⟨a, vs, fs, h1, h2, _⟩ := r.rw
    rw [h1]
    exact .base (.lst h2)
  · cases e
    obtain ⟨a, vs, fs, h1, h2, _⟩ := r.rw
    rw [h1]
    exact .base (.lst h2)
  · cases e
    obtain ⟨a, vs, fs, h1, h2, _⟩ := r.rw
    rw [h1]
    exact .base (.dK h2)
  · cases e
    obtain ⟨a, vs, fs, h1, h2, _⟩ := r.rw
    rw [h1]
    exact .base (.dK h2)
  · obtain ⟨xs, e1, e2⟩ := Option.map_eq_some_iff.mp e
    cases e2
    obtain ⟨a, vs, h1, h2, h3, _⟩ := s.store.cell _ _ e1
    obtain ⟨⟨b, h5, h6⟩, _⟩ := r.rw
    rw [h1] at h6
    cases h6
    rw [h5]
    exact .base (.lst h3)
  · cases e
/-- the answer for two built-in types -/
def isTy (t T : String) : Bool := t == T || (t == "bool" && T == "int")
def kinds : List String := ["NoneType", "bool", "int", "str", "list", "tuple", "dict"]
def asked : List String := ["bool", "int", "str", "list", "tuple", "dict"]
theorem kit_all : ∀ t ∈ kinds, ∀ T ∈ asked, kitB t T = some (isTy t T) := by decide +kernel
theorem tyD_mem {S : Store} {w : W} {t : String} (e : tyD S w = some t) : t ∈ kinds := by
  unfold tyD at e
  split at e
  all_goals first | (cases e; done) | (cases e; decide) | skip
  obtain ⟨xs, e1, e2⟩ := Option.map_eq_some_iff.mp e
  cases e2
  decide
def mIsi (T : String) (m : ME) : ME := fun env S => (m env S).bind fun p => if asked.contains T = true then (tyD p.2 p.1).map fun t => (.d (.bl (isTy t T)), p.2) else none
def mIsi2 (T T' : String) (m : ME) : ME := fun env S => (m env S).bind fun p => if asked.contains T = true ∧ asked.contains T' = true then (tyD p.2 p.1).map fun t => (.d (.bl (isTy t T || isTy t T')), p.2) else none
section
variable {X : Cx} {G : Gd} {e : Expr} {m : ME} {p p1 p2 p3 pos : Pos} {T T' : String} {x x' : Str} {kx : ExprCtx}
theorem z_isi (hg : Gl X "isinstance") (hm : X.mg "isinstance" = none) (he : PE X e (tOf G m)) (hgT : Gl X x) (hmT : X.mg x = none) (hvT : bootBuiltins x = some (.type T)) (hn : x ≠ "__name__" := by decide) (hd : (x == ("__debug__" : Str)) = false := by decide) (hK : X.K = G.K := by rfl)
    (h1 : starEach (e :: [.Name x p1]) X.env = (false, eval e X.env) :: starEach [.Name x p1] X.env := by rfl) (h2 : (backTo pos (starEach [.Name x p1] X.env)).any (·.1) = false := by rfl) : PE X (.Call (.Name "isinstance" p) [e, .Name x p1] [] pos) (tOf G (mIsi T m)) := by
  refine pe_imp (pe_callB call_isi hg hm boot_isinstance (pa_cons he (pa_cons (pe_bltn hgT hmT hvT (v := .ty T) rfl hn hd) pa_nil) h1) (by decide) (by decide) h1 h2) fun σ H Q h => ?_
  rw [hK]
  obtain ⟨F, θ, S, env, fp, w, S', st, e, k⟩ := h
  unfold mIsi at e
  obtain ⟨⟨y, S1⟩, e1, e⟩ := Option.bind_eq_some_iff.mp e
  dsimp only at e
  split at e
  · rename_i hT
    obtain ⟨t, e2, e3⟩ := Option.map_eq_some_iff.mp e
    cases e3
    refine ⟨F, θ, S, env, fp, y, _, st, e1, fun F1 θ1 H1 v f t1 s1 r => ?_⟩
    exact ⟨v, .ty T, .type t, .type T, _, rfl, .ty T, tyD_ok s1 r e2, kit_ty (kit_all t (tyD_mem e2) T (List.contains_iff_mem.mp hT)), k F1 θ1 H1 _ _ t1 s1 (.d rfl)⟩
  · cases e
theorem z_isi2 {n : Nat} (hg : Gl X "isinstance") (hm : X.mg "isinstance" = none) (he : PE X e (tOf G m)) (hgT : Gl X x) (hmT : X.mg x = none) (hvT : bootBuiltins x = some (.type T)) (hgT' : Gl X x') (hmT' : X.mg x' = none) (hvT' : bootBuiltins x' = some (.type T'))
    (hn : x ≠ "__name__" := by decide) (hd : (x == ("__debug__" : Str)) = false := by decide) (hn' : x' ≠ "__name__" := by decide) (hd' : (x' == ("__debug__" : Str)) = false := by decide) (hK : X.K = G.K := by rfl)
    (h1 : starEach (e :: [.Tuple [.Name x p1, .Name x' p2] n p3]) X.env = (false, eval e X.env) :: starEach [.Tuple [.Name x p1, .Name x' p2] n p3] X.env := by rfl) (h2 : (backTo pos (starEach [.Tuple [.Name x p1, .Name x' p2] n p3] X.env)).any (·.1) = false := by rfl) :
    PE X (.Call (.Name "isinstance" p) [e, .Tuple [.Name x p1, .Name x' p2] n p3] [] pos) (tOf G (mIsi2 T T' m)) := by
  refine pe_imp (pe_callB call_isiT hg hm boot_isinstance (pa_cons he (pa_cons (pe_tup (pa_cons (pe_bltn hgT hmT hvT (v := .ty T) rfl hn hd) (pa_cons (pe_bltn hgT' hmT' hvT' (v := .ty T') rfl hn' hd') pa_nil))) pa_nil) h1) (by decide) (by decide) h1 h2) fun σ H Q h => ?_
  rw [hK]
  obtain ⟨F, θ, S, env, fp, w, S', st, e, k⟩ := h
  unfold mIsi2 at e
  obtain ⟨⟨y, S1⟩, e1, e⟩ := Option.bind_eq_some_iff.mp e
  dsimp only at e
  split at e
  · rename_i hT
    obtain ⟨t, e2, e3⟩ := Option.map_eq_some_iff.mp e
    cases e3
    refine ⟨F, θ, S, env, fp, y, _, st, e1, fun F1 θ1 H1 v f t1 s1 r => ?_⟩
    refine ⟨by show 2 ≤ sizeLine; decide, fun q hq => ?_⟩
    obtain ⟨t2, s2⟩ := s1.new hq (.tup [.ty T, .ty T'])
    have r2 := r.mono t2
    refine ⟨v, q, [.ty T, .ty T'], .type t, [.type T, .type T'], isTy t T || isTy t T', rfl, upd_same, .cons (.ty T) (.cons (.ty T') .nil), tyD_ok s2 r2 e2, ?_, k _ _ _ _ _ (t1.trans t2) s2 (.d rfl)⟩
    refine kitAny_cons (kit_ty (kit_all t (tyD_mem e2) T (List.contains_iff_mem.mp hT.1))) (fun hb => ?_) (fun hb => by rw [hb]; rfl)
    refine kitAny_cons (kit_ty (kit_all t (tyD_mem e2) T' (List.contains_iff_mem.mp hT.2))) (fun hb' => ?_) (fun hb' => by rw [hb, hb']; rfl)
    rw [hb, hb']
    exact kitAny_nil
  · cases e
end
end Zf
set_option Elab.async false
set_option linter.all false
set_option maxRecDepth 100000
set_option maxHeartbeats 1000000
namespace Zf
open PySem PySem.Spec PyProof.Rows L2

/-! ### the store's lists change -/
theorem St.cellSet {G : Gd} {F H : Hp} {θ : Th} {S : Store} {env : En} {σ : L2.St} {fp : List Addr} (s : St G F θ H S env σ fp) {n : Nat} {a : Addr} {ws : List W} {vs : List V} (ha : θ[n]? = some a) (r : RWs G F θ H ws vs []) :
    Tr F θ H F θ (upd H a (.lst vs)) ∧ St G F θ (upd H a (.lst vs)) (S.set n ws) env σ fp := by
  have mem : a ∈ θ := List.mem_of_getElem? ha
  obtain ⟨hF, u0, hu0⟩ := s.store.there mem
  have t : Tr F θ H F θ (upd H a (.lst vs)) := by
    refine ⟨.refl F, ⟨[], (List.append_nil θ).symm⟩, fun b h1 h2 => absurd h1 h2, fun b h1 h2 => absurd h1 h2, fun b u h e => ?_, fun b u e => ?_⟩
    · rw [upd_ne (show b ≠ a from fun z => h (z ▸ mem))]
      exact e
    · by_cases q : b = a
      · exact ⟨_, by rw [q, upd_same]⟩
      · exact ⟨u, by rw [upd_ne q]; exact e⟩
  refine ⟨t, s.step t (fun b u e => ?_) ⟨?_, s.store.nd, fun m xs e => ?_⟩⟩
  · rw [upd_ne (ne_of_none e hF)]
    exact s.sub b u e
  · rw [List.length_set]
    exact s.store.len
  · by_cases q : n = m
    · subst q
      have hn : n < S.length := by
        rw [← s.store.len]
        exact (List.getElem?_eq_some_iff.mp ha).1
      rw [List.getElem?_set_self hn] at e
      cases e
      exact ⟨a, vs, ha, hF, upd_same, RWs.mono t ws vs [] (fun _ h => absurd h (by simp)) r⟩
    · rw [List.getElem?_set_ne q] at e
      obtain ⟨b, us, h1, h2, h3, h4⟩ := s.store.cell m xs e
      have hb : b ≠ a := fun z => by
        subst z
        obtain ⟨i1, e1⟩ := List.getElem?_eq_some_iff.mp ha
        obtain ⟨i2, e2⟩ := List.getElem?_eq_some_iff.mp h1
        exact q ((List.getElem_inj s.store.nd).mp (e1.trans e2.symm))
      exact ⟨b, us, h1, h2, by rw [upd_ne hb]; exact h3, RWs.mono t xs us [] (fun _ h => absurd h (by simp)) h4⟩
theorem RWs.setAt {G : Gd} {F : Hp} {θ : Th} {H : Hp} {w : W} {v : V} (r : RW G F θ H w v []) : ∀ {ws : List W} {vs : List V} (j : Nat), RWs G F θ H ws vs [] → RWs G F θ H (ws.set j w) (vs.set j v) []
  | [], _, _, h => by
    rw [h.1]
    exact ⟨rfl, rfl⟩
  | x :: ws, _, 0, ⟨u, r', f1, f2, h1, h2, h3, h4⟩ => by
    obtain ⟨e1, e2⟩ := List.append_eq_nil_iff.mp h4.symm
    subst e1 e2
    rw [h1]
    exact ⟨v, r', [], [], rfl, r, h3, rfl⟩
  | x :: ws, _, j + 1, ⟨u, r', f1, f2, h1, h2, h3, h4⟩ => by
    obtain ⟨e1, e2⟩ := List.append_eq_nil_iff.mp h4.symm
    subst e1 e2
    rw [h1]
    exact ⟨u, _, [], [], rfl, h2, RWs.setAt r j h3, rfl⟩
theorem RWs.snoc {G : Gd} {F : Hp} {θ : Th} {H : Hp} {w : W} {v : V} {f : List Addr} (r : RW G F θ H w v f) : ∀ {ws : List W} {vs : List V} {fs : List Addr}, RWs G F θ H ws vs fs → RWs G F θ H (ws ++ [w]) (vs ++ [v]) (fs ++ f)
  | [], _, _, h => by
    rw [h.1, h.2]
    exact ⟨v, [], f, [], rfl, r, ⟨rfl, rfl⟩, by simp⟩
  | x :: ws, _, _, ⟨u, r', f1, f2, h1, h2, h3, h4⟩ => by
    rw [h1, h4]
    exact ⟨u, _, f1, f2 ++ f, rfl, h2, RWs.snoc r h3, by rw [List.append_assoc]⟩
/-- o[i] = e, o a list of the store -/
def isArgW (w : W) : Bool := isArg w
def setIx (S : Store) (o i w : W) : Option Store := match o, i with
  | .r n, .d (.int k) => (S[n]?).bind fun xs => (ixN xs.length k).bind fun j => if isArg w = true then some (S.set n (xs.set j w)) else none
  | _, _ => none
def mSetIx (mo mi me : ME) : MS := fun env S => (me env S).bind fun p => (mo env p.2).bind fun q => (mi env q.2).bind fun r => (setIx r.2 q.1 r.1 p.1).map fun S' => (.nx, env, S')
theorem arg_nil {G : Gd} {F : Hp} {θ : Th} {H : Hp} {w : W} {v : V} {f : List Addr} (h : RW G F θ H w v f) (ha : isArg w = true) : f = [] := by
  cases w with
  | d x => exact h.2
  | r n => exact h.2
  | _ => cases ha
theorem setIx_ok {G : Gd} {F H H0 : Hp} {θ : Th} {S S' : Store} {env : En} {σ : L2.St} {fp : List Addr} {o i w : W} {vo vi vw : V} {fo fi fw : List Addr} {Q : Hp → Prop} (s : St G F θ H S env σ fp) (ro : Res G H0 fp F θ H o vo fo) (ri : Res G H0 fp F θ H i vi fi) (rw_ : Res G H0 fp F θ H w vw fw)
    (e : setIx S o i w = some S') (k : ∀ H', Tr F θ H F θ H' → St G F θ H' S' env σ fp → Q H') : rSetL vo vi vw H Q := by
  unfold setIx at e
  split at e
  · rename_i n kk
    obtain ⟨xs, e1, e⟩ := Option.bind_eq_some_iff.mp e
    obtain ⟨j, e2, e⟩ := Option.bind_eq_some_iff.mp e
    split at e
    · rename_i hA
      cases e
      obtain ⟨a, vs, h1, h2, h3, h4⟩ := s.store.cell n xs e1
      obtain ⟨⟨b, h5, h6⟩, _⟩ := ro.rw
      rw [h1] at h6
      cases h6
      have ef := arg_nil rw_.rw hA
      have r1 := rw_.rw
      rw [ef] at r1
      obtain ⟨t, s2⟩ := s.cellSet h1 (RWs.setAt r1 j h4)
      exact ⟨a, vs, kk, j, h5, ri.rw.dAt, h3, by rw [h4.len]; exact e2, k _ t s2⟩
    · cases e
  · cases e
section
variable {X : Cx} {G : Gd} {o i e : Expr} {mo mi me : ME} {pos tpos : Pos}
theorem z_setIx (he : PE X e (tOf G me)) (ho : PE X o (tOf G mo)) (hi : PE X i (tOf G mi)) (hg : PG X (.Subscript o i tpos) (gSub (tOf G mo) (tOf G mi) rSetL)) (hs : swapsWithSole [.Subscript o i tpos] e pos.line X.env = pure false := by rfl) (hw : swappedStores [.Subscript o i tpos] e X.env = pure none := by rfl) :
    PS X (.Assign [.Subscript o i tpos] e pos) (tOfS G (mSetIx mo mi me)) := by
  refine ps_imp (ps_asg he hg hs hw) fun D σ H h => ?_
  obtain ⟨F, θ, S, env, fp, fl, env', S', s, e, k⟩ := h
  unfold mSetIx at e
  obtain ⟨⟨w, S1⟩, e1, e⟩ := Option.bind_eq_some_iff.mp e
  obtain ⟨⟨x, S2⟩, e2, e⟩ := Option.bind_eq_some_iff.mp e
  obtain ⟨⟨y, S3⟩, e3, e⟩ := Option.bind_eq_some_iff.mp e
  obtain ⟨S4, e4, e5⟩ := Option.map_eq_some_iff.mp e
  cases e5
  refine ⟨F, θ, S, env, fp, w, S1, s, e1, fun F1 θ1 H1 v1 f1 t1 s1 r1 => ?_⟩
  refine ⟨F1, θ1, S1, env, fp, x, S2, s1, e2, fun F2 θ2 H2 v2 f2 t2 s2 r2 => ?_⟩
  refine ⟨F2, θ2, S2, env, fp, y, S3, s2, e3, fun F3 θ3 H3 v3 f3 t3 s3 r3 => ?_⟩
  have t := t1.trans (t2.trans t3)
  exact setIx_ok s3 ((r2.mono t3).earlier t1) (r3.earlier (t1.trans t2)) (r1.mono (t2.trans t3)) e4 fun H4 t4 s4 => k F3 θ3 H4 σ fp ((t.trans t4).toS fp) s4
end
/-! ### o[i] op= e, o a list of the store -/
def rGetN (K : PySem.W.Frag) : V → V → Hp → VK → Prop := fun x y H Q => ∃ (p : Addr) (xs : List V) (i : Nat) (v : V), x = .ref p ∧ y = .int (i : Int) ∧ SqL K H p xs ∧ xs[i]? = some v ∧ Q v H
theorem pget_list {X : Cx} : PGet X (rGetN X.K) := by
  intro pins s σ H o i ov iv Q I ro ri h
  obtain ⟨p, xs, n, v, rfl, rfl, hq, he, q⟩ := h
  cases ro
  obtain ⟨t, rfl⟩ := ri
  obtain ⟨its, r, pl, hz⟩ := I.list hq
  obtain ⟨w, ew, rw'⟩ := r.get he
  have hn : n < its.length := (List.getElem?_eq_some_iff.mp ew).1
  have hl := r.length
  have hs := line63
  refine wpAny_getItem_list pl.isList (by omega) (by omega) (by simpa using ew) ⟨v, H, I, rw', q⟩
def mAugIx (f : Int → Int → Int) (mo mi me : ME) : MS := fun env S => (mo env S).bind fun p => (mi env p.2).bind fun q => match p.1, q.1 with
  | .r n, .d (.int k) => (q.2[n]?).bind fun xs => if 0 ≤ k then (xs[k.toNat]?).bind fun x => match x with
    | .d (.int a) => (me env q.2).bind fun r => match r.1 with
      | .d (.int b) => (setIx r.2 (.r n) (.d (.int k)) (.d (.int (f a b)))).map fun S' => (.nx, env, S')
      | _ => none
    | _ => none else none
  | _, _ => none
section
variable {X : Cx} {G : Gd} {o i e : Expr} {mo mi me : ME} {pos tpos : Pos} {op : Operator} {f : Int → Int → Int}
theorem z_augIx (hop : PIp X op (ipI f)) (ho : PE X o (tOf G mo)) (hi : PE X i (tOf G mi)) (he : PE X e (tOf G me)) (hK : X.K = G.K := by rfl)
    (ha : ∀ ov iv new, augStore i ov iv new = (do holding [new, ov, iv] (setItem ov iv new); release [new, ov, iv] []; pure .next) := by intros; rfl) : PS X (.AugAssign (.Subscript o i tpos) op e pos) (tOfS G (mAugIx f mo mi me)) := by
  refine ps_imp (ps_augS ho hi pget_list he hop set_list ha) fun D σ H h => ?_
  rw [hK]
  obtain ⟨F, θ, S, env, fp, fl, env', S', s, e, k⟩ := h
  unfold mAugIx at e
  obtain ⟨⟨x, S1⟩, e1, e⟩ := Option.bind_eq_some_iff.mp e
  obtain ⟨⟨y, S2⟩, e2, e⟩ := Option.bind_eq_some_iff.mp e
  dsimp only at e
  split at e
  · rename_i n kk _
    obtain ⟨xs, e3, e⟩ := Option.bind_eq_some_iff.mp e
    split at e
    · rename_i h0
      obtain ⟨x, e4, e⟩ := Option.bind_eq_some_iff.mp e
      split at e
      · rename_i a
        obtain ⟨⟨z, S3⟩, e5, e⟩ := Option.bind_eq_some_iff.mp e
        dsimp only at e
        split at e
        · rename_i b
          obtain ⟨S4, e6, e7⟩ := Option.map_eq_some_iff.mp e
          cases e7
          refine ⟨F, θ, S, env, fp, _, S1, s, e1, fun F1 θ1 H1 v1 f1 t1 s1 r1 => ?_⟩
          refine ⟨F1, θ1, S1, env, fp, _, S2, s1, e2, fun F2 θ2 H2 v2 f2 t2 s2 r2 => ?_⟩
          obtain ⟨p, vs, q1, q2, q3, q4⟩ := s2.store.cell n xs e3
          obtain ⟨⟨p', q5, q6⟩, _⟩ := (r1.mono t2).rw
          rw [q1] at q6
          cases q6
          obtain ⟨u, f', q7, q8, _⟩ := q4.get e4
          refine ⟨p, vs, kk.toNat, u, q5, by rw [show v2 = V.int kk from r2.rw.dAt, Int.toNat_of_nonneg h0], SqL.of q3, q7, ?_⟩
          refine ⟨F2, θ2, S2, env, fp, _, S3, s2, e5, fun F3 θ3 H3 v3 f3 t3 s3 r3 => ?_⟩
          refine ⟨a, b, q8.1, r3.rw.dAt, ?_⟩
          have t := t1.trans (t2.trans t3)
          exact setIx_ok (H0 := H) s3 (r1.mono (t2.trans t3)) ((r2.mono t3).earlier t1) (.d (x := .int (f a b)) (show R G F3 (.int (f a b)) _ from rfl)) e6 fun H4 t4 s4 => k F3 θ3 H4 σ fp ((t.trans t4).toS fp) s4
        · cases e
      · cases e
    · cases e
  · cases e
end
/-! ### lists that belong to a slot -/
theorem RWs.argNil {G : Gd} {F : Hp} {θ : Th} {H : Hp} : ∀ {ws : List W} {vs : List V} {f : List Addr}, RWs G F θ H ws vs f → ws.all isArg = true → f = []
  | [], _, _, h, _ => h.2
  | w :: ws, _, _, ⟨v, r, f1, f2, _, h2, h3, h4⟩, e => by
    rw [List.all_cons, Bool.and_eq_true] at e
    rw [h4, arg_nil h2 e.1, RWs.argNil h3 e.2]
    rfl
theorem RsA.argW {G : Gd} {H0 : Hp} {fp : List Addr} {F : Hp} {θ : Th} {H : Hp} {ws : List W} {vs : List V} (h : RsA G H0 fp F θ H ws vs) (e : ws.all isArg = true) : RWs G F θ H ws vs [] := h.args e
theorem all_app {α : Type} {p : α → Bool} {xs ys : List α} (h : xs.all p = true) (h' : ys.all p = true) : (xs ++ ys).all p = true := by rw [List.all_append, h, h']; rfl
theorem all_d (xs : List D) : (xs.map W.d).all isArg = true := by
  rw [List.all_map, List.all_eq_true]
  exact fun _ _ => rfl
theorem RWs.app {G : Gd} {F : Hp} {θ : Th} {H : Hp} : ∀ {xs ys : List W} {vs us : List V}, RWs G F θ H xs vs [] → RWs G F θ H ys us [] → RWs G F θ H (xs ++ ys) (vs ++ us) []
  | [], _, _, _, h, h' => by
    rw [h.1]
    exact h'
  | x :: xs, _, _, _, ⟨v, r, f1, f2, h1, h2, h3, h4⟩, h' => by
    obtain ⟨e1, e2⟩ := List.append_eq_nil_iff.mp h4.symm
    subst e1 e2
    rw [h1]
    exact ⟨v, _, [], [], rfl, h2, RWs.app h3 h', rfl⟩
theorem RWs.takeW {G : Gd} {F : Hp} {θ : Th} {H : Hp} : ∀ {xs : List W} {vs : List V} (n : Nat), RWs G F θ H xs vs [] → RWs G F θ H (xs.take n) (vs.take n) []
  | _, _, 0, _ => ⟨rfl, rfl⟩
  | [], _, _ + 1, h => by
    rw [h.1]
    exact ⟨rfl, rfl⟩
  | x :: xs, _, n + 1, ⟨v, r, f1, f2, h1, h2, h3, h4⟩ => by
    obtain ⟨e1, e2⟩ := List.append_eq_nil_iff.mp h4.symm
    subst e1 e2
    rw [h1]
    exact ⟨v, _, [], [], rfl, h2, RWs.takeW n h3, rfl⟩
theorem RWs.dropW {G : Gd} {F : Hp} {θ : Th} {H : Hp} : ∀ {xs : List W} {vs : List V} (n : Nat), RWs G F θ H xs vs [] → RWs G F θ H (xs.drop n) (vs.drop n) []
  | _, _, 0, h => h
  | [], _, _ + 1, h => by
    rw [h.1]
    exact ⟨rfl, rfl⟩
  | x :: xs, _, n + 1, ⟨v, r, f1, f2, h1, h2, h3, h4⟩ => by
    obtain ⟨e1, e2⟩ := List.append_eq_nil_iff.mp h4.symm
    subst e1 e2
    rw [h1]
    exact RWs.dropW n h3
theorem St.new0 {G : Gd} {F H : Hp} {θ : Th} {S : Store} {env : En} {σ : L2.St} {fp : List Addr} (s : St G F θ H S env σ fp) {p : Addr} (hp : H p = none) (o : HO) : Tr F θ H F θ (upd H p o) ∧ St G F θ (upd H p o) S env σ fp ∧ F p = none ∧ p ∉ θ ∧ p ∉ fp := by
  have fF : F p = none := by
    cases e : F p with
    | none => rfl
    | some u =>
      rw [s.sub p u e] at hp
      cases hp
  have tT : p ∉ θ := fun z => by
    obtain ⟨_, u, hu⟩ := s.store.there z
    rw [hp] at hu
    cases hu
  have tP : p ∉ fp := fun z => s.fpH p z hp
  refine ⟨⟨.refl F, ⟨[], (List.append_nil θ).symm⟩, fun b h1 h2 => absurd h1 h2, fun b h1 h2 => absurd h1 h2, fun b u _ e => ?_, fun b u e => ⟨u, by rw [upd_ne (ne_of_none e hp)]; exact e⟩⟩, s.hid o fF tT tP, fF, tT, tP⟩
  rw [upd_ne (ne_of_none e hp)]
  exact e
/-- [e, ..] as a list of one's own -/
def mLstO (m : MA) : ME := fun env S => (m env S).bind fun p => if p.1.all isArg = true ∧ p.1.length ≤ cap then some (.own p.1, p.2) else none
/-- a new list, ours alone -/
theorem Res.newO {G : Gd} {H0 F H : Hp} {θ : Th} {S : Store} {env : En} {σ : L2.St} {fp : List Addr} {p : Addr} {ws : List W} {vs : List V} (s : St G F θ H S env σ fp) (hp : H p = none) (h0 : H0 p = none) (r : RWs G F θ H ws vs []) : Res G H0 fp F θ (upd H p (.lst vs)) (.own ws) (.ref p) [p] := by
  obtain ⟨t, _, g1, g2, g3⟩ := s.new0 hp (.lst vs)
  have one : ∀ a ∈ [p], a = p := fun a ha => by simpa using ha
  exact ⟨⟨p, vs, [], rfl, upd_same, RWs.mono t ws vs [] (fun _ h => absurd h (by simp)) r, rfl⟩, by simp, fun a ha => one a ha ▸ ⟨g1, g2⟩, fun a ha => .inr (one a ha ▸ h0), fun _ a ha => one a ha ▸ h0⟩
section
variable {X : Cx} {G : Gd} {es : List Expr} {ms : MA} {pos : Pos}
theorem z_lstO (h : PA X es (tOfA G ms)) : PE X (.List es pos) (tOf G (mLstO ms)) := by
  refine pe_imp (pe_lst h) fun σ H Q h => ?_
  obtain ⟨F, θ, S, env, fp, w, S', st, e, k⟩ := h
  unfold mLstO at e
  obtain ⟨⟨ws, S1⟩, e1, e⟩ := Option.bind_eq_some_iff.mp e
  dsimp only at e
  split at e
  · rename_i hl
    cases e
    refine ⟨F, θ, S, env, fp, ws, _, st, e1, fun F1 θ1 H1 vs t1 st1 rs => ?_⟩
    have q := rs.argW hl.1
    refine ⟨by rw [q.len]; exact cap_ok hl.2, fun p hp => ?_⟩
    obtain ⟨t4, s4, _⟩ := st1.new0 hp (.lst vs)
    exact k F1 θ1 _ (.ref p) [p] (t1.trans t4) s4 (Res.newO st1 hp (t1.back hp) q)
  · cases e
end
/-- the slot's list gets other members -/
theorem St.ownSet {G : Gd} {F H : Hp} {θ : Th} {S : Store} {env : En} {σ : L2.St} {fp : List Addr} {i : Nat} {xs : List W} (s : St G F θ H S env σ fp) (hi : env[i]? = some (some (.own xs))) {ds : List W} {us : List V} (r : RWs G F θ H ds us []) :
    ∃ a vs fs, σ[i]? = some (some (.ref a)) ∧ H a = some (.lst vs) ∧ RWs G F θ H xs vs fs ∧ ∃ fp', St G F θ (upd H a (.lst us)) S (env.set i (some (.own ds))) σ fp' ∧ (∀ b ∈ fp', b ∈ fp) ∧ a ∈ fp := by
  have hl : i < env.length := (List.getElem?_eq_some_iff.mp hi).1
  obtain ⟨ea, eb, o, sa, sb, v0, pre, old, post, q1, q2, q3, q4, q5, q6, q7, q8, q9⟩ := RE.cut s.env hl
  have ho : o = some (.own xs) := by
    rw [q1, List.getElem?_append_right (by omega), q3, Nat.sub_self] at hi
    simpa using hi
  obtain ⟨u, hu, hw⟩ := q9 _ ho
  obtain ⟨a, vs, fs, h1, h2, h3, h4⟩ := hw
  have nd := s.nd
  rw [q5, h4] at nd
  obtain ⟨n1, n2, n3⟩ := List.nodup_append.mp nd
  have n2' : (a :: (fs ++ post)).Nodup := n2
  have ma : a ∈ fp := by
    rw [q5, h4]
    simp
  have apre : ∀ b ∈ pre, b ≠ a := fun b hb z => n3 b hb a (List.mem_append_left _ (List.mem_cons_self ..)) z
  have apost : ∀ b ∈ post, b ≠ a := fun b hb z => (List.nodup_cons.mp n2').1 (z ▸ List.mem_append_right _ hb)
  obtain ⟨fa, ta⟩ := s.apart a ma
  refine ⟨a, vs, fs, ?_, h2, h3, pre ++ ([a] ++ post), ⟨fun b x e => ?_, s.store.move (.refl F) (fun _ _ h => h) fun b hb x e => ?_, ?_, ?_, fun b hb => ?_⟩, fun b hb => ?_, ma⟩
  · rw [q2, List.getElem?_append_right (by omega), q4, Nat.sub_self, hu, h1]
    rfl
  · rw [upd_ne (ne_of_none e fa)]
    exact s.sub b x e
  · rw [upd_ne (show b ≠ a from fun z => ta (z ▸ hb))]
    exact e
  · rw [q1, set_mid q3, q2]
    refine RE.join (RE.move (.refl F) (fun _ _ h => h) ea sa pre (fun b hb x e => ?_) q6) ⟨.ref a, sb, [a], post, by rw [hu, h1], ⟨a, us, [], rfl, upd_same, RWs.move (.refl F) (fun _ _ h => h) ds us [] (fun _ h => absurd h (by simp)) r, rfl⟩, RE.move (.refl F) (fun _ _ h => h) eb sb post (fun b hb x e => ?_) q7, rfl⟩
    · rw [upd_ne (apre b hb)]
      exact e
    · rw [upd_ne (apost b hb)]
      exact e
  · refine List.nodup_append.mpr ⟨n1, List.nodup_append.mpr ⟨by simp, (List.nodup_append.mp (List.nodup_cons.mp n2').2).2.1, fun b hb c hc z => ?_⟩, fun b hb c hc z => ?_⟩
    · have eb : b = a := by simpa using hb
      exact apost c hc (z ▸ eb)
    · rcases List.mem_append.mp hc with hc | hc
      · have ec : c = a := by simpa using hc
        exact apre b hb (z.trans ec)
      · exact n3 b hb c (List.mem_append_right _ hc) z
  · refine s.apart b ?_
    rw [q5, h4]
    rcases List.mem_append.mp hb with hb | hb
    · simp [hb]
    · rcases List.mem_append.mp hb with hb | hb
      · have eb : b = a := by simpa using hb
        simp [eb]
      · simp [hb]
  · rw [q5, h4]
    rcases List.mem_append.mp hb with hb | hb
    · simp [hb]
    · rcases List.mem_append.mp hb with hb | hb
      · have eb : b = a := by simpa using hb
        simp [eb]
      · simp [hb]
/-- a method that changes its list: r its rule, g what it does -/
structure SimM (G : Gd) (r : V → List V → Hp → VK → Prop) (g : Store → List W → List W → Option (List W)) : Prop where
  run : ∀ {F θ H0 H S env σ fp a xs vs ws us zs Q}, St G F θ H S env σ fp → H a = some (.lst vs) → RWs G F θ H xs vs [] → RsA G H0 fp F θ H ws us → ws.all isArg = true → g S xs ws = some zs →
    (∀ vs', RWs G F θ H zs vs' [] → Q .non (upd H a (.lst vs'))) → r (.ref a) us H Q
def mMut (i : Nat) (ms : MA) (g : Store → List W → List W → Option (List W)) : MS := fun env S => (ms env S).bind fun p => if p.1.all isArg = true then match env[i]? with
  | some (some (.own xs)) => if xs.all isArg = true then (g p.2 xs p.1).bind fun zs => some (.nx, env.set i (some (.own zs)), p.2) else none
  | some (some (.r n)) => (p.2[n]?).bind fun xs => (g p.2 xs p.1).bind fun zs => some (.nx, env, p.2.set n zs)
  | _ => none else none
theorem mut_reads {G : Gd} {r : V → List V → Hp → VK → Prop} {g : Store → List W → List W → Option (List W)} (sm : SimM G r g) {i : Nat} {ms : MA} {D : Ends} {σ : L2.St} {H : Hp} (h : tOfS G (mMut i ms g) D σ H) : tDrop (tBM G.K "list" r (tVar i) (tOfA G ms)) D σ H := by
  obtain ⟨F, θ, S, env, fp, fl, env', S', s, e, k⟩ := h
  unfold mMut at e
  obtain ⟨⟨ws, S1⟩, e1, e⟩ := Option.bind_eq_some_iff.mp e
  dsimp only at e
  split at e
  · rename_i hA
    split at e
    · rename_i xs hi
      split at e
      · rename_i hx
        obtain ⟨zs, e2, e⟩ := Option.bind_eq_some_iff.mp e
        cases e
        obtain ⟨v, f, h1, h2⟩ := s.at hi
        obtain ⟨a, vs, fs, h3, h4, h5, h6⟩ := h2.rw
        rw [h3] at h1
        refine ⟨.ref a, h1, .inl ⟨rfl, vs, SqL.of h4⟩, F, θ, S, env, fp, ws, _, s, e1, fun F1 θ1 H1 us t1 s1 r1 => ?_⟩
        obtain ⟨a0, us0, fs0, g1, g2, g3, _⟩ := s1.ownSet (ds := []) (us := []) hi ⟨rfl, rfl⟩
        rw [h1] at g1
        cases g1
        rw [g3.argNil hx] at g3
        refine sm.run s1 g2 g3 r1 hA e2 fun vs' q1 => ?_
        obtain ⟨a2, us2, fs2, g4, g5, g6, fp', s2, hp, hm⟩ := s1.ownSet hi q1
        rw [h1] at g4
        cases g4
        refine k F1 θ1 _ σ fp' ⟨t1.le, t1.th, fun b h1 h2 => .inl (t1.newF b h1 h2), fun b h1 h2 => .inl (t1.newT b h1 h2), fun b hb => .inl (hp b hb), fun b u h1 h2 h3 => ?_, fun b u h1 => ?_⟩ s2
        · rw [upd_ne (show b ≠ a from fun z => h2 (z ▸ hm))]
          exact t1.keep b u h1 h3
        · by_cases z : b = a
          · exact ⟨_, by rw [z, upd_same]⟩
          · rw [upd_ne z]
            exact t1.live b u h1
      · cases e
    · rename_i n hi
      obtain ⟨xs, e2, e⟩ := Option.bind_eq_some_iff.mp e
      obtain ⟨zs, e3, e⟩ := Option.bind_eq_some_iff.mp e
      cases e
      obtain ⟨v, f, h1, h2⟩ := s.at hi
      obtain ⟨⟨a, h3, h4⟩, _⟩ := h2.rw
      rw [h3] at h1
      have hn : n < S.length := by
        rw [← s.store.len]
        exact (List.getElem?_eq_some_iff.mp h4).1
      obtain ⟨b, vs, h5, h6, h7, h8⟩ := s.store.cell n S[n] (List.getElem?_eq_getElem hn)
      rw [h4] at h5
      cases h5
      refine ⟨.ref a, h1, .inl ⟨rfl, vs, SqL.of h7⟩, F, θ, S, env, fp, ws, S1, s, e1, fun F1 θ1 H1 us t1 s1 r1 => ?_⟩
      obtain ⟨b, us, g1, g2, g3, g4⟩ := s1.store.cell n xs e2
      rw [t1.get h4] at g1
      cases g1
      refine sm.run s1 g3 g4 r1 hA e3 fun vs' q1 => ?_
      obtain ⟨t2, s2⟩ := s1.cellSet (t1.get h4) q1
      exact k F1 θ1 _ σ fp ((t1.trans t2).toS fp) s2
    · cases e
  · cases e
/-- the list is told by an expression -/
def mMutE (mo : ME) (ms : MA) (g : Store → List W → List W → Option (List W)) : MS := fun env S => (mo env S).bind fun o => match o.1 with
  | .r n => (ms env o.2).bind fun p => if p.1.all isArg = true then (p.2[n]?).bind fun xs => (g p.2 xs p.1).bind fun zs => some (.nx, env, p.2.set n zs) else none
  | _ => none
theorem mutE_reads {G : Gd} {r : V → List V → Hp → VK → Prop} {g : Store → List W → List W → Option (List W)} (sm : SimM G r g) {mo : ME} {ms : MA} {D : Ends} {σ : L2.St} {H : Hp} (h : tOfS G (mMutE mo ms g) D σ H) : tDrop (tBM G.K "list" r (tOf G mo) (tOfA G ms)) D σ H := by
  obtain ⟨F, θ, S, env, fp, fl, env', S', s, e, k⟩ := h
  unfold mMutE at e
  obtain ⟨⟨o, S0⟩, e0, e⟩ := Option.bind_eq_some_iff.mp e
  dsimp only at e
  split at e
  · rename_i n
    obtain ⟨⟨ws, S1⟩, e1, e⟩ := Option.bind_eq_some_iff.mp e
    dsimp only at e
    split at e
    · rename_i hA
      obtain ⟨xs, e2, e⟩ := Option.bind_eq_some_iff.mp e
      obtain ⟨zs, e3, e⟩ := Option.bind_eq_some_iff.mp e
      cases e
      refine ⟨F, θ, S, env, fp, _, S0, s, e0, fun F0 θ0 H0 v0 f0 t0 s0 r0 => ?_⟩
      obtain ⟨⟨a, h3, h4⟩, _⟩ := r0.rw
      have hn : n < S0.length := by
        rw [← s0.store.len]
        exact (List.getElem?_eq_some_iff.mp h4).1
      obtain ⟨b, vs, h5, h6, h7, h8⟩ := s0.store.cell n S0[n] (List.getElem?_eq_getElem hn)
      rw [h4] at h5
      cases h5
      rw [h3]
      refine ⟨.inl ⟨rfl, vs, SqL.of h7⟩, F0, θ0, S0, env, fp, ws, S1, s0, e1, fun F1 θ1 H1 us t1 s1 r1 => ?_⟩
      obtain ⟨b, us, g1, g2, g3, g4⟩ := s1.store.cell n xs e2
      rw [t1.get h4] at g1
      cases g1
      refine sm.run s1 g3 g4 r1 hA e3 fun vs' q1 => ?_
      obtain ⟨t2, s2⟩ := s1.cellSet (t1.get h4) q1
      exact k F1 θ1 _ σ fp ((t0.trans (t1.trans t2)).toS fp) s2
    · cases e
  · cases e
section
variable {X : Cx} {G : Gd} {r : V → List V → Hp → VK → Prop} {g : Store → List W → List W → Option (List W)} {st : Stmt} {ms : MA} {mo : ME} {i : Nat}
theorem z_mut (sm : SimM G r g) (hp : PS X st (tDrop (tBM X.K "list" r (tVar i) (tOfA G ms)))) (hK : X.K = G.K := by rfl) : PS X st (tOfS G (mMut i ms g)) := ps_imp hp fun D σ H h => by
  rw [hK]
  exact mut_reads sm h
theorem z_mutE (sm : SimM G r g) (hp : PS X st (tDrop (tBM X.K "list" r (tOf G mo) (tOfA G ms)))) (hK : X.K = G.K := by rfl) : PS X st (tOfS G (mMutE mo ms g)) := ps_imp hp fun D σ H h => by
  rw [hK]
  exact mutE_reads sm h
end
/-- append, insert, extend -/
def gApp : Store → List W → List W → Option (List W) := fun _ xs ws => match ws with
  | [w] => if xs.length < cap then some (xs ++ [w]) else none
  | _ => none
def gIns : Store → List W → List W → Option (List W) := fun _ xs ws => match ws with
  | [.d (.int i), w] => if xs.length < cap ∧ 0 ≤ i ∧ i < 1000000000 then some (xs.take i.toNat ++ [w] ++ xs.drop i.toNat) else none
  | _ => none
def gExt : Store → List W → List W → Option (List W) := fun S xs ws => match ws with
  | [w] => (vL S w).bind fun ys => if ys.all isArg = true ∧ xs.length + ys.length ≤ cap then some (xs ++ ys) else none
  | _ => none
theorem sim_app {G : Gd} : SimM G rAppend gApp := by
  refine ⟨fun {F θ H0 H S env σ fp a xs vs ws us zs Q} st ha rx rs hA e k => ?_⟩
  unfold gApp at e
  split at e
  · split at e
    · rename_i w hc
      cases e
      have q := rs.argW hA
      obtain ⟨v, r, f, h1, h2, h3⟩ := rs
      have h3' : r = [] := h3
      rw [h1, h3'] at q ⊢
      exact ⟨a, vs, v, rfl, rfl, ha, by rw [rx.len]; exact cap_lt hc, k _ (rx.app q)⟩
    · cases e
  · cases e
theorem sim_ins {G : Gd} : SimM G (fun x vs H Q => ∃ (l : Addr) (xs : List V) (i : Int) (y : V), x = .ref l ∧ vs = [.int i, y] ∧ H l = some (.lst xs) ∧ xs.length < sizeLine ∧ 0 ≤ i ∧ i < 2 ^ 63 ∧
    Q .non (upd H l (.lst (xs.take i.toNat ++ [y] ++ xs.drop i.toNat)))) gIns := by
  refine ⟨fun {F θ H0 H S env σ fp a xs vs ws us zs Q} st ha rx rs hA e k => ?_⟩
  unfold gIns at e
  split at e
  · split at e
    · rename_i i w hc
      cases e
      obtain ⟨v, r, f, h1, h2, h3⟩ := rs
      have hA2 : [w].all isArg = true := by
        rw [List.all_cons, Bool.and_eq_true] at hA
        exact hA.2
      have q := RsA.argW h3 hA2
      obtain ⟨v2, r2, f2, h4, h5, h6⟩ := h3
      have h6' : r2 = [] := h6
      rw [h4, h6'] at q
      exact ⟨a, vs, i, v2, rfl, by rw [h1, h4, h6', show v = V.int i from h2.rw.dAt], ha, by rw [rx.len]; exact cap_lt hc.1, hc.2.1, by have := hc.2.2; omega, k _ (((rx.takeW _).app q).app (rx.dropW _))⟩
    · cases e
  · cases e
theorem sim_ext {G : Gd} : SimM G rExtend gExt := by
  refine ⟨fun {F θ H0 H S env σ fp a xs vs ws us zs Q} st ha rx rs hA e k => ?_⟩
  unfold gExt at e
  split at e
  · rename_i w
    obtain ⟨ys, e1, e⟩ := Option.bind_eq_some_iff.mp e
    split at e
    · rename_i hc
      cases e
      obtain ⟨v, r, f, h1, h2, h3⟩ := rs
      have h3' : r = [] := h3
      obtain ⟨b, us2, fs, q1, q2, q3, q4⟩ := vL_ok st h2 e1
      rw [q3.argNil hc.1] at q3
      exact ⟨a, b, vs, us2, rfl, by rw [h1, h3', q1], ha, q2, by rw [rx.len, q3.len]; exact cap_ok hc.2, k _ (rx.app q3)⟩
    · cases e
  · cases e
/-- a list of one's own becomes a cell of the store; or is frozen -/
def mPubE (m : ME) : ME := fun env S => (m env S).bind fun p => match p.1 with
  | .own xs => if xs.all isArg = true then some (.r p.2.length, p.2 ++ [xs]) else none
  | _ => none
theorem tOf_pub {G : Gd} {m : ME} {σ : L2.St} {H : Hp} {Q : VK} (h : tOf G (mPubE m) σ H Q) : tOf G m σ H Q := by
  obtain ⟨F, θ, S, env, fp, w, S', st, e, k⟩ := h
  unfold mPubE at e
  obtain ⟨⟨x, S1⟩, e1, e⟩ := Option.bind_eq_some_iff.mp e
  dsimp only at e
  split at e
  · split at e
    · rename_i xs hA
      cases e
      refine ⟨F, θ, S, env, fp, _, S1, st, e1, fun F1 θ1 H1 v f t1 s1 r => ?_⟩
      obtain ⟨a, vs, fs, h1, h2, h3, h4⟩ := r.rw
      have e0 := h3.argNil hA
      subst e0
      have ma : a ∈ f := by
        rw [h4]
        exact List.mem_cons_self
      obtain ⟨fa, ta⟩ := r.ap a ma
      have h0 := r.own trivial a ma
      have tt : Tr F θ H F1 (θ1 ++ [a]) H1 := ⟨t1.le, let ⟨m, hm⟩ := t1.th; ⟨m ++ [a], by rw [hm, List.append_assoc]⟩, t1.newF, fun b h1 h2 => by
        rcases List.mem_append.mp h1 with z | z
        · exact t1.newT b z h2
        · rw [List.mem_singleton.mp z]
          exact h0, t1.keep, t1.live⟩
      have th : ∀ (n : Nat) b, θ1[n]? = some b → (θ1 ++ [a])[n]? = some b := fun n b e => by
        rw [List.getElem?_append_left (List.getElem?_eq_some_iff.mp e).1]
        exact e
      have s2 : St G F1 (θ1 ++ [a]) H1 (S1 ++ [xs]) env σ fp := by
        refine ⟨s1.sub, ⟨by rw [List.length_append, List.length_append, s1.store.len]; rfl, ?_, fun n ys e => ?_⟩, RE.move (.refl F1) th env σ fp (fun _ _ _ h => h) s1.env, s1.nd, fun b hb => ⟨(s1.apart b hb).1, fun z => ?_⟩⟩
        · exact List.nodup_append.mpr ⟨s1.store.nd, by simp, fun b hb c hc z => ta (by rw [← List.mem_singleton.mp hc, ← z]; exact hb)⟩
        · by_cases hn : n < S1.length
          · rw [List.getElem?_append_left hn] at e
            obtain ⟨b, us, q1, q2, q3, q4⟩ := s1.store.cell n ys e
            exact ⟨b, us, th n b q1, q2, q3, RWs.move (.refl F1) th ys us [] (fun _ _ _ h => h) q4⟩
          · have hl := (List.getElem?_eq_some_iff.mp e).1
            rw [List.length_append, List.length_singleton] at hl
            have en : n = S1.length := by omega
            subst en
            rw [List.getElem?_append_right (Nat.le_refl _), Nat.sub_self] at e
            have e' : xs = ys := by simpa using e
            subst e'
            exact ⟨a, vs, by rw [← s1.store.len, List.getElem?_append_right (Nat.le_refl _), Nat.sub_self]; rfl, fa, h2, RWs.move (.refl F1) th xs vs [] (fun _ _ _ h => h) h3⟩
        · rcases List.mem_append.mp z with z | z
          · exact (s1.apart b hb).2 z
          · rw [List.mem_singleton.mp z] at hb
            exact st.fpH a hb h0
      refine k F1 _ H1 v [] tt s2 ⟨⟨⟨a, h1, ?_⟩, rfl⟩, .nil, fun _ h => absurd h (by simp), fun _ h => absurd h (by simp), fun h => h.elim⟩
      rw [← s1.store.len, List.getElem?_append_right (Nat.le_refl _), Nat.sub_self]
      rfl
    · cases e
  · cases e
theorem z_pub {X : Cx} {G : Gd} {e : Expr} {m : ME} (h : PE X e (tOf G m)) : PE X e (tOf G (mPubE m)) := pe_imp h fun _ _ _ q => tOf_pub q
/-! ### steps of our own -/
/-- the slot's own list is frozen -/
def mFrz (i : Nat) : MS := fun env S => match env[i]? with
  | some (some (.own xs)) => (asDs xs).map fun ds => (.nx, env.set i (some (.d (.lst ds))), S)
  | _ => some (.nx, env, S)
theorem frz_ok {G : Gd} {F H : Hp} {θ : Th} {S : Store} {env : En} {σ : L2.St} {fp : List Addr} {i : Nat} {xs : List W} {ds : List D} (s : St G F θ H S env σ fp) (hi : env[i]? = some (some (.own xs))) (hd : asDs xs = some ds) :
    ∃ F' fp', TrS F θ H fp F' θ H fp' ∧ St G F' θ H S (env.set i (some (.d (.lst ds)))) σ fp' := by
  have hl : i < env.length := (List.getElem?_eq_some_iff.mp hi).1
  obtain ⟨ea, eb, o, sa, sb, v0, pre, old, post, q1, q2, q3, q4, q5, q6, q7, q8, q9⟩ := RE.cut s.env hl
  have ho : o = some (.own xs) := by
    rw [q1, List.getElem?_append_right (by omega), q3, Nat.sub_self] at hi
    simpa using hi
  obtain ⟨u, hu, hw⟩ := q9 _ ho
  obtain ⟨a, vs, fs, h1, h2, h3, h4⟩ := hw
  have nd := s.nd
  rw [q5, h4] at nd
  obtain ⟨n1, n2, n3⟩ := List.nodup_append.mp nd
  have n2' : (a :: (fs ++ post)).Nodup := n2
  have ma : a ∈ fp := by
    rw [q5, h4]
    simp
  have apre : ∀ b ∈ pre, b ≠ a := fun b hb z => n3 b hb a (List.mem_append_left _ (List.mem_cons_self ..)) z
  have apost : ∀ b ∈ post, b ≠ a := fun b hb z => (List.nodup_cons.mp n2').1 (z ▸ List.mem_append_right _ hb)
  obtain ⟨fa, ta⟩ := s.apart a ma
  have le : Le F (upd F a (.lst vs)) := Le.of fun b x e => by
    rw [upd_ne (ne_of_none e fa)]
    exact e
  have sub' : ∀ b x, upd F a (.lst vs) b = some x → H b = some x := fun b x e => by
    by_cases z : b = a
    · rw [z, upd_same] at e
      rw [z, h2, ← e]
    · rw [upd_ne z] at e
      exact s.sub b x e
  have inF : ∀ b ∈ pre ++ post, b ∈ fp := fun b hb => by
    rw [q5, h4]
    rcases List.mem_append.mp hb with hb | hb
    · simp [hb]
    · simp [hb]
  refine ⟨upd F a (.lst vs), pre ++ post, ⟨le, ⟨[], (List.append_nil θ).symm⟩, fun b e1 e2 => ?_, fun b e1 e2 => absurd e1 e2, fun b hb => .inl (inF b hb), fun _ _ _ _ h => h, fun b x h => ⟨x, h⟩⟩, ⟨sub', s.store.move le (fun b hb e => ?_) fun _ _ _ h => h, ?_, ?_, fun b hb => ?_⟩⟩
  · by_cases z : b = a
    · exact .inr (z ▸ ma)
    · rw [upd_ne z] at e2
      exact absurd e1 e2
  · rw [upd_ne (show b ≠ a from fun z => ta (z ▸ hb))]
    exact e
  · rw [q1, set_mid q3, q2]
    refine RE.join (RE.move le (fun _ _ h => h) ea sa pre (fun _ _ _ h => h) q6) ⟨.ref a, sb, [], post, by rw [hu, h1], ⟨⟨a, vs, rfl, upd_same, Rs.mono le _ _ (h3.toD hd)⟩, rfl⟩, RE.move le (fun _ _ h => h) eb sb post (fun _ _ _ h => h) q7, rfl⟩
  · exact List.nodup_append.mpr ⟨n1, (List.nodup_append.mp (List.nodup_cons.mp n2').2).2.1, fun b hb c hc z => n3 b hb c (List.mem_append_right _ hc) z⟩
  · obtain ⟨g1, g2⟩ := s.apart b (inF b hb)
    refine ⟨?_, g2⟩
    rw [upd_ne (show b ≠ a from ?_)]
    · exact g1
    · rcases List.mem_append.mp hb with hb | hb
      · exact apre b hb
      · exact apost b hb
/-- a step of our own ahead of a block -/
theorem zs_frz {X : Cx} {G : Gd} {sts : List Stmt} {m : MS} (i : Nat) (h : PSs X sts (tOfS G m)) : PSs X sts (tOfS G (mSeq (mFrz i) m)) := by
  refine pss_imp h fun D σ H q => ?_
  obtain ⟨F, θ, S, env, fp, fl, env', S', s, e, k⟩ := q
  unfold mSeq at e
  obtain ⟨⟨f1, en1, S1⟩, e1, e⟩ := Option.bind_eq_some_iff.mp e
  unfold mFrz at e1
  split at e1
  · rename_i xs hi
    obtain ⟨ds, e2, e3⟩ := Option.map_eq_some_iff.mp e1
    cases e3
    obtain ⟨F1, fp1, t1, s1⟩ := frz_ok s hi e2
    exact ⟨F1, θ, S, _, fp1, fl, env', S', s1, e, fun F2 θ2 H2 σ2 fp2 t2 s2 => (k F2 θ2 H2 σ2 fp2 (t1.trans t2) s2).earlier t1⟩
  · cases e1
    exact ⟨F, θ, S, env, fp, fl, env', S', s, e, k⟩

end Zf
set_option Elab.async false
set_option linter.all false
set_option maxRecDepth 100000
set_option maxHeartbeats 1000000
namespace Zf
open PySem PySem.Spec PyProof.Rows L2

section
variable {X : Cx} {G : Gd} {a b : Expr} {ma mb : ME} {pos : Pos} {k : Nat}
theorem z_eq (hr : Room k X.A) (ha : PE X a (tOf G ma)) (hb : PE X b (tOf G mb)) (hK : X.K = G.K := by rfl) : PE X (.Compare a [.Eq] [b] pos) (tOf G (mBin gEq ma mb)) :=
  z_cmp (op_eq.or (op_eqD hr.units)) (sim_eqS.or (by rw [hK]; exact sim_eqP)) ha hb (nomark _)
theorem z_ne (hr : Room k X.A) (ha : PE X a (tOf G ma)) (hb : PE X b (tOf G mb)) (hK : X.K = G.K := by rfl) : PE X (.Compare a [.NotEq] [b] pos) (tOf G (mBin gNe ma mb)) :=
  z_cmp (op_ne.or (op_neD hr.units)) (sim_neS.or (by rw [hK]; exact sim_neP)) ha hb (nomark _)
theorem z_lt (ha : PE X a (tOf G ma)) (hb : PE X b (tOf G mb)) : PE X (.Compare a [.Lt] [b] pos) (tOf G (mBin gLt ma mb)) := z_cmp (op_lt.or op_lt_str) sim_lt ha hb (nomark _)
theorem z_le (ha : PE X a (tOf G ma)) (hb : PE X b (tOf G mb)) : PE X (.Compare a [.LtE] [b] pos) (tOf G (mBin gLe ma mb)) := z_cmp (op_le.or op_le_str) sim_le ha hb (nomark _)
theorem z_gt (ha : PE X a (tOf G ma)) (hb : PE X b (tOf G mb)) : PE X (.Compare a [.Gt] [b] pos) (tOf G (mBin gGt ma mb)) := z_cmp (op_gt.or op_gt_str) sim_gt ha hb (nomark _)
theorem z_ge (ha : PE X a (tOf G ma)) (hb : PE X b (tOf G mb)) : PE X (.Compare a [.GtE] [b] pos) (tOf G (mBin gGe ma mb)) := z_cmp (op_ge.or op_ge_str) sim_ge ha hb (nomark _)
theorem z_in (ha : PE X a (tOf G ma)) (hb : PE X b (tOf G mb)) (hm : behindInMarks .In b = false := by rfl) (hK : X.K = G.K := by rfl) : PE X (.Compare a [.In] [b] pos) (tOf G (mBin (fun S x y => (gIn false S x y).or (gInC false S x y)) ma mb)) :=
  z_cmp (op_in_seq.or op_in_sign) (Sim2.or (by rw [hK]; exact sim_in false) sim_inC) ha hb hm
theorem z_ni (ha : PE X a (tOf G ma)) (hb : PE X b (tOf G mb)) (hm : behindInMarks .NotIn b = false := by rfl) (hK : X.K = G.K := by rfl) : PE X (.Compare a [.NotIn] [b] pos) (tOf G (mBin (fun S x y => (gIn true S x y).or (gInC true S x y)) ma mb)) :=
  z_cmp (op_notIn_seq.or op_notIn_sign) (Sim2.or (by rw [hK]; exact sim_in true) sim_niC) ha hb hm
theorem z_is (ha : PE X a (tOf G ma)) (hb : PE X b (tOf G mb)) : PE X (.Compare a [.Is] [b] pos) (tOf G (mBin (gIs false) ma mb)) := z_cmp op_isN sim_is ha hb (nomark _)
theorem z_isn (ha : PE X a (tOf G ma)) (hb : PE X b (tOf G mb)) : PE X (.Compare a [.IsNot] [b] pos) (tOf G (mBin (gIs true) ma mb)) := z_cmp op_notN sim_isnot ha hb (nomark _)
theorem z_eqT (hr : Room k X.A) (ha : PE X a (tOf G ma)) (hb : PE X b (tOf G mb)) (hK : X.K = G.K := by rfl) : PT X (.Compare a [.Eq] [b] pos) (tOfT G (mTst (mBin gEq ma mb))) :=
  z_cmpT (op_eq.or (op_eqD hr.units)) (sim_eqS.or (by rw [hK]; exact sim_eqP)) ha hb (nomark _)
theorem z_neT (hr : Room k X.A) (ha : PE X a (tOf G ma)) (hb : PE X b (tOf G mb)) (hK : X.K = G.K := by rfl) : PT X (.Compare a [.NotEq] [b] pos) (tOfT G (mTst (mBin gNe ma mb))) :=
  z_cmpT (op_ne.or (op_neD hr.units)) (sim_neS.or (by rw [hK]; exact sim_neP)) ha hb (nomark _)
theorem z_ltT (ha : PE X a (tOf G ma)) (hb : PE X b (tOf G mb)) : PT X (.Compare a [.Lt] [b] pos) (tOfT G (mTst (mBin gLt ma mb))) := z_cmpT (op_lt.or op_lt_str) sim_lt ha hb (nomark _)
theorem z_leT (ha : PE X a (tOf G ma)) (hb : PE X b (tOf G mb)) : PT X (.Compare a [.LtE] [b] pos) (tOfT G (mTst (mBin gLe ma mb))) := z_cmpT (op_le.or op_le_str) sim_le ha hb (nomark _)
theorem z_gtT (ha : PE X a (tOf G ma)) (hb : PE X b (tOf G mb)) : PT X (.Compare a [.Gt] [b] pos) (tOfT G (mTst (mBin gGt ma mb))) := z_cmpT (op_gt.or op_gt_str) sim_gt ha hb (nomark _)
theorem z_geT (ha : PE X a (tOf G ma)) (hb : PE X b (tOf G mb)) : PT X (.Compare a [.GtE] [b] pos) (tOfT G (mTst (mBin gGe ma mb))) := z_cmpT (op_ge.or op_ge_str) sim_ge ha hb (nomark _)
theorem z_inT (ha : PE X a (tOf G ma)) (hb : PE X b (tOf G mb)) (hm : behindInMarks .In b = false := by rfl) (hK : X.K = G.K := by rfl) : PT X (.Compare a [.In] [b] pos) (tOfT G (mTst (mBin (fun S x y => (gIn false S x y).or (gInC false S x y)) ma mb))) :=
  z_cmpT (op_in_seq.or op_in_sign) (Sim2.or (by rw [hK]; exact sim_in false) sim_inC) ha hb hm
theorem z_niT (ha : PE X a (tOf G ma)) (hb : PE X b (tOf G mb)) (hm : behindInMarks .NotIn b = false := by rfl) (hK : X.K = G.K := by rfl) : PT X (.Compare a [.NotIn] [b] pos) (tOfT G (mTst (mBin (fun S x y => (gIn true S x y).or (gInC true S x y)) ma mb))) :=
  z_cmpT (op_notIn_seq.or op_notIn_sign) (Sim2.or (by rw [hK]; exact sim_in true) sim_niC) ha hb hm
theorem z_isT (ha : PE X a (tOf G ma)) (hb : PE X b (tOf G mb)) : PT X (.Compare a [.Is] [b] pos) (tOfT G (mTst (mBin (gIs false) ma mb))) := z_cmpT op_isN sim_is ha hb (nomark _)
theorem z_isnT (ha : PE X a (tOf G ma)) (hb : PE X b (tOf G mb)) : PT X (.Compare a [.IsNot] [b] pos) (tOfT G (mTst (mBin (gIs true) ma mb))) := z_cmpT op_notN sim_isnot ha hb (nomark _)
theorem un_negS {m : ME} (ha : PE X a (tOf G m)) : PE X (.UnaryOp .USub a pos) (tOf G (fun env S => (m env S).bind fun p => match p.1 with
    | .d (.int i) => some (.d (.int (-i)), p.2)
    | _ => none)) := by
  refine pe_imp (pe_un un_neg ha) fun σ H Q h => ?_
  obtain ⟨F, θ, S, env, fp, w, S', st, e, kk⟩ := h
  dsimp only at e
  obtain ⟨⟨x, S1⟩, e1, e⟩ := Option.bind_eq_some_iff.mp e
  dsimp only at e
  split at e
  · cases e
    exact ⟨F, θ, S, env, fp, _, _, st, e1, fun F1 θ1 H1 v f t1 st1 rv => ⟨_, rv.rw.dAt, kk F1 θ1 H1 _ _ t1 st1 (.d rfl)⟩⟩
  · cases e
end
def mNeg (m : ME) : ME := fun env S => (m env S).bind fun p => match p.1 with
  | .d (.int i) => some (.d (.int (-i)), p.2)
  | _ => none
theorem z_neg {X : Cx} {G : Gd} {a : Expr} {pos : Pos} {m : ME} (ha : PE X a (tOf G m)) : PE X (.UnaryOp .USub a pos) (tOf G (mNeg m)) := un_negS ha
/-! ### built-ins by name -/
section
variable {X : Cx} {G : Gd} {e : Expr} {ms : MA} {p pos : Pos}
theorem z_len (hg : Gl X "len") (hm : X.mg "len" = none) (ha : PA X [e] (tOfA G ms)) (he : starEach [e] X.env = (false, eval e X.env) :: starEach [] X.env := by rfl) (hpl : (backTo pos (starEach [] X.env)).any (·.1) = false := by rfl) (hK : X.K = G.K := by rfl) :
    PE X (.Call (.Name "len" p) [e] [] pos) (tOf G (mCB (g1 gLen) ms)) :=
  z_cb (r := fun xs H Q => ∃ x, xs = [x] ∧ ∃ n, LenV G.K x H n ∧ Q (.int n) H) (callR_imp call_len fun xs H Q ⟨x, h1, n, h2, h3⟩ => ⟨x, n, h1, hK ▸ h2, h3⟩) sim_len hg hm PySem.boot_len ha (by decide) (by decide) he hpl
theorem z_abs (hg : Gl X "abs") (hm : X.mg "abs" = none) (ha : PA X [e] (tOfA G ms)) (he : starEach [e] X.env = (false, eval e X.env) :: starEach [] X.env := by rfl) (hpl : (backTo pos (starEach [] X.env)).any (·.1) = false := by rfl) :
    PE X (.Call (.Name "abs" p) [e] [] pos) (tOf G (mCB (g1 gAbs) ms)) :=
  z_cb (callR_imp call_abs fun xs H Q ⟨x, h1, i, h2, h3⟩ => ⟨i, by rw [h1, h2], h3⟩) sim_abs hg hm (by decide +kernel) ha (by decide) (by decide) he hpl
theorem z_int1 (hg : Gl X "int") (hm : X.mg "int" = none) (ha : PA X [e] (tOfA G ms)) (he : starEach [e] X.env = (false, eval e X.env) :: starEach [] X.env := by rfl) (hpl : (backTo pos (starEach [] X.env)).any (·.1) = false := by rfl) :
    PE X (.Call (.Name "int" p) [e] [] pos) (tOf G (mCB (g1 gInt1) ms)) :=
  z_ct (callR_imp call_int1 fun xs H Q ⟨x, h1, h2⟩ => h2.imp (fun ⟨i, h3, h4⟩ => ⟨i, by rw [h1, h3], h4⟩) fun ⟨i, h3, h4⟩ => ⟨i, by rw [h1, h3], h4⟩) sim_int1 hg hm PyProof.Rows.boot_int ha (by decide) (by decide) he hpl
theorem z_list (hg : Gl X "list") (hm : X.mg "list" = none) (ha : PA X [e] (tOfA G ms)) (he : starEach [e] X.env = (false, eval e X.env) :: starEach [] X.env := by rfl) (hpl : (backTo pos (starEach [] X.env)).any (·.1) = false := by rfl) (hK : X.K = G.K := by rfl) :
    PE X (.Call (.Name "list" p) [e] [] pos) (tOf G (mCB (g1 gList) ms)) :=
  z_ct (r := fun xs H Q => ∃ x, xs = [x] ∧ ∃ p ys, x = .ref p ∧ (SqL G.K H p ys ∨ SqT G.K H p ys) ∧ ∀ l, H l = none → Q (.ref l) (upd H l (.lst ys))) (callR_imp call_list_of fun xs H Q ⟨x, h1, p, ys, h2, h3, h4⟩ => ⟨p, ys, by rw [h1, h2], hK ▸ h3, h4⟩) sim_list hg hm (by decide +kernel) ha (by decide) (by decide) he hpl
theorem z_tuple (hg : Gl X "tuple") (hm : X.mg "tuple" = none) (ha : PA X [e] (tOfA G ms)) (he : starEach [e] X.env = (false, eval e X.env) :: starEach [] X.env := by rfl) (hpl : (backTo pos (starEach [] X.env)).any (·.1) = false := by rfl) (hK : X.K = G.K := by rfl) :
    PE X (.Call (.Name "tuple" p) [e] [] pos) (tOf G (mCB (g1 gTuple) ms)) :=
  z_ct (r := fun xs H Q => ∃ x, xs = [x] ∧ ∃ p ys, x = .ref p ∧ ((SqL G.K H p ys ∧ ∀ l, H l = none → Q (.ref l) (upd H l (.tup ys))) ∨ (SqT G.K H p ys ∧ Q (.ref p) H))) (callR_imp call_tuple_of fun xs H Q ⟨x, h1, p, ys, h2, h3⟩ => ⟨p, ys, by rw [h1, h2], hK ▸ h3⟩) sim_tuple hg hm (by decide +kernel) ha (by decide) (by decide) he hpl
theorem z_all (hc : X.calm = true) (hg : Gl X "all") (hm : X.mg "all" = none) (ha : PA X [e] (tOfA G ms)) (he : starEach [e] X.env = (false, eval e X.env) :: starEach [] X.env := by rfl) (hpl : (backTo pos (starEach [] X.env)).any (·.1) = false := by rfl) (hK : X.K = G.K := by rfl) :
    PE X (.Call (.Name "all" p) [e] [] pos) (tOf G (mCB (g1 gAllB) ms)) :=
  z_cb (r := fun xs H Q => ∃ x, xs = [x] ∧ ∃ (a : Addr) (bs : List Bool), x = V.ref a ∧ SqL G.K H a (bs.map V.bl) ∧ Q (.bl (bs.all id)) H) (callR_imp (cr_all hc) fun xs H Q ⟨x, h1, a, bs, h2, h3, h4⟩ => ⟨a, bs, by rw [h1, h2], hK ▸ h3, h4⟩) sim_all hg hm (by decide +kernel) ha (by decide) (by decide) he hpl
end
/-! ### what a program's names stand for -/
structure Kn (G : Gd) (mg : Str → Option Value) (base : Heap) (x : Str) (k : Nat) (ps : List Str) (m : MF) : Prop where
  ex : ∃ f fd, FnG G mg base k f fd ps m ∧ mg x = some (.ref f) ∧ PySem.W.keepIn G.K (.ref f) = true ∧ Binds G.K fd ps []
theorem Kn.mono {G : Gd} {mg : Str → Option Value} {base : Heap} {x : Str} {j k : Nat} {ps : List Str} {m : MF} (h : Kn G mg base x j ps m) (l : j ≤ k) : Kn G mg base x k ps m := by
  obtain ⟨f, fd, a, b⟩ := h.ex
  exact ⟨f, fd, a.mono l, b⟩
section
variable {X : Cx} {G : Gd} {k j : Nat} {ps : List Str} {m : MF} {ms : MA} {x : Str} {p pos : Pos} {e : Expr} {es : List Expr}
theorem z_fn (C : Kn G X.mg X.base x j ps m) (hr : Room k X.A) (hj : j ≤ k) (hgd : X.A.guards = some []) (hg : Gl X x) (ha : PA X (e :: es) (tOfA G ms))
    (hdb : (x == ("__debug__" : Str)) = false := by decide) (he : starEach (e :: es) X.env = (false, eval e X.env) :: starEach es X.env := by rfl) (hpl : (backTo pos (starEach es X.env)).any (·.1) = false := by rfl) (hG : X.prog = G.P ∧ X.w = G.w ∧ X.K = G.K := by exact ⟨rfl, rfl, rfl⟩) :
    PE X (.Call (.Name x p) (e :: es) [] pos) (tOf G (mCall m ms)) := by
  obtain ⟨f, fd, a, b, c, d⟩ := C.ex
  exact z_call a (hr.mono hj) hgd hg b c d ha hdb he hpl hG
theorem z_fn0 (C : Kn G X.mg X.base x j ps m) (hr : Room k X.A) (hj : j ≤ k) (hgd : X.A.guards = some []) (hg : Gl X x)
    (hdb : (x == ("__debug__" : Str)) = false := by decide) (hG : X.prog = G.P ∧ X.w = G.w ∧ X.K = G.K := by exact ⟨rfl, rfl, rfl⟩) : PE X (.Call (.Name x p) [] [] pos) (tOf G (mCall m mNil)) := by
  obtain ⟨f, fd, a, b, c, d⟩ := C.ex
  exact z_call0 a (hr.mono hj) hgd hg b c d hdb hG
end
/-- a def of the head's facts -/
theorem Kn.mk' {G : Gd} {mg : Str → Option Value} {base : Heap} {x : Str} {k : Nat} {ps N : List Str} {name qual : Str} {params : Arguments} {body : List Stmt} {scope : Scope} {f : Addr} {mb : MS} {m : MF}
    (D : ∃ fd, FunD G.K name qual params body scope [] [] f fd) (hx : mg x = some (.ref f)) (sc : FnScope N ps scope) (hm : m = mFn ps.length N.length mb)
    (hbd : ∀ (kV doc pm : Value) (an : Option Addr) (cdv ct : Value) (us : List Value), us.length = ps.length → bindArgs (PySem.W.fnOf name qual params body scope .none kV doc pm an cdv ct) ⟨us, []⟩ = pure (ps.zip us))
    (hb : ∀ (cdv : Value) (A : Around) (outer : List Env) (s : Shared) (H : Hp), Room k (A.deeper (envOfC qual scope s.heap.objs.size f cdv)) → A.guards = some [] →
      PSs (cxOf CX0 G.P G.w G.K mg base N qual scope f cdv A outer s H E0).nox body (tOfS G mb)) : Kn G mg base x (k + 1) ps m := by
  obtain ⟨fd, D⟩ := D
  have b : Binds G.K fd ps [] := by
    obtain ⟨oc, od, dV, kV, doc, pm, an, cdv, ct, osl, hfd, _, _, hD, _⟩ := D.ex
    subst hfd
    rcases hD with ⟨_, rfl⟩ | ⟨e, _⟩
    · exact .all (hbd kV doc pm an cdv ct)
    · exact absurd rfl e
  exact ⟨f, fd, fn_rule D sc hm hb, hx, D.kp, b⟩
theorem FnG.none {G : Gd} {mg : Str → Option Value} {base : Heap} {k : Nat} {f : Addr} {fd : FuncData} {ps : List Str} : FnG G mg base k f fd ps (fun _ _ => Option.none) :=
  ⟨by intros; contradiction, by intros; contradiction⟩
theorem Kn.zero {G : Gd} {mg : Str → Option Value} {base : Heap} {x : Str} {k : Nat} {ps : List Str} {name qual : Str} {params : Arguments} {body : List Stmt} {scope : Scope} {f : Addr}
    (D : ∃ fd, FunD G.K name qual params body scope [] [] f fd) (hx : mg x = some (.ref f))
    (hbd : ∀ (kV doc pm : Value) (an : Option Addr) (cdv ct : Value) (us : List Value), us.length = ps.length → bindArgs (PySem.W.fnOf name qual params body scope .none kV doc pm an cdv ct) ⟨us, []⟩ = pure (ps.zip us)) : Kn G mg base x k ps (fun _ _ => Option.none) := by
  obtain ⟨fd, D⟩ := D
  have b : Binds G.K fd ps [] := by
    obtain ⟨oc, od, dV, kV, doc, pm, an, cdv, ct, osl, hfd, _, _, hD, _⟩ := D.ex
    subst hfd
    rcases hD with ⟨_, rfl⟩ | ⟨e, _⟩
    · exact .all (hbd kV doc pm an cdv ct)
    · exact absurd rfl e
  exact ⟨f, fd, .none, hx, D.kp, b⟩
end Zf
namespace Zf
open PySem L2
abbrev gInA : Op2 := fun S x y => (gIn false S x y).or (gInC false S x y)
abbrev gNiA : Op2 := fun S x y => (gIn true S x y).or (gInC true S x y)
end Zf
set_option Elab.async false
set_option linter.all false
set_option maxRecDepth 100000
set_option maxHeartbeats 2000000
namespace Zf
open PySem PySem.Spec PyProof.Rows L2

/-! ### repr -/
def kpy : Key → PyData
  | .inl i => .int i
  | .inr x => .str x
mutual
def spy : D → Option PyData
  | .non => some .none
  | .bl b => some (.bool b)
  | .int i => some (.int i)
  | .str x => some (.str x)
  | .lst xs => (spys xs).map .list
  | .tup xs => (spys xs).map .tuple
  | .ro xs => (spys xs).map .list
  | .dct kvs => (spyk kvs).map .dict
  | _ => none
def spys : List D → Option (List PyData)
  | [] => some []
  | x :: r => (spy x).bind fun a => (spys r).map (a :: ·)
def spyk : List (Key × D) → Option (List (PyData × PyData))
  | [] => some []
  | (k, x) :: r => (spy x).bind fun a => (spyk r).map ((kpy k, a) :: ·)
end
mutual
def wspG (c : Nat → Option PyData) : W → Option PyData
  | .d x => spy x
  | .r n => c n
  | .own xs => (wspsG c xs).map .list
  | .bor xs => (wspsG c xs).map .list
  | .od kvs => (wspkG c kvs).map .dict
  | .bd kvs => (wspkG c kvs).map .dict
  | _ => none
def wspsG (c : Nat → Option PyData) : List W → Option (List PyData)
  | [] => some []
  | x :: r => (wspG c x).bind fun a => (wspsG c r).map (a :: ·)
def wspkG (c : Nat → Option PyData) : List (Key × W) → Option (List (PyData × PyData))
  | [] => some []
  | (k, x) :: r => (wspG c x).bind fun a => (wspkG c r).map ((kpy k, a) :: ·)
end
def cellSp (S : Store) : Nat → Nat → Option PyData
  | 0, _ => none
  | k + 1, n => (S[n]?).bind fun xs => (wspsG (cellSp S k) xs).map .list
def wsp (S : Store) : W → Option PyData := wspG (cellSp S 5)
/-- the frame knows where the modules' dict stands -/
def SysK (K : PySem.W.Frag) : Prop := ∃ o, K.lookup sysModules = some o ∧ o.cls = .type "dict"
/-- v shows as p -/
def Shows (h : Heap) (v : V) (p : PyData) : Prop := ∀ u, RelV v u → ∃ as, Reads h u p as ∧ sysModules ∉ as
def ShowsL (h : Heap) (vs : List V) (ps : List PyData) : Prop := ∀ us, Vals vs us → ∃ as, ReadsAll h us ps as ∧ sysModules ∉ as
def ShowsK (h : Heap) (vs : List (Key × V)) (ps : List (PyData × PyData)) : Prop := ∀ us, KV vs us → ∃ as, PyProof.V.PairsRead h kpy us ps as ∧ sysModules ∉ as
section
variable {X : Cx} {G : Gd} {F : Hp} {pins : List (Addr × Obj)} {σ : L2.St} {H : Hp} {s : Shared} (I : Inv X pins σ H s) (hK : X.K = G.K) (sys : SysK G.K)
include I hK sys
theorem not_sys {a : Addr} {o : Obj} (h : s.heap.get? a = some o) (hc : o.cls = .type "list") : sysModules ≠ a := fun e => by
  obtain ⟨o', h1, h2⟩ := sys
  have g := I.kIn sysModules o' (by rw [hK]; exact h1)
  rw [e, h] at g
  cases g
  rw [hc] at h2
  exact absurd (Value.type.inj h2) (by decide)
theorem shows_lst {a : Addr} {vs : List V} {ps : List PyData} (h : SqL G.K H a vs) (q : ShowsL s.heap vs ps) : Shows s.heap (.ref a) (.list ps) := fun u r => by
  cases r
  obtain ⟨its, rv, ⟨o, n, ho, hc, _, hd⟩, _⟩ := I.list (by rw [hK]; exact h)
  obtain ⟨as, h1, h2⟩ := q its rv
  refine ⟨_, Reads.list ho hc hd h1, fun z => ?_⟩
  rcases List.mem_cons.mp z with z | z
  · exact not_sys I hK sys ho hc z
  · exact h2 z
theorem shows_tup {a : Addr} {vs : List V} {ps : List PyData} (h : SqT G.K H a vs) (q : ShowsL s.heap vs ps) : Shows s.heap (.ref a) (.tuple ps) := fun u r => by
  cases r
  obtain ⟨its, rv, ⟨o, ho, hc, n, hd⟩, _⟩ := I.tuple (by rw [hK]; exact h)
  obtain ⟨as, h1, h2⟩ := q its rv
  exact ⟨_, Reads.tuple ho hc hd h1, h2⟩
theorem kpy_reads (k : Key) (key : Value) (h : (mixKind X.prog X.w).is k key = true) : Reads s.heap key (kpy k) [] := by
  rcases keyIs_shape h with ⟨i, t, rfl, rfl⟩ | ⟨x, t, rfl, rfl⟩
  · exact .int i t
  · exact .str x t
theorem shows_dct {a : Addr} {vs : List (Key × V)} {ps : List (PyData × PyData)} (h : Rd H a (.dK vs)) (q : ShowsK s.heap vs ps) : Shows s.heap (.ref a) (.dict ps) := fun u r => by
  cases r
  obtain ⟨_, hsm, us, rv, dd⟩ := dk_rd I.hok h
  obtain ⟨as, h1, h2⟩ := q us rv
  refine ⟨_, PyProof.V.reads_dictOf (kpy_reads I hK sys) dd h1, fun z => ?_⟩
  rcases List.mem_cons.mp z with z | z
  · rw [← z] at hsm
    exact absurd hsm (by decide)
  · exact h2 z
theorem showsL_nil : ShowsL s.heap [] [] := fun us r => by
  cases r
  exact ⟨[], .nil, by simp⟩
theorem showsL_cons {v : V} {vs : List V} {p : PyData} {ps : List PyData} (h : Shows s.heap v p) (q : ShowsL s.heap vs ps) : ShowsL s.heap (v :: vs) (p :: ps) := fun us r => by
  cases r with
  | cons r1 r2 =>
    obtain ⟨as, h1, h2⟩ := h _ r1
    obtain ⟨bs, q1, q2⟩ := q _ r2
    exact ⟨_, .cons h1 q1, fun z => (List.mem_append.mp z).elim h2 q2⟩
theorem showsK_nil : ShowsK s.heap [] [] := fun us r => by
  cases r
  exact ⟨[], .nil, by simp⟩
theorem showsK_cons {k : Key} {v : V} {vs : List (Key × V)} {p : PyData} {ps : List (PyData × PyData)} (h : Shows s.heap v p) (q : ShowsK s.heap vs ps) : ShowsK s.heap ((k, v) :: vs) ((kpy k, p) :: ps) := fun us r => by
  cases r with
  | @cons _ b _ _ r1 r2 =>
    obtain ⟨k', u⟩ := b
    obtain ⟨e, r1⟩ := r1
    dsimp only at e
    subst e
    obtain ⟨as, h1, h2⟩ := h _ r1
    obtain ⟨bs, q1, q2⟩ := q _ r2
    exact ⟨_, .cons h1 q1, fun z => (List.mem_append.mp z).elim h2 q2⟩
section
variable (sub : ∀ a u, F a = some u → H a = some u)
include sub
theorem flat_shows {v : V} {p : PyData} (h : ∀ u, RelV v u → Reads s.heap u p []) : Shows s.heap v p := fun u r => ⟨[], h u r, by simp⟩
mutual
theorem spD : ∀ {d : D} {v : V} {p : PyData}, R G F d v → spy d = some p → Shows s.heap v p
  | .non, _, _, h, e => by
    cases e
    rw [show _ = V.non from h]
    exact fun u r => by
      cases r
      exact ⟨[], .none, by simp⟩
  | .bl b, _, _, h, e => by
    cases e
    rw [show _ = V.bl b from h]
    exact fun u r => by
      cases r
      exact ⟨[], .bool b, by simp⟩
  | .int b, _, _, h, e => by
    cases e
    rw [show _ = V.int b from h]
    exact fun u r => by
      obtain ⟨t, rfl⟩ := r
      exact ⟨[], .int b t, by simp⟩
  | .str b, _, _, h, e => by
    cases e
    rw [show _ = V.str b from h]
    exact fun u r => by
      obtain ⟨t, rfl⟩ := r
      exact ⟨[], .str b t, by simp⟩
  | .lst xs, _, _, ⟨a, vs, h1, h2, h3⟩, e => by
    obtain ⟨ps, e1, e2⟩ := Option.map_eq_some_iff.mp e
    cases e2
    rw [h1]
    exact shows_lst I hK sys (SqL.of (sub _ _ h2)) (spsD h3 e1)
  | .ro xs, _, _, ⟨a, vs, h1, h2, h3⟩, e => by
    obtain ⟨ps, e1, e2⟩ := Option.map_eq_some_iff.mp e
    cases e2
    rw [h1]
    exact shows_lst I hK sys (sub_sqL sub h2) (spsD h3 e1)
  | .tup xs, _, _, ⟨a, vs, h1, h2, h3⟩, e => by
    obtain ⟨ps, e1, e2⟩ := Option.map_eq_some_iff.mp e
    cases e2
    rw [h1]
    exact shows_tup I hK sys (sub_sqT sub h2) (spsD h3 e1)
  | .dct kvs, _, _, ⟨a, kv, h1, h2, h3⟩, e => by
    obtain ⟨ps, e1, e2⟩ := Option.map_eq_some_iff.mp e
    cases e2
    rw [h1]
    refine shows_dct I hK sys ?_ (spkD h3 e1)
    rcases h2 with h2 | ⟨o, h2⟩
    · exact .inl (sub _ _ h2)
    · exact .inr ⟨o, sub _ _ h2⟩
  | .st _, _, _, _, e => by cases e
  | .ins _ _, _, _, _, e => by cases e
theorem spsD : ∀ {ds : List D} {vs : List V} {ps : List PyData}, Rs G F ds vs → spys ds = some ps → ShowsL s.heap vs ps
  | [], _, _, h, e => by
    cases e
    rw [show _ = [] from h]
    exact showsL_nil I hK sys
  | x :: r, _, _, ⟨v, r', h1, h2, h3⟩, e => by
    obtain ⟨a, e1, e⟩ := Option.bind_eq_some_iff.mp e
    obtain ⟨ps, e2, e3⟩ := Option.map_eq_some_iff.mp e
    cases e3
    rw [h1]
    exact showsL_cons I hK sys (spD h2 e1) (spsD h3 e2)
theorem spkD : ∀ {ds : List (Key × D)} {vs : List (Key × V)} {ps : List (PyData × PyData)}, Rk G F ds vs → spyk ds = some ps → ShowsK s.heap vs ps
  | [], _, _, h, e => by
    cases e
    rw [show _ = [] from h]
    exact showsK_nil I hK sys
  | (k, x) :: r, _, _, ⟨v, r', h1, h2, h3⟩, e => by
    obtain ⟨a, e1, e⟩ := Option.bind_eq_some_iff.mp e
    obtain ⟨ps, e2, e3⟩ := Option.map_eq_some_iff.mp e
    cases e3
    rw [h1]
    exact showsK_cons I hK sys (spD h2 e1) (spkD h3 e2)
end
section
variable {θ : Th} {c : Nat → Option PyData} (hc : ∀ n p a, c n = some p → θ[n]? = some a → Shows s.heap (.ref a) p)
include hc
mutual
theorem spW : ∀ {w : W} {v : V} {f : List Addr} {p : PyData}, RW G F θ H w v f → wspG c w = some p → Shows s.heap v p
  | .d x, _, _, _, h, e => spD I hK sys sub h.1 e
  | .r n, _, _, _, ⟨⟨a, h1, h2⟩, _⟩, e => by
    rw [h1]
    exact hc n _ a e h2
  | .own xs, _, _, _, ⟨a, vs, fs, h1, h2, h3, _⟩, e => by
    obtain ⟨ps, e1, e2⟩ := Option.map_eq_some_iff.mp e
    cases e2
    rw [h1]
    exact shows_lst I hK sys (SqL.of h2) (spsW h3 e1)
  | .bor xs, _, _, _, ⟨a, vs, fs, h1, h2, h3, _⟩, e => by
    obtain ⟨ps, e1, e2⟩ := Option.map_eq_some_iff.mp e
    cases e2
    rw [h1]
    exact shows_lst I hK sys (SqL.of h2) (spsW h3 e1)
  | .od kvs, _, _, _, ⟨a, vs, fs, h1, h2, h3, _⟩, e => by
    obtain ⟨ps, e1, e2⟩ := Option.map_eq_some_iff.mp e
    cases e2
    rw [h1]
    exact shows_dct I hK sys (.inl h2) (spkW h3 e1)
  | .bd kvs, _, _, _, ⟨a, vs, fs, h1, h2, h3, _⟩, e => by
    obtain ⟨ps, e1, e2⟩ := Option.map_eq_some_iff.mp e
    cases e2
    rw [h1]
    exact shows_dct I hK sys (.inl h2) (spkW h3 e1)
theorem spsW : ∀ {ws : List W} {vs : List V} {f : List Addr} {ps : List PyData}, RWs G F θ H ws vs f → wspsG c ws = some ps → ShowsL s.heap vs ps
  | [], _, _, _, h, e => by
    cases e
    rw [h.1]
    exact showsL_nil I hK sys
  | x :: r, _, _, _, ⟨v, r', f1, f2, h1, h2, h3, _⟩, e => by
    obtain ⟨a, e1, e⟩ := Option.bind_eq_some_iff.mp e
    obtain ⟨ps, e2, e3⟩ := Option.map_eq_some_iff.mp e
    cases e3
    rw [h1]
    exact showsL_cons I hK sys (spW h2 e1) (spsW h3 e2)
theorem spkW : ∀ {ws : List (Key × W)} {vs : List (Key × V)} {f : List Addr} {ps : List (PyData × PyData)}, RWk G F θ H ws vs f → wspkG c ws = some ps → ShowsK s.heap vs ps
  | [], _, _, _, h, e => by
    cases e
    rw [h.1]
    exact showsK_nil I hK sys
  | (k, x) :: r, _, _, _, ⟨v, r', f1, f2, h1, h2, h3, _⟩, e => by
    obtain ⟨a, e1, e⟩ := Option.bind_eq_some_iff.mp e
    obtain ⟨ps, e2, e3⟩ := Option.map_eq_some_iff.mp e
    cases e3
    rw [h1]
    exact showsK_cons I hK sys (spW h2 e1) (spkW h3 e2)
end
end
theorem spCell {θ : Th} {S : Store} (rs : RS G F θ H S) : ∀ (k n : Nat) (p : PyData) (a : Addr), cellSp S k n = some p → θ[n]? = some a → Shows s.heap (.ref a) p
  | 0, _, _, _, e, _ => by cases e
  | k + 1, n, p, a, e, h => by
    obtain ⟨xs, e1, e⟩ := Option.bind_eq_some_iff.mp e
    obtain ⟨ps, e2, e3⟩ := Option.map_eq_some_iff.mp e
    cases e3
    obtain ⟨b, vs, h3, _, h5, h6⟩ := rs.cell n xs e1
    rw [h] at h3
    cases h3
    exact shows_lst I hK sys (SqL.of h5) (spsW I hK sys sub (spCell rs k) h6 e2)
theorem shows {θ : Th} {S : Store} (rs : RS G F θ H S) {w : W} {v : V} {f : List Addr} {p : PyData} (h : RW G F θ H w v f) (e : wsp S w = some p) : Shows s.heap v p := spW I hK sys sub (spCell I hK sys sub rs 5) h e
end
end
/-- repr(x), x an object -/
def rRepr (X : Cx) : List V → Hp → VK → Prop := fun vs H Q => ∃ a p, vs = [.ref a] ∧ (∀ pins σ s, Inv X pins σ H s → Shows s.heap (.ref a) p) ∧ p.showable = true ∧ p.depth ≤ 64 ∧ p.shown.length ≤ sizeLine ∧ Q (.str p.shown) H
theorem cr_repr {X : Cx} {k : Nat} (hr : Room k X.A) (hg : X.A.guards = some []) : CallR X (.builtin "repr") (rRepr X) := by
  intro pins s σ H vs us Q I r h
  obtain ⟨a, p, rfl, sh, h1, h2, h3, q⟩ := h
  rw [Vals.ref1 r]
  obtain ⟨as, h4, h5⟩ := sh pins σ s I _ rfl
  refine repr_of_reads' h4 h1 (fun _ => h5) hg (by have := hr.un; omega) (fun _ _ e => e) (fun h' u tk keep => ⟨.str _, H, ?_, ⟨u, rfl⟩, q⟩) h3
  exact I.kept keep
def isRef : W → Bool
  | .d (.lst _) => true
  | .d (.tup _) => true
  | .d (.dct _) => true
  | .r _ => true
  | .own _ => true
  | .bor _ => true
  | .od _ => true
  | .bd _ => true
  | _ => false
theorem isRef_ok {G : Gd} {F : Hp} {θ : Th} {H : Hp} {w : W} {v : V} {f : List Addr} (h : RW G F θ H w v f) (e : isRef w = true) : ∃ a, v = .ref a := by
  cases w with
  | d x =>
    have h1 := h.1
    cases x with
    | lst xs =>
      obtain ⟨a, vs, e, _⟩ := h1
      exact ⟨a, e⟩
    | tup xs =>
      obtain ⟨a, vs, e, _⟩ := h1
      exact ⟨a, e⟩
    | dct xs =>
      obtain ⟨a, vs, e, _⟩ := h1
      exact ⟨a, e⟩
    | _ => cases e
  | r n =>
    obtain ⟨⟨a, e, _⟩, _⟩ := h
    exact ⟨a, e⟩
  | own xs =>
    obtain ⟨a, _, _, e, _⟩ := h
    exact ⟨a, e⟩
  | bor xs =>
    obtain ⟨a, _, _, e, _⟩ := h
    exact ⟨a, e⟩
  | od xs =>
    obtain ⟨a, _, _, e, _⟩ := h
    exact ⟨a, e⟩
  | bd xs =>
    obtain ⟨a, _, _, e, _⟩ := h
    exact ⟨a, e⟩
  | slf c xs =>
    obtain ⟨_, _, e, _⟩ := h
    exact ⟨_, e⟩
  | slb c xs =>
    obtain ⟨_, _, e, _⟩ := h
    exact ⟨_, e⟩
def gRepr (S : Store) (w : W) : Option W := (wsp S w).bind fun p => if isRef w = true ∧ p.showable = true ∧ p.depth ≤ 64 ∧ p.shown.length ≤ cap then some (.d (.str p.shown)) else none
theorem sim_repr {X : Cx} {G : Gd} (hK : X.K = G.K) (sys : SysK G.K) : SimC G (rRepr X) (g1 gRepr) := by
  refine ⟨fun {F θ H0 H S env σ fp ws vs z Q} st rx e l k => ?_⟩
  unfold g1 at e
  split at e
  · rename_i w
    obtain ⟨v, r', f, h1, h2, h3⟩ := rx
    have h3' : r' = [] := h3
    unfold gRepr at e
    obtain ⟨p, e1, e⟩ := Option.bind_eq_some_iff.mp e
    split at e
    · rename_i hc
      cases e
      obtain ⟨a, ea⟩ := isRef_ok h2.rw hc.1
      refine ⟨a, p, by rw [h1, h3', ea], fun pins σ s I => ?_, hc.2.1, hc.2.2.1, cap_ok hc.2.2.2, k F θ H _ _ (Tr.refl ..) st (.d rfl)⟩
      rw [← ea]
      exact shows I hK sys st.sub st.store h2.rw e1
    · cases e
  · cases e
theorem z_repr {X : Cx} {G : Gd} {e : Expr} {ms : MA} {p pos : Pos} {k : Nat} (hr : Room k X.A) (hgd : X.A.guards = some []) (sys : SysK G.K) (hg : Gl X "repr") (hm : X.mg "repr" = none) (ha : PA X [e] (tOfA G ms)) (he : starEach [e] X.env = (false, eval e X.env) :: starEach [] X.env := by rfl) (hpl : (backTo pos (starEach [] X.env)).any (·.1) = false := by rfl) (hK : X.K = G.K := by rfl) :
    PE X (.Call (.Name "repr" p) [e] [] pos) (tOf G (mCB (g1 gRepr) ms)) :=
  z_cb (cr_repr hr hgd) (sim_repr hK sys) hg hm (by decide +kernel) ha (by decide) (by decide) he hpl
end Zf
set_option Elab.async false
set_option linter.all false
set_option maxRecDepth 100000
set_option maxHeartbeats 2000000
namespace Zf
open PySem PySem.Spec PyProof.Rows L2

/-! ### walks over cells; comprehensions whose list is ours -/
inductive Src where
  | ds (xs : List D)
  | cel (n : Nat)
def nxt (S : Store) (i : Nat) : Src → Option (Option W)
  | .ds xs => match xs[i]? with
    | some d => some (some (.d d))
    | none => if xs.length = i then some none else none
  | .cel n => (S[n]?).bind fun ys => match ys[i]? with
    | none => some none
    | some w => if isArg w = true then some (some w) else none
def Src.size (S : Store) : Src → Nat
  | .ds xs => xs.length
  | .cel n => (S.getD n []).length
def RunsW (G : Gd) (F : Hp) (θ : Th) (J : It) (src : Src) : Prop := ∀ (i : Nat) (F2 : Hp) (θ2 : Th) (H2 : Hp) (S2 : Store), Le F F2 → (∃ m, θ2 = θ ++ m) → (∀ a u, F2 a = some u → H2 a = some u) → RS G F2 θ2 H2 S2 →
  (∀ w, nxt S2 i src = some (some w) → isArg w = true ∧ J.go i H2 ∧ ∀ x H3, J.yld i H2 x H3 → ∃ F3, Grow F2 H2 F3 H3 ∧ RW G F3 θ2 H3 w x []) ∧ (nxt S2 i src = some none → J.stop i H2)
theorem Runs.w {G : Gd} {F : Hp} {θ : Th} {J : It} {ds : List D} (r : Runs G F J ds) : RunsW G F θ J (.ds ds) := fun i F2 θ2 H2 S2 le _ sub _ => by
  obtain ⟨h1, h2⟩ := r i F2 H2 le sub
  refine ⟨fun w e => ?_, fun e => ?_⟩
  · simp only [nxt] at e
    split at e
    · rename_i d e1
      cases e
      obtain ⟨g, y⟩ := h1 d e1
      refine ⟨rfl, g, fun x H3 q => ?_⟩
      obtain ⟨F3, g3, r3⟩ := y x H3 q
      exact ⟨F3, g3, r3, rfl⟩
    · split at e
      · cases e
      · cases e
  · simp only [nxt] at e
    split at e
    · cases e
    · split at e
      · rename_i hl
        exact h2 hl
      · cases e
abbrev MIW := En → Store → Option (Src × Store)
def tOfIW (G : Gd) (m : MIW) : TI := fun σ H R => ∃ F θ S env fp src S', St G F θ H S env σ fp ∧ m env S = some (src, S') ∧
  ∀ F' θ' H' J, Tr F θ H F' θ' H' → St G F' θ' H' S' env σ fp → RunsW G F' θ' J src → R J H'
def mIW (m : MI) : MIW := fun env S => (m env S).map fun p => (.ds p.1, p.2)
def mICel (m : ME) : MIW := fun env S => (m env S).bind fun p => match p.1 with
  | .r n => some (.cel n, p.2)
  | _ => none
section
variable {X : Cx} {G : Gd} {tg l : Expr} {m : ME} {mi : MI}
theorem zi_w (h : PI X tg l (tOfI G mi)) : PI X tg l (tOfIW G (mIW mi)) := pi_imp h fun σ H R q => by
  obtain ⟨F, θ, S, env, fp, src, S', s, e, k⟩ := q
  obtain ⟨⟨ds, S1⟩, e1, e2⟩ := Option.map_eq_some_iff.mp e
  cases e2
  exact ⟨F, θ, S, env, fp, ds, _, s, e1, fun F' θ' H' J t st r => k F' θ' H' J t st r.w⟩
theorem zi_cel (h : PE X l (tOf G m)) (hK : X.K = G.K := by rfl) : PI X tg l (tOfIW G (mICel m)) := by
  refine pi_imp (pi_list h) fun σ H Rr q => ?_
  rw [hK]
  obtain ⟨F, θ, S, env, fp, src, S', s, e, k⟩ := q
  unfold mICel at e
  obtain ⟨⟨w, S1⟩, e1, e⟩ := Option.bind_eq_some_iff.mp e
  dsimp only at e
  split at e
  · rename_i n
    cases e
    refine ⟨F, θ, S, env, fp, _, _, s, e1, fun F1 θ1 H1 v f t1 s1 r => ?_⟩
    obtain ⟨⟨a, h1, h2⟩, _⟩ := r.rw
    have hn : n < S'.length := by
      rw [← s1.store.len]
      exact (List.getElem?_eq_some_iff.mp h2).1
    obtain ⟨b, vs, h3, _, h5, _⟩ := s1.store.cell n S'[n] (List.getElem?_eq_getElem hn)
    rw [h2] at h3
    cases h3
    refine ⟨a, h1, ⟨vs, SqL.of h5⟩, k F1 θ1 H1 _ t1 s1 fun i F2 θ2 H2 S2 le th sub rs => ?_⟩
    have key : ∀ ys, S2[n]? = some ys → ∃ us, H2 a = some (.lst us) ∧ RWs G F2 θ2 H2 ys us [] := fun ys e => by
      obtain ⟨c, us, g1, _, g3, g4⟩ := rs.cell n ys e
      obtain ⟨mm, rfl⟩ := th
      rw [List.getElem?_append_left (List.getElem?_eq_some_iff.mp h2).1, h2] at g1
      cases g1
      exact ⟨us, g3, g4⟩
    refine ⟨fun w e => ?_, fun e => ?_⟩
    · simp only [nxt] at e
      obtain ⟨ys, e1, e⟩ := Option.bind_eq_some_iff.mp e
      obtain ⟨us, g1, g2⟩ := key ys e1
      split at e
      · cases e
      · split at e
        · rename_i w' hw hA
          cases e
          obtain ⟨v, f', q1, q2, q3⟩ := g2.get hw
          have ef : f' = [] := List.sublist_nil.mp q3
          subst ef
          refine ⟨hA, ⟨us, v, SqL.of g1, q1⟩, fun x H3 y => ?_⟩
          obtain ⟨rfl, y⟩ := y
          have y1 := y us (SqL.of g1)
          rw [q1] at y1
          cases y1
          exact ⟨F2, .refl sub, q2⟩
        · cases e
    · simp only [nxt] at e
      obtain ⟨ys, e1, e⟩ := Option.bind_eq_some_iff.mp e
      obtain ⟨us, g1, g2⟩ := key ys e1
      split at e
      · rename_i hw
        exact ⟨us, SqL.of g1, by rw [g2.len]; exact List.getElem?_eq_none_iff.mp hw⟩
      · split at e
        · cases e
        · cases e
  · cases e
end
/-- a target gets a value -/
def bindW : Tg → En → W → Option En
  | .nm i, env, w => if i < env.length ∧ isArg w = true then some (env.set i (some w)) else none
  | .tup is, env, .d (.tup xs) => bindAll is xs env
  | _, _, _ => none
theorem Res.arg {G : Gd} {H0 F H : Hp} {θ : Th} {fp f : List Addr} {w : W} {v : V} (h : RW G F θ H w v f) (ha : isArg w = true) : Res G H0 fp F θ H w v [] := by
  have e := arg_nil h ha
  subst e
  refine ⟨h, .nil, fun _ h => absurd h (by simp), fun _ h => absurd h (by simp), fun h => ?_⟩
  cases w with
  | d _ => exact h.elim
  | r _ => exact h.elim
  | _ => cases ha
theorem canSet_arg {w : W} (ha : isArg w = true) : canSet w = true := by
  cases w <;> first | rfl | cases ha
theorem St.setA {G : Gd} {F H : Hp} {θ : Th} {S : Store} {env : En} {σ : L2.St} {fp f : List Addr} {w : W} {v : V} {i : Nat} (s : St G F θ H S env σ fp) (h : RW G F θ H w v f) (ha : isArg w = true) (hi : i < env.length) : ∃ fp', St G F θ H S (env.set i (some w)) (σ.set i (some v)) fp' ∧ ∀ a ∈ fp', a ∈ fp := by
  obtain ⟨fp', s2, h2⟩ := s.set (H0 := H) (Res.arg h ha) s.fpH hi (canSet_arg ha)
  exact ⟨fp', s2, fun a h3 => (h2 a h3).resolve_right (s2.fpH a h3)⟩
theorem bindW_slots {G : Gd} {F H : Hp} {θ : Th} {S : Store} {t : Tg} {ks : List Nat} {w : W} {v : V} {f : List Addr} {env env' : En} {σ : L2.St} {fp : List Addr} {Q : L2.St → Hp → Prop} (hk : ∀ i ∈ t.slots, i ∈ ks) (s : St G F θ H S env σ fp) (r : RW G F θ H w v f) (e : bindW t env w = some env')
    (k : ∀ σ' fp', St G F θ H S env' σ' fp' → (∀ a ∈ fp', a ∈ fp) → L2.wipe σ' ks = L2.wipe σ ks → Q σ' H) : gOf G.K t v σ H Q := by
  cases t with
  | nm i =>
    have e : (if i < env.length ∧ isArg w = true then some (env.set i (some w)) else none) = some env' := e
    split at e
    · rename_i hc
      cases e
      obtain ⟨fp', s2, h2⟩ := s.setA r hc.2 hc.1
      exact k _ fp' s2 h2 (wipe_idem (hk i (List.mem_cons_self ..)) _)
    · cases e
  | tup is =>
    cases w with
    | d x =>
      cases x with
      | tup xs => exact bindT_slots (t := .tup is) (x := .tup xs) hk s r.1 e k
      | _ => cases e
    | _ => cases e
def goForW (t : Tg) (body : MS) (src : Src) : Nat → Nat → MS
  | 0, _, _, _ => none
  | n + 1, i, env, S => (nxt S i src).bind fun o => match o with
    | none => some (.nx, env, S)
    | some w => (bindW t env w).bind fun env1 => (body env1 S).bind fun p => match p.1 with
      | .nx => goForW t body src n (i + 1) p.2.1 p.2.2
      | .cont => goForW t body src n (i + 1) p.2.1 p.2.2
      | .brk => some (.nx, p.2.1, p.2.2)
      | .ret w => some (.ret w, p.2.1, p.2.2)
/-- `for x in xs`, xs a cell of the store -/
def mForW (mi : MIW) (t : Tg) (body : MS) : MS := fun env S => (mi env S).bind fun p => goForW t body p.1 (p.1.size p.2 + 1) 0 env p.2
section
variable {X : Cx} {G : Gd} {tg iter : Expr} {body : List Stmt} {mi : MIW} {t : Tg} {mb : MS} {pos : Pos}
theorem z_forW (hp : PassesOwn (model X.prog X.w) X.A X.env X.xe) (hi : PI X tg iter (tOfIW G mi)) (hg : PG X tg (gOf G.K t)) (hb : PSs X body (tOfS G mb)) (hc : X.calm = true := by rfl)
    (hs : ∀ x, foldedSetIterable iter X.env x = pure x := by intro _; rfl) : PS X (.For tg iter body [] pos) (tOfS G (mForW mi t mb)) := by
  refine ps_imp (ps_for hp hc hi hg hb hs) fun D σ H h => ?_
  obtain ⟨F, θ, S, env, fp, fl, envE, SE, s, e, k⟩ := h
  unfold mForW at e
  obtain ⟨⟨src, S1⟩, e1, e⟩ := Option.bind_eq_some_iff.mp e
  refine ⟨F, θ, S, env, fp, src, S1, s, e1, fun F1 θ1 H1 J t1 s1 run => ?_⟩
  refine ⟨fun i m σ' H' => ∃ F' θ' fp' env' S', TrS F θ H fp F' θ' H' fp' ∧ Le F1 F' ∧ (∃ mm, θ' = θ1 ++ mm) ∧ St G F' θ' H' S' env' σ' fp' ∧ goForW t mb src m i env' S' = some (fl, envE, SE),
    ⟨_, F1, θ1, fp, env, S1, t1.toS fp, .refl _, ⟨[], (List.append_nil _).symm⟩, s1, e⟩, ?_⟩
  rintro i m σ' H' ⟨F', θ', fp', env', S', ts, le, th, s', e'⟩
  cases m with
  | zero => cases e'
  | succ m =>
    unfold goForW at e'
    obtain ⟨o, e2, e'⟩ := Option.bind_eq_some_iff.mp e'
    obtain ⟨r1, r2⟩ := run i F' θ' H' S' le th s'.sub s'.store
    cases o with
    | none =>
      left
      cases e'
      exact ⟨r2 e2, k F' θ' H' σ' fp' ts s'⟩
    | some w =>
      right
      dsimp only at e'
      obtain ⟨env1, e3, e'⟩ := Option.bind_eq_some_iff.mp e'
      obtain ⟨⟨f1, en2, S2⟩, e4, e'⟩ := Option.bind_eq_some_iff.mp e'
      obtain ⟨hA, go, yl⟩ := r1 w e2
      refine ⟨go, fun σ'' H'' => ∃ m', m' < m + 1 ∧ ∃ F' θ' fp' env' S', TrS F θ H fp F' θ' H'' fp' ∧ Le F1 F' ∧ (∃ mm, θ' = θ1 ++ mm) ∧ St G F' θ' H'' S' env' σ'' fp' ∧ goForW t mb src m' (i + 1) env' S' = some (fl, envE, SE), fun σ'' H'' q => q, fun x H3 y => ?_⟩
      obtain ⟨F3, g, rx⟩ := yl x H3 y
      have s3 := s'.grow g
      refine bindW_slots (ks := t.slots) (fun _ h => h) s3 rx e3 fun σ4 fp4 s4 h4 _ => ?_
      refine ⟨F3, θ', S', env1, fp4, f1, en2, S2, s4, e4, fun F5 θ5 H5 σ5 fp5 t5 s5 => ?_⟩
      have tt : TrS F θ H fp F5 θ5 H5 fp5 := ts.trans ((g.toS θ' fp').trans ((TrS.fpSub h4).trans t5))
      have lee : Le F1 F5 := le.trans ((Le.of g.f).trans t5.le)
      have thh : ∃ mm, θ5 = θ1 ++ mm := by
        obtain ⟨m1, rfl⟩ := th
        obtain ⟨m2, rfl⟩ := t5.th
        exact ⟨m1 ++ m2, List.append_assoc ..⟩
      cases f1 with
      | nx => exact ⟨m, Nat.lt_succ_self m, F5, θ5, fp5, en2, S2, tt, lee, thh, s5, e'⟩
      | cont => exact ⟨m, Nat.lt_succ_self m, F5, θ5, fp5, en2, S2, tt, lee, thh, s5, e'⟩
      | brk =>
        cases e'
        exact k F5 θ5 H5 σ5 fp5 tt s5
      | ret w =>
        cases e'
        intro v f r
        exact k F5 θ5 H5 σ5 fp5 tt s5 v f ⟨r.rw, r.nd, r.ap, fun a ha => by
          rcases r.src a ha with z | z
          · exact ts.newP a (h4 a z)
          · refine .inr (ts.back ?_)
            cases q : H' a with
            | none => rfl
            | some u =>
              rw [g.h a u q] at z
              cases z⟩
end
/-! a comprehension, its list ours -/
def goLcW (t : Tg) (mt : MT) (me : ME) (ew : En) (src : Src) : Nat → Nat → Store → List W → Option (List W × Store)
  | 0, _, _, _ => none
  | n + 1, i, S, acc => (nxt S i src).bind fun o => match o with
    | none => some (acc, S)
    | some w => (bindW t ew w).bind fun env1 => (mt env1 S).bind fun p => if p.1 = true then
        (me env1 p.2).bind fun q => if isArg q.1 = true ∧ acc.length < cap then goLcW t mt me ew src n (i + 1) q.2 (acc ++ [q.1]) else none
      else goLcW t mt me ew src n (i + 1) p.2 acc
def mLcW (mi : MIW) (t : Tg) (mt : MT) (me : ME) (vs : List Nat) : ME := fun env S => (mi env S).bind fun p => (goLcW t mt me (wipeE env vs) p.1 (p.1.size p.2 + 1) 0 p.2 []).map fun q => (.own q.1, q.2)
theorem lcW_reads {G : Gd} {mi : MIW} {t : Tg} {mt : MT} {me : ME} {vs : List Nat} (hk : ∀ i ∈ t.slots, i ∈ vs) {σ : L2.St} {H : Hp} {Q : VK} (h : tOf G (mLcW mi t mt me vs) σ H Q) : tLc (tOfIW G mi) (gOf G.K t) (tOfT G mt) (tOf G me) vs σ H Q := by
  obtain ⟨F, θ, S, env, fp, w, SE, s, e, k⟩ := h
  unfold mLcW at e
  obtain ⟨⟨src, S1⟩, e1, e⟩ := Option.bind_eq_some_iff.mp e
  obtain ⟨⟨res, SE'⟩, e2, e3⟩ := Option.map_eq_some_iff.mp e
  cases e3
  refine ⟨F, θ, S, env, fp, src, S1, s, e1, fun F1 θ1 H1 J t1 s1 run Da hD => ?_⟩
  obtain ⟨fpw, sw, hw⟩ := s1.wipe vs
  obtain ⟨_, _, fD, tD, _⟩ := s1.new0 hD (.lst [])
  have pD : Da ∉ fpw := fun z => sw.fpH Da z hD
  refine ⟨fun i m H' => ∃ acc S' F' θ' fpw us, Tr F1 θ1 H1 F' θ' H' ∧ St G F' θ' H' S' (wipeE env vs) (L2.wipe σ vs) fpw ∧ F' Da = none ∧ Da ∉ θ' ∧ Da ∉ fpw ∧ H' Da = some (.lst us) ∧ RWs G F' θ' H' acc us [] ∧
      goLcW t mt me (wipeE env vs) src m i S' acc = some (res, SE'), ⟨_, [], S1, F1, θ1, fpw, [], ?_, sw.hid _ fD tD pD, fD, tD, pD, upd_same, ⟨rfl, rfl⟩, e2⟩, ?_⟩
  · exact (s1.new0 hD _).1
  · rintro i m H' ⟨acc, S', F', θ', fpw', us, tr, sw', fD', tD', pD', hD', rs, e4⟩
    cases m with
    | zero => cases e4
    | succ m =>
      unfold goLcW at e4
      obtain ⟨o, e5, e4⟩ := Option.bind_eq_some_iff.mp e4
      obtain ⟨r1, r2⟩ := run i F' θ' H' S' tr.le tr.th sw'.sub sw'.store
      cases o with
      | none =>
        left
        cases e4
        refine ⟨r2 e5, k F' θ' H' (.ref Da) [Da] (t1.trans tr) (s1.step tr sw'.sub sw'.store) ⟨⟨Da, us, [], rfl, hD', rs, rfl⟩, by simp, fun a ha => ?_, fun a ha => .inr ?_, fun _ a ha => ?_⟩⟩
        · rw [List.mem_singleton.mp ha]
          exact ⟨fD', tD'⟩
        · rw [List.mem_singleton.mp ha]
          exact t1.back hD
        · rw [List.mem_singleton.mp ha]
          exact t1.back hD
      | some w =>
        right
        dsimp only at e4
        obtain ⟨env1, e6, e4⟩ := Option.bind_eq_some_iff.mp e4
        obtain ⟨⟨b, S2⟩, e7, e4⟩ := Option.bind_eq_some_iff.mp e4
        obtain ⟨_, go, yl⟩ := r1 w e5
        refine ⟨go, fun H'' => ∃ m', m' < m + 1 ∧ ∃ acc S' F' θ' fpw us, Tr F1 θ1 H1 F' θ' H'' ∧ St G F' θ' H'' S' (wipeE env vs) (L2.wipe σ vs) fpw ∧ F' Da = none ∧ Da ∉ θ' ∧ Da ∉ fpw ∧ H'' Da = some (.lst us) ∧ RWs G F' θ' H'' acc us [] ∧
          goLcW t mt me (wipeE env vs) src m' (i + 1) S' acc = some (res, SE'), fun _ q => q, fun x H3 y => ?_⟩
        obtain ⟨F3, g, rx⟩ := yl x H3 y
        have t3 := g.tr θ'
        have s3 := sw'.grow g
        have keepD : ∀ {Fa Ha : Hp} {θa : Th}, Tr F' θ' H' Fa θa Ha → Fa Da = none ∧ Da ∉ θa ∧ Ha Da = some (.lst us) := fun {Fa Ha θa} tt => by
          refine ⟨?_, fun z => ?_, tt.keep Da _ tD' hD'⟩
          · cases q : Fa Da with
            | none => rfl
            | some u =>
              have z := tt.newF Da fD' (by rw [q]; exact fun z => by cases z)
              rw [hD'] at z
              cases z
          · have z2 := tt.newT Da z tD'
            rw [hD'] at z2
            cases z2
        refine bindW_slots hk s3 rx e6 fun σ4 fp4 s4 h4 hw4 => ?_
        refine ⟨by rw [hw4, wipe_wipe], F3, θ', S', env1, fp4, b, S2, s4, e7, fun F5 θ5 H5 t5 s5 => ?_⟩
        have tt5 := t3.trans t5
        cases b with
        | false =>
          obtain ⟨k1, k2, k3⟩ := keepD tt5
          exact ⟨m, Nat.lt_succ_self m, acc, S2, F5, θ5, fpw', us, tr.trans tt5, sw'.step tt5 s5.sub s5.store, k1, k2, pD', k3, RWs.mono tt5 _ _ _ (fun _ h => absurd h (by simp)) rs, e4⟩
        | true =>
          simp only [if_true] at e4
          obtain ⟨⟨y, S6⟩, e8, e4⟩ := Option.bind_eq_some_iff.mp e4
          dsimp only at e4
          split at e4
          · rename_i hc
            refine ⟨F5, θ5, S2, env1, fp4, _, S6, s5, e8, fun F6 θ6 H6 v f t6 s6 r6 => ?_⟩
            have tt6 := tt5.trans t6
            obtain ⟨k1, k2, k3⟩ := keepD tt6
            have rs6 := RWs.mono tt6 _ _ _ (fun _ h => absurd h (by simp)) rs
            have st6 := sw'.step tt6 s6.sub s6.store
            have ry := (Res.arg (H0 := H6) (fp := []) r6.rw hc.1).rw
            have th : ∀ (n : Nat) b, θ6[n]? = some b → θ6[n]? = some b := fun _ _ h => h
            refine ⟨us, k3, by rw [rs.len]; exact cap_lt hc.2, m, Nat.lt_succ_self m, acc ++ [y], S6, F6, θ6, fpw', us ++ [v], ?_, st6.hid _ k1 k2 pD', k1, k2, pD', upd_same, RWs.move (.refl F6) th _ _ _ (fun _ h => absurd h (by simp)) (RWs.app rs6 ⟨v, [], [], [], rfl, ry, ⟨rfl, rfl⟩, rfl⟩), e4⟩
            have t16 := tr.trans tt6
            refine ⟨t16.le, t16.th, t16.newF, t16.newT, fun a u h1 h2 => ?_, fun a u h1 => ?_⟩
            · rw [upd_ne (ne_of_none h2 hD)]
              exact t16.keep a u h1 h2
            · obtain ⟨u', h'⟩ := t16.live a u h1
              exact ⟨u', by rw [upd_ne (ne_of_none h1 hD)]; exact h'⟩
          · cases e4
section
variable {X : Cx} {G : Gd} {elt tg iter : Expr} {ifs : List Expr} {scope : Scope} {own : List (Str × Nat)} {pos : Pos} {mi : MIW} {t : Tg} {mt : MT} {me : ME}
theorem z_lcW (hN : X.N.Nodup) (hi : PI X tg iter (tOfIW G mi)) (ok : BlkOk X.N X.env.scope scope own)
    (hg : ∀ (s : Shared) (H : Hp) (C : Addr) (cl : List (Str × Addr)) (fp : List Addr), PG (X.blk s H scope (PySem.compEnvC scope cl C X.env) fp) tg (gOf G.K t))
    (ht : ∀ (s : Shared) (H : Hp) (C : Addr) (cl : List (Str × Addr)) (fp : List Addr), PTs (X.blk s H scope (PySem.compEnvC scope cl C X.env) fp) ifs (tOfT G mt))
    (he : ∀ (s : Shared) (H : Hp) (C : Addr) (cl : List (Str × Addr)) (fp : List Addr), PE (X.blk s H scope (PySem.compEnvC scope cl C X.env) fp) elt (tOf G me))
    (hk : ∀ i ∈ t.slots, i ∈ own.map (·.2) := by decide) (hc : X.calm = true := by rfl) (hs : ∀ x, foldedSetIterable iter X.env x = pure x := by intro _; rfl) : PE X (.ListComp elt [⟨tg, iter, ifs, 0⟩] scope pos) (tOf G (mLcW mi t mt me (own.map (·.2)))) :=
  pe_imp (pe_lc hc hN hi ok hg ht he hs) fun _ _ _ h => lcW_reads hk h
end
/-- a list of one's own, frozen at once -/
def mFrzE (m : ME) : ME := fun env S => (m env S).bind fun p => match p.1 with
  | .own xs => (asDs xs).map fun ds => (.d (.lst ds), p.2)
  | _ => none
end Zf
set_option Elab.async false
set_option linter.all false
set_option maxRecDepth 100000
set_option maxHeartbeats 2000000
namespace Zf
open PySem PySem.Spec PyProof.Rows L2

/-- an expression that no walk reaches -/
def mNone : ME := fun _ _ => none
theorem z_none {X : Cx} {G : Gd} {e : Expr} : PE X e (tOf G mNone) := ⟨fun pins s σ H Q I h => by
  obtain ⟨F, θ, S, env, fp, w, S', st, e, k⟩ := h
  cases e⟩
/-! ### x, y = a, b -/
def mPar (i j : Nat) (ms : MA) : MS := fun env S => (ms env S).bind fun p => match p.1 with
  | [x, y] => if isArg x = true ∧ isArg y = true ∧ i < env.length ∧ j < env.length then some (.nx, (env.set i (some x)).set j (some y), p.2) else none
  | _ => none
theorem z_par {X : Cx} {G : Gd} {i j : Nat} {x y : Str} {a b : Expr} {ms : MA} {px py pt pos : Pos} {kt k2 pt2} (hN : X.N.Nodup) (hi : X.N[i]? = some x) (hj : X.N[j]? = some y) (hij : i ≠ j)
    (hx : X.env.scope.names.lookup x = some .local) (hy : X.env.scope.names.lookup y = some .local) (ha : PA X [a, b] (tOfA G ms))
    (hw : swappedStores [.Tuple [.Name x px, .Name y py] kt pt] (.Tuple [a, b] k2 pt2) X.env = pure (some [x, y]))
    (hs : swapsWithSole [.Tuple [.Name x px, .Name y py] kt pt] (.Tuple [a, b] k2 pt2) pos.line X.env = pure false := by rfl) (hc : X.calm = true := by rfl) :
    PS X (.Assign [.Tuple [.Name x px, .Name y py] kt pt] (.Tuple [a, b] k2 pt2) pos) (tOfS G (mPar i j ms)) := by
  refine ps_imp (ps_par hc hN hi hj hij hx hy ha hw hs) fun D σ H h => ?_
  obtain ⟨F, θ, S, env, fp, fl, env', S', s, e, k⟩ := h
  unfold mPar at e
  obtain ⟨⟨ws, S1⟩, e1, e⟩ := Option.bind_eq_some_iff.mp e
  dsimp only at e
  split at e
  · rename_i x y
    split at e
    · rename_i hc
      cases e
      refine ⟨F, θ, S, env, fp, _, _, s, e1, fun F1 θ1 H1 vs t1 s1 r => ?_⟩
      obtain ⟨v, r1, f, h1, h2, u, r2, f2, h3, h4, h5⟩ := r
      have h5' : r2 = [] := h5
      obtain ⟨fa, s2, q2⟩ := s1.setA h2.rw hc.1 hc.2.2.1
      obtain ⟨fb, s3, q3⟩ := s2.setA h4.rw hc.2.1 (by rw [List.length_set]; exact hc.2.2.2)
      exact ⟨v, u, by rw [h1, h3, h5'], k F1 θ1 H1 _ fb ((t1.toS fp).trans (TrS.fpSub fun a ha => q2 a (q3 a ha))) s3⟩
    · cases e
  · cases e
/-! ### x, y = e, e a tuple or a list -/
/-! ### the head's facts -/
abbrev AlZ : Type := He.AlT × List Bool
def frZ (g : Addr → Option Obj) (n : Nat) : PySem.W.Frag := He.frG g (sysModules :: He.asD g n)
def obsZ (fa : List He.Fa) (fn : List He.DefD) (ts : List He.Tab) (eb : List (PySem.W.Frag → Bool)) (K : PySem.W.Frag) : AlZ := (He.obsT fa fn ts K, eb.map fun b => b K)
def valZ (fn : List He.DefD) (ts : List He.Tab) (eb : List (PySem.W.Frag → Bool)) (w : World) : AlZ := (He.valT fn ts w, eb.map fun _ => true)
def obsZG (n : Nat) (fa : List He.Fa) (fn : List He.DefD) (ts : List He.Tab) (eb : List (PySem.W.Frag → Bool)) (g : Addr → Option Obj) : AlZ := obsZ fa fn ts eb (frZ g n)
def SaysZ (fa : List He.Fa) (fn : List He.DefD) (ts : List He.Tab) (eb : List (PySem.W.Frag → Bool)) (w : World) (K : PySem.W.Frag) : Prop := obsZ fa fn ts eb K = valZ fn ts eb w
def hookZ (n : Nat) (fa : List He.Fa) (fn : List He.DefD) (ts : List He.Tab) (eb : List (PySem.W.Frag → Bool)) : PySem.W.Hook where
  α := AlZ
  obs := fun s => obsZG n fa fn ts eb s.heap.get?
  val := fun w => valZ fn ts eb w
  says := fun w h => ∃ K : PySem.W.Frag, K.In h ∧ SaysZ fa fn ts eb w K
  of := fun _ _ e => ⟨_, He.frG_in, e⟩
  keeps := fun _ _ _ ⟨K, hK, c⟩ k => ⟨K, PySem.W.Frag.In.keeps hK k, c⟩
theorem obsZG_eq {n : Nat} {fa : List He.Fa} {fn : List He.DefD} {ts : List He.Tab} {eb : List (PySem.W.Frag → Bool)} {g : Addr → Option Obj} {s : Shared} (h : ∀ a, g a = s.heap.get? a) : obsZG n fa fn ts eb g = (hookZ n fa fn ts eb).obs s := by
  have e : g = s.heap.get? := funext h
  rw [e]
  rfl
section
variable {fa : List He.Fa} {fn : List He.DefD} {ts : List He.Tab} {eb : List (PySem.W.Frag → Bool)} {w : World} {K : PySem.W.Frag}
theorem SaysZ.t (c : SaysZ fa fn ts eb w K) : He.SaysT fa fn ts w K := congrArg (fun z : AlZ => z.1) c
theorem SaysZ.d (c : SaysZ fa fn ts eb w K) : He.SaysD fa fn K := He.SaysT.d c.t
theorem SaysZ.ex (c : SaysZ fa fn ts eb w K) (i : Nat) {b : PySem.W.Frag → Bool} (h : eb[i]? = some b := by rfl) : b K = true := by
  have e : eb.map (fun b => b K) = eb.map fun _ => true := congrArg (fun z : AlZ => z.2) c
  have e2 : (eb.map fun b => b K)[i]? = (eb.map fun _ => true)[i]? := by rw [e]
  rw [List.getElem?_map, List.getElem?_map, h] at e2
  exact Option.some.inj e2
end
/-- the modules' dict stands where it should -/
def sysB (K : PySem.W.Frag) : Bool := match K.lookup sysModules with
  | some o => decide (o.cls = .type "dict")
  | none => false
theorem sysB_ok {K : PySem.W.Frag} (h : sysB K = true) : SysK K := by
  unfold sysB at h
  split at h
  · rename_i o e
    exact ⟨o, e, of_decide_eq_true h⟩
  · cases h
/-- the facts of a head, at a base -/
structure Hd (fa : List He.Fa) (fn : List He.DefD) (ts : List He.Tab) (eb : List (PySem.W.Frag → Bool)) (G : Gd) (mg : Str → Option Value) (base : Heap) : Prop where
  kin : G.K.In base
  ns : base.Ns mainGlobals mg
  z : SaysZ fa fn ts eb G.w G.K
  sys : SysK G.K
section
variable {fa : List He.Fa} {fn : List He.DefD} {ts : List He.Tab} {eb : List (PySem.W.Frag → Bool)} {G : Gd} {mg : Str → Option Value} {base : Heap}
theorem Hd.says (h : Hd fa fn ts eb G mg base) : He.SaysD fa fn G.K := h.z.d
theorem Hd.glo (h : Hd fa fn ts eb G mg base) (i : Nat) {x : Str} (e : fa[i]? = some (.glo x) := by rfl) : mg x = some (.ref (He.ga G.K x)) := He.glo_ok h.kin h.ns (h.says.fact i e)
theorem Hd.free (h : Hd fa fn ts eb G mg base) (i : Nat) {x : Str} (e : fa[i]? = some (.free x) := by rfl) : mg x = none := He.free_ok h.kin h.ns (h.says.fact i e)
theorem Hd.gstr (h : Hd fa fn ts eb G mg base) (i : Nat) {x z : Str} (e : fa[i]? = some (.str x z) := by rfl) : ∃ t, mg x = some (.str z t) := He.str_ok h.kin h.ns (h.says.fact i e)
theorem Hd.gint (h : Hd fa fn ts eb G mg base) (i : Nat) {x : Str} {z : Int} (e : fa[i]? = some (.int x z) := by rfl) : ∃ t, mg x = some (.int z t) := He.int_ok h.kin h.ns (h.says.fact i e)
end
/-- a constant tuple of texts -/
theorem tupc {G : Gd} {x : Str} {ss : List Str} (h : He.tupB G.K x (ss.map He.Dv.str) = true) (F : Hp) : R G F (.tup (ss.map .str)) (.ref (He.ga G.K x)) := by
  refine ⟨_, _, rfl, He.tupB_ok h F, ?_⟩
  rw [List.map_map]
  exact Rs.ofStrs ss
/-- a constant dict with text keys: membership -/
def mInK (neg : Bool) (ks : List Str) (m : ME) : ME := fun env S => (m env S).bind fun p => match p.1 with
  | .d (.str z) => some (.d (.bl (neg != ks.contains z)), p.2)
  | _ => none
def HasKeys (K : PySem.W.Frag) (a : Addr) (ks : List Str) : Prop := ∀ z : Str, ∃ r, PySem.W.nsIn K a z = some r ∧ r.isSome = ks.contains z
theorem keys_find {P : Params} : ∀ {l : List DictEntry} {ks : List Str}, l.map He.keyOf = He.keysIn P ks → ∀ z, (l.find? (·.key.isStr z)).isSome = ks.contains z ∧ l.any (·.refKey) = false
  | [], ks, h, z => by
    have e : ks = [] := by simpa [He.keysIn] using h.symm
    subst e
    exact ⟨rfl, rfl⟩
  | e :: r, [], h, z => by cases h
  | e :: r, k :: ks, h, z => by
    have h1 : He.keyOf e :: r.map He.keyOf = some (k, PyData.keyHash P k) :: He.keysIn P ks := h
    injection h1 with h2 h3
    obtain ⟨i1, i2⟩ := keys_find h3 z
    unfold He.keyOf at h2
    split at h2
    · rename_i x t q
      obtain ⟨h5, h6⟩ := Prod.mk.inj (Option.some.inj h2)
      subst h5
      have ek : e.key.isStr z = (x == z) := by
        rw [q]
        rfl
      refine ⟨?_, ?_⟩
      · rw [List.find?_cons, ek, List.contains_cons]
        cases c : x == z with
        | true =>
          have : z = x := (beq_iff_eq.mp c).symm
          simp [this]
        | false =>
          have : (z == x) = false := by
            cases d : z == x with
            | false => rfl
            | true =>
              rw [beq_iff_eq.mp d] at c
              simp at c
          rw [this]
          exact i1
      · rw [List.any_cons, i2, Bool.or_false]
        unfold DictEntry.refKey
        rw [q]
    · cases h2
theorem hasKeys_of {K : PySem.W.Frag} {w : World} {a : Addr} {ks : List Str} (h : He.dicW K a = some (He.keysIn w.params ks)) : HasKeys K a ks := fun z => by
  unfold He.dicW at h
  split at h
  · rename_i c es n sl q
    split at h
    · obtain ⟨h1, h2⟩ := keys_find (Option.some.inj h) z
      unfold PySem.W.nsIn
      rw [q]
      dsimp only
      cases e : es.toList.find? (·.key.isStr z) with
      | some d =>
        rw [e] at h1
        exact ⟨_, rfl, h1⟩
      | none =>
        rw [e] at h1
        rw [h2]
        exact ⟨_, rfl, h1⟩
    · cases h
  · cases h
theorem SaysZ.keys {fa : List He.Fa} {fn : List He.DefD} {ts : List He.Tab} {eb : List (PySem.W.Frag → Bool)} {w : World} {K : PySem.W.Frag} (c : SaysZ fa fn ts eb w K) (i : Nat) {t : He.Tab} (h : ts[i]? = some t := by rfl) : HasKeys K (t.1 K) t.2 := by
  have e : ts.map (fun t => He.dicW K (t.1 K)) = ts.map fun t => some (He.keysIn w.params t.2) := congrArg (fun z : AlZ => z.1.2) c
  have e2 : (ts.map fun t => He.dicW K (t.1 K))[i]? = (ts.map fun t => some (He.keysIn w.params t.2))[i]? := by rw [e]
  rw [List.getElem?_map, List.getElem?_map, h] at e2
  exact hasKeys_of (Option.some.inj e2)
section
variable {X : Cx} {G : Gd} {a b : Expr} {m : ME} {pos : Pos} {d : Addr} {es : Array DictEntry} {n : Nat} {ks : List Str}
theorem inK_reads (neg : Bool) (hk : HasKeys X.K d ks) {σ : L2.St} {H : Hp} {Q : VK} (h : tOf G (mInK neg ks m) σ H Q) : tOp (fun x y H Q => ∃ (z : Str) (r : Option Value), x = .str z ∧ y = .ref d ∧ PySem.W.nsIn X.K d z = some r ∧ Q (.bl (neg != r.isSome)) H) (tOf G m) (tC (.ref d)) σ H Q := by
  obtain ⟨F, θ, S, env, fp, w, S', st, e, k⟩ := h
  unfold mInK at e
  obtain ⟨⟨x, S1⟩, e1, e⟩ := Option.bind_eq_some_iff.mp e
  dsimp only at e
  split at e
  · rename_i z
    cases e
    refine ⟨F, θ, S, env, fp, _, _, st, e1, fun F1 θ1 H1 v f t1 st1 rv => ?_⟩
    obtain ⟨r, h1, h2⟩ := hk z
    exact ⟨z, r, rv.rw.dAt, rfl, h1, k F1 θ1 H1 _ _ t1 st1 (.d (show _ = _ by rw [h2]))⟩
  · cases e
theorem z_inK (D : KDict X.K X.w d es n) (hk : HasKeys X.K d ks) (ha : PE X a (tOf G m)) (hb : PE X b (tC (.ref d))) (hm : behindInMarks .In b = false := by rfl) : PE X (.Compare a [.In] [b] pos) (tOf G (mInK false ks m)) :=
  pe_imp (pe_cmpR (op_in_kd D) ha hb hm) fun σ H Q h => by
    have := inK_reads false hk h
    simp only [Bool.false_bne, Bool.true_bne] at this
    exact this
theorem z_niK (D : KDict X.K X.w d es n) (hk : HasKeys X.K d ks) (ha : PE X a (tOf G m)) (hb : PE X b (tC (.ref d))) (hm : behindInMarks .NotIn b = false := by rfl) : PE X (.Compare a [.NotIn] [b] pos) (tOf G (mInK true ks m)) :=
  pe_imp (pe_cmpR (op_notIn_kd D) ha hb hm) fun σ H Q h => by
    have := inK_reads true hk h
    simp only [Bool.false_bne, Bool.true_bne] at this
    exact this
theorem z_inKT (D : KDict X.K X.w d es n) (hk : HasKeys X.K d ks) (ha : PE X a (tOf G m)) (hb : PE X b (tC (.ref d))) (hm : behindInMarks .In b = false := by rfl) : PT X (.Compare a [.In] [b] pos) (tOfT G (mTst (mInK false ks m))) :=
  pt_imp (pt_cmpR (op_in_kd D) ha hb hm) fun σ H Q h => by
    have := inK_reads false hk (tOfT_tst h)
    simp only [Bool.false_bne, Bool.true_bne] at this
    exact this
theorem z_niKT (D : KDict X.K X.w d es n) (hk : HasKeys X.K d ks) (ha : PE X a (tOf G m)) (hb : PE X b (tC (.ref d))) (hm : behindInMarks .NotIn b = false := by rfl) : PT X (.Compare a [.NotIn] [b] pos) (tOfT G (mTst (mInK true ks m))) :=
  pt_imp (pt_cmpR (op_notIn_kd D) ha hb hm) fun σ H Q h => by
    have := inK_reads true hk (tOfT_tst h)
    simp only [Bool.false_bne, Bool.true_bne] at this
    exact this
end
end Zf
set_option Elab.async false
set_option linter.all false
set_option maxRecDepth 100000
set_option maxHeartbeats 2000000
namespace Zf
open PySem PySem.Spec PyProof.Rows L2

/-! ### a list of one's own, frozen at once -/
theorem tOf_frz {G : Gd} {m : ME} {σ : L2.St} {H : Hp} {Q : VK} (h : tOf G (mFrzE m) σ H Q) : tOf G m σ H Q := by
  obtain ⟨F, θ, S, env, fp, w, S', st, e, k⟩ := h
  unfold mFrzE at e
  obtain ⟨⟨x, S1⟩, e1, e⟩ := Option.bind_eq_some_iff.mp e
  dsimp only at e
  split at e
  · rename_i xs
    obtain ⟨ds, e2, e3⟩ := Option.map_eq_some_iff.mp e
    cases e3
    refine ⟨F, θ, S, env, fp, _, _, st, e1, fun F1 θ1 H1 v f t1 s1 r => ?_⟩
    obtain ⟨a, vs, fs, h1, h2, h3, h4⟩ := r.rw
    have ma : a ∈ f := by
      rw [h4]
      exact List.mem_cons_self
    obtain ⟨fa, ta⟩ := r.ap a ma
    have h0 := r.own trivial a ma
    have le : Le F1 (upd F1 a (.lst vs)) := Le.of fun b u e => by
      rw [upd_ne (ne_of_none e fa)]
      exact e
    have sub : ∀ b u, upd F1 a (.lst vs) b = some u → H1 b = some u := fun b u e => by
      by_cases z : b = a
      · rw [z, upd_same] at e
        rw [z, h2, ← e]
      · rw [upd_ne z] at e
        exact s1.sub b u e
    have nf : ∀ b, b ≠ a → F1 b = none → upd F1 a (.lst vs) b = none := fun b hb e => by
      rw [upd_ne hb]
      exact e
    refine k (upd F1 a (.lst vs)) θ1 H1 v [] ⟨t1.le.trans le, t1.th, fun b g1 g2 => ?_, t1.newT, t1.keep, t1.live⟩ ⟨sub, s1.store.move le (fun b hb e => nf b (fun z => ta (z ▸ hb)) e) fun _ _ _ h => h, RE.move le (fun _ _ h => h) env σ fp (fun _ _ _ h => h) s1.env, s1.nd, fun b hb => ⟨nf b (fun z => st.fpH b hb (z ▸ h0)) (s1.apart b hb).1, (s1.apart b hb).2⟩⟩
      (.d ⟨a, vs, h1, upd_same, Rs.mono le _ _ (h3.toD e2)⟩)
    by_cases z : b = a
    · rw [z]
      exact h0
    · rw [upd_ne z] at g2
      exact t1.newF b g1 g2
  · cases e
theorem z_frzE {X : Cx} {G : Gd} {e : Expr} {m : ME} (h : PE X e (tOf G m)) : PE X e (tOf G (mFrzE m)) := pe_imp h fun _ _ _ q => tOf_frz q
theorem callR_or {X : Cx} {f : Value} {r r' : List V → Hp → VK → Prop} (h : CallR X f r) (h' : CallR X f r') : CallR X f (fun xs H Q => r xs H Q ∨ r' xs H Q) := fun pins s σ H xs us Q I rv q => q.elim (h pins s σ H xs us Q I rv) (h' pins s σ H xs us Q I rv)
/-! ### sorted, set, len of a set -/
def strsW (ss : List Str) : List W := ss.map fun x => .d (.str x)
theorem strsW_ok {G : Gd} {F : Hp} {θ : Th} {H : Hp} (ss : List Str) : RWs G F θ H (strsW ss) (ss.map V.str) [] := by
  have h := RWs.ofD (θ := θ) (H := H) (Rs.ofStrs (G := G) (F := F) ss)
  rw [List.map_map] at h
  exact h
def vStrs (S : Store) (w : W) : Option (List Str) := ((vL S w).bind asDs).bind asStrs
theorem vStrs_ok {G : Gd} {F H H0 : Hp} {θ : Th} {S : Store} {env : En} {σ : L2.St} {fp f : List Addr} {w : W} {v : V} {ss : List Str} (st : St G F θ H S env σ fp) (r : Res G H0 fp F θ H w v f) (e : vStrs S w = some ss) : ∃ a, v = .ref a ∧ H a = some (.lst (ss.map V.str)) := by
  obtain ⟨ds, e1, e2⟩ := Option.bind_eq_some_iff.mp e
  obtain ⟨ws, e3, e4⟩ := Option.bind_eq_some_iff.mp e1
  obtain ⟨a, vs, fs, h1, h2, h3, _⟩ := vL_ok st r e3
  rw [(h3.toD e4).strs e2] at h2
  exact ⟨a, h1, h2⟩
def gSorted (S : Store) (w : W) : Option W := match w with
  | .d (.st l) => if l.length < 4000 then some (.own (strsW (Ts.sort l))) else none
  | w => (vStrs S w).bind fun ss => if ss.length ≤ cap then some (.own (strsW (Ts.sort ss))) else none
def rSorted (X : Cx) : List V → Hp → VK → Prop := fun vs H Q => (∃ (a : Addr) (l : List Str), vs = [.ref a] ∧ H a = some (Ts.SetX X.prog X.w a l) ∧ l.length < scanBound ∧ ∀ (ks : List Str) (p : Addr), ks.Perm l → sortedS ks = true → H p = none → Q (.ref p) (upd H p (.lst (ks.map V.str)))) ∨
  ∃ (a : Addr) (xs : List Str), vs = [.ref a] ∧ SqL X.K H a (xs.map V.str) ∧ xs.length ≤ sizeLine ∧ ∀ (ks : List Str) (p : Addr), ks.Perm xs → sortedS ks = true → H p = none → Q (.ref p) (upd H p (.lst (ks.map V.str)))
abbrev Same (X : Cx) (G : Gd) : Prop := X.prog = G.P ∧ X.w = G.w ∧ X.K = G.K
theorem sim_sorted {X : Cx} {G : Gd} (hG : Same X G) : SimC G (rSorted X) (g1 gSorted) := by
  obtain ⟨g1, g2, g3⟩ := hG
  refine ⟨fun {F θ H0 H S env σ fp ws vs z Q} st rx e l k => ?_⟩
  unfold Zf.g1 at e
  split at e
  · rename_i w
    obtain ⟨v, r', f, h1, h2, h3⟩ := rx
    have h3' : r' = [] := h3
    rw [h1, h3']
    have fin : ∀ (ss ks : List Str) (p : Addr), ks.Perm ss → sortedS ks = true → H p = none → z = .own (strsW (Ts.sort ss)) → Q (.ref p) (upd H p (.lst (ks.map V.str))) := fun ss ks p hp hs hn ez => by
      have ek := Ts.sort_unique hs hp
      subst ek ez
      obtain ⟨t, s, _⟩ := st.new0 hn (.lst ((Ts.sort ss).map V.str))
      have h0 : H0 p = none := by
        cases q : H0 p with
        | none => rfl
        | some u =>
          obtain ⟨u', hu⟩ := l p u q
          rw [hn] at hu
          cases hu
      exact k F θ _ _ [p] t s (Res.newO st hn h0 (strsW_ok _))
    unfold gSorted at e
    split at e
    · rename_i l0
      split at e
      · rename_i hc
        have ez := (Option.some.inj e).symm
        obtain ⟨a, q1, q2⟩ := h2.rw.dAt
        exact .inl ⟨a, l0, by rw [q1], by rw [g1, g2]; exact st.sub _ _ q2, by unfold scanBound; omega, fun ks p hp hs hn => fin l0 ks p hp hs hn ez⟩
      · cases e
    · obtain ⟨ss, e1, e⟩ := Option.bind_eq_some_iff.mp e
      split at e
      · rename_i hc
        have ez := (Option.some.inj e).symm
        obtain ⟨a, q1, q2⟩ := vStrs_ok st h2 e1
        exact .inr ⟨a, ss, by rw [q1], SqL.of q2, cap_ok hc, fun ks p hp hs hn => fin ss ks p hp hs hn ez⟩
      · cases e
  · cases e
def gSet (S : Store) (w : W) : Option W := (vStrs S w).bind fun ss => if ss.length < 4000 then some (.d (.st (Ts.got ss.reverse))) else none
theorem sim_set {X : Cx} {G : Gd} (hG : Same X G) : SimC G (fun vs H Q => ∃ (l : Addr) (xs : List Str), vs = [.ref l] ∧ SqL X.K H l (xs.map V.str) ∧ xs.length + 1 < scanBound ∧ ∀ p, H p = none → Q (.ref p) (upd H p (Ts.SetX X.prog X.w p (Ts.got xs.reverse)))) (g1 gSet) := by
  obtain ⟨g1, g2, g3⟩ := hG
  refine ⟨fun {F θ H0 H S env σ fp ws vs z Q} st rx e l k => ?_⟩
  unfold Zf.g1 at e
  split at e
  · rename_i w
    obtain ⟨v, r', f, h1, h2, h3⟩ := rx
    have h3' : r' = [] := h3
    unfold gSet at e
    obtain ⟨ss, e1, e⟩ := Option.bind_eq_some_iff.mp e
    split at e
    · rename_i hc
      cases e
      obtain ⟨a, q1, q2⟩ := vStrs_ok st h2 e1
      refine ⟨a, ss, by rw [h1, h3', q1], SqL.of q2, by unfold scanBound; omega, fun p hp => ?_⟩
      obtain ⟨t, s⟩ := st.new hp (Ts.SetX X.prog X.w p (Ts.got ss.reverse))
      exact k _ θ _ _ [] t s (.d ⟨p, rfl, by rw [upd_same, g1, g2]⟩)
    · cases e
  · cases e
def gLenS (_ : Store) (w : W) : Option W := match w with
  | .d (.st l) => if l.length < 4000 then some (.d (.int l.length)) else none
  | _ => none
theorem sim_lenS {X : Cx} {G : Gd} (hG : Same X G) : SimC G (fun vs H Q => ∃ (a : Addr) (l : List Str), vs = [.ref a] ∧ H a = some (Ts.SetX X.prog X.w a l) ∧ l.length < scanBound ∧ Q (.int l.length) H) (g1 gLenS) := by
  obtain ⟨g1, g2, g3⟩ := hG
  refine ⟨fun {F θ H0 H S env σ fp ws vs z Q} st rx e l k => ?_⟩
  unfold Zf.g1 at e
  split at e
  · rename_i w
    obtain ⟨v, r', f, h1, h2, h3⟩ := rx
    have h3' : r' = [] := h3
    unfold gLenS at e
    split at e
    · split at e
      · rename_i l0 hc
        cases e
        obtain ⟨a, q1, q2⟩ := h2.rw.dAt
        exact ⟨a, l0, by rw [h1, h3', q1], by rw [g1, g2]; exact st.sub _ _ q2, by unfold scanBound; omega, k F θ H _ _ (Tr.refl ..) st (.d rfl)⟩
      · cases e
    · cases e
  · cases e
section
variable {X : Cx} {G : Gd} {e : Expr} {ms : MA} {p pos : Pos}
theorem z_sorted (hc : X.calm = true) (hg : Gl X "sorted") (hm : X.mg "sorted" = none) (ha : PA X [e] (tOfA G ms)) (hG : Same X G := by exact ⟨rfl, rfl, rfl⟩) (he : starEach [e] X.env = (false, eval e X.env) :: starEach [] X.env := by rfl) (hpl : (backTo pos (starEach [] X.env)).any (·.1) = false := by rfl) :
    PE X (.Call (.Name "sorted" p) [e] [] pos) (tOf G (mCB (g1 gSorted) ms)) :=
  z_cb (callR_or (Ts.cr_sortedX hc) Ts.cr_sortedA) (sim_sorted hG) hg hm (by decide +kernel) ha (by decide) (by decide) he hpl
theorem z_set1 (hc : X.calm = true) (hg : Gl X "set") (hm : X.mg "set" = none) (ha : PA X [e] (tOfA G ms)) (hG : Same X G := by exact ⟨rfl, rfl, rfl⟩) (he : starEach [e] X.env = (false, eval e X.env) :: starEach [] X.env := by rfl) (hpl : (backTo pos (starEach [] X.env)).any (·.1) = false := by rfl) :
    PE X (.Call (.Name "set" p) [e] [] pos) (tOf G (mCB (g1 gSet) ms)) :=
  z_ct (Ts.cr_setL hc) (sim_set hG) hg hm (by decide +kernel) ha (by decide) (by decide) he hpl
theorem z_lenS (hg : Gl X "len") (hm : X.mg "len" = none) (ha : PA X [e] (tOfA G ms)) (hG : Same X G := by exact ⟨rfl, rfl, rfl⟩) (he : starEach [e] X.env = (false, eval e X.env) :: starEach [] X.env := by rfl) (hpl : (backTo pos (starEach [] X.env)).any (·.1) = false := by rfl) :
    PE X (.Call (.Name "len" p) [e] [] pos) (tOf G (mCB (g1 gLenS) ms)) :=
  z_cb Ts.cr_lenX (sim_lenS hG) hg hm (by decide +kernel) ha (by decide) (by decide) he hpl
end
/-! ### max -/
def asInts : List D → Option (List Int)
  | [] => some []
  | .int x :: r => (asInts r).map (x :: ·)
  | _ :: _ => none
theorem Rs.ints {G : Gd} {F : Hp} : ∀ {ds : List D} {ss : List Int} {vs : List V}, Rs G F ds vs → asInts ds = some ss → vs = ss.map V.int
  | [], _, _, h, e => by
    cases e
    exact h
  | d :: r, ss, _, ⟨v, r', h1, h2, h3⟩, e => by
    unfold asInts at e
    split at e
    · cases ‹_ = []›
    · rename_i b t hw
      cases hw
      obtain ⟨ys, e1, e2⟩ := Option.map_eq_some_iff.mp e
      cases e2
      rw [h1, show v = V.int b from h2, Rs.ints h3 e1]
      rfl
    · cases e
def vInts (S : Store) (w : W) : Option (List Int) := ((vL S w).bind asDs).bind asInts
theorem vInts_ok {G : Gd} {F H H0 : Hp} {θ : Th} {S : Store} {env : En} {σ : L2.St} {fp f : List Addr} {w : W} {v : V} {ss : List Int} (st : St G F θ H S env σ fp) (r : Res G H0 fp F θ H w v f) (e : vInts S w = some ss) : ∃ a, v = .ref a ∧ H a = some (.lst (ss.map V.int)) := by
  obtain ⟨ds, e1, e2⟩ := Option.bind_eq_some_iff.mp e
  obtain ⟨ws, e3, e4⟩ := Option.bind_eq_some_iff.mp e1
  obtain ⟨a, vs, fs, h1, h2, h3, _⟩ := vL_ok st r e3
  rw [(h3.toD e4).ints e2] at h2
  exact ⟨a, h1, h2⟩
def maxI : Int → List Int → Int
  | x, [] => x
  | x, y :: r => maxI (if x < y then y else x) r
theorem maxI_mem : ∀ (x : Int) (r : List Int), maxI x r ∈ x :: r
  | x, [] => List.mem_cons_self
  | x, y :: r => by
    have h := maxI_mem (if x < y then y else x) r
    unfold maxI
    rcases List.mem_cons.mp h with e | e
    · rw [e]
      split
      · exact List.mem_cons_of_mem _ List.mem_cons_self
      · exact List.mem_cons_self
    · exact List.mem_cons_of_mem _ (List.mem_cons_of_mem _ e)
theorem maxI_le : ∀ (x : Int) (r : List Int), ∀ y ∈ x :: r, y ≤ maxI x r
  | x, [], y, h => by
    rw [List.mem_singleton.mp h]
    exact Int.le_refl _
  | x, z :: r, y, h => by
    have ih := maxI_le (if x < z then z else x) r
    show y ≤ maxI (if x < z then z else x) r
    have h0 := ih _ List.mem_cons_self
    rcases List.mem_cons.mp h with e | h
    · subst e
      refine Int.le_trans ?_ h0
      split <;> omega
    · rcases List.mem_cons.mp h with e | h
      · subst e
        refine Int.le_trans ?_ h0
        split <;> omega
      · exact ih y (List.mem_cons_of_mem _ h)
def gMax (S : Store) (w : W) : Option W := (vInts S w).bind fun ns => match ns with
  | [] => none
  | x :: r => some (.d (.int (maxI x r)))
theorem sim_max {X : Cx} {G : Gd} (hK : X.K = G.K) : SimC G (rMax X.K) (g1 gMax) := by
  refine ⟨fun {F θ H0 H S env σ fp ws vs z Q} st rx e l k => ?_⟩
  unfold Zf.g1 at e
  split at e
  · rename_i w
    obtain ⟨v, r', f, h1, h2, h3⟩ := rx
    have h3' : r' = [] := h3
    unfold gMax at e
    obtain ⟨ns, e1, e⟩ := Option.bind_eq_some_iff.mp e
    split at e
    · cases e
    · rename_i x r
      cases e
      obtain ⟨a, q1, q2⟩ := vInts_ok st h2 e1
      refine ⟨a, x :: r, by rw [h1, h3', q1], SqL.of q2, Nat.succ_pos _, fun m hm hle => ?_⟩
      have em : m = maxI x r := by
        have a1 := hle _ (maxI_mem x r)
        have a2 := maxI_le x r m hm
        omega
      rw [em]
      exact k F θ H _ _ (Tr.refl ..) st (.d rfl)
  · cases e
theorem z_max {X : Cx} {G : Gd} {e : Expr} {ms : MA} {p pos : Pos} (hc : X.calm = true) (hg : Gl X "max") (hm : X.mg "max" = none) (ha : PA X [e] (tOfA G ms)) (hK : X.K = G.K := by rfl) (he : starEach [e] X.env = (false, eval e X.env) :: starEach [] X.env := by rfl) (hpl : (backTo pos (starEach [] X.env)).any (·.1) = false := by rfl) :
    PE X (.Call (.Name "max" p) [e] [] pos) (tOf G (mCB (g1 gMax) ms)) :=
  z_cb (cr_max hc) (sim_max hK) hg hm (by decide +kernel) ha (by decide) (by decide) he hpl
end Zf
set_option Elab.async false
set_option linter.all false
set_option maxRecDepth 100000
set_option maxHeartbeats 2000000
namespace Zf
open PySem PySem.Spec PyProof.Rows L2

/-! ### max(xs, default=d) -/
def maxOr (d : Int) : List Int → Int
  | [] => d
  | x :: r => maxI x r
def rMaxD (X : Cx) (d : Int) : List V → List V → Hp → VK → Prop := fun vs zs H Q => zs = [.int d] ∧ ∃ (a : Addr) (ns : List Int), vs = [.ref a] ∧ SqL X.K H a (ns.map V.int) ∧ Q (.int (maxOr d ns)) H
theorem foldMax : ∀ (r : List Int) (x : Int), PySem.W.maxOf x r = maxI x r
  | [], x => rfl
  | y :: r, x => by
    have e : (if PySem.W.DatumOrd.lt x y = true then y else x) = (if x < y then y else x) := by
      show (if decide (x < y) = true then y else x) = _
      simp
    have := foldMax r (if x < y then y else x)
    unfold PySem.W.maxOf at this ⊢
    rw [List.foldl_cons, e, this]
    rfl
theorem cr_maxD {X : Cx} {d : Int} {k : Nat} (hr : Room k X.A) : CallRK X (.builtin "max") [Str.ofString "default"] (rMaxD X d) := by
  intro pins s σ H vs zs us ws Q I r rz h
  obtain ⟨rfl, a, ns, rfl, hs, q⟩ := h
  obtain ⟨its, rv, hl, _⟩ := I.list hs
  obtain rfl := Vals.ref1 r
  obtain ⟨w1, rfl, t, rfl⟩ := vals1 rz
  have hi : IntsAre its ns := rv.ints
  refine PySem.W.max_list_datum_default (α := Int) (xs := ns) hr.hd hl.isList (by simpa using PySem.W.HoldAll.of_ints hi) (by have := hr.un; show X.A.units + 1 + 0 < cLine; omega) (fun e h' tk old => ?_) fun y ys i v h' tk e hi hh old => ?_
  · subst e
    exact ⟨.int d, H, I.kept old, ⟨t, rfl⟩, q⟩
  · subst e
    rw [foldMax] at hh
    obtain ⟨as, rr⟩ := hh
    have hv : ∃ t, v = .int (maxI y ys) t := by
      cases rr with
      | int i t => exact ⟨t, rfl⟩
    exact ⟨.int (maxI y ys), H, I.kept old, hv, q⟩
def mMaxD (d : Int) (m : ME) : ME := fun env S => (m env S).bind fun p => (vInts p.2 p.1).map fun ns => (.d (.int (maxOr d ns)), p.2)
theorem z_maxD {X : Cx} {G : Gd} {e : Expr} {m : ME} {p pos kp cp : Pos} {j} {d : Int} {k : Nat} (hr : Room k X.A) (hg : Gl X "max") (hm : X.mg "max" = none) (ha : PE X e (tOf G m)) (hst : starEach [e] X.env = (false, eval e X.env) :: starEach [] X.env := by rfl)
    (he : backTo pos (starEach [e] X.env) = (false, eval e X.env) :: backTo pos (starEach [] X.env) := by rfl) (hpl : (backTo pos (starEach [e] X.env)).any (·.1) = false := by rfl)
    (hall : (backToKw pos (keywordEach [⟨some "default", .Constant (.int d) j cp, kp⟩] X.env)).all (·.1.isSome) = true := by rfl) (hnone : (backToKw pos (keywordEach [⟨some "default", .Constant (.int d) j cp, kp⟩] X.env)).any (·.1.isNone) = false := by rfl)
    (hks : (backToKw pos (keywordEach [⟨some "default", .Constant (.int d) j cp, kp⟩] X.env)).filterMap (·.1) = [Str.ofString "default"] := by rfl) (hK : X.K = G.K := by rfl) :
    PE X (.Call (.Name "max" p) [e] [⟨some "default", .Constant (.int d) j cp, kp⟩] pos) (tOf G (mMaxD d m)) := by
  refine pe_imp (pe_callBK (cr_maxD (d := d) hr) hg hm (by decide +kernel) (pa_cons ha pa_nil hst) (pk_cons pe_int pk_nil) (by decide) (by decide) he hpl hall hnone hks) fun σ H Q h => ?_
  obtain ⟨F, θ, S, env, fp, w, S', st, e, k⟩ := h
  unfold mMaxD at e
  obtain ⟨⟨x, S1⟩, e1, e⟩ := Option.bind_eq_some_iff.mp e
  obtain ⟨ns, e2, e3⟩ := Option.map_eq_some_iff.mp e
  cases e3
  refine ⟨F, θ, S, env, fp, x, _, st, e1, fun F1 θ1 H1 v f t1 s1 r => ?_⟩
  obtain ⟨a, q1, q2⟩ := vInts_ok s1 r e2
  exact ⟨rfl, a, ns, by rw [q1], SqL.of q2, k F1 θ1 H1 _ _ t1 s1 (.d rfl)⟩
/-! ### dicts by value -/
def dval (kvs : List (Key × D)) (k : Key) : Option D := (kvs.find? fun kv => decide (kv.1 = k)).map (·.2)
def dkey : W → Option Key
  | .d (.str z) => some (.inr z)
  | .d (.int i) => some (.inl i)
  | _ => none
theorem dkey_ok {G : Gd} {F : Hp} {θ : Th} {H : Hp} {w : W} {v : V} {f : List Addr} {k : Key} (h : RW G F θ H w v f) (e : dkey w = some k) : v = kV k := by
  unfold dkey at e
  split at e
  · cases e
    exact h.1
  · cases e
    exact h.1
  · cases e
theorem Rk.val {G : Gd} {F : Hp} (k : Key) : ∀ {kvs : List (Key × D)} {vs : List (Key × V)}, Rk G F kvs vs → match dval kvs k with
    | some d => ∃ v, valV vs k = some v ∧ R G F d v
    | none => valV vs k = none
  | [], _, h => by
    rw [show _ = [] from h]
    rfl
  | (k', x) :: kvs, _, ⟨v, r, h1, h2, h3⟩ => by
    have ih := Rk.val k h3
    subst h1
    unfold dval at ih ⊢
    rw [List.find?_cons]
    by_cases c : k' = k
    · subst c
      simp only [decide_true, Option.map_some]
      exact ⟨v, valV_pos rfl, h2⟩
    · simp only [decide_eq_false c]
      rw [valV_neg (p := (k', v)) c]
      exact ih
def mDix (mo mi : ME) : ME := fun env S => (mo env S).bind fun p => (mi env p.2).bind fun q => match p.1 with
  | .d (.dct kvs) => (dkey q.1).bind fun k => (dval kvs k).map fun d => (.d d, q.2)
  | _ => none
section
variable {X : Cx} {G : Gd} {a b e : Expr} {ma mb mc : ME} {pos apos cpos : Pos} {k : Nat}
theorem z_dix (hr : Room k X.A) (ha : PE X a (tOf G ma)) (hb : PE X b (tOf G mb)) (hs : NoSl b) : PE X (.Subscript a b pos) (tOf G (mDix ma mb)) := by
  refine pe_imp (pe_dget (by have := hr.un; omega) ha hb hs) fun σ H Q h => ?_
  obtain ⟨F, θ, S, env, fp, w, S', st, e, k⟩ := h
  unfold mDix at e
  obtain ⟨⟨x, S1⟩, e1, e⟩ := Option.bind_eq_some_iff.mp e
  obtain ⟨⟨y, S2⟩, e2, e⟩ := Option.bind_eq_some_iff.mp e
  dsimp only at e
  split at e
  · rename_i kvs
    obtain ⟨kk, e3, e⟩ := Option.bind_eq_some_iff.mp e
    obtain ⟨d, e4, e5⟩ := Option.map_eq_some_iff.mp e
    cases e5
    refine ⟨F, θ, S, env, fp, _, S1, st, e1, fun F1 θ1 H1 v f t1 s1 r => ?_⟩
    refine ⟨F1, θ1, S1, env, fp, y, _, s1, e2, fun F2 θ2 H2 u f2 t2 s2 r2 => ?_⟩
    obtain ⟨ad, kv, h1, h2, h3⟩ := (r.mono t2).rw.dAt
    have h4 := Rk.val kk h3
    rw [e4] at h4
    obtain ⟨v', h5, h6⟩ := h4
    refine ⟨ad, v', h1, .inl ⟨kv, kk, ?_, dkey_ok r2.rw e3, h5.symm⟩, k F2 θ2 H2 _ _ (t1.trans t2) s2 (.d h6)⟩
    rcases h2 with h2 | ⟨o, h2⟩
    · exact .inl (s2.sub _ _ h2)
    · exact .inr ⟨o, s2.sub _ _ h2⟩
  · cases e
/-- d.get(k, x) -/
def mDget2 (mo mi mx : ME) : ME := fun env S => (mo env S).bind fun p => (mi env p.2).bind fun q => (mx env q.2).bind fun r => match p.1, r.1 with
  | .d (.dct kvs), .d x => (dkey q.1).map fun k => (.d ((dval kvs k).getD x), r.2)
  | _, _ => none
theorem z_dget2 (hr : Room k X.A) (ha : PE X a (tOf G ma)) (hb : PE X b (tOf G mb)) (he : PE X e (tOf G mc)) (m : M2 X a "get" apos b e cpos := by exact ⟨rfl, rfl, rfl, rfl⟩) : PE X (.Call (.Attribute a "get" apos) [b, e] [] cpos) (tOf G (mDget2 ma mb mc)) := by
  refine pe_imp (pe_dget2 (by have := hr.un; omega) ha hb he m) fun σ H Q h => ?_
  obtain ⟨F, θ, S, env, fp, w, S', st, e, k⟩ := h
  unfold mDget2 at e
  obtain ⟨⟨x, S1⟩, e1, e⟩ := Option.bind_eq_some_iff.mp e
  obtain ⟨⟨y, S2⟩, e2, e⟩ := Option.bind_eq_some_iff.mp e
  obtain ⟨⟨z, S3⟩, e3, e⟩ := Option.bind_eq_some_iff.mp e
  dsimp only at e
  split at e
  · rename_i kvs xd _ _
    obtain ⟨kk, e4, e5⟩ := Option.map_eq_some_iff.mp e
    cases e5
    refine ⟨F, θ, S, env, fp, _, S1, st, e1, fun F1 θ1 H1 v f t1 s1 r => ?_⟩
    have isd : ∀ {F2 H2 : Hp} {θ2 : Th} {S2 : Store}, Tr F1 θ1 H1 F2 θ2 H2 → (∀ a u, F2 a = some u → H2 a = some u) → ∃ ad kv, v = .ref ad ∧ Rd H2 ad (.dK kv) ∧ Rk G F2 kvs kv := fun {F2 H2 θ2 S2} t2 sub => by
      obtain ⟨ad, kv, h1, h2, h3⟩ := (r.mono t2).rw.dAt
      refine ⟨ad, kv, h1, ?_, h3⟩
      rcases h2 with h2 | ⟨o, h2⟩
      · exact .inl (sub _ _ h2)
      · exact .inr ⟨o, sub _ _ h2⟩
    obtain ⟨ad, kv, h1, h2, _⟩ := isd (S2 := S1) (.refl ..) s1.sub
    refine ⟨ad, h1, .inl ⟨kv, h2⟩, F1, θ1, S1, env, fp, y, S2, s1, e2, fun F2 θ2 H2 u f2 t2 s2 r2 => ?_⟩
    refine ⟨F2, θ2, S2, env, fp, _, _, s2, e3, fun F3 θ3 H3 u3 f3 t3 s3 r3 => ?_⟩
    obtain ⟨ad', kv', h1', h2', h3'⟩ := isd (S2 := S') (t2.trans t3) s3.sub
    rw [h1] at h1'
    cases h1'
    have h4 := Rk.val kk h3'
    refine ⟨valV kv' kk, .inl ⟨kv', kk, h2', dkey_ok (r2.mono t3).rw e4, rfl⟩, k F3 θ3 H3 _ _ (t1.trans (t2.trans t3)) s3 (.d ?_)⟩
    cases q : dval kvs kk with
    | none =>
      rw [q] at h4
      rw [show valV kv' kk = none from h4]
      exact r3.rw.dAt
    | some d =>
      rw [q] at h4
      obtain ⟨v', h5, h6⟩ := h4
      rw [h5]
      exact h6
  · cases e
end
/-- a display of a dict: its keys texts, all of them other ones -/
def evalP : List (Str × ME) → En → Store → Option (List (Key × D) × Store)
  | [], _, S => some ([], S)
  | (k, m) :: r, env, S => (m env S).bind fun p => match p.1 with
    | .d x => (evalP r env p.2).map fun q => ((.inr k, x) :: q.1, q.2)
    | _ => none
def mDisp (ps : List (Str × ME)) : ME := fun env S => if (ps.map (·.1)).Nodup ∧ ps.length ≤ 15 then (evalP ps env S).map fun q => (.d (.dct q.1), q.2) else none
theorem evalP_keys : ∀ {ps : List (Str × ME)} {env : En} {S S' : Store} {kvs : List (Key × D)}, evalP ps env S = some (kvs, S') → kvs.map (·.1) = ps.map fun p => .inr p.1
  | [], _, _, _, _, e => by
    cases e
    rfl
  | (k, m) :: r, _, _, _, _, e => by
    unfold evalP at e
    obtain ⟨⟨x, S1⟩, e1, e⟩ := Option.bind_eq_some_iff.mp e
    dsimp only at e
    split at e
    · obtain ⟨⟨q, S2⟩, e2, e3⟩ := Option.map_eq_some_iff.mp e
      cases e3
      rw [List.map_cons, List.map_cons, evalP_keys e2]
    · cases e
theorem Rk.keys {G : Gd} {F : Hp} : ∀ {kvs : List (Key × D)} {vs : List (Key × V)}, Rk G F kvs vs → vs.map (·.1) = kvs.map (·.1)
  | [], _, h => by
    rw [show _ = [] from h]
    rfl
  | (k, x) :: r, _, ⟨v, r', h1, h2, h3⟩ => by
    rw [h1, List.map_cons, List.map_cons, Rk.keys h3]
theorem Rk.len {G : Gd} {F : Hp} {kvs : List (Key × D)} {vs : List (Key × V)} (h : Rk G F kvs vs) : vs.length = kvs.length := by
  have := congrArg List.length h.keys
  simpa using this
theorem putK_new {kvs : List (Key × V)} {k : Key} {v : V} (h : k ∉ kvs.map (·.1)) : putK kvs k v = kvs ++ [(k, v)] := by
  unfold putK
  rw [if_neg]
  intro c
  obtain ⟨p, hp, e⟩ := List.any_eq_true.mp c
  exact h (List.mem_map.mpr ⟨p, hp, of_decide_eq_true e⟩)
theorem mergeK_new : ∀ {more kvs : List (Key × V)}, (kvs.map (·.1) ++ more.map (·.1)).Nodup → mergeK kvs more = kvs ++ more
  | [], kvs, _ => (List.append_nil kvs).symm
  | (k, v) :: r, kvs, h => by
    have h1 : k ∉ kvs.map (·.1) := fun z => (List.nodup_append.mp h).2.2 k z k (by simp) rfl
    show mergeK (putK kvs k v) r = _
    rw [putK_new h1, mergeK_new, List.append_assoc]
    · rfl
    · rw [List.map_append, List.append_assoc]
      exact h
section
variable {G : Gd}
theorem pairs_read : ∀ {ps : List (Str × ME)} {F : Hp} {θ : Th} {S : Store} {env : En} {fp : List Addr} {σ : L2.St} {H : Hp} {kvs : List (Key × D)} {S' : Store} {Q : List (V × V) → Hp → Prop}, St G F θ H S env σ fp → evalP ps env S = some (kvs, S') →
    (∀ F' θ' H' vs, Tr F θ H F' θ' H' → St G F' θ' H' S' env σ fp → Rk G F' kvs vs → Q (vs.map fun kv => (kV kv.1, kv.2)) H') → tPairs (ps.map fun p => (tC (.str p.1), tOf G p.2)) σ H Q
  | [], F, θ, S, env, fp, σ, H, kvs, S', Q, st, e, k => by
    cases e
    exact k F θ H [] (.refl ..) st rfl
  | (x, m) :: r, F, θ, S, env, fp, σ, H, kvs, S', Q, st, e, k => by
    unfold evalP at e
    obtain ⟨⟨w, S1⟩, e1, e⟩ := Option.bind_eq_some_iff.mp e
    dsimp only at e
    split at e
    · rename_i d
      obtain ⟨⟨q, S2⟩, e2, e3⟩ := Option.map_eq_some_iff.mp e
      cases e3
      refine ⟨F, θ, S, env, fp, _, S1, st, e1, fun F1 θ1 H1 v f t1 s1 rv => ?_⟩
      refine pairs_read s1 e2 fun F2 θ2 H2 vs t2 s2 rk => ?_
      exact k F2 θ2 H2 ((.inr x, v) :: vs) (t1.trans t2) s2 ⟨v, vs, rfl, R.mono t2.le _ _ rv.rw.dAt, rk⟩
    · cases e
theorem z_disp {X : Cx} {keys : List (Option Expr)} {values : List Expr} {pos : Pos} {ps : List (Str × ME)} (h : PPs X pos keys values (ps.map fun p => (tC (.str p.1), tOf G p.2))) (hall : keys.all (·.isSome) = true := by rfl) (hl : keys.length = values.length := by rfl) (h0 : keys ≠ [] := by simp)
    (h15 : keys.length ≤ 15 := by decide) : PE X (.Dict keys values pos) (tOf G (mDisp ps)) := by
  refine pe_imp (pe_disp h hall hl h0 h15) fun σ H Q q => ?_
  obtain ⟨F, θ, S, env, fp, w, S', st, e, k⟩ := q
  unfold mDisp at e
  split at e
  · rename_i hc
    obtain ⟨⟨kvs, S2⟩, e1, e2⟩ := Option.map_eq_some_iff.mp e
    cases e2
    intro p hp
    obtain ⟨t0, s0, f0, h0', p0⟩ := st.new0 hp (.dK [])
    refine pairs_read s0 e1 fun F1 θ1 H1 vs t1 s1 rk => ?_
    have hp1 : H1 p = some (.dK []) := t1.keep p _ h0' upd_same
    have hkeys : (vs.map (·.1)).Nodup := by
      rw [rk.keys, evalP_keys e1]
      have := hc.1
      rw [List.Nodup, List.pairwise_map] at this ⊢
      exact this.imp fun h z => h (Sum.inr.inj z)
    have hlen : vs.length ≤ 15 := by
      rw [rk.len]
      have := congrArg List.length (evalP_keys e1)
      rw [List.length_map, List.length_map] at this
      omega
    refine ⟨hp1, vs, rfl, hlen, ?_⟩
    rw [mergeK_new (kvs := []) (by simpa using hkeys), List.nil_append]
    have fF : F1 p = none := by
      cases q : F1 p with
      | none => rfl
      | some u =>
        have z := t1.newF p f0 (by rw [q]; exact fun z => by cases z)
        rw [upd_same] at z
        cases z
    have fθ : p ∉ θ1 := fun z => by
      have q := t1.newT p z h0'
      rw [upd_same] at q
      cases q
    have fp' : p ∉ fp := p0
    have le : Le F1 (upd F1 p (.dK vs)) := Le.of fun b u e => by
      rw [upd_ne (ne_of_none e fF)]
      exact e
    have t01 := t0.trans t1
    have tt : Tr F θ H (upd F1 p (.dK vs)) θ1 (upd H1 p (.dK vs)) := by
      refine ⟨t01.le.trans le, t01.th, fun a h1 h2 => ?_, t01.newT, fun a u h1 h2 => ?_, fun a u h1 => ?_⟩
      · by_cases z : a = p
        · rw [z]
          exact hp
        · rw [upd_ne z] at h2
          exact t01.newF a h1 h2
      · rw [upd_ne (ne_of_none h2 hp)]
        exact t01.keep a u h1 h2
      · obtain ⟨u', hu⟩ := t01.live a u h1
        exact ⟨u', by rw [upd_ne (ne_of_none h1 hp)]; exact hu⟩
    refine k _ θ1 _ _ [] tt (st.step tt (fun a u e => ?_) (s1.store.move le (fun b hb e => ?_) fun b hb u e => ?_)) (.d ⟨p, vs, rfl, .inl upd_same, ?_⟩)
    · by_cases z : a = p
      · rw [z, upd_same] at e ⊢
        exact e
      · rw [upd_ne z] at e ⊢
        exact s1.sub a u e
    · rw [upd_ne (show b ≠ p from fun z => fθ (z ▸ hb))]
      exact e
    · rw [upd_ne (show b ≠ p from fun z => fθ (z ▸ hb))]
      exact e
    · exact Rk.mono le _ _ rk
  · cases e
end
/-! ### dict of a list of pairs -/
def putD (kvs : List (Key × D)) (k : Key) (v : D) : List (Key × D) :=
  if (kvs.any fun kv => decide (kv.1 = k)) = true then kvs.map (fun kv => if kv.1 = k then (kv.1, v) else kv) else kvs ++ [(k, v)]
def mergeD (kvs more : List (Key × D)) : List (Key × D) := more.foldl (fun acc kv => putD acc kv.1 kv.2) kvs
theorem Rk.any {G : Gd} {F : Hp} (k : Key) {kvs : List (Key × D)} {vs : List (Key × V)} (h : Rk G F kvs vs) : (vs.any fun kv => decide (kv.1 = k)) = (kvs.any fun kv => decide (kv.1 = k)) := by
  have e : ∀ {α : Type} (l : List (Key × α)), (l.any fun kv => decide (kv.1 = k)) = ((l.map (·.1)).any fun q => decide (q = k)) := fun l => by
    rw [List.any_map]
    rfl
  rw [e, e, h.keys]
theorem Rk.app {G : Gd} {F : Hp} : ∀ {xs ys : List (Key × D)} {vs us : List (Key × V)}, Rk G F xs vs → Rk G F ys us → Rk G F (xs ++ ys) (vs ++ us)
  | [], _, _, _, h, h' => by
    rw [show _ = [] from h]
    exact h'
  | (k, x) :: xs, _, _, _, ⟨v, r, h1, h2, h3⟩, h' => ⟨v, r ++ _, by rw [h1]; rfl, h2, Rk.app h3 h'⟩
theorem Rk.repl {G : Gd} {F : Hp} {d : D} {v : V} (k : Key) (hd : R G F d v) : ∀ {xs : List (Key × D)} {vs : List (Key × V)}, Rk G F xs vs → Rk G F (xs.map fun kv => if kv.1 = k then (kv.1, d) else kv) (vs.map fun kv => if kv.1 = k then (kv.1, v) else kv)
  | [], _, h => by
    rw [show _ = [] from h]
    rfl
  | (k', x) :: xs, _, ⟨u, r, h1, h2, h3⟩ => by
    rw [h1, List.map_cons, List.map_cons]
    by_cases c : k' = k
    · simp only [c, if_true]
      exact ⟨v, _, rfl, hd, Rk.repl k hd h3⟩
    · simp only [c, if_false]
      exact ⟨u, _, rfl, h2, Rk.repl k hd h3⟩
theorem Rk.put {G : Gd} {F : Hp} {d : D} {v : V} (k : Key) (hd : R G F d v) {xs : List (Key × D)} {vs : List (Key × V)} (h : Rk G F xs vs) : Rk G F (putD xs k d) (putK vs k v) := by
  unfold putD putK
  rw [h.any k]
  split
  · exact h.repl k hd
  · exact h.app ⟨v, [], rfl, hd, rfl⟩
theorem Rk.merge {G : Gd} {F : Hp} : ∀ {more xs : List (Key × D)} {ms vs : List (Key × V)}, Rk G F more ms → Rk G F xs vs → Rk G F (mergeD xs more) (mergeK vs ms)
  | [], _, _, _, h, h' => by
    rw [show _ = [] from h]
    exact h'
  | (k, x) :: more, xs, _, _, ⟨v, r, h1, h2, h3⟩, h' => by
    rw [h1]
    show Rk G F (mergeD (putD xs k x) more) (mergeK (putK _ k v) r)
    exact Rk.merge h3 (h'.put k h2)
def asPair : D → Option (Key × D)
  | .tup [.str z, x] => some (.inr z, x)
  | .tup [.int z, x] => some (.inl z, x)
  | _ => none
def asPairs : List D → Option (List (Key × D))
  | [] => some []
  | x :: r => (asPair x).bind fun p => (asPairs r).map (p :: ·)
theorem asPair_ok {G : Gd} {F : Hp} {d : D} {v : V} {p : Key × D} (h : R G F d v) (e : asPair d = some p) : ∃ a u, v = .ref a ∧ SqT G.K F a [kV p.1, u] ∧ R G F p.2 u := by
  unfold asPair at e
  split at e
  · cases e
    obtain ⟨a, vs, h1, h2, v1, r1, h3, h4, u, r2, h5, h6, h7⟩ := h
    have h7' : r2 = [] := h7
    subst h3 h5 h7'
    rw [show v1 = V.str _ from h4] at h2
    exact ⟨a, u, h1, h2, h6⟩
  · cases e
    obtain ⟨a, vs, h1, h2, v1, r1, h3, h4, u, r2, h5, h6, h7⟩ := h
    have h7' : r2 = [] := h7
    subst h3 h5 h7'
    rw [show v1 = V.int _ from h4] at h2
    exact ⟨a, u, h1, h2, h6⟩
  · cases e
theorem asPairs_ok {G : Gd} {F : Hp} : ∀ {ds : List D} {vs : List V} {ps : List (Key × D)}, Rs G F ds vs → asPairs ds = some ps → ∃ (as : List Addr) (us : List (Key × V)), vs = as.map V.ref ∧ Paired (fun p kv => SqT G.K F p [kV kv.1, kv.2]) as us ∧ Rk G F ps us
  | [], _, _, h, e => by
    cases e
    exact ⟨[], [], h, .nil, rfl⟩
  | x :: r, _, _, ⟨v, r', h1, h2, h3⟩, e => by
    obtain ⟨p, e1, e⟩ := Option.bind_eq_some_iff.mp e
    obtain ⟨ps, e2, e3⟩ := Option.map_eq_some_iff.mp e
    cases e3
    obtain ⟨a, u, q1, q2, q3⟩ := asPair_ok h2 e1
    obtain ⟨as, us, q4, q5, q6⟩ := asPairs_ok h3 e2
    obtain ⟨k, d⟩ := p
    exact ⟨a :: as, (k, u) :: us, by rw [h1, q1, q4]; rfl, .cons q2 q5, u, us, rfl, q3, q6⟩
def gDict (S : Store) (w : W) : Option W := (((vL S w).bind asDs).bind asPairs).map fun ps => .d (.dct (mergeD [] ps))
theorem sim_dict {X : Cx} {G : Gd} (hK : X.K = G.K) : SimC G (fun xs H Q => ∃ (a : Addr) (ps : List Addr) (kvs : List (Key × V)), xs = [.ref a] ∧ SqL X.K H a (ps.map V.ref) ∧ Paired (fun p kv => SqT X.K H p [kV kv.1, kv.2]) ps kvs ∧
    ∀ p, H p = none → Q (.ref p) (upd H p (.dK (mergeK [] kvs)))) (g1 gDict) := by
  refine ⟨fun {F θ H0 H S env σ fp ws vs z Q} st rx e l k => ?_⟩
  unfold Zf.g1 at e
  split at e
  · rename_i w
    obtain ⟨v, r', f, h1, h2, h3⟩ := rx
    have h3' : r' = [] := h3
    unfold gDict at e
    obtain ⟨ps, e1, e2⟩ := Option.map_eq_some_iff.mp e
    cases e2
    obtain ⟨ds, e3, e4⟩ := Option.bind_eq_some_iff.mp e1
    obtain ⟨wl, e5, e6⟩ := Option.bind_eq_some_iff.mp e3
    obtain ⟨a, us, fs, q1, q2, q3, _⟩ := vL_ok st h2 e5
    obtain ⟨as, kv, q4, q5, q6⟩ := asPairs_ok (q3.toD e6) e4
    rw [q4] at q2
    refine ⟨a, as, kv, by rw [h1, h3', q1], SqL.of q2, Paired.mapP q5 fun _ _ z => by rw [hK]; exact sub_sqT st.sub z, fun p hp => ?_⟩
    obtain ⟨t, s⟩ := st.new hp (.dK (mergeK [] kv))
    exact k _ θ _ _ [] t s (.d ⟨p, _, rfl, .inl upd_same, Rk.mono t.le _ _ (Rk.merge q6 rfl)⟩)
  · cases e
theorem z_dict {X : Cx} {G : Gd} {e : Expr} {ms : MA} {p pos : Pos} (hc : X.calm = true) (hg : Gl X "dict") (hm : X.mg "dict" = none) (ha : PA X [e] (tOfA G ms)) (hK : X.K = G.K := by rfl) (he : starEach [e] X.env = (false, eval e X.env) :: starEach [] X.env := by rfl) (hpl : (backTo pos (starEach [] X.env)).any (·.1) = false := by rfl) :
    PE X (.Call (.Name "dict" p) [e] [] pos) (tOf G (mCB (g1 gDict) ms)) :=
  z_ct (call_dictP hc) (sim_dict hK) hg hm (by decide +kernel) ha (by decide) (by decide) he hpl
end Zf
set_option Elab.async false
set_option linter.all false
set_option maxRecDepth 100000
set_option maxHeartbeats 2000000
namespace Zf
open PySem PySem.Spec PyProof.Rows L2
theorem glo_ref {X : Cx} {x : Str} {a : Addr} {pos : Pos} (hg : Gl X x) (hm : X.mg x = some (.ref a)) (hdb : (x == ("__debug__" : Str)) = false := by decide) : PE X (.Name x pos) (tC (.ref a)) := pe_glob hg hm (show RelV (.ref a) (.ref a) from rfl) hdb
theorem lookup_rel {env : Env} : ∀ {names : List (Str × NameKind)} {x : Str} {k : NameKind}, names.lookup x = some k → k = .cell ∨ k = .free →
    (names.map fun (n, k) => if (k == .free && env.scope.kind == .function && env.kindOf n == some .cell) then (n, NameKind.cell) else (n, k)).lookup x = some .cell ∨
    (names.map fun (n, k) => if (k == .free && env.scope.kind == .function && env.kindOf n == some .cell) then (n, NameKind.cell) else (n, k)).lookup x = some .free
  | [], _, _, h, _ => by simp at h
  | (n, k0) :: r, x, k, h, hk => by
    rw [List.map_cons]
    have ih := fun (h : r.lookup x = some k) => lookup_rel (env := env) h hk
    cases c : (x == n) with
    | true =>
      rw [List.lookup_cons, c] at h
      have e : k0 = k := Option.some.inj h
      subst e
      dsimp only
      split
      · exact .inl (by rw [List.lookup_cons, c])
      · rw [List.lookup_cons, c]
        exact hk.imp (fun z => by rw [z]) (fun z => by rw [z])
    | false =>
      rw [List.lookup_cons, c] at h
      have q := ih h
      dsimp only at q ⊢
      split
      · rw [List.lookup_cons, c]
        exact q
      · rw [List.lookup_cons, c]
        exact q
theorem blk_nest {X : Cx} {s : Shared} {H : Hp} {sc sc2 : Scope} {cl : List (Str × Addr)} {C : Addr} {env : Env} {fp : List Addr} {own : List (Str × Nat)} (N : List Str) (hN : X.N = N) (h : blkC N sc sc2 own = true) :
    BlkOk (X.blk s H sc (PySem.compEnvC sc cl C env) fp).N (X.blk s H sc (PySem.compEnvC sc cl C env) fp).env.scope sc2 own := by
  have b := blkOk_by h
  subst hN
  exact ⟨b.kind, b.uniq, b.ix, fun y hy e => (b.free y hy e).elim (fun z => lookup_rel z (.inl rfl)) fun z => lookup_rel z (.inr rfl), b.own⟩
/-! ### x, y = a, b by way of a tuple -/
def bindAllW : List Nat → List W → En → Option En
  | [], [], env => some env
  | i :: is, x :: xs, env => if i < env.length ∧ isArg x = true then bindAllW is xs (env.set i (some x)) else none
  | _, _, _ => none
theorem bindAllW_len : ∀ {is : List Nat} {xs : List W} {env env' : En}, bindAllW is xs env = some env' → xs.length = is.length
  | [], [], _, _, _ => rfl
  | i :: is, x :: xs, env, env', e => by
    unfold bindAllW at e
    split at e
    · rw [List.length_cons, List.length_cons, bindAllW_len e]
    · cases e
  | [], _ :: _, _, _, e => by cases e
  | _ :: _, [], _, _, e => by cases e
theorem bindAllW_ok {G : Gd} {F H0 H : Hp} {θ : Th} {S : Store} {fp0 : List Addr} : ∀ {is : List Nat} {xs : List W} {vs : List V} {env env' : En} {σ : L2.St} {fp : List Addr} {Q : L2.St → Hp → Prop}, St G F θ H S env σ fp → RsA G H0 fp0 F θ H xs vs → bindAllW is xs env = some env' →
    (∀ σ' fp', St G F θ H S env' σ' fp' → (∀ a ∈ fp', a ∈ fp) → Q σ' H) → gAll is vs σ H Q
  | [], [], vs, env, env', σ, fp, Q, s, r, e, k => by
    cases e
    exact ⟨r, k σ fp s fun _ h => h⟩
  | i :: is, x :: xs, vs, env, env', σ, fp, Q, s, ⟨v, r', f, h1, h2, h3⟩, e, k => by
    unfold bindAllW at e
    split at e
    · rename_i hc
      obtain ⟨fp1, s1, h4⟩ := s.setA h2.rw hc.2 hc.1
      exact ⟨v, r', h1, bindAllW_ok s1 h3 e fun σ' fp' s' h => k σ' fp' s' fun a ha => h4 a (h a ha)⟩
    · cases e
  | [], _ :: _, _, _, _, _, _, _, _, _, e, _ => by cases e
  | _ :: _, [], _, _, _, _, _, _, _, _, e, _ => by cases e
def mUnp (is : List Nat) (ms : MA) : MS := fun env S => (ms env S).bind fun p => if p.1.length ≤ cap then (bindAllW is p.1 env).map fun env' => (.nx, env', p.2) else none
theorem z_unp {X : Cx} {G : Gd} {es tgs : List Expr} {is : List Nat} {ms : MA} {pos p1 p2 : Pos} {k1 k2} (ha : PA X es (tOfA G ms)) (hg : PG X (.Tuple tgs k1 p1) (gOf X.K (.tup is))) (hs : swapsWithSole [.Tuple tgs k1 p1] (.Tuple es k2 p2) pos.line X.env = pure false := by rfl) (hw : swappedStores [.Tuple tgs k1 p1] (.Tuple es k2 p2) X.env = pure none := by rfl)
    (h1 : (assignEach [.Tuple tgs k1 p1] X.env).map (·.2) = [assign (.Tuple tgs k1 p1) X.env] := by rfl) : PS X (.Assign [.Tuple tgs k1 p1] (.Tuple es k2 p2) pos) (tOfS G (mUnp is ms)) := by
  refine ps_imp (ps_asg (pe_tup ha) hg hs hw h1) fun D σ H h => ?_
  obtain ⟨F, θ, S, env, fp, fl, env', S', s, e, k⟩ := h
  unfold mUnp at e
  obtain ⟨⟨ws, S1⟩, e1, e⟩ := Option.bind_eq_some_iff.mp e
  dsimp only at e
  split at e
  · rename_i hl
    obtain ⟨en, e2, e3⟩ := Option.map_eq_some_iff.mp e
    cases e3
    refine ⟨F, θ, S, env, fp, ws, _, s, e1, fun F1 θ1 H1 vs t1 s1 r => ?_⟩
    have n : vs.length = ws.length := by
      clear e e1 e2 hl
      induction ws generalizing vs with
      | nil => rw [show vs = [] from r]; rfl
      | cons w ws ih =>
        obtain ⟨v, r', f, q1, q2, q3⟩ := r
        rw [q1, List.length_cons, List.length_cons, ih r' q3]
    refine ⟨by rw [n]; exact cap_ok hl, fun p hp => ?_⟩
    obtain ⟨t2, s2, _⟩ := s1.new0 hp (.tup vs)
    refine ⟨p, vs, rfl, SqT.of upd_same, by rw [n, bindAllW_len e2], bindAllW_ok s2 (r.mono t2) e2 fun σ' fp' s3 h3 => ?_⟩
    exact k F1 θ1 _ σ' fp' (((t1.trans t2).toS fp).trans (TrS.fpSub h3)) s3
  · cases e
/-- x, y = e, e a tuple -/
def mUnpE (is : List Nat) (m : ME) : MS := fun env S => (m env S).bind fun p => (bindT (.tup is) env (match p.1 with | .d x => x | _ => .non)).map fun env' => (.nx, env', p.2)
theorem z_unpE {X : Cx} {G : Gd} {e : Expr} {tgs : List Expr} {is : List Nat} {m : ME} {pos p1 : Pos} {k1} (he : PE X e (tOf G m)) (hg : PG X (.Tuple tgs k1 p1) (gOf X.K (.tup is))) (hK : X.K = G.K := by rfl) (hs : swapsWithSole [.Tuple tgs k1 p1] e pos.line X.env = pure false := by rfl) (hw : swappedStores [.Tuple tgs k1 p1] e X.env = pure none := by rfl)
    (h1 : (assignEach [.Tuple tgs k1 p1] X.env).map (·.2) = [assign (.Tuple tgs k1 p1) X.env] := by rfl) : PS X (.Assign [.Tuple tgs k1 p1] e pos) (tOfS G (mUnpE is m)) := by
  refine ps_imp (ps_asg he hg hs hw h1) fun D σ H h => ?_
  obtain ⟨F, θ, S, env, fp, fl, env', S', s, e, k⟩ := h
  unfold mUnpE at e
  obtain ⟨⟨w, S1⟩, e1, e⟩ := Option.bind_eq_some_iff.mp e
  obtain ⟨en, e2, e3⟩ := Option.map_eq_some_iff.mp e
  cases e3
  refine ⟨F, θ, S, env, fp, w, _, s, e1, fun F1 θ1 H1 v f t1 s1 r => ?_⟩
  cases w with
  | d x =>
    rw [hK]
    exact bindT_ok s1 r.rw.dAt e2 fun σ' fp' s3 h3 => k F1 θ1 _ σ' fp' ((t1.toS fp).trans (TrS.fpSub h3)) s3
  | _ => cases e2
structure PPz (X : Cx) (G : Gd) (pos : Pos) (keys : List (Option Expr)) (values : List Expr) (ps : List (Str × ME)) : Prop where
  h : PPs X pos keys values (ps.map fun p => (tC (.str p.1), tOf G p.2))
theorem ppz_nil {X : Cx} {G : Gd} {pos : Pos} : PPz X G pos [] [] [] := ⟨pps_nil⟩
theorem ppz_cons {X : Cx} {G : Gd} {pos kp : Pos} {k : Str} {j} {v : Expr} {ks : List (Option Expr)} {vs : List Expr} {m : ME} {ps : List (Str × ME)} (hv : PE X v (tOf G m)) (hr : PPz X G pos ks vs ps) : PPz X G pos (some (.Constant (.str k) j kp) :: ks) (v :: vs) ((k, m) :: ps) := ⟨pps_cons pe_str hv hr.h⟩
theorem z_dispz {X : Cx} {G : Gd} {keys : List (Option Expr)} {values : List Expr} {pos : Pos} {ps : List (Str × ME)} (h : PPz X G pos keys values ps) (hall : keys.all (·.isSome) = true := by rfl) (hl : keys.length = values.length := by rfl) (h0 : keys ≠ [] := by simp)
    (h15 : keys.length ≤ 15 := by decide) : PE X (.Dict keys values pos) (tOf G (mDisp ps)) := z_disp h.h hall hl h0 h15
def mINone : MI := fun _ _ => none
theorem zi_none {X : Cx} {G : Gd} {tg e : Expr} : PI X tg e (tOfI G mINone) := ⟨fun pins s σ H R I h => by
  obtain ⟨F, θ, S, env, fp, ds, S', st, e, k⟩ := h
  cases e⟩
/-- list(xs), the list ours -/
def gListO (S : Store) (w : W) : Option W := (vSeq S w).map fun xs => .own (xs.map .d)
theorem fresh_back {H0 H : Hp} (l : ∀ a u, H0 a = some u → ∃ u', H a = some u') {p : Addr} (hp : H p = none) : H0 p = none := by
  cases q : H0 p with
  | none => rfl
  | some u =>
    obtain ⟨u', hu⟩ := l p u q
    rw [hp] at hu
    cases hu
theorem sim_listO {G : Gd} : SimC G (fun xs H Q => ∃ x, xs = [x] ∧ ∃ p ys, x = .ref p ∧ (SqL G.K H p ys ∨ SqT G.K H p ys) ∧ ∀ l, H l = none → Q (.ref l) (upd H l (.lst ys))) (g1 gListO) := sim1 fun {F θ H0 H S env σ fp w v f z Q} st r e l k => by
  unfold gListO at e
  obtain ⟨xs, e1, e2⟩ := Option.map_eq_some_iff.mp e
  cases e2
  obtain ⟨a, vs, h1, h2, h3⟩ := vSeq_ok st r e1
  refine ⟨a, vs, h1, h2, fun p hp => ?_⟩
  obtain ⟨t, s, _⟩ := st.new0 hp (.lst vs)
  exact k _ _ _ _ [p] t s (Res.newO st hp (fresh_back l hp) (.ofD h3))
theorem z_listO {X : Cx} {G : Gd} {e : Expr} {ms : MA} {p pos : Pos} (hg : Gl X "list") (hm : X.mg "list" = none) (ha : PA X [e] (tOfA G ms)) (he : starEach [e] X.env = (false, eval e X.env) :: starEach [] X.env := by rfl) (hpl : (backTo pos (starEach [] X.env)).any (·.1) = false := by rfl) (hK : X.K = G.K := by rfl) :
    PE X (.Call (.Name "list" p) [e] [] pos) (tOf G (mCB (g1 gListO) ms)) :=
  z_ct (r := fun xs H Q => ∃ x, xs = [x] ∧ ∃ p ys, x = .ref p ∧ (SqL G.K H p ys ∨ SqT G.K H p ys) ∧ ∀ l, H l = none → Q (.ref l) (upd H l (.lst ys))) (callR_imp call_list_of fun xs H Q ⟨x, h1, p, ys, h2, h3, h4⟩ => ⟨p, ys, by rw [h1, h2], hK ▸ h3, h4⟩) sim_listO hg hm (by decide +kernel) ha (by decide) (by decide) he hpl
end Zf
set_option Elab.async false
set_option linter.all false
set_option maxRecDepth 100000
set_option maxHeartbeats 2000000
namespace Zf
open PySem PySem.Spec PyProof.Rows L2

/-! ### dict(zip(xs, ys)) -/
def tDZ (K : PySem.W.Frag) (ta : TA) : TE := fun σ H Q => ta σ H fun vs H1 => ∃ (a b : Addr) (ks : List Key) (ys : List V), vs = [.ref a, .ref b] ∧ SqL K H1 a (ks.map kV) ∧ SqL K H1 b ys ∧ ∀ p, H1 p = none → Q (.ref p) (upd H1 p (.dK (mergeK [] (ks.zip ys))))
theorem keys_at {P : Program} {w : World} : ∀ {ks : List Key} {us : List Value}, Vals (ks.map kV) us → ∀ (i : Nat) (u : Value), us[i]? = some u → ∃ k, ks[i]? = some k ∧ (mixKind P w).is k u = true
  | [], us, r, i, u, e => by
    rw [List.map_nil] at r
    cases r
    simp at e
  | k :: ks, us, r, i, u, e => by
    rw [List.map_cons] at r
    cases r with
    | cons h t =>
      cases i with
      | zero =>
        cases e
        exact ⟨k, rfl, kV_is h⟩
      | succ i => exact keys_at t i u (by simpa using e)
theorem kv_zip : ∀ {ks : List Key} {ys : List V} {us : List Value}, Vals ys us → KV (ks.zip ys) (ks.zip us)
  | [], _, _, _ => by
    rw [List.zip_nil_left, List.zip_nil_left]
    exact .nil
  | _ :: _, _, _, .nil => by
    rw [List.zip_nil_right, List.zip_nil_right]
    exact .nil
  | k :: ks, _, _, .cons h t => by
    rw [List.zip_cons_cons, List.zip_cons_cons]
    exact .cons ⟨rfl, h⟩ (kv_zip t)
theorem pe_dictZip {X : Cx} {e e2 : Expr} {ta : TA} {p p2 q pos : Pos} (hc : X.calm = true) (hg : Gl X "dict") (hm : X.mg "dict" = none) (hgz : Gl X "zip") (hmz : X.mg "zip" = none) (ha : PA X [e, e2] ta)
    (hs : starEach [e, e2] X.env = (false, eval e X.env) :: starEach [e2] X.env := by rfl) (hpl : (backTo q (starEach [e2] X.env)).any (·.1) = false := by rfl) : PE X (.Call (.Name "dict" p) [.Call (.Name "zip" p2) [e, e2] [] q] [] pos) (tDZ X.K ta) := by
  refine ⟨fun pins s σ H Q I h => ?_⟩
  refine Call_ (ld_blt I hg hm PyProof.Rows.boot_dict (PyProof.Rows.callWith_type1 (PyProof.Rows.args_cons ?_ rfl) rfl rfl))
  refine Call_ (ld_blt I hgz hmz PyProof.Rows.boot_zip (PyProof.Rows.callWith_type1 (thn (ha.run q pins s σ H _ I h) fun us s1 ⟨vs, H1, I1, r1, q1⟩ => ?_) hs hpl))
  obtain ⟨a, b, ks, ys, rfl, hqx, hqy, q1⟩ := q1
  obtain ⟨u1, u2, rfl, r, r'⟩ := r1.two
  cases r
  cases r'
  obtain ⟨its, rv, p1, z1⟩ := I1.list hqx
  obtain ⟨its2, rv2, p2, z2⟩ := I1.list hqy
  refine call_zip_2 p1.isList p2.isList fun h' hz hTI hTO h1 h2 hsz old => PyProof.Rows.args_nil ?_
  have D := PySem.W.ktu_apart s1.heap.objs.size a b p1.lt p2.lt
  have l1 : h'.IsList a its.toArray := p1.isList.at fun o e => old _ _ e
  have l2 : h'.IsList b its2.toArray := p2.isList.at fun o e => old _ _ e
  have n1 : its.length = ks.length := by rw [← rv.length, List.length_map]
  have e1 := List.size_toArray (as := its)
  have e2 := List.size_toArray (as := its2)
  refine PySem.call_dict_pairs (s := { s1 with heap := h' }) (knd := mixKind X.prog X.w) (kvs := ks.zip its2) (PySem.PairArg.zip _ _ _ _ _ _ _ D its.toArray its2.toArray) (I1.ok.hd hc) ⟨hz, hTI, ⟨_, _, hTO⟩, h1, h2, l1, l2⟩ ⟨?_, fun i key v hr => ?_⟩ ?_ fun h'' tk hd keep => ?_
  · rw [List.length_zip, e1, e2, n1]
  · obtain ⟨q3, q4⟩ := hr
    obtain ⟨k, q5, q6⟩ := keys_at (P := X.prog) (w := X.w) rv i key (by simpa using q3)
    refine ⟨k, ?_, q6⟩
    rw [List.getElem?_zip_eq_some]
    exact ⟨q5, by simpa using q4⟩
  · rw [e1, n1]
    have := z1
    rw [List.length_map] at this
    omega
  · have keep' : ∀ b u, s1.heap.get? b = some u → h''.get? b = some u := fun c u e => by
      have lt := Heap.lt_size e
      refine keep c u (fun z => ?_) (old c u e)
      simp only [List.mem_cons, List.not_mem_nil, or_false] at z
      rcases z with z | z | z | z <;> (rw [z] at lt; exact absurd lt (by first | exact Nat.lt_irrefl _ | exact Nat.not_lt.mpr (Nat.le_add_right _ _)))
    have big : s1.heap.objs.size ≤ h'.objs.size := by
      rw [hsz]
      exact Nat.le_add_right _ _
    have nosys : (h'.objs.size == sysModules) = false := beq_eq_false_iff_ne.mpr (Nat.ne_of_gt (Nat.lt_of_lt_of_le I1.big big))
    have len : (mergeK [] (ks.zip ys)).length ≤ sizeLine := by
      refine Nat.le_trans (length_mergeK _ []) ?_
      rw [List.length_nil, Nat.zero_add, List.length_zip]
      have := z1
      rw [List.length_map] at this
      omega
    exact ⟨.ref h'.objs.size, upd H1 h'.objs.size (.dK (mergeK [] (ks.zip ys))), I1.laid (t' := tk) keep' big (show ObjOk X.prog X.w _ _ _ (.dK (mergeK [] (ks.zip ys))) from ⟨len, nosys, merged [] (ks.zip its2), KV.merge (kv_zip rv2) .nil, hd⟩), rfl, q1 _ (I1.hok.fresh big)⟩
def asKeys : List D → Option (List Key)
  | [] => some []
  | .str x :: r => (asKeys r).map (.inr x :: ·)
  | .int x :: r => (asKeys r).map (.inl x :: ·)
  | _ :: _ => none
theorem asKeys_ok {G : Gd} {F : Hp} : ∀ {ds : List D} {ks : List Key} {vs : List V}, Rs G F ds vs → asKeys ds = some ks → vs = ks.map kV
  | [], _, _, h, e => by
    cases e
    exact h
  | d :: r, ks, _, ⟨v, r', h1, h2, h3⟩, e => by
    unfold asKeys at e
    split at e
    · cases ‹_ = []›
    · rename_i b t hw
      cases hw
      obtain ⟨ys, e1, e2⟩ := Option.map_eq_some_iff.mp e
      cases e2
      rw [h1, show v = V.str b from h2, asKeys_ok h3 e1]
      rfl
    · rename_i b t hw
      cases hw
      obtain ⟨ys, e1, e2⟩ := Option.map_eq_some_iff.mp e
      cases e2
      rw [h1, show v = V.int b from h2, asKeys_ok h3 e1]
      rfl
    · cases e
theorem Rk.zip {G : Gd} {F : Hp} : ∀ {ks : List Key} {ds : List D} {vs : List V}, Rs G F ds vs → Rk G F (ks.zip ds) (ks.zip vs)
  | [], _, _, _ => by
    rw [List.zip_nil_left, List.zip_nil_left]
    rfl
  | _ :: _, [], _, h => by
    rw [show _ = [] from h, List.zip_nil_right, List.zip_nil_right]
    rfl
  | k :: ks, d :: ds, _, ⟨v, r, h1, h2, h3⟩ => by
    rw [h1, List.zip_cons_cons, List.zip_cons_cons]
    exact ⟨v, _, rfl, h2, Rk.zip h3⟩
def mDictZip (ms : MA) : ME := fun env S => (ms env S).bind fun p => match p.1 with
  | [a, b] => (((vL p.2 a).bind asDs).bind asKeys).bind fun ks => ((vL p.2 b).bind asDs).map fun ds => (.d (.dct (mergeD [] (ks.zip ds))), p.2)
  | _ => none
theorem z_dictZip {X : Cx} {G : Gd} {e e2 : Expr} {ms : MA} {p p2 q pos : Pos} (hc : X.calm = true) (hg : Gl X "dict") (hm : X.mg "dict" = none) (hgz : Gl X "zip") (hmz : X.mg "zip" = none) (ha : PA X [e, e2] (tOfA G ms))
    (hs : starEach [e, e2] X.env = (false, eval e X.env) :: starEach [e2] X.env := by rfl) (hpl : (backTo q (starEach [e2] X.env)).any (·.1) = false := by rfl) (hK : X.K = G.K := by rfl) : PE X (.Call (.Name "dict" p) [.Call (.Name "zip" p2) [e, e2] [] q] [] pos) (tOf G (mDictZip ms)) := by
  refine pe_imp (pe_dictZip hc hg hm hgz hmz ha hs hpl) fun σ H Q h => ?_
  rw [hK]
  obtain ⟨F, θ, S, env, fp, w, S', st, e, k⟩ := h
  unfold mDictZip at e
  obtain ⟨⟨ws, S1⟩, e1, e⟩ := Option.bind_eq_some_iff.mp e
  dsimp only at e
  split at e
  · rename_i wa wb
    obtain ⟨ks, e2, e⟩ := Option.bind_eq_some_iff.mp e
    obtain ⟨ds, e3, e4⟩ := Option.map_eq_some_iff.mp e
    cases e4
    obtain ⟨kd, e5, e6⟩ := Option.bind_eq_some_iff.mp e2
    obtain ⟨kw, e7, e8⟩ := Option.bind_eq_some_iff.mp e5
    obtain ⟨dw, e9, e10⟩ := Option.bind_eq_some_iff.mp e3
    refine ⟨F, θ, S, env, fp, _, _, st, e1, fun F1 θ1 H1 vs t1 s1 r => ?_⟩
    obtain ⟨v, r1, f, h1, h2, u, r2, f2, h3, h4, h5⟩ := r
    have h5' : r2 = [] := h5
    obtain ⟨a, us, _, q1, q2, q3, _⟩ := vL_ok s1 h2 e7
    obtain ⟨b, us2, _, q4, q5, q6, _⟩ := vL_ok s1 h4 e9
    rw [asKeys_ok (q3.toD e8) e6] at q2
    refine ⟨a, b, ks, us2, by rw [h1, h3, h5', q1, q4], SqL.of q2, SqL.of q5, fun p hp => ?_⟩
    obtain ⟨t, s⟩ := s1.new hp (.dK (mergeK [] (ks.zip us2)))
    exact k _ θ1 _ _ [] (t1.trans t) s (.d ⟨p, _, rfl, .inl upd_same, Rk.mono t.le _ _ (Rk.merge (Rk.zip (q6.toD e10)) rfl)⟩)
  · cases e
end Zf
set_option Elab.async false
set_option linter.all false
set_option maxRecDepth 100000
set_option maxHeartbeats 4000000
/-! zip walked by one name: its last pair may be held, or gone -/
namespace Zn
open PySem PySem.Spec PyProof.Rows L2
section
variable {P : Program} {w : World} {A : Around} {E : Value → Shared → Prop} {s : Shared} {z TI TO i1 i2 l1 l2 T : Addr} {k1 k2 : Nat} {xs ys : Array Value} {x y a b f0 : Value} {f : Bool}
abbrev ZZ (h : Heap) (z TI TO : Addr) (f0 : Value) (f : Bool) : Prop := h.get? z = some { cls := .type "zip", dict := none, data := .fields #[f0, .bool f, .bool false, .ref TI, .ref TO], slots := #[] }
theorem gone {Q : Bool → Shared → Prop} (hz : ZZ s.heap z TI TO (rawInt T) f) (hT : s.heap.get? T = none) (q : Q true s) : wpAny (model P w) A (Builtin.SmallTypes.ownedTupleIsFree (.ref z)) Q E s := by
  unfold Builtin.SmallTypes.ownedTupleIsFree
  refine wpAny_bind (wpAny_field hz rfl (x := rawInt T) rfl (?_ : wpAny _ _ (loadIfAlive ((T : Int).toNat) >>= _) _ _ _))
  rw [Int.toNat_natCast]
  have look : ∀ {R : Option Obj → Shared → Prop}, R none s → wpAny (model P w) A (loadIfAlive T) R E s := fun {R} r => by
    have r' : R (s.heap.get? T) s := by
      rw [hT]
      exact r
    exact fun _ _ _ => r'
  exact wpAny_bind (look (wpAny_pure q))
/-- the next pair, the owned one free -/
theorem draw {Q : Value → Shared → Prop} (D : ZipApart z TI TO i1 i2 l1 l2) (hz : ZZ s.heap z TI TO f0 f) (free : ∀ {R : Bool → Shared → Prop}, R true s → wpAny (model P w) A (Builtin.SmallTypes.ownedTupleIsFree (.ref z)) R E s)
    (hI : IsPair s.heap TI (.ref i1) (.ref i2)) (hO : IsPair s.heap TO a b) (n1 : s.heap.IsListIter i1 l1 k1) (n2 : s.heap.IsListIter i2 l2 k2) (g1 : s.heap.IsList l1 xs) (g2 : s.heap.IsList l2 ys) (hx : xs[k1]? = some x) (hy : ys[k2]? = some y)
    (q : ∀ h', IsZip h' z TI TO (rawInt s.heap.objs.size) → IsPair h' TO x y → h'.IsListIter i1 l1 (k1 + 1) → h'.IsListIter i2 l2 (k2 + 1) → IsPair h' s.heap.objs.size x y → h'.objs.size = s.heap.objs.size + 1 →
      (∀ c o, c ≠ z → c ≠ TO → c ≠ i1 → c ≠ i2 → s.heap.get? c = some o → h'.get? c = some o) → Q (.ref s.heap.objs.size) { s with heap := h' }) :
    wpAny (model P w) A (Builtin.«zip.__next__» ⟨[.ref z], []⟩) (fun fin t => ∃ v, fin = .done (.ret v) ∧ Q v t) E s := by
  refine wpAny_bind (m := field (.ref z) 2) (wpAny_field hz rfl (x := .bool false) rfl ?_)
  refine wpAny_bind (m := field (.ref z) 3) (wpAny_field hz rfl (x := .ref TI) rfl (wpAny_bind (wpAny_seqItems hI rfl ?_)))
  refine wpAny_bind (m := Builtin.SmallTypes.ownedTupleIsFree (.ref z)) (free ?_)
  simp only [if_true]
  refine wpAny_bind (wpAny_rule (wpAny_bind (wpAny_field hz rfl (x := .ref TO) rfl (wpAny_bind (wpAny_setField_rec hz (by simp) fun m1 (c1 : ZZ m1 z TI TO .ellipsis f) b1 => ?_)))))
  refine wpAny_bind ?_
  simp only [List.zipIdx_cons, List.zipIdx_nil, List.forIn_cons, List.forIn_nil]
  refine wpAny_bind (wpAny_bind (wpAny_onRaise (?_ : wpAny _ _ (Builtin.SmallTypes.nextOf (.ref i1) >>= _) _ _ _)))
  refine wpAny_bind (wpAny_nextOf_list_item (n1.extBut b1.extBut D.i1z) (g1.extBut b1.extBut D.l1z) hx fun m2 u1 b2 => wpAny_pure ?_)
  have o2 : IsPair m2 TO a b := b2.extBut _ _ D.TOi1 (b1.extBut _ _ D.TOz hO)
  refine wpAny_bind (wpAny_seqItems o2 rfl (wpAny_bind (wpAny_updateSeq_pair o2 fun m3 (o3 : IsPair m3 TO x b) b3 => wpAny_bind (wpAny_letGo (wpAny_pure ?_)))))
  refine wpAny_bind (wpAny_bind (wpAny_onRaise (?_ : wpAny _ _ (Builtin.SmallTypes.nextOf (.ref i2) >>= _) _ _ _)))
  refine wpAny_bind (wpAny_nextOf_list_item (((n2.extBut b1.extBut D.i2z).extBut b2.extBut D.i12.symm).extBut b3.extBut D.TOi2.symm) (((g2.extBut b1.extBut D.l2z).extBut b2.extBut D.l2i1).extBut b3.extBut D.l2TO) hy fun m4 u2 b4 => wpAny_pure ?_)
  have o4 : IsPair m4 TO x b := b4.extBut _ _ D.TOi2 o3
  refine wpAny_bind (wpAny_seqItems o4 rfl (wpAny_bind (wpAny_updateSeq_pair o4 fun m5 (o5 : IsPair m5 TO x y) b5 => wpAny_bind (wpAny_letGo (wpAny_pure (wpAny_pure ?_))))))
  refine wpAny_bind (wpAny_seqItems o5 rfl (wpAny_bind (wpAny_newTuple ?_)))
  have size5 : m5.objs.size = s.heap.objs.size := by rw [b5.1, b4.1, b3.1, b2.1, b1.1]
  have c5 : ZZ m5 z TI TO .ellipsis f := b5.extBut _ _ D.TOz.symm (b4.extBut _ _ D.i2z.symm (b3.extBut _ _ D.TOz.symm (b2.extBut _ _ D.i1z.symm c1)))
  have old5 : ∀ c o, c ≠ z → c ≠ TO → c ≠ i1 → c ≠ i2 → s.heap.get? c = some o → m5.get? c = some o := fun c o d1 d2 d3 d4 e =>
    b5.extBut _ _ d2 (b4.extBut _ _ d4 (b3.extBut _ _ d2 (b2.extBut _ _ d3 (b1.extBut _ _ d1 e))))
  have v1 := ((u1.extBut b3.extBut D.TOi1.symm).extBut b4.extBut D.i12).extBut b5.extBut D.TOi1.symm
  have v2 := u2.extBut b5.extBut D.TOi2.symm
  have below : z < m5.objs.size := Heap.lt_size c5
  refine wpAny_bind (m := Builtin.SmallTypes.ownedTupleHandOut (.ref z) (.ref m5.objs.size)) ?_
  unfold Builtin.SmallTypes.ownedTupleHandOut
  have c6 : ZZ (m5.push { cls := .type "tuple", data := .seq #[x, y] }) z TI TO .ellipsis f := Heap.get?_push_of_some _ c5
  refine wpAny_bind (wpAny_setField_rec c6 (by simp) fun m7 (c7 : ZZ m7 z TI TO (rawInt m5.objs.size) f) b7 => wpAny_setField_rec c7 (by simp) fun m8 (c8 : IsZip m8 z TI TO (rawInt m5.objs.size)) b8 => ?_)
  have up : ∀ c o, c ≠ z → m5.get? c = some o → m8.get? c = some o := fun c o d e => b8.extBut _ _ d (b7.extBut _ _ d (Heap.get?_push_of_some _ e))
  have new8 : IsPair m8 m5.objs.size x y := b8.extBut _ _ (Nat.ne_of_gt below) (b7.extBut _ _ (Nat.ne_of_gt below) (Heap.get?_push_size _ rfl))
  have size8 : m8.objs.size = m5.objs.size + 1 := by rw [b8.1, b7.1, Heap.size_push]
  rw [size5] at c8 new8 size8
  refine wpAny_pure ⟨_, rfl, (?_ : Q (.ref m5.objs.size) _)⟩
  rw [size5]
  exact q m8 c8 (up _ _ D.TOz o5) (v1.at fun o e => up _ o D.i1z e) (v2.at fun o e => up _ o D.i2z e) new8 size8 fun c o d1 d2 d3 d4 e => up c o d1 (old5 c o d1 d2 d3 d4 e)
/-- the end, the owned pair free -/
theorem stop {Q : Fin → Shared → Prop} (calm : A.handled = none) (D : ZipApart z TI TO i1 i2 l1 l2) (hz : ZZ s.heap z TI TO f0 f) (free : ∀ {R : Bool → Shared → Prop}, R true s → wpAny (model P w) A (Builtin.SmallTypes.ownedTupleIsFree (.ref z)) R E s)
    (hI : IsPair s.heap TI (.ref i1) (.ref i2)) (hO : IsPair s.heap TO a b) (n1 : s.heap.IsListIter i1 l1 k1) (n2 : s.heap.IsListIter i2 l2 k2) (g1 : s.heap.IsList l1 xs) (g2 : s.heap.IsList l2 ys) (fin : xs[k1]? = none ∨ ys[k2]? = none)
    (q : ∀ h' e, (∀ c o, c ≠ z → c ≠ TO → c ≠ i1 → c ≠ i2 → s.heap.get? c = some o → h'.get? c = some o) → (∃ o, h'.get? e = some o ∧ o.cls = .type "StopIteration") → E (.ref e) { s with heap := h' }) :
    wpAny (model P w) A (Builtin.«zip.__next__» ⟨[.ref z], []⟩) Q E s := by
  refine wpAny_bind (m := field (.ref z) 2) (wpAny_field hz rfl (x := .bool false) rfl ?_)
  refine wpAny_bind (m := field (.ref z) 3) (wpAny_field hz rfl (x := .ref TI) rfl (wpAny_bind (wpAny_seqItems hI rfl ?_)))
  refine wpAny_bind (m := Builtin.SmallTypes.ownedTupleIsFree (.ref z)) (free ?_)
  simp only [if_true]
  refine wpAny_bind (wpAny_rule (wpAny_bind (wpAny_field hz rfl (x := .ref TO) rfl (wpAny_bind (wpAny_setField_rec hz (by simp) fun m1 (c1 : ZZ m1 z TI TO .ellipsis f) b1 => ?_)))))
  refine wpAny_bind ?_
  simp only [List.zipIdx_cons, List.zipIdx_nil, List.forIn_cons, List.forIn_nil]
  refine wpAny_bind (wpAny_bind (wpAny_onRaise (?_ : wpAny _ _ (Builtin.SmallTypes.nextOf (.ref i1) >>= _) _ _ _)))
  have apart : ∀ {m : Heap} {e : Addr}, ZZ m z TI TO .ellipsis f → (∃ o, m.get? e = some o ∧ o.cls = .type "StopIteration") → e ≠ z := fun {m e} c he d => by
    obtain ⟨o, ho, hc⟩ := he
    rw [d, c] at ho
    cases ho
    simp at hc
  cases hx : xs[k1]? with
  | none =>
    refine wpAny_bind (wpAny_nextOf_list_end calm (n1.extBut b1.extBut D.i1z) (g1.extBut b1.extBut D.l1z) hx fun m2 e b2 he => ?_)
    have c2 : ZZ m2 z TI TO .ellipsis f := b2 _ _ D.i1z.symm c1
    have ne := apart c2 he
    obtain ⟨o, ho, hc⟩ := he
    exact wpAny_setField_rec c2 (by simp) fun m3 _ b3 => q m3 e (fun c u d1 _ d3 _ t => b3.extBut _ _ d1 (b2 _ _ d3 (b1.extBut _ _ d1 t))) ⟨o, b3.extBut _ _ ne ho, hc⟩
  | some x =>
    have hy : ys[k2]? = none := by
      rcases fin with t | t
      · rw [hx] at t
        cases t
      · exact t
    refine wpAny_bind (wpAny_nextOf_list_item (n1.extBut b1.extBut D.i1z) (g1.extBut b1.extBut D.l1z) hx fun m2 u1 b2 => wpAny_pure ?_)
    have o2 : IsPair m2 TO a b := b2.extBut _ _ D.TOi1 (b1.extBut _ _ D.TOz hO)
    refine wpAny_bind (wpAny_seqItems o2 rfl (wpAny_bind (wpAny_updateSeq_pair o2 fun m3 o3 b3 => wpAny_bind (wpAny_letGo (wpAny_pure ?_)))))
    refine wpAny_bind (wpAny_bind (wpAny_onRaise (?_ : wpAny _ _ (Builtin.SmallTypes.nextOf (.ref i2) >>= _) _ _ _)))
    refine wpAny_bind (wpAny_nextOf_list_end calm (((n2.extBut b1.extBut D.i2z).extBut b2.extBut D.i12.symm).extBut b3.extBut D.TOi2.symm) (((g2.extBut b1.extBut D.l2z).extBut b2.extBut D.l2i1).extBut b3.extBut D.l2TO) hy fun m4 e b4 he => ?_)
    have c4 : ZZ m4 z TI TO .ellipsis f := b4 _ _ D.i2z.symm (b3.extBut _ _ D.TOz.symm (b2.extBut _ _ D.i1z.symm c1))
    have ne := apart c4 he
    obtain ⟨o, ho, hc⟩ := he
    exact wpAny_setField_rec c4 (by simp) fun m5 _ b5 => q m5 e (fun c u d1 d2 d3 d4 t => b5.extBut _ _ d1 (b4 _ _ d4 (b3.extBut _ _ d2 (b2.extBut _ _ d3 (b1.extBut _ _ d1 t))))) ⟨o, b5.extBut _ _ ne ho, hc⟩
/-- pyNext of it, whatever has become of the last pair -/
def Zs (h : Heap) (z TI TO i1 i2 l1 l2 : Addr) (k : Nat) : Prop := (ZZ h z TI TO .none false ∨ ∃ (T : Addr) (f : Bool), ZZ h z TI TO (rawInt T) f) ∧ IsPair h TI (.ref i1) (.ref i2) ∧ (∃ a b, IsPair h TO a b) ∧ h.IsListIter i1 l1 k ∧ h.IsListIter i2 l2 k
theorem next_item {Q : Option Value → Shared → Prop} {k : Nat} (D : ZipApart z TI TO i1 i2 l1 l2) (st : Zs s.heap z TI TO i1 i2 l1 l2 k) (g1 : s.heap.IsList l1 xs) (g2 : s.heap.IsList l2 ys) (hx : xs[k]? = some x) (hy : ys[k]? = some y)
    (q : ∀ h', Zs h' z TI TO i1 i2 l1 l2 (k + 1) → IsPair h' s.heap.objs.size x y → (∀ c o, c ≠ z → c ≠ TO → c ≠ i1 → c ≠ i2 → s.heap.get? c = some o → h'.get? c = some o) → Q (some (.ref s.heap.objs.size)) { s with heap := h' }) : wpAny (model P w) A (pyNext (.ref z)) Q E s := by
  obtain ⟨hz, hI, ⟨a, b, hO⟩, n1, n2⟩ := st
  have run : ∀ {f0 : Value} {f : Bool}, ZZ s.heap z TI TO f0 f → (∀ {R : Bool → Shared → Prop} {A : Around} {E : Value → Shared → Prop}, R true s → wpAny (model P w) A (Builtin.SmallTypes.ownedTupleIsFree (.ref z)) R E s) → wpAny (model P w) A (pyNext (.ref z)) Q E s := fun {f0 f} hz free => by
    have ty : s.TypeIs (.ref z) "zip" := ⟨_, hz, rfl⟩
    unfold pyNext
    exact wpAny_bind (wpAny_attempt (wpAny_callSpecial?_slot (name := Str.ofString "__next__") ty F.slot_zip_next (wpAny_call_entry F.slot_zip_next ty F.entry_zip_next
      (draw D hz (fun {R} r => free r) hI hO n1 n2 g1 g2 hx hy fun h' c1 c2 c3 c4 c5 c6 c7 => wpAny_pure (q h' ⟨.inr ⟨_, false, c1⟩, c7 _ _ D.TIz D.TITO D.TIi1 D.TIi2 hI, ⟨_, _, c2⟩, c3, c4⟩ c5 c7)) (F.args_zip_next_1 _))))
  rcases hz with hz | ⟨T, f, hz⟩
  · refine run hz fun {R A E} r => ?_
    unfold Builtin.SmallTypes.ownedTupleIsFree
    exact wpAny_bind (wpAny_field hz rfl (x := .none) rfl (wpAny_pure r))
  · cases t : s.heap.get? T with
    | none => exact run hz fun {R A E} r => gone hz t r
    | some o =>
      refine wpAny_pyNext_zip_item_held D hz t hI n1 n2 g1 g2 hx hy fun h' c1 c2 c3 c4 c5 c6 => ?_
      exact q h' ⟨.inr ⟨T, true, c1⟩, c6 _ _ D.TIz D.TIi1 D.TIi2 hI, ⟨a, b, c6 _ _ D.TOz D.TOi1 D.TOi2 hO⟩, c2, c3⟩ c4 fun c u d1 _ d3 d4 e => c6 c u d1 d3 d4 e
theorem next_end {Q : Option Value → Shared → Prop} {k : Nat} (calm : A.handled = none) (D : ZipApart z TI TO i1 i2 l1 l2) (st : Zs s.heap z TI TO i1 i2 l1 l2 k) (g1 : s.heap.IsList l1 xs) (g2 : s.heap.IsList l2 ys) (fin : xs[k]? = none ∨ ys[k]? = none)
    (q : ∀ h', (∀ c o, c ≠ z → c ≠ TO → c ≠ i1 → c ≠ i2 → s.heap.get? c = some o → h'.get? c = some o) → Q none { s with heap := h' }) : wpAny (model P w) A (pyNext (.ref z)) Q E s := by
  obtain ⟨hz, hI, ⟨a, b, hO⟩, n1, n2⟩ := st
  have run : ∀ {f0 : Value} {f : Bool}, ZZ s.heap z TI TO f0 f → (∀ {R : Bool → Shared → Prop} {A : Around} {E : Value → Shared → Prop}, R true s → wpAny (model P w) A (Builtin.SmallTypes.ownedTupleIsFree (.ref z)) R E s) → wpAny (model P w) A (pyNext (.ref z)) Q E s := fun {f0 f} hz free => by
    have ty : s.TypeIs (.ref z) "zip" := ⟨_, hz, rfl⟩
    unfold pyNext
    refine wpAny_bind (wpAny_attempt (wpAny_callSpecial?_slot (name := Str.ofString "__next__") ty F.slot_zip_next (wpAny_call_entry F.slot_zip_next ty F.entry_zip_next (stop calm D hz (fun {R} r => free r) hI hO n1 n2 g1 g2 fin fun h' e keep he => ?_) (F.args_zip_next_1 _))))
    obtain ⟨o, ho, hc⟩ := he
    exact wpAny_bind (wpAny_isInstance (T := "StopIteration") (b := true) ⟨o, ho, hc⟩ isSubtype_stop (wpAny_pure (q _ keep)))
  rcases hz with hz | ⟨T, f, hz⟩
  · refine run hz fun {R A E} r => ?_
    unfold Builtin.SmallTypes.ownedTupleIsFree
    exact wpAny_bind (wpAny_field hz rfl (x := .none) rfl (wpAny_pure r))
  · cases t : s.heap.get? T with
    | none => exact run hz fun {R A E} r => gone hz t r
    | some o => exact wpAny_pyNext_zip_end_held calm D hz t hI n1 n2 g1 g2 fin fun h' keep => q h' fun c u d1 _ d3 d4 e => keep c u d1 d3 d4 e
end
/-- the walk by one name -/
theorem turn_one {P : Program} {w : World} {K : PySem.W.Frag} {tg : Expr} (plain : ∀ (M : Model) (A : Around) (E : Value → Shared → Prop) (s : Shared) (it v : Value) (Q : Unit → Shared → Prop), Q () s → wpAny M A (letOwnedTupleGo tg it v) Q E s) {a b z TI TO i1 i2 : Addr} (D : ZipApart z TI TO i1 i2 a b) :
    Turn P w K tg (Itz K a b) [z, TI, TO, i1, i2] z (fun i h => Zs h z TI TO i1 i2 a b i) where
  mem := by simp
  obj := fun i h st c hc => by
    obtain ⟨hz, hI, ⟨x, y, hO⟩, ⟨o1, e1, _, d1⟩, ⟨o2, e2, _, d2⟩⟩ := st
    simp only [List.mem_cons, List.not_mem_nil, or_false] at hc
    rcases hc with q | q | q | q | q
    · rw [q]
      rcases hz with hz | ⟨T, f, hz⟩
      · exact ⟨_, hz, fun v q => nomatch q⟩
      · exact ⟨_, hz, fun v q => nomatch q⟩
    · rw [q]
      exact ⟨_, hI, fun v q => nomatch q⟩
    · rw [q]
      exact ⟨_, hO, fun v q => nomatch q⟩
    · exact ⟨o1, by rw [q]; exact e1, fun v q => by rw [d1] at q; cases q⟩
    · exact ⟨o2, by rw [q]; exact e2, fun v q => by rw [d2] at q; cases q⟩
  keep := fun i h h' st k => by
    obtain ⟨hz, hI, ⟨x, y, hO⟩, n1, n2⟩ := st
    exact ⟨hz.imp (fun hz => k z (by simp) _ hz) fun ⟨T, f, hz⟩ => ⟨T, f, k z (by simp) _ hz⟩, k TI (by simp) _ hI, ⟨x, y, k TO (by simp) _ hO⟩, n1.at fun o q => k i1 (by simp) o q, n2.at fun o q => k i2 (by simp) o q⟩
  item := by
    intro X hP hw hK hc i pins s σ H E I hf st hg
    subst hP hw hK
    obtain ⟨xs, ys, x, y, hqx, hqy, hx, hy⟩ := hg
    obtain ⟨its, rv, p, _⟩ := I.list hqx
    obtain ⟨its2, rv2, p2, _⟩ := I.list hqy
    obtain ⟨u, hu, ru⟩ := rv.get hx
    obtain ⟨u2, hu2, ru2⟩ := rv2.get hy
    have fresh := I.hok.fresh (Nat.le_refl s.heap.objs.size)
    have lts : ∀ c ∈ [z, TI, TO, i1, i2], c < s.heap.objs.size := fun c hc => by
      obtain ⟨hz, hI, ⟨_, _, hO⟩, ⟨_, e1, _⟩, ⟨_, e2, _⟩⟩ := id st
      simp only [List.mem_cons, List.not_mem_nil, or_false] at hc
      rcases hc with q | q | q | q | q
      · rw [q]
        rcases hz with hz | ⟨T, f, hz⟩
        · exact Heap.lt_size hz
        · exact Heap.lt_size hz
      · rw [q]
        exact Heap.lt_size hI
      · rw [q]
        exact Heap.lt_size hO
      · rw [q]
        exact Heap.lt_size e1
      · rw [q]
        exact Heap.lt_size e2
    refine next_item D st p.isList p2.isList (x := u) (y := u2) (by simpa using hu) (by simpa using hu2) fun h' st' hT keep => ⟨_, rfl, plain _ _ _ _ _ _ _ ?_⟩
    have new : ObjOk X.prog X.w (upd H s.heap.objs.size (.tup [x, y])) h' s.heap.objs.size (.tup [x, y]) := ⟨by show 2 ≤ sizeLine; decide, [u, u2], .cons ru (.cons ru2 .nil), ⟨_, hT, rfl, _, rfl⟩⟩
    have J : Inv X pins σ (upd H s.heap.objs.size (.tup [x, y])) { s with heap := h' } := I.turnedNew (t' := s.toks) (ch := [z, TI, TO, i1, i2]) (fun c o hb q => keep c o (fun t => hb (by simp [t])) (fun t => hb (by simp [t])) (fun t => hb (by simp [t])) (fun t => hb (by simp [t])) q) hf (Nat.le_refl _) new
    refine ⟨.ref s.heap.objs.size, _, J, rfl, ⟨_, x, y, rfl, fresh, rfl, fun l hl => by rw [I.list_inj hl hqx]; exact hx, fun l hl => by rw [I.list_inj hl hqy]; exact hy⟩, st', fun c hcm => ?_⟩
    rw [upd_ne (Nat.ne_of_lt (lts c hcm))]
    exact (hf c hcm).1
  done := by
    intro X hP hw hK hc i pins s σ H E I hf st hg
    subst hP hw hK
    obtain ⟨xs, ys, hqx, hqy, hend⟩ := hg
    obtain ⟨its, rv, p, _⟩ := I.list hqx
    obtain ⟨its2, rv2, p2, _⟩ := I.list hqy
    have e1 := rv.length
    have e2 := rv2.length
    refine next_end (I.ok.hd hc) D st p.isList p2.isList (hend.imp (fun q => by simp; omega) fun q => by simp; omega) fun h' keep => ⟨rfl, I.turnedL (t' := s.toks) (ch := [z, TI, TO, i1, i2]) (fun c o hb q => keep c o (fun t => hb (by simp [t])) (fun t => hb (by simp [t])) (fun t => hb (by simp [t])) (fun t => hb (by simp [t])) q) hf⟩
  self := fun A i s Q E st h => by
    obtain ⟨hz, _⟩ := st
    have ty : s.TypeIs (.ref z) "zip" := by
      rcases hz with hz | ⟨T, f, hz⟩
      · exact ⟨_, hz, rfl⟩
      · exact ⟨_, hz, rfl⟩
    refine wpAny_pyIter_slot ty F.slot_zip_iter (wpAny_call_entry F.slot_zip_iter ty F.entry_zip_iter (?_ : wpAny _ _ (ret (.ref z)) _ _ s) (F.args_zip_iter_1 _))
    exact wpAny_pure ⟨_, rfl, "zip", _, ty, F.slot_zip_next.lookup, h⟩
end Zn
set_option Elab.async false
set_option linter.all false
set_option maxRecDepth 100000
set_option maxHeartbeats 2000000
namespace Zf
open PySem PySem.Spec PyProof.Rows L2
/-- xs + ys, the list ours -/
def gAddO : Op2 := fun S x y => (vL S x).bind fun xs => (vL S y).bind fun ys => if xs.all isArg = true ∧ ys.all isArg = true ∧ xs.length + ys.length ≤ cap then some (.own (xs ++ ys)) else none
theorem sim_addO {G : Gd} : Sim2 G rCat gAddO := by
  refine ⟨fun {F θ H0 H S env σ fp x y vx vy fx fy z Q} st rx ry e l k => ?_⟩
  unfold gAddO at e
  obtain ⟨xs, e1, e⟩ := Option.bind_eq_some_iff.mp e
  obtain ⟨ys, e2, e⟩ := Option.bind_eq_some_iff.mp e
  split at e
  · rename_i h
    cases e
    obtain ⟨a, vs, f1, h1, h2, h3, _⟩ := vL_ok st rx e1
    obtain ⟨b, us, f2, h4, h5, h6, _⟩ := vL_ok st ry e2
    rw [h3.argNil h.1] at h3
    rw [h6.argNil h.2.1] at h6
    refine ⟨a, b, vs, us, h1, h4, h2, h5, by rw [h3.len, h6.len]; exact cap_ok h.2.2, fun p hp => ?_⟩
    obtain ⟨t, s, _⟩ := st.new0 hp (.lst (vs ++ us))
    exact k _ _ _ _ [p] t s (Res.newO st hp (fresh_back l hp) (h3.app h6))
  · cases e
theorem z_addO {X : Cx} {G : Gd} {a b : Expr} {ma mb : ME} {pos : Pos} (ha : PE X a (tOf G ma)) (hb : PE X b (tOf G mb)) : PE X (.BinOp a .Add b pos) (tOf G (mBin gAddO ma mb)) := z_bin op_cat sim_addO ha hb
/-- zip walked by one name -/
theorem pi_zipN {X : Cx} {x : Str} {xp : Pos} {e e2 : Expr} {ta : TA} {p pos : Pos} (hg : Gl X "zip") (hm : X.mg "zip" = none) (ha : PA X [e, e2] ta)
    (hs : starEach [e, e2] X.env = (false, eval e X.env) :: starEach [e2] X.env := by rfl) (hpl : (backTo pos (starEach [e2] X.env)).any (·.1) = false := by rfl) : PI X (.Name x xp) (.Call (.Name "zip" p) [e, e2] [] pos) (iZip X.K ta) := by
  refine ⟨fun pins s σ H R I h => ?_⟩
  refine Call_ (ld_blt I hg hm PyProof.Rows.boot_zip (PyProof.Rows.callWith_type1 (thn (ha.run pos pins s σ H _ I h) fun us s1 ⟨vs, H1, I1, r1, q1⟩ => ?_) hs hpl))
  obtain ⟨a, b, xs, ys, rfl, hqx, hqy, q⟩ := q1
  obtain ⟨u1, u2, rfl, r, r'⟩ := r1.two
  cases r
  cases r'
  obtain ⟨its, rv, p1, _⟩ := I1.list hqx
  obtain ⟨its2, rv2, p2, _⟩ := I1.list hqy
  refine call_zip_2 p1.isList p2.isList fun h' hz hTI hTO h1 h2 hsz old => wpAny_pyIter_zip hz ?_
  have I2 : Inv X pins σ H1 { s1 with heap := h' } := I1.kept (t' := s1.toks) old
  refine ⟨s1.heap.objs.size + 4, [s1.heap.objs.size + 4, s1.heap.objs.size + 2, s1.heap.objs.size + 3, s1.heap.objs.size, s1.heap.objs.size + 1], _, _, H1, rfl, I2, Zn.turn_one (fun M A E s it v Q r => wpAny_pure r) (PySem.W.ktu_apart s1.heap.objs.size a b p1.lt p2.lt), ⟨.inl hz, hTI, ⟨_, _, hTO⟩, h1, h2⟩, fun c hcm => ?_, q⟩
  have le : s1.heap.objs.size ≤ c := by
    simp only [List.mem_cons, List.not_mem_nil, or_false] at hcm
    rcases hcm with z | z | z | z | z
    · exact z ▸ Nat.le_add_right _ _
    · exact z ▸ Nat.le_add_right _ _
    · exact z ▸ Nat.le_add_right _ _
    · exact z ▸ Nat.le_refl _
    · exact z ▸ Nat.le_add_right _ _
  exact I1.fpOk le (I1.hok.fresh le)
theorem zi_zipN {X : Cx} {G : Gd} {x : Str} {xp : Pos} {e e2 : Expr} {m : MA} {p pos : Pos} (hg : Gl X "zip") (hm : X.mg "zip" = none) (h : PA X [e, e2] (tOfA G m)) (hs : starEach [e, e2] X.env = (false, eval e X.env) :: starEach [e2] X.env := by rfl) (hpl : (backTo pos (starEach [e2] X.env)).any (·.1) = false := by rfl) (hK : X.K = G.K := by rfl) :
    PI X (.Name x xp) (.Call (.Name "zip" p) [e, e2] [] pos) (tOfI G (mIZip m)) := by
  refine pi_imp (pi_zipN hg hm h hs hpl) fun σ H Rr q => ?_
  rw [hK]
  obtain ⟨F, θ, S, env, fp, ds, S', s, e, k⟩ := q
  unfold mIZip at e
  obtain ⟨⟨ws, S1⟩, e1, e⟩ := Option.bind_eq_some_iff.mp e
  dsimp only at e
  split at e
  · cases e
    refine ⟨F, θ, S, env, fp, _, _, s, e1, fun F1 θ1 H1 vs t1 s1 r => ?_⟩
    obtain ⟨v, r1, f, h1, h2, u, r2, f2, h3, h4, h5⟩ := r
    have h5' : r2 = [] := h5
    obtain ⟨a, us, q1, q2, q3⟩ := h2.rw.dAt
    obtain ⟨b, us2, q4, q5, q6⟩ := h4.rw.dAt
    exact ⟨a, b, us, us2, by rw [h1, h3, h5', q1, q4], SqL.of (s1.sub _ _ q2), SqL.of (s1.sub _ _ q5), k F1 θ1 H1 _ t1 s1 (runs_zip q2 q3 q5 q6)⟩
  · cases e
end Zf
set_option Elab.async false
set_option linter.all false
set_option maxRecDepth 100000
set_option maxHeartbeats 4000000
/-! what a value function reckons, as a wish about its result -/
namespace Zf
open PySem PySem.Spec PyProof.Rows L2
def OkE (m : Option (W × Store)) (P : W → Store → Prop) : Prop := ∃ r, m = some r ∧ P r.1 r.2
def OkT (m : Option (Bool × Store)) (P : Bool → Store → Prop) : Prop := ∃ r, m = some r ∧ P r.1 r.2
def OkA (m : Option (List W × Store)) (P : List W → Store → Prop) : Prop := ∃ r, m = some r ∧ P r.1 r.2
def OkI (m : Option (List D × Store)) (P : List D → Store → Prop) : Prop := ∃ r, m = some r ∧ P r.1 r.2
def OkS (m : Option (Fl × En × Store)) (P : Fl → En → Store → Prop) : Prop := ∃ r, m = some r ∧ P r.1 r.2.1 r.2.2
theorem OkE.mono {m : Option (W × Store)} {P Q : W → Store → Prop} (h : OkE m P) (i : ∀ w S, P w S → Q w S) : OkE m Q := let ⟨r, a, b⟩ := h; ⟨r, a, i _ _ b⟩
theorem OkS.mono {m : Option (Fl × En × Store)} {P Q : Fl → En → Store → Prop} (h : OkS m P) (i : ∀ f e S, P f e S → Q f e S) : OkS m Q := let ⟨r, a, b⟩ := h; ⟨r, a, i _ _ _ b⟩
section
variable {env : En} {S : Store} {P : W → Store → Prop} {PT : Bool → Store → Prop} {PA : List W → Store → Prop} {PI : List D → Store → Prop} {PS : Fl → En → Store → Prop} {ma mb mc : ME} {t u : MT} {ms : MA} {a b : MS} {g : Op2} {i : Nat} {d : D}
theorem wp_d : OkE (mD d env S) P ↔ P (.d d) S := ⟨fun ⟨r, e, h⟩ => by cases e; exact h, fun h => ⟨_, rfl, h⟩⟩
theorem wp_var : OkE (mVar i env S) P ↔ ∃ w, env[i]? = some (some w) ∧ P (toBor w) S := by
  unfold mVar OkE
  constructor
  · rintro ⟨r, e, h⟩
    split at e
    · rename_i w hw
      cases e
      exact ⟨w, hw, h⟩
    · cases e
  · rintro ⟨w, hw, h⟩
    exact ⟨_, by rw [hw], h⟩
theorem wp_bin : OkE (mBin g ma mb env S) P ↔ OkE (ma env S) fun x S1 => OkE (mb env S1) fun y S2 => ∃ z, g S2 x y = some z ∧ P z S2 := by
  unfold mBin OkE
  constructor
  · rintro ⟨r, e, h⟩
    obtain ⟨p, e1, e⟩ := Option.bind_eq_some_iff.mp e
    obtain ⟨q, e2, e⟩ := Option.bind_eq_some_iff.mp e
    obtain ⟨z, e3, e4⟩ := Option.map_eq_some_iff.mp e
    cases e4
    exact ⟨p, e1, q, e2, z, e3, h⟩
  · rintro ⟨p, e1, q, e2, z, e3, h⟩
    exact ⟨(z, q.2), by rw [e1]; simp only [Option.bind_some]; rw [e2]; simp only [Option.bind_some]; rw [e3]; rfl, h⟩
theorem wp_tst : OkT (mTst ma env S) PT ↔ OkE (ma env S) fun w S' => ∃ k, w = .d (.bl k) ∧ PT k S' := by
  unfold mTst OkE OkT
  constructor
  · rintro ⟨r, e, h⟩
    obtain ⟨p, e1, e⟩ := Option.bind_eq_some_iff.mp e
    split at e
    · rename_i k hk
      cases e
      exact ⟨p, e1, k, hk, h⟩
    · cases e
  · rintro ⟨p, e1, k, hk, h⟩
    exact ⟨(k, p.2), by rw [e1]; simp only [Option.bind_some]; rw [hk], h⟩
theorem wp_andT : OkT (mAndT t u env S) PT ↔ OkT (t env S) fun k S' => if k = true then OkT (u env S') PT else PT false S' := by
  unfold mAndT OkT
  constructor
  · rintro ⟨r, e, h⟩
    obtain ⟨p, e1, e⟩ := Option.bind_eq_some_iff.mp e
    refine ⟨p, e1, ?_⟩
    split at e
    · rename_i hk
      rw [if_pos hk]
      exact ⟨r, e, h⟩
    · rename_i hk
      rw [if_neg hk]
      cases e
      exact h
  · rintro ⟨p, e1, h⟩
    split at h
    · rename_i hk
      obtain ⟨r, e, h⟩ := h
      exact ⟨r, by rw [e1]; simp only [Option.bind_some]; rw [if_pos hk]; exact e, h⟩
    · rename_i hk
      exact ⟨(false, p.2), by rw [e1]; simp only [Option.bind_some]; rw [if_neg hk], h⟩
theorem wp_orT : OkT (mOrT t u env S) PT ↔ OkT (t env S) fun k S' => if k = true then PT true S' else OkT (u env S') PT := by
  unfold mOrT OkT
  constructor
  · rintro ⟨r, e, h⟩
    obtain ⟨p, e1, e⟩ := Option.bind_eq_some_iff.mp e
    refine ⟨p, e1, ?_⟩
    split at e
    · rename_i hk
      rw [if_pos hk]
      cases e
      exact h
    · rename_i hk
      rw [if_neg hk]
      exact ⟨r, e, h⟩
  · rintro ⟨p, e1, h⟩
    split at h
    · rename_i hk
      exact ⟨(true, p.2), by rw [e1]; simp only [Option.bind_some]; rw [if_pos hk], h⟩
    · rename_i hk
      obtain ⟨r, e, h⟩ := h
      exact ⟨r, by rw [e1]; simp only [Option.bind_some]; rw [if_neg hk]; exact e, h⟩
theorem wp_notT : OkT (mNotT t env S) PT ↔ OkT (t env S) fun k S' => PT (!k) S' := by
  unfold mNotT OkT
  constructor
  · rintro ⟨r, e, h⟩
    obtain ⟨p, e1, e2⟩ := Option.map_eq_some_iff.mp e
    cases e2
    exact ⟨p, e1, h⟩
  · rintro ⟨p, e1, h⟩
    exact ⟨(!p.1, p.2), by rw [e1]; rfl, h⟩
theorem wp_if : OkE (mIf t ma mb env S) P ↔ OkT (t env S) fun k S' => if k = true then OkE (ma env S') P else OkE (mb env S') P := by
  unfold mIf OkE OkT
  constructor
  · rintro ⟨r, e, h⟩
    obtain ⟨p, e1, e⟩ := Option.bind_eq_some_iff.mp e
    refine ⟨p, e1, ?_⟩
    split at e
    · rename_i hk
      rw [if_pos hk]
      exact ⟨r, e, h⟩
    · rename_i hk
      rw [if_neg hk]
      exact ⟨r, e, h⟩
  · rintro ⟨p, e1, h⟩
    split at h
    · rename_i hk
      obtain ⟨r, e, h⟩ := h
      exact ⟨r, by rw [e1]; simp only [Option.bind_some]; rw [if_pos hk]; exact e, h⟩
    · rename_i hk
      obtain ⟨r, e, h⟩ := h
      exact ⟨r, by rw [e1]; simp only [Option.bind_some]; rw [if_neg hk]; exact e, h⟩
theorem wp_nil : OkA (mNil env S) PA ↔ PA [] S := ⟨fun ⟨r, e, h⟩ => by cases e; exact h, fun h => ⟨_, rfl, h⟩⟩
theorem wp_cons : OkA (mCons ma ms env S) PA ↔ OkE (ma env S) fun w S1 => OkA (ms env S1) fun ws S2 => PA (w :: ws) S2 := by
  unfold mCons OkE OkA
  constructor
  · rintro ⟨r, e, h⟩
    obtain ⟨p, e1, e⟩ := Option.bind_eq_some_iff.mp e
    obtain ⟨q, e2, e3⟩ := Option.map_eq_some_iff.mp e
    cases e3
    exact ⟨p, e1, q, e2, h⟩
  · rintro ⟨p, e1, q, e2, h⟩
    exact ⟨(p.1 :: q.1, q.2), by rw [e1]; simp only [Option.bind_some]; rw [e2]; rfl, h⟩
theorem wp_call {m : MF} : OkE (mCall m ms env S) P ↔ OkA (ms env S) fun ws S1 => ws.all isArg = true ∧ OkE (m ws S1) P := by
  unfold mCall OkE OkA
  constructor
  · rintro ⟨r, e, h⟩
    obtain ⟨p, e1, e⟩ := Option.bind_eq_some_iff.mp e
    split at e
    · rename_i hk
      exact ⟨p, e1, hk, r, e, h⟩
    · cases e
  · rintro ⟨p, e1, hk, r, e, h⟩
    exact ⟨r, by rw [e1]; simp only [Option.bind_some]; rw [if_pos hk]; exact e, h⟩
theorem wp_cb {f : OpN} : OkE (mCB f ms env S) P ↔ OkA (ms env S) fun ws S1 => ∃ z, f S1 ws = some z ∧ P z S1 := by
  unfold mCB OkE OkA
  constructor
  · rintro ⟨r, e, h⟩
    obtain ⟨p, e1, e⟩ := Option.bind_eq_some_iff.mp e
    obtain ⟨z, e2, e3⟩ := Option.map_eq_some_iff.mp e
    cases e3
    exact ⟨p, e1, z, e2, h⟩
  · rintro ⟨p, e1, z, e2, h⟩
    exact ⟨(z, p.2), by rw [e1]; simp only [Option.bind_some]; rw [e2]; rfl, h⟩
theorem wp_seq : OkS (mSeq a b env S) PS ↔ OkS (a env S) fun f e S' => match f with
    | .nx => OkS (b e S') PS
    | f => PS f e S' := by
  unfold mSeq OkS
  constructor
  · rintro ⟨r, e, h⟩
    obtain ⟨⟨f, en, S1⟩, e1, e⟩ := Option.bind_eq_some_iff.mp e
    refine ⟨_, e1, ?_⟩
    cases f with
    | nx => exact ⟨r, e, h⟩
    | _ =>
      cases e
      exact h
  · rintro ⟨⟨f, en, S1⟩, e1, h⟩
    rw [e1]
    cases f with
    | nx => exact h
    | _ => exact ⟨_, rfl, h⟩
theorem wp_next : OkS (mNext env S) PS ↔ PS .nx env S := ⟨fun ⟨r, e, h⟩ => by cases e; exact h, fun h => ⟨_, rfl, h⟩⟩
theorem wp_ifS : OkS (mIfS t a b env S) PS ↔ OkT (t env S) fun k S' => if k = true then OkS (a env S') PS else OkS (b env S') PS := by
  unfold mIfS OkS OkT
  constructor
  · rintro ⟨r, e, h⟩
    obtain ⟨p, e1, e⟩ := Option.bind_eq_some_iff.mp e
    refine ⟨p, e1, ?_⟩
    split at e
    · rename_i hk
      rw [if_pos hk]
      exact ⟨r, e, h⟩
    · rename_i hk
      rw [if_neg hk]
      exact ⟨r, e, h⟩
  · rintro ⟨p, e1, h⟩
    split at h
    · rename_i hk
      obtain ⟨r, e, h⟩ := h
      exact ⟨r, by rw [e1]; simp only [Option.bind_some]; rw [if_pos hk]; exact e, h⟩
    · rename_i hk
      obtain ⟨r, e, h⟩ := h
      exact ⟨r, by rw [e1]; simp only [Option.bind_some]; rw [if_neg hk]; exact e, h⟩
theorem wp_set : OkS (mSet i ma env S) PS ↔ OkE (ma env S) fun w S' => (i < env.length ∧ canSet w = true) ∧ PS .nx (env.set i (some w)) S' := by
  unfold mSet OkS OkE
  constructor
  · rintro ⟨r, e, h⟩
    obtain ⟨p, e1, e⟩ := Option.bind_eq_some_iff.mp e
    split at e
    · rename_i hk
      cases e
      exact ⟨p, e1, hk, h⟩
    · cases e
  · rintro ⟨p, e1, hk, h⟩
    exact ⟨_, by rw [e1]; simp only [Option.bind_some]; rw [if_pos hk], h⟩
theorem wp_ret : OkS (mRet ma env S) PS ↔ OkE (ma env S) fun w S' => PS (.ret w) env S' := by
  unfold mRet OkS OkE
  constructor
  · rintro ⟨r, e, h⟩
    obtain ⟨p, e1, e2⟩ := Option.map_eq_some_iff.mp e
    cases e2
    exact ⟨p, e1, h⟩
  · rintro ⟨p, e1, h⟩
    exact ⟨_, by rw [e1]; rfl, h⟩
theorem wp_setIx : OkS (mSetIx ma mb mc env S) PS ↔ OkE (mc env S) fun w S1 => OkE (ma env S1) fun o S2 => OkE (mb env S2) fun j S3 => ∃ S', setIx S3 o j w = some S' ∧ PS .nx env S' := by
  unfold mSetIx OkS OkE
  constructor
  · rintro ⟨r, e, h⟩
    obtain ⟨p, e1, e⟩ := Option.bind_eq_some_iff.mp e
    obtain ⟨q, e2, e⟩ := Option.bind_eq_some_iff.mp e
    obtain ⟨s, e3, e⟩ := Option.bind_eq_some_iff.mp e
    obtain ⟨S', e4, e5⟩ := Option.map_eq_some_iff.mp e
    cases e5
    exact ⟨p, e1, q, e2, s, e3, S', e4, h⟩
  · rintro ⟨p, e1, q, e2, s, e3, S', e4, h⟩
    exact ⟨_, by rw [e1]; simp only [Option.bind_some]; rw [e2]; simp only [Option.bind_some]; rw [e3]; simp only [Option.bind_some]; rw [e4]; rfl, h⟩
theorem wp_fn {k n : Nat} {as : List W} : OkE (mFn k n a as S) P ↔ (as.length = k ∧ as.all isArg = true) ∧ OkS (a (as.map some ++ List.replicate (n - k) none) S) fun f _ S' => match f with
    | .nx => P (.d .non) S'
    | .ret w => P (unBor w) S'
    | _ => False := by
  unfold mFn OkE OkS
  constructor
  · rintro ⟨r, e, h⟩
    split at e
    · rename_i hk
      obtain ⟨⟨f, en, S1⟩, e1, e⟩ := Option.bind_eq_some_iff.mp e
      refine ⟨hk, _, e1, ?_⟩
      cases f with
      | nx =>
        cases e
        exact h
      | ret w =>
        cases e
        exact h
      | brk => cases e
      | cont => cases e
    · cases e
  · rintro ⟨hk, ⟨f, en, S1⟩, e1, h⟩
    rw [if_pos hk, e1]
    cases f with
    | nx => exact ⟨_, rfl, h⟩
    | ret w => exact ⟨_, rfl, h⟩
    | brk => exact h.elim
    | cont => exact h.elim
end
end Zf
set_option Elab.async false
set_option linter.all false
set_option maxRecDepth 100000
set_option maxHeartbeats 4000000
namespace Zf
open PySem PySem.Spec PyProof.Rows L2
def OkO (m : Option (Option Int × Store)) (P : Option Int → Store → Prop) : Prop := ∃ r, m = some r ∧ P r.1 r.2
section
variable {env : En} {S : Store} {P : W → Store → Prop} {PT : Bool → Store → Prop} {PA : List W → Store → Prop} {PI : List D → Store → Prop} {PO : Option Int → Store → Prop} {PS : Fl → En → Store → Prop} {ma mb mc : ME} {t u : MT} {ms : MA} {a b : MS} {g : Op2} {i : Nat} {d : D} {l h : MO} {mi : MI}
theorem wp_frzE : OkE (mFrzE ma env S) P ↔ OkE (ma env S) fun w S' => ∃ xs ds, w = .own xs ∧ asDs xs = some ds ∧ P (.d (.lst ds)) S' := by
  unfold mFrzE OkE
  constructor
  · rintro ⟨r, e, h⟩
    obtain ⟨p, e1, e⟩ := Option.bind_eq_some_iff.mp e
    split at e
    · rename_i xs hk
      obtain ⟨ds, e2, e3⟩ := Option.map_eq_some_iff.mp e
      cases e3
      exact ⟨p, e1, xs, ds, hk, e2, h⟩
    · cases e
  · rintro ⟨p, e1, xs, ds, hk, e2, h⟩
    exact ⟨_, by rw [e1]; simp only [Option.bind_some]; rw [hk]; simp only []; rw [e2]; rfl, h⟩
theorem wp_pubE : OkE (mPubE ma env S) P ↔ OkE (ma env S) fun w S' => ∃ xs, w = .own xs ∧ xs.all isArg = true ∧ P (.r S'.length) (S' ++ [xs]) := by
  unfold mPubE OkE
  constructor
  · rintro ⟨r, e, h⟩
    obtain ⟨p, e1, e⟩ := Option.bind_eq_some_iff.mp e
    split at e
    · rename_i xs hk
      split at e
      · rename_i hA
        cases e
        exact ⟨p, e1, xs, hk, hA, h⟩
      · cases e
    · cases e
  · rintro ⟨p, e1, xs, hk, hA, h⟩
    exact ⟨_, by rw [e1]; simp only [Option.bind_some]; rw [hk]; simp only []; rw [if_pos hA], h⟩
theorem wp_lst : OkE (mLst ms env S) P ↔ OkA (ms env S) fun ws S' => ∃ xs, asDs ws = some xs ∧ xs.length ≤ cap ∧ P (.d (.lst xs)) S' := by
  unfold mLst OkE OkA
  constructor
  · rintro ⟨r, e, h⟩
    obtain ⟨p, e1, e⟩ := Option.bind_eq_some_iff.mp e
    obtain ⟨xs, e2, e⟩ := Option.bind_eq_some_iff.mp e
    split at e
    · rename_i hk
      cases e
      exact ⟨p, e1, xs, e2, hk, h⟩
    · cases e
  · rintro ⟨p, e1, xs, e2, hk, h⟩
    exact ⟨_, by rw [e1]; simp only [Option.bind_some]; rw [e2]; simp only [Option.bind_some]; rw [if_pos hk], h⟩
theorem wp_tup : OkE (mTup ms env S) P ↔ OkA (ms env S) fun ws S' => ∃ xs, asDs ws = some xs ∧ xs.length ≤ cap ∧ P (.d (.tup xs)) S' := by
  unfold mTup OkE OkA
  constructor
  · rintro ⟨r, e, h⟩
    obtain ⟨p, e1, e⟩ := Option.bind_eq_some_iff.mp e
    obtain ⟨xs, e2, e⟩ := Option.bind_eq_some_iff.mp e
    split at e
    · rename_i hk
      cases e
      exact ⟨p, e1, xs, e2, hk, h⟩
    · cases e
  · rintro ⟨p, e1, xs, e2, hk, h⟩
    exact ⟨_, by rw [e1]; simp only [Option.bind_some]; rw [e2]; simp only [Option.bind_some]; rw [if_pos hk], h⟩
theorem wp_lstO : OkE (mLstO ms env S) P ↔ OkA (ms env S) fun ws S' => (ws.all isArg = true ∧ ws.length ≤ cap) ∧ P (.own ws) S' := by
  unfold mLstO OkE OkA
  constructor
  · rintro ⟨r, e, h⟩
    obtain ⟨p, e1, e⟩ := Option.bind_eq_some_iff.mp e
    split at e
    · rename_i hk
      cases e
      exact ⟨p, e1, hk, h⟩
    · cases e
  · rintro ⟨p, e1, hk, h⟩
    exact ⟨_, by rw [e1]; simp only [Option.bind_some]; rw [if_pos hk], h⟩
theorem wp_andV : OkE (mAndV ma mb env S) P ↔ OkE (ma env S) fun w S1 => ∃ k, w = .d (.bl k) ∧ if k = true then OkE (mb env S1) (fun v S2 => ∃ c, v = .d (.bl c) ∧ P v S2) else P (.d (.bl false)) S1 := by
  unfold mAndV OkE
  constructor
  · rintro ⟨r, e, h⟩
    obtain ⟨p, e1, e⟩ := Option.bind_eq_some_iff.mp e
    refine ⟨p, e1, ?_⟩
    split at e
    · rename_i hk
      obtain ⟨q, e2, e⟩ := Option.bind_eq_some_iff.mp e
      split at e
      · rename_i c hc
        cases e
        refine ⟨true, hk, ?_⟩
        rw [if_pos rfl]
        exact ⟨q, e2, c, hc, by rw [hc]; exact h⟩
      · cases e
    · rename_i hk
      cases e
      refine ⟨false, hk, ?_⟩
      rw [if_neg Bool.false_ne_true]
      exact h
    · cases e
  · rintro ⟨p, e1, k, hk, h⟩
    cases k with
    | true =>
      rw [if_pos rfl] at h
      obtain ⟨q, e2, c, hc, h⟩ := h
      exact ⟨(.d (.bl c), q.2), by rw [e1]; simp only [Option.bind_some]; rw [hk]; simp only []; rw [e2]; simp only [Option.bind_some]; rw [hc], by rw [← hc]; exact h⟩
    | false =>
      rw [if_neg Bool.false_ne_true] at h
      exact ⟨_, by rw [e1]; simp only [Option.bind_some]; rw [hk], h⟩
theorem wp_noPart : OkO (mNoPart env S) PO ↔ PO none S := ⟨fun ⟨r, e, h⟩ => by cases e; exact h, fun h => ⟨_, rfl, h⟩⟩
theorem wp_part : OkO (mPart ma env S) PO ↔ OkE (ma env S) fun w S' => ∃ j, w = .d (.int j) ∧ PO (some j) S' := by
  unfold mPart OkO OkE
  constructor
  · rintro ⟨r, e, h⟩
    obtain ⟨p, e1, e⟩ := Option.bind_eq_some_iff.mp e
    split at e
    · rename_i j hj
      cases e
      exact ⟨p, e1, j, hj, h⟩
    · cases e
  · rintro ⟨p, e1, j, hj, h⟩
    exact ⟨_, by rw [e1]; simp only [Option.bind_some]; rw [hj], h⟩
theorem wp_sl : OkE (mSl ma l h env S) P ↔ OkE (ma env S) fun w S1 => OkO (l env S1) fun lo S2 => OkO (h env S2) fun hi S3 => ∃ z, gSl S3 w lo hi = some z ∧ P z S3 := by
  unfold mSl OkO OkE
  constructor
  · rintro ⟨r, e, hh⟩
    obtain ⟨p, e1, e⟩ := Option.bind_eq_some_iff.mp e
    obtain ⟨q, e2, e⟩ := Option.bind_eq_some_iff.mp e
    obtain ⟨s, e3, e⟩ := Option.bind_eq_some_iff.mp e
    obtain ⟨z, e4, e5⟩ := Option.map_eq_some_iff.mp e
    cases e5
    exact ⟨p, e1, q, e2, s, e3, z, e4, hh⟩
  · rintro ⟨p, e1, q, e2, s, e3, z, e4, hh⟩
    exact ⟨_, by rw [e1]; simp only [Option.bind_some]; rw [e2]; simp only [Option.bind_some]; rw [e3]; simp only [Option.bind_some]; rw [e4]; rfl, hh⟩
theorem wp_par {j : Nat} : OkS (mPar i j ms env S) PS ↔ OkA (ms env S) fun ws S' => ∃ x y, ws = [x, y] ∧ (isArg x = true ∧ isArg y = true ∧ i < env.length ∧ j < env.length) ∧ PS .nx ((env.set i (some x)).set j (some y)) S' := by
  unfold mPar OkS OkA
  constructor
  · rintro ⟨r, e, hh⟩
    obtain ⟨p, e1, e⟩ := Option.bind_eq_some_iff.mp e
    split at e
    · rename_i x y hw
      split at e
      · rename_i hk
        cases e
        exact ⟨p, e1, x, y, hw, hk, hh⟩
      · cases e
    · cases e
  · rintro ⟨p, e1, x, y, hw, hk, hh⟩
    exact ⟨_, by rw [e1]; simp only [Option.bind_some]; rw [hw]; simp only []; rw [if_pos hk], hh⟩
theorem wp_unp {is : List Nat} : OkS (mUnp is ms env S) PS ↔ OkA (ms env S) fun ws S' => ws.length ≤ cap ∧ ∃ env', bindAllW is ws env = some env' ∧ PS .nx env' S' := by
  unfold mUnp OkS OkA
  constructor
  · rintro ⟨r, e, hh⟩
    obtain ⟨p, e1, e⟩ := Option.bind_eq_some_iff.mp e
    split at e
    · rename_i hk
      obtain ⟨z, e4, e5⟩ := Option.map_eq_some_iff.mp e
      cases e5
      exact ⟨p, e1, hk, z, e4, hh⟩
    · cases e
  · rintro ⟨p, e1, hk, z, e4, hh⟩
    exact ⟨_, by rw [e1]; simp only [Option.bind_some]; rw [if_pos hk, e4]; rfl, hh⟩
theorem wp_seqI : OkI (mISeq ma env S) PI ↔ OkE (ma env S) fun w S' => ∃ xs, (w = .d (.lst xs) ∨ w = .d (.tup xs)) ∧ PI xs S' := by
  unfold mISeq OkI OkE
  constructor
  · rintro ⟨r, e, hh⟩
    obtain ⟨p, e1, e⟩ := Option.bind_eq_some_iff.mp e
    split at e
    · rename_i xs hw
      cases e
      exact ⟨p, e1, xs, .inl hw, hh⟩
    · rename_i xs hw
      cases e
      exact ⟨p, e1, xs, .inr hw, hh⟩
    · cases e
  · rintro ⟨p, e1, xs, hw, hh⟩
    refine ⟨(xs, p.2), ?_, hh⟩
    rw [e1]
    simp only [Option.bind_some]
    rcases hw with hw | hw <;> rw [hw]
theorem wp_rng1 : OkI (mIRng1 ms env S) PI ↔ OkA (ms env S) fun ws S' => ∃ n, ws = [.d (.int n)] ∧ (-1000000 < n ∧ n < 1000000) ∧ PI (dRange 0 n.toNat) S' := by
  unfold mIRng1 OkI OkA
  constructor
  · rintro ⟨r, e, hh⟩
    obtain ⟨p, e1, e⟩ := Option.bind_eq_some_iff.mp e
    split at e
    · rename_i n hw
      split at e
      · rename_i hk
        cases e
        exact ⟨p, e1, n, hw, hk, hh⟩
      · cases e
    · cases e
  · rintro ⟨p, e1, n, hw, hk, hh⟩
    exact ⟨_, by rw [e1]; simp only [Option.bind_some]; rw [hw]; simp only []; rw [if_pos hk], hh⟩
theorem wp_for {t : Tg} : OkS (mFor mi t a env S) PS ↔ OkI (mi env S) fun ds S' => OkS (goFor t a ds env S') PS := by
  unfold mFor OkS OkI
  constructor
  · rintro ⟨r, e, hh⟩
    obtain ⟨p, e1, e⟩ := Option.bind_eq_some_iff.mp e
    exact ⟨p, e1, r, e, hh⟩
  · rintro ⟨p, e1, r, e, hh⟩
    exact ⟨r, by rw [e1]; exact e, hh⟩
theorem wp_forNil {t : Tg} : OkS (goFor t a [] env S) PS ↔ PS .nx env S := ⟨fun ⟨r, e, h⟩ => by cases e; exact h, fun h => ⟨_, rfl, h⟩⟩
theorem wp_forCons {t : Tg} {x : D} {xs : List D} : OkS (goFor t a (x :: xs) env S) PS ↔ ∃ env1, bindT t env x = some env1 ∧ OkS (a env1 S) fun f e S' => match f with
    | .nx => OkS (goFor t a xs e S') PS
    | .cont => OkS (goFor t a xs e S') PS
    | .brk => PS .nx e S'
    | .ret w => PS (.ret w) e S' := by
  unfold OkS
  constructor
  · rintro ⟨r, e, hh⟩
    unfold goFor at e
    obtain ⟨env1, e1, e⟩ := Option.bind_eq_some_iff.mp e
    obtain ⟨⟨f, en, S1⟩, e2, e⟩ := Option.bind_eq_some_iff.mp e
    refine ⟨env1, e1, _, e2, ?_⟩
    cases f with
    | nx => exact ⟨r, e, hh⟩
    | cont => exact ⟨r, e, hh⟩
    | brk =>
      cases e
      exact hh
    | ret w =>
      cases e
      exact hh
  · rintro ⟨env1, e1, ⟨f, en, S1⟩, e2, hh⟩
    unfold goFor
    rw [e1]
    simp only [Option.bind_some]
    rw [e2]
    cases f with
    | nx => exact hh
    | cont => exact hh
    | brk => exact ⟨_, rfl, hh⟩
    | ret w => exact ⟨_, rfl, hh⟩
theorem wp_lc {tg : Tg} {vs : List Nat} : OkE (mLc mi tg t ma vs env S) P ↔ OkI (mi env S) fun ds S' => OkI (goLc tg t ma (wipeE env vs) ds S' []) fun xs S2 => P (.d (.lst xs)) S2 := by
  unfold mLc OkE OkI
  constructor
  · rintro ⟨r, e, hh⟩
    obtain ⟨p, e1, e⟩ := Option.bind_eq_some_iff.mp e
    obtain ⟨q, e2, e3⟩ := Option.map_eq_some_iff.mp e
    cases e3
    exact ⟨p, e1, q, e2, hh⟩
  · rintro ⟨p, e1, q, e2, hh⟩
    exact ⟨_, by rw [e1]; simp only [Option.bind_some]; rw [e2]; rfl, hh⟩
theorem wp_lcNil {tg : Tg} {ew : En} {acc : List D} : OkI (goLc tg t ma ew [] S acc) PI ↔ PI acc S := ⟨fun ⟨r, e, h⟩ => by cases e; exact h, fun h => ⟨_, rfl, h⟩⟩
theorem wp_lcCons {tg : Tg} {ew : En} {x : D} {xs acc : List D} : OkI (goLc tg t ma ew (x :: xs) S acc) PI ↔ ∃ env1, bindT tg ew x = some env1 ∧ OkT (t env1 S) fun k S1 => if k = true then OkE (ma env1 S1) (fun w S2 => ∃ y, w = .d y ∧ acc.length < cap ∧ OkI (goLc tg t ma ew xs S2 (acc ++ [y])) PI) else OkI (goLc tg t ma ew xs S1 acc) PI := by
  unfold OkI OkT OkE
  constructor
  · rintro ⟨r, e, hh⟩
    unfold goLc at e
    obtain ⟨env1, e1, e⟩ := Option.bind_eq_some_iff.mp e
    obtain ⟨p, e2, e⟩ := Option.bind_eq_some_iff.mp e
    refine ⟨env1, e1, p, e2, ?_⟩
    split at e
    · rename_i hk
      rw [if_pos hk]
      obtain ⟨q, e3, e⟩ := Option.bind_eq_some_iff.mp e
      split at e
      · rename_i y hy
        split at e
        · rename_i hc
          exact ⟨q, e3, y, hy, hc, r, e, hh⟩
        · cases e
      · cases e
    · rename_i hk
      rw [if_neg hk]
      exact ⟨r, e, hh⟩
  · rintro ⟨env1, e1, p, e2, hh⟩
    unfold goLc
    rw [e1]
    simp only [Option.bind_some]
    rw [e2]
    simp only [Option.bind_some]
    split at hh
    · rename_i hk
      obtain ⟨q, e3, y, hy, hc, r, e, hh⟩ := hh
      rw [if_pos hk, e3]
      simp only [Option.bind_some]
      rw [hy]
      simp only []
      rw [if_pos hc]
      exact ⟨r, e, hh⟩
    · rename_i hk
      rw [if_neg hk]
      exact hh
theorem wp_yes : OkT (mYes env S) PT ↔ PT true S := ⟨fun ⟨r, e, h⟩ => by cases e; exact h, fun h => ⟨_, rfl, h⟩⟩
theorem wp_frz : OkS (mFrz i env S) PS ↔ (∃ xs ds, env[i]? = some (some (.own xs)) ∧ asDs xs = some ds ∧ PS .nx (env.set i (some (.d (.lst ds)))) S) ∨ ((∀ xs, env[i]? ≠ some (some (.own xs))) ∧ PS .nx env S) := by
  unfold mFrz OkS
  constructor
  · rintro ⟨r, e, hh⟩
    split at e
    · rename_i xs hw
      obtain ⟨ds, e4, e5⟩ := Option.map_eq_some_iff.mp e
      cases e5
      exact .inl ⟨xs, ds, hw, e4, hh⟩
    · rename_i hn
      cases e
      exact .inr ⟨hn, hh⟩
  · rintro (⟨xs, ds, hw, e4, hh⟩ | ⟨hn, hh⟩)
    · exact ⟨_, by rw [hw]; simp only []; rw [e4]; rfl, hh⟩
    · refine ⟨(.nx, env, S), ?_, hh⟩
      split
      · rename_i xs hw
        exact absurd hw (hn xs)
      · rfl
end
end Zf
set_option Elab.async false
set_option linter.all false
set_option maxRecDepth 100000
set_option maxHeartbeats 4000000
/-! operators on known values -/
namespace Zf
open PySem PySem.Spec PyProof.Rows L2
section
variable {S : Store} {i j : Int} {x y : Str} {d : D} {ds : List D} {n : Nat}
theorem toBor_d : toBor (.d d) = .d d := rfl
theorem toBor_r : toBor (.r n) = .r n := rfl
theorem toBor_own {xs : List W} : toBor (.own xs) = .bor xs := rfl
theorem unBor_d : unBor (.d d) = .d d := rfl
theorem unBor_r : unBor (.r n) = .r n := rfl
theorem unBor_bor {xs : List W} : unBor (.bor xs) = .own xs := rfl
theorem unBor_own {xs : List W} : unBor (.own xs) = .own xs := rfl
theorem isArg_d : isArg (.d d) = true := rfl
theorem isArg_r : isArg (.r n) = true := rfl
theorem canSet_d : canSet (.d d) = true := rfl
theorem canSet_r : canSet (.r n) = true := rfl
theorem canSet_own {xs : List W} : canSet (.own xs) = true := rfl
theorem v_int {c : Int → Int → Bool} {g : Int → Int → D} : gInt c g S (.d (.int i)) (.d (.int j)) = if c i j = true then some (.d (g i j)) else none := rfl
theorem v_addI : gAdd S (.d (.int i)) (.d (.int j)) = some (.d (.int (i + j))) := rfl
theorem v_mul (h : cMul i j = true) : gMul S (.d (.int i)) (.d (.int j)) = some (.d (.int (i * j))) := by simp [gMul, gInt, h]
theorem v_ltI : gLt S (.d (.int i)) (.d (.int j)) = some (.d (.bl (decide (i < j)))) := rfl
theorem v_leI : gLe S (.d (.int i)) (.d (.int j)) = some (.d (.bl (decide (i ≤ j)))) := rfl
theorem v_gtI : gGt S (.d (.int i)) (.d (.int j)) = some (.d (.bl (decide (j < i)))) := rfl
theorem v_geI : gGe S (.d (.int i)) (.d (.int j)) = some (.d (.bl (decide (j ≤ i)))) := rfl
theorem v_eqI : gEq S (.d (.int i)) (.d (.int j)) = some (.d (.bl (decide (i = j)))) := by simp [gEq, gEqS]
theorem v_neI : gNe S (.d (.int i)) (.d (.int j)) = some (.d (.bl (!decide (i = j)))) := by simp [gNe, gEqS]
theorem v_eqS : gEq S (.d (.str x)) (.d (.str y)) = some (.d (.bl (decide (x = y)))) := by simp [gEq, gEqS]
theorem v_neS : gNe S (.d (.str x)) (.d (.str y)) = some (.d (.bl (!decide (x = y)))) := by simp [gNe, gEqS]
theorem v_int1 : g1 gInt1 S [.d (.int i)] = some (.d (.int i)) := rfl
theorem v_int1b {b : Bool} : g1 gInt1 S [.d (.bl b)] = some (.d (.int (if b then 1 else 0))) := rfl
theorem v_abs : g1 gAbs S [.d (.int i)] = some (.d (.int (if i < 0 then -i else i))) := rfl
theorem asDs_map : ∀ ds : List D, asDs (ds.map .d) = some ds
  | [] => rfl
  | d :: ds => by
    rw [List.map_cons]
    unfold asDs
    rw [asDs_map ds]
    rfl
theorem vL_lst : vL S (.d (.lst ds)) = some (ds.map .d) := rfl
theorem v_lenL : g1 gLen S [.d (.lst ds)] = some (.d (.int ds.length)) := by
  simp [g1, gLen, vT, vL]
theorem v_lenT : g1 gLen S [.d (.tup ds)] = some (.d (.int ds.length)) := rfl
theorem v_lenR {xs : List W} (h : S[n]? = some xs) : g1 gLen S [.r n] = some (.d (.int xs.length)) := by
  simp [g1, gLen, vT, vL, h]
theorem v_lenB {xs : List W} : g1 gLen S [.bor xs] = some (.d (.int xs.length)) := by
  simp [g1, gLen, vT, vL]
theorem v_listL : g1 gList S [.d (.lst ds)] = some (.d (.lst ds)) := by
  simp [g1, gList, vSeq, vT, vL, asDs_map]
theorem v_listT : g1 gList S [.d (.tup ds)] = some (.d (.lst ds)) := by
  simp [g1, gList, vSeq, vT, vL]
theorem ixN_nat {k : Nat} {m : Nat} (h : k < m) : ixN m (k : Int) = some k := by
  unfold ixN
  rw [if_pos (by omega), if_pos (by omega)]
  simp
theorem v_ixR {l : List W} {k : Nat} {w : W} (h : S[n]? = some l) (hw : l[k]? = some w) : gIx S (.r n) (.d (.int k)) = some (toBor w) := by
  simp [gIx, vT, vL, h, atI, ixN_nat (List.getElem?_eq_some_iff.mp hw).1, hw]
theorem v_ixL {k : Nat} (h : ds[k]? = some d) : gIx S (.d (.lst ds)) (.d (.int k)) = some (.d d) := by
  simp [gIx, vT, vL, atI, ixN_nat (List.getElem?_eq_some_iff.mp h).1, h, toBor]
theorem v_ixT {k : Nat} (h : ds[k]? = some d) : gIx S (.d (.tup ds)) (.d (.int k)) = some (.d d) := by
  simp [gIx, vT, atI, ixN_nat (List.getElem?_eq_some_iff.mp h).1, h]
end
end Zf
set_option Elab.async false
set_option linter.all false
set_option maxRecDepth 100000
set_option maxHeartbeats 4000000
namespace Zf
open PySem PySem.Spec PyProof.Rows L2
section
variable {env : En} {S : Store} {P : W → Store → Prop} {PT : Bool → Store → Prop} {PA : List W → Store → Prop} {PI : List D → Store → Prop} {PS : Fl → En → Store → Prop} {ma mb mc : ME} {t u : MT} {ms : MA} {a b : MS} {i : Nat} {g : Store → List W → List W → Option (List W)}
/-- a method on the slot's own list; on a cell -/
theorem wp_mutO {xs : List W} (h : env[i]? = some (some (.own xs))) (hx : xs.all isArg = true) (q : OkA (ms env S) fun ws S' => ws.all isArg = true ∧ ∃ zs, g S' xs ws = some zs ∧ PS .nx (env.set i (some (.own zs))) S') : OkS (mMut i ms g env S) PS := by
  obtain ⟨p, e1, hA, zs, e2, k⟩ := q
  refine ⟨(.nx, env.set i (some (.own zs)), p.2), ?_, k⟩
  unfold mMut
  rw [e1]
  simp only [Option.bind_some]
  rw [if_pos hA, h]
  simp only []
  rw [if_pos hx, e2]
  rfl
theorem wp_mutR {n : Nat} (h : env[i]? = some (some (.r n))) (q : OkA (ms env S) fun ws S' => ws.all isArg = true ∧ ∃ xs zs, S'[n]? = some xs ∧ g S' xs ws = some zs ∧ PS .nx env (S'.set n zs)) : OkS (mMut i ms g env S) PS := by
  obtain ⟨p, e1, hA, xs, zs, e2, e3, k⟩ := q
  refine ⟨(.nx, env, p.2.set n zs), ?_, k⟩
  unfold mMut
  rw [e1]
  simp only [Option.bind_some]
  rw [if_pos hA, h]
  simp only []
  rw [e2]
  simp only [Option.bind_some]
  rw [e3]
  rfl
theorem wp_mutE {mo : ME} : OkS (mMutE mo ms g env S) PS ↔ OkE (mo env S) fun o S1 => ∃ n, o = .r n ∧ OkA (ms env S1) fun ws S' => ws.all isArg = true ∧ ∃ xs zs, S'[n]? = some xs ∧ g S' xs ws = some zs ∧ PS .nx env (S'.set n zs) := by
  unfold mMutE OkS OkE OkA
  constructor
  · rintro ⟨r, e, hh⟩
    obtain ⟨o, e0, e⟩ := Option.bind_eq_some_iff.mp e
    split at e
    · rename_i n hn
      obtain ⟨p, e1, e⟩ := Option.bind_eq_some_iff.mp e
      split at e
      · rename_i hA
        obtain ⟨xs, e2, e⟩ := Option.bind_eq_some_iff.mp e
        obtain ⟨zs, e3, e⟩ := Option.bind_eq_some_iff.mp e
        cases e
        exact ⟨o, e0, n, hn, p, e1, hA, xs, zs, e2, e3, hh⟩
      · cases e
    · cases e
  · rintro ⟨o, e0, n, hn, p, e1, hA, xs, zs, e2, e3, hh⟩
    refine ⟨(.nx, env, p.2.set n zs), ?_, hh⟩
    rw [e0]
    simp only [Option.bind_some]
    rw [hn]
    simp only []
    rw [e1]
    simp only [Option.bind_some]
    rw [if_pos hA, e2]
    simp only [Option.bind_some]
    rw [e3]
    rfl
theorem wp_neg : OkE (mNeg ma env S) P ↔ OkE (ma env S) fun w S' => ∃ j, w = .d (.int j) ∧ P (.d (.int (-j))) S' := by
  unfold mNeg OkE
  constructor
  · rintro ⟨r, e, h⟩
    obtain ⟨p, e1, e⟩ := Option.bind_eq_some_iff.mp e
    split at e
    · rename_i j hj
      cases e
      exact ⟨p, e1, j, hj, h⟩
    · cases e
  · rintro ⟨p, e1, j, hj, h⟩
    exact ⟨_, by rw [e1]; simp only [Option.bind_some]; rw [hj], h⟩
theorem wp_inK {neg : Bool} {ks : List Str} : OkE (mInK neg ks ma env S) P ↔ OkE (ma env S) fun w S' => ∃ z, w = .d (.str z) ∧ P (.d (.bl (neg != ks.contains z))) S' := by
  unfold mInK OkE
  constructor
  · rintro ⟨r, e, h⟩
    obtain ⟨p, e1, e⟩ := Option.bind_eq_some_iff.mp e
    split at e
    · rename_i j hj
      cases e
      exact ⟨p, e1, j, hj, h⟩
    · cases e
  · rintro ⟨p, e1, j, hj, h⟩
    exact ⟨_, by rw [e1]; simp only [Option.bind_some]; rw [hj], h⟩
theorem wp_isi {T : String} : OkE (mIsi T ma env S) P ↔ OkE (ma env S) fun w S' => asked.contains T = true ∧ ∃ k, tyD S' w = some k ∧ P (.d (.bl (isTy k T))) S' := by
  unfold mIsi OkE
  constructor
  · rintro ⟨r, e, h⟩
    obtain ⟨p, e1, e⟩ := Option.bind_eq_some_iff.mp e
    split at e
    · rename_i hT
      obtain ⟨k, e2, e3⟩ := Option.map_eq_some_iff.mp e
      cases e3
      exact ⟨p, e1, hT, k, e2, h⟩
    · cases e
  · rintro ⟨p, e1, hT, k, e2, h⟩
    exact ⟨_, by rw [e1]; simp only [Option.bind_some]; rw [if_pos hT, e2]; rfl, h⟩
theorem wp_isi2 {T T' : String} : OkE (mIsi2 T T' ma env S) P ↔ OkE (ma env S) fun w S' => (asked.contains T = true ∧ asked.contains T' = true) ∧ ∃ k, tyD S' w = some k ∧ P (.d (.bl (isTy k T || isTy k T'))) S' := by
  unfold mIsi2 OkE
  constructor
  · rintro ⟨r, e, h⟩
    obtain ⟨p, e1, e⟩ := Option.bind_eq_some_iff.mp e
    split at e
    · rename_i hT
      obtain ⟨k, e2, e3⟩ := Option.map_eq_some_iff.mp e
      cases e3
      exact ⟨p, e1, hT, k, e2, h⟩
    · cases e
  · rintro ⟨p, e1, hT, k, e2, h⟩
    exact ⟨_, by rw [e1]; simp only [Option.bind_some]; rw [if_pos hT, e2]; rfl, h⟩
theorem wp_star : OkA (mStar ma ms env S) PA ↔ OkE (ma env S) fun w S1 => ∃ xs, vSeq S1 w = some xs ∧ OkA (ms env S1) fun ws S2 => PA (xs.map .d ++ ws) S2 := by
  unfold mStar OkE OkA
  constructor
  · rintro ⟨r, e, h⟩
    obtain ⟨p, e1, e⟩ := Option.bind_eq_some_iff.mp e
    obtain ⟨xs, e2, e⟩ := Option.bind_eq_some_iff.mp e
    obtain ⟨q, e3, e4⟩ := Option.map_eq_some_iff.mp e
    cases e4
    exact ⟨p, e1, xs, e2, q, e3, h⟩
  · rintro ⟨p, e1, xs, e2, q, e3, h⟩
    exact ⟨_, by rw [e1]; simp only [Option.bind_some]; rw [e2]; simp only [Option.bind_some]; rw [e3]; rfl, h⟩
theorem wp_dix : OkE (mDix ma mb env S) P ↔ OkE (ma env S) fun w S1 => OkE (mb env S1) fun v S2 => ∃ kvs k d, w = .d (.dct kvs) ∧ dkey v = some k ∧ dval kvs k = some d ∧ P (.d d) S2 := by
  unfold mDix OkE
  constructor
  · rintro ⟨r, e, h⟩
    obtain ⟨p, e1, e⟩ := Option.bind_eq_some_iff.mp e
    obtain ⟨q, e2, e⟩ := Option.bind_eq_some_iff.mp e
    split at e
    · rename_i kvs hk
      obtain ⟨k, e3, e⟩ := Option.bind_eq_some_iff.mp e
      obtain ⟨d, e4, e5⟩ := Option.map_eq_some_iff.mp e
      cases e5
      exact ⟨p, e1, q, e2, kvs, k, d, hk, e3, e4, h⟩
    · cases e
  · rintro ⟨p, e1, q, e2, kvs, k, d, hk, e3, e4, h⟩
    exact ⟨_, by rw [e1]; simp only [Option.bind_some]; rw [e2]; simp only [Option.bind_some]; rw [hk]; simp only []; rw [e3]; simp only [Option.bind_some]; rw [e4]; rfl, h⟩
theorem wp_dget2 : OkE (mDget2 ma mb mc env S) P ↔ OkE (ma env S) fun w S1 => OkE (mb env S1) fun v S2 => OkE (mc env S2) fun u S3 => ∃ kvs x k, w = .d (.dct kvs) ∧ u = .d x ∧ dkey v = some k ∧ P (.d ((dval kvs k).getD x)) S3 := by
  unfold mDget2 OkE
  constructor
  · rintro ⟨r, e, h⟩
    obtain ⟨p, e1, e⟩ := Option.bind_eq_some_iff.mp e
    obtain ⟨q, e2, e⟩ := Option.bind_eq_some_iff.mp e
    obtain ⟨s, e3, e⟩ := Option.bind_eq_some_iff.mp e
    split at e
    · rename_i kvs x hk hx
      obtain ⟨k, e4, e5⟩ := Option.map_eq_some_iff.mp e
      cases e5
      exact ⟨p, e1, q, e2, s, e3, kvs, x, k, hk, hx, e4, h⟩
    · cases e
  · rintro ⟨p, e1, q, e2, s, e3, kvs, x, k, hk, hx, e4, h⟩
    exact ⟨_, by rw [e1]; simp only [Option.bind_some]; rw [e2]; simp only [Option.bind_some]; rw [e3]; simp only [Option.bind_some]; rw [hk, hx]; simp only []; rw [e4]; rfl, h⟩
theorem wp_maxD {d : Int} : OkE (mMaxD d ma env S) P ↔ OkE (ma env S) fun w S' => ∃ ns, vInts S' w = some ns ∧ P (.d (.int (maxOr d ns))) S' := by
  unfold mMaxD OkE
  constructor
  · rintro ⟨r, e, h⟩
    obtain ⟨p, e1, e⟩ := Option.bind_eq_some_iff.mp e
    obtain ⟨ns, e2, e3⟩ := Option.map_eq_some_iff.mp e
    cases e3
    exact ⟨p, e1, ns, e2, h⟩
  · rintro ⟨p, e1, ns, e2, h⟩
    exact ⟨_, by rw [e1]; simp only [Option.bind_some]; rw [e2]; rfl, h⟩
theorem wp_enum : OkI (mIEnum ms env S) PI ↔ OkA (ms env S) fun ws S' => ∃ xs, ws = [.d (.lst xs)] ∧ PI (dEnum 0 xs) S' := by
  unfold mIEnum OkI OkA
  constructor
  · rintro ⟨r, e, hh⟩
    obtain ⟨p, e1, e⟩ := Option.bind_eq_some_iff.mp e
    split at e
    · rename_i xs hw
      cases e
      exact ⟨p, e1, xs, hw, hh⟩
    · cases e
  · rintro ⟨p, e1, xs, hw, hh⟩
    exact ⟨_, by rw [e1]; simp only [Option.bind_some]; rw [hw], hh⟩
theorem wp_zip : OkI (mIZip ms env S) PI ↔ OkA (ms env S) fun ws S' => ∃ xs ys, ws = [.d (.lst xs), .d (.lst ys)] ∧ PI (dZip xs ys) S' := by
  unfold mIZip OkI OkA
  constructor
  · rintro ⟨r, e, hh⟩
    obtain ⟨p, e1, e⟩ := Option.bind_eq_some_iff.mp e
    split at e
    · rename_i xs ys hw
      cases e
      exact ⟨p, e1, xs, ys, hw, hh⟩
    · cases e
  · rintro ⟨p, e1, xs, ys, hw, hh⟩
    exact ⟨_, by rw [e1]; simp only [Option.bind_some]; rw [hw], hh⟩
theorem wp_dictZip : OkE (mDictZip ms env S) P ↔ OkA (ms env S) fun ws S' => ∃ x y ks ds, ws = [x, y] ∧ ((vL S' x).bind asDs).bind asKeys = some ks ∧ (vL S' y).bind asDs = some ds ∧ P (.d (.dct (mergeD [] (ks.zip ds)))) S' := by
  unfold mDictZip OkE OkA
  constructor
  · rintro ⟨r, e, hh⟩
    obtain ⟨p, e1, e⟩ := Option.bind_eq_some_iff.mp e
    split at e
    · rename_i x y hw
      obtain ⟨ks, e2, e⟩ := Option.bind_eq_some_iff.mp e
      obtain ⟨ds, e3, e4⟩ := Option.map_eq_some_iff.mp e
      cases e4
      exact ⟨p, e1, x, y, ks, ds, hw, e2, e3, hh⟩
    · cases e
  · rintro ⟨p, e1, x, y, ks, ds, hw, e2, e3, hh⟩
    exact ⟨_, by rw [e1]; simp only [Option.bind_some]; rw [hw]; simp only []; rw [e2]; simp only [Option.bind_some]; rw [e3]; rfl, hh⟩
end
end Zf
set_option Elab.async false
set_option linter.all false
set_option maxRecDepth 100000
set_option maxHeartbeats 2000000
namespace Zf
open PySem PySem.Spec PyProof.Rows L2

/-! ### instances: the data do not ask which self runs -/
abbrev Gd.at (G : Gd) (x : Addr) : Gd := { G with slf := x }
section
variable {G G' : Gd} {F : Hp} (hP : G.P = G'.P) (hw : G.w = G'.w) (hK : G.K = G'.K) (hc : G.cls = G'.cls)
include hP hw hK hc
mutual
theorem R.cong : ∀ (d : D) (v : V), R G F d v → R G' F d v
  | .non, _, h => h
  | .bl _, _, h => h
  | .int _, _, h => h
  | .str _, _, h => h
  | .lst xs, _, ⟨a, vs, h1, h2, h3⟩ => ⟨a, vs, h1, h2, Rs.cong xs vs h3⟩
  | .ro xs, _, ⟨a, vs, h1, h2, h3⟩ => ⟨a, vs, h1, hK ▸ h2, Rs.cong xs vs h3⟩
  | .tup xs, _, ⟨a, vs, h1, h2, h3⟩ => ⟨a, vs, h1, hK ▸ h2, Rs.cong xs vs h3⟩
  | .dct kvs, _, ⟨a, kv, h1, h2, h3⟩ => ⟨a, kv, h1, h2, Rk.cong kvs kv h3⟩
  | .st ks, _, ⟨a, h1, h2⟩ => ⟨a, h1, by rw [← hP, ← hw]; exact h2⟩
  | .ins c fs, _, ⟨a, dx, vs, h1, h2, h3, h4⟩ => ⟨a, dx, vs, h1, by rw [← hc]; exact h2, h3, Rf.cong fs vs h4⟩
theorem Rs.cong : ∀ (ds : List D) (vs : List V), Rs G F ds vs → Rs G' F ds vs
  | [], _, h => h
  | x :: xs, _, ⟨v, r, h1, h2, h3⟩ => ⟨v, r, h1, R.cong x v h2, Rs.cong xs r h3⟩
theorem Rk.cong : ∀ (ds : List (Key × D)) (vs : List (Key × V)), Rk G F ds vs → Rk G' F ds vs
  | [], _, h => h
  | (k, x) :: xs, _, ⟨v, r, h1, h2, h3⟩ => ⟨v, r, h1, R.cong x v h2, Rk.cong xs r h3⟩
theorem Rf.cong : ∀ (ds : List (Str × D)) (vs : List (Str × V)), Rf G F ds vs → Rf G' F ds vs
  | [], _, h => h
  | (k, x) :: xs, _, ⟨v, r, h1, h2, h3⟩ => ⟨v, r, h1, R.cong x v h2, Rf.cong xs r h3⟩
end
variable {θ : Th} {H : Hp}
theorem RW.cong : ∀ (w : W) (v : V), RW G F θ H w v [] → RW G' F θ H w v []
  | .d x, v, ⟨h, e⟩ => ⟨R.cong hP hw hK hc x v h, e⟩
  | .r n, v, h => h
  | .own xs, v, ⟨a, vs, fs, h1, h2, h3, h4⟩ => by cases h4
  | .bor xs, v, ⟨a, vs, fs, h1, h2, h3, h4⟩ => by cases h4
  | .od xs, v, ⟨a, vs, fs, h1, h2, h3, h4⟩ => by cases h4
  | .bd xs, v, ⟨a, vs, fs, h1, h2, h3, h4⟩ => by cases h4
  | .slf c xs, v, ⟨dx, vs, h1, h2, h3, h4, h5⟩ => by cases h5
  | .slb c xs, v, ⟨dx, vs, h1, h2, h3, h4, h5⟩ => by cases h5
theorem RWs.cong : ∀ (ws : List W) (vs : List V), RWs G F θ H ws vs [] → RWs G' F θ H ws vs []
  | [], _, h => h
  | x :: xs, vs, ⟨v, r, f1, f2, h1, h2, h3, h4⟩ => by
    obtain ⟨rfl, rfl⟩ := List.append_eq_nil_iff.mp h4.symm
    exact ⟨v, r, [], [], h1, RW.cong hP hw hK hc x v h2, RWs.cong xs r h3, rfl⟩
theorem RS.cong {S : Store} (h : RS G F θ H S) : RS G' F θ H S := ⟨h.len, h.nd, fun n xs e => by
  obtain ⟨a, vs, h1, h2, h3, h4⟩ := h.cell n xs e
  exact ⟨a, vs, h1, h2, h3, RWs.cong hP hw hK hc xs vs h4⟩⟩
end
/-! ### attributes by name -/
def putFD (f : Str) (v : D) : List (Str × D) → List (Str × D)
  | [] => [(f, v)]
  | (g, x) :: r => if g = f then (g, v) :: r else (g, x) :: putFD f v r
theorem Rf.put {G : Gd} {F : Hp} {f : Str} {x : D} {y : V} (h : R G F x y) : ∀ {fs : List (Str × D)} {vs : List (Str × V)}, Rf G F fs vs → Rf G F (putFD f x fs) (putF f y vs)
  | [], vs, e => by
    rw [show vs = [] from e]
    exact ⟨y, [], rfl, h, rfl⟩
  | (g, z) :: fs, vs, ⟨v, r, h1, h2, h3⟩ => by
    rw [h1]
    show Rf G F (if g = f then (g, x) :: fs else (g, z) :: putFD f x fs) (if g = f then (g, y) :: r else (g, v) :: putF f y r)
    split
    · exact ⟨y, r, rfl, h, h3⟩
    · exact ⟨v, _, rfl, h2, Rf.put h h3⟩
theorem Rf.len {G : Gd} {F : Hp} : ∀ {fs : List (Str × D)} {vs : List (Str × V)}, Rf G F fs vs → vs.length = fs.length
  | [], _, e => by rw [show _ = [] from e]; rfl
  | (g, z) :: fs, _, ⟨v, r, h1, h2, h3⟩ => by rw [h1, List.length_cons, List.length_cons, Rf.len h3]
theorem Rf.get {G : Gd} {F : Hp} {f : Str} {x : D} : ∀ {fs : List (Str × D)} {vs : List (Str × V)}, Rf G F fs vs → fs.lookup f = some x → ∃ y, vs.lookup f = some y ∧ R G F x y
  | [], _, e, h => by cases h
  | (g, z) :: fs, _, ⟨v, r, h1, h2, h3⟩, h => by
    rw [h1]
    cases c : (f == g) with
    | true =>
      rw [List.lookup_cons, c] at h
      cases h
      exact ⟨v, by rw [List.lookup_cons, c], h2⟩
    | false =>
      rw [List.lookup_cons, c] at h
      obtain ⟨y, q1, q2⟩ := Rf.get h3 h
      exact ⟨y, by rw [List.lookup_cons, c]; exact q1, q2⟩
theorem Rf.none {G : Gd} {F : Hp} {f : Str} : ∀ {fs : List (Str × D)} {vs : List (Str × V)}, Rf G F fs vs → fs.lookup f = Option.none → vs.lookup f = Option.none
  | [], _, e, h => by rw [show _ = [] from e]; rfl
  | (g, z) :: fs, _, ⟨v, r, h1, h2, h3⟩, h => by
    rw [h1]
    cases c : (f == g) with
    | true =>
      rw [List.lookup_cons, c] at h
      cases h
    | false =>
      rw [List.lookup_cons, c] at h
      rw [List.lookup_cons, c]
      exact Rf.none h3 h
/-! ### self.f = e, while __init__ runs -/
theorem St.slfSet {G : Gd} {F H : Hp} {θ : Th} {S : Store} {env : En} {σ : L2.St} {fp : List Addr} {i c : Nat} {fs : List (Str × D)} (s : St G F θ H S env σ fp) (hi : env[i]? = some (some (.slf c fs))) :
    ∃ dx vs, σ[i]? = some (some (.ref G.slf)) ∧ H G.slf = some (.ins (G.cls c) dx vs) ∧ Rf G F fs vs ∧ G.slf ∈ fp ∧
      ∀ gs us, Rf G F gs us → St G F θ (upd H G.slf (.ins (G.cls c) dx us)) S (env.set i (some (.slf c gs))) σ fp := by
  have hl : i < env.length := (List.getElem?_eq_some_iff.mp hi).1
  obtain ⟨ea, eb, o, sa, sb, v0, pre, old, post, q1, q2, q3, q4, q5, q6, q7, q8, q9⟩ := RE.cut s.env hl
  have ho : o = some (.slf c fs) := by
    rw [q1, List.getElem?_append_right (by omega), q3, Nat.sub_self] at hi
    simpa using hi
  obtain ⟨u, hu, hw⟩ := q9 _ ho
  obtain ⟨dx, vs, h1, h2, h3, h4, h5⟩ := hw
  have nd := s.nd
  rw [q5, h5] at nd
  obtain ⟨n1, n2, n3⟩ := List.nodup_append.mp nd
  have ma : G.slf ∈ fp := by
    rw [q5, h5]
    simp
  have n2' : (G.slf :: dx :: post).Nodup := n2
  have apre : ∀ b ∈ pre, b ≠ G.slf := fun b hb z => n3 b hb G.slf (by simp) z
  have apost : ∀ b ∈ post, b ≠ G.slf := fun b hb z => (List.nodup_cons.mp n2').1 (by rw [← z]; simp [hb])
  have dne : dx ≠ G.slf := fun z => (List.nodup_cons.mp n2').1 (by rw [← z]; simp)
  obtain ⟨fa, ta⟩ := s.apart _ ma
  refine ⟨dx, vs, ?_, h2, h4, ma, fun gs us r => ⟨fun b x e => ?_, s.store.move (.refl F) (fun _ _ h => h) fun b hb x e => ?_, ?_, s.nd, s.apart⟩⟩
  · rw [q2, List.getElem?_append_right (by omega), q4, Nat.sub_self, hu, h1]
    rfl
  · rw [upd_ne (ne_of_none e fa)]
    exact s.sub b x e
  · rw [upd_ne (show b ≠ G.slf from fun z => ta (z ▸ hb))]
    exact e
  · rw [q1, set_mid q3, q2, q5, h5]
    refine RE.join (RE.move (.refl F) (fun _ _ h => h) ea sa pre (fun b hb x e => ?_) q6) ⟨.ref G.slf, sb, [G.slf, dx], post, by rw [hu, h1], ⟨dx, us, rfl, upd_same, by rw [upd_ne dne]; exact h3, r, rfl⟩, RE.move (.refl F) (fun _ _ h => h) eb sb post (fun b hb x e => ?_) q7, rfl⟩
    · rw [upd_ne (apre b hb)]
      exact e
    · rw [upd_ne (apost b hb)]
      exact e
def mSetF (c i : Nat) (f : Str) (m : ME) : MS := fun env S => (m env S).bind fun p => match p.1, env[i]? with
  | .d x, some (some (.slf c' fs)) => if c' = c ∧ fs.length < 1000 then some (.nx, env.set i (some (.slf c (putFD f x fs))), p.2) else none
  | _, _ => none
theorem TrS.upd1 {F H : Hp} {θ : Th} {fp : List Addr} {a : Addr} {o : HO} (h : a ∈ fp) : TrS F θ H fp F θ (upd H a o) fp where
  le := .refl F
  th := ⟨[], (List.append_nil θ).symm⟩
  newF := fun a h1 h2 => absurd h1 h2
  newT := fun a h1 h2 => absurd h1 h2
  newP := fun _ h => .inl h
  keep := fun b u _ hb e => by
    rw [upd_ne (show b ≠ a from fun z => hb (by rw [z]; exact h))]
    exact e
  live := fun b u e => by
    by_cases z : b = a
    · exact ⟨_, by rw [z]; exact upd_same⟩
    · exact ⟨u, by rw [upd_ne z]; exact e⟩
section
variable {X : Cx} {G : Gd} {e : Expr} {m : ME} {c i : Nat} {f x : Str} {p p1 pos : Pos}
theorem z_setF (i : Nat) (he : PE X e (tOf G m)) (cl : Cls X.K (G.cls c)) (na : NoAttr X.K (G.cls c) f) (hN : X.N[i]? = some x := by rfl) (hv : Vis X.env.scope x := by first | exact Or.inl rfl | exact Or.inr (Or.inl rfl) | exact Or.inr (Or.inr rfl)) (hd : (x == ("__debug__" : Str)) = false := by decide)
    (hcd : (x == ("__classdict__" : Str)) = false := by decide) (hs : swapsWith e (some (.Attribute (.Name x p) f p1)) pos.line X.env = pure false := by rfl) : PS X (.Assign [.Attribute (.Name x p) f p1] e pos) (tOfS G (mSetF c i f m)) := by
  refine ps_imp (ps_fld (pe_var hN hv hd hcd) he hs) fun D σ H h => ?_
  obtain ⟨F, θ, S, env, fp, fl, env', S', s, e, k⟩ := h
  unfold mSetF at e
  obtain ⟨⟨w, S1⟩, e1, e⟩ := Option.bind_eq_some_iff.mp e
  dsimp only at e
  split at e
  · rename_i x0 c' fs hi
    split at e
    · rename_i hc
      obtain ⟨rfl, hl⟩ := hc
      cases e
      refine ⟨F, θ, S, env, fp, _, _, s, e1, fun F1 θ1 H1 v f0 t1 s1 r => ?_⟩
      obtain ⟨dx, vs, g1, g2, g3, g4, g5⟩ := s1.slfSet hi
      refine ⟨_, g1, G.slf, _, dx, vs, rfl, g2, cl, na, by rw [g3.len]; exact hl, ?_⟩
      exact k F1 θ1 _ σ fp ((t1.toS fp).trans (TrS.upd1 g4)) (g5 _ _ (g3.put r.rw.dAt))
    · cases e
  · cases e
end
/-! ### self.f, self.g = x, y -/
def gFld (K : PySem.W.Frag) (to : TE) (f : Str) : TG := fun y σ H Q => to σ H fun x H2 => ∃ a C dx fs, x = .ref a ∧ H2 a = some (.ins C dx fs) ∧ Cls K C ∧ NoAttr K C f ∧ fs.length < 1000 ∧ Q σ (upd H2 a (.ins C dx (putF f y fs)))
theorem pg_fld {X : Cx} {o : Expr} {to : TE} {f : Str} {pos : Pos} (ho : PE X o to) : PG X (.Attribute o f pos) (gFld X.K to f) := by
  refine ⟨fun pins s σ H v u Q I r h => ?_⟩
  rw [assign_Attribute]
  refine wpAny_bind (wpAny_holding (thn (ho.run pins s σ H _ I h) fun ov s1 ⟨x, H1, I1, r1, a, C, dx, fs, ex, ea, c, n, l, q⟩ => ?_))
  subst ex
  obtain rfl : ov = Value.ref a := r1
  refine wpAny_bind (wpAny_standAt (wpAny_bind (wpAny_holding (setattr_ok I1 ea c n l r fun s3 I3 => wpAny_release ⟨σ, _, I3, q⟩))))
def gAllF (K : PySem.W.Frag) (i : Nat) : List Str → TGs
  | [] => gNil
  | f :: fs => gCons (gFld K (tVar i) f) (gAllF K i fs)
def setAllF (c i : Nat) : List Str → List W → En → Option En
  | [], [], env => some env
  | f :: is, .d x :: xs, env => match env[i]? with
    | some (some (.slf c' fs)) => if c' = c ∧ fs.length < 1000 then setAllF c i is xs (env.set i (some (.slf c (putFD f x fs)))) else none
    | _ => none
  | _, _, _ => none
def mSetFs (c i : Nat) (is : List Str) (ms : MA) : MS := fun env S => (ms env S).bind fun p => if p.1.length ≤ cap then (setAllF c i is p.1 env).map fun env' => (.nx, env', p.2) else none
theorem setAllF_len {c i : Nat} : ∀ {is : List Str} {xs : List W} {env env' : En}, setAllF c i is xs env = some env' → xs.length = is.length
  | [], [], _, _, _ => rfl
  | f :: is, .d x :: xs, env, env', e => by
    unfold setAllF at e
    split at e
    · split at e
      · rw [List.length_cons, List.length_cons, setAllF_len e]
      · cases e
    · cases e
  | [], _ :: _, _, _, e => by simp [setAllF] at e
  | _ :: _, [], _, _, e => by simp [setAllF] at e
  | _ :: _, .r _ :: _, _, _, e => by simp [setAllF] at e
  | _ :: _, .own _ :: _, _, _, e => by simp [setAllF] at e
  | _ :: _, .bor _ :: _, _, _, e => by simp [setAllF] at e
  | _ :: _, .od _ :: _, _, _, e => by simp [setAllF] at e
  | _ :: _, .bd _ :: _, _, _, e => by simp [setAllF] at e
  | _ :: _, .slf _ _ :: _, _, _, e => by simp [setAllF] at e
  | _ :: _, .slb _ _ :: _, _, _, e => by simp [setAllF] at e
theorem RsA.len {G : Gd} {H0 : Hp} {fp : List Addr} {F : Hp} {θ : Th} {H : Hp} : ∀ {ws : List W} {vs : List V}, RsA G H0 fp F θ H ws vs → vs.length = ws.length
  | [], vs, r => by rw [show vs = [] from r]; rfl
  | w :: ws, vs, ⟨v, r', f, q1, q2, q3⟩ => by rw [q1, List.length_cons, List.length_cons, RsA.len q3]
theorem setAllF_ok {G : Gd} {F H0 : Hp} {θ : Th} {S : Store} {fp0 : List Addr} {c i : Nat} {K : PySem.W.Frag} (cl : Cls K (G.cls c)) : ∀ {is : List Str} {xs : List W} {vs : List V} {env env' : En} {σ : L2.St} {H H1 : Hp} {fp : List Addr} {Q : L2.St → Hp → Prop}, (∀ f ∈ is, NoAttr K (G.cls c) f) → St G F θ H S env σ fp → RsA G H0 fp0 F θ H1 xs vs → setAllF c i is xs env = some env' →
    (∀ H', TrS F θ H fp F θ H' fp → St G F θ H' S env' σ fp → Q σ H') → gAllF K i is vs σ H Q
  | [], [], vs, env, env', σ, H, H1, fp, Q, na, s, r, e, k => by
    cases e
    exact ⟨r, k H (.refl ..) s⟩
  | f :: is, .d x :: xs, vs, env, env', σ, H, H1, fp, Q, na, s, ⟨v, r', g, h1, h2, h3⟩, e, k => by
    unfold setAllF at e
    split at e
    · rename_i c' fs hi
      split at e
      · rename_i hc
        obtain ⟨rfl, hl⟩ := hc
        obtain ⟨dx, us, g1, g2, g3, g4, g5⟩ := s.slfSet hi
        refine ⟨v, r', h1, _, g1, G.slf, _, dx, us, rfl, g2, cl, na f (List.mem_cons_self ..), by rw [g3.len]; exact hl, ?_⟩
        exact setAllF_ok cl (fun z hz => na z (List.mem_cons_of_mem _ hz)) (g5 _ _ (g3.put h2.rw.dAt)) h3 e fun H' t s' => k H' ((TrS.upd1 g4).trans t) s'
      · cases e
    · cases e
  | [], _ :: _, _, _, _, _, _, _, _, _, _, _, _, e, _ => by simp [setAllF] at e
  | _ :: _, [], _, _, _, _, _, _, _, _, _, _, _, e, _ => by simp [setAllF] at e
  | _ :: _, .r _ :: _, _, _, _, _, _, _, _, _, _, _, _, e, _ => by simp [setAllF] at e
  | _ :: _, .own _ :: _, _, _, _, _, _, _, _, _, _, _, _, e, _ => by simp [setAllF] at e
  | _ :: _, .bor _ :: _, _, _, _, _, _, _, _, _, _, _, _, e, _ => by simp [setAllF] at e
  | _ :: _, .od _ :: _, _, _, _, _, _, _, _, _, _, _, _, e, _ => by simp [setAllF] at e
  | _ :: _, .bd _ :: _, _, _, _, _, _, _, _, _, _, _, _, e, _ => by simp [setAllF] at e
  | _ :: _, .slf _ _ :: _, _, _, _, _, _, _, _, _, _, _, _, e, _ => by simp [setAllF] at e
  | _ :: _, .slb _ _ :: _, _, _, _, _, _, _, _, _, _, _, _, e, _ => by simp [setAllF] at e
theorem z_setFs {X : Cx} {G : Gd} {c i : Nat} {es tgs : List Expr} {is : List Str} {ms : MA} {pos p1 p2 : Pos} {k1 k2} (ha : PA X es (tOfA G ms)) (cl : Cls X.K (G.cls c)) (na : ∀ f ∈ is, NoAttr X.K (G.cls c) f) (hg : PGs X tgs (gAllF X.K i is)) (hc : X.calm = true := by rfl) (hn : (assignEach tgs X.env).length = is.length := by rfl) (hst : (assignEach tgs X.env).findIdx? (·.1) = none := by rfl)
    (hs : swapsWithSole [.Tuple tgs k1 p1] (.Tuple es k2 p2) pos.line X.env = pure false := by rfl) (hw : swappedStores [.Tuple tgs k1 p1] (.Tuple es k2 p2) X.env = pure none := by rfl)
    (h1 : (assignEach [.Tuple tgs k1 p1] X.env).map (·.2) = [assign (.Tuple tgs k1 p1) X.env] := by rfl) : PS X (.Assign [.Tuple tgs k1 p1] (.Tuple es k2 p2) pos) (tOfS G (mSetFs c i is ms)) := by
  refine ps_imp (ps_asg (pe_tup ha) (pg_tup hc hg hn hst) hs hw h1) fun D σ H h => ?_
  obtain ⟨F, θ, S, env, fp, fl, env', S', s, e, k⟩ := h
  unfold mSetFs at e
  obtain ⟨⟨ws, S1⟩, e1, e⟩ := Option.bind_eq_some_iff.mp e
  dsimp only at e
  split at e
  · rename_i hl
    obtain ⟨en, e2, e3⟩ := Option.map_eq_some_iff.mp e
    cases e3
    refine ⟨F, θ, S, env, fp, ws, _, s, e1, fun F1 θ1 H1 vs t1 s1 r => ?_⟩
    refine ⟨by rw [r.len]; exact cap_ok hl, fun p hp => ?_⟩
    obtain ⟨t2, s2, _⟩ := s1.new0 hp (.tup vs)
    refine ⟨p, vs, rfl, SqT.of upd_same, by rw [r.len, setAllF_len e2], setAllF_ok cl na s2 (r.mono t2) e2 fun H' t3 s3 => ?_⟩
    exact k F1 θ1 H' σ fp (((t1.trans t2).toS fp).trans t3) s3
  · cases e
end Zf
set_option Elab.async false
set_option linter.all false
set_option maxRecDepth 100000
set_option maxHeartbeats 2000000
namespace Zf
open PySem PySem.Spec PyProof.Rows L2

/-! ### C(..): a new instance -/
def mInit (c k n : Nat) (body : MS) : MF := fun as S => if as.length + 1 = k ∧ as.all isArg = true then (body (some (.slf c []) :: (as.map some ++ List.replicate (n - k) none)) S).bind fun p => match p.1, p.2.1 with
  | .nx, some (.slf c' fs) :: _ => if c' = c then some (.d (.ins c fs), p.2.2) else none
  | _, _ => none else none
/-- what a class's name stands for: m tells what C(..) makes -/
structure KnC (G : Gd) (mg : Str → Option Value) (base : Heap) (x : Str) (k : Nat) (m : MF) : Prop where
  ex : ∃ C, mg x = some (.ref C) ∧ PySem.W.keepIn G.K (.ref C) = true ∧ ∀ (X : Cx), X.prog = G.P ∧ X.w = G.w ∧ X.K = G.K → X.mg = mg → X.base = base → Room k X.A → X.A.guards = some [] →
    ∀ (pins : List (Addr × Obj)) (σ : L2.St) (H : Hp) (s : Shared) (Q : VK) (us : List Value) (vs : List V) (F : Hp) (θ : Th) (S S' : Store) (as : List W) (w : W) (env : En) (fp : List Addr), Inv X pins σ H s → Vals vs us → St G F θ H S env σ fp → RWs G F θ H as vs [] → m as S = some (w, S') →
      (∀ F' θ' H' v f, Tr F θ H F' θ' H' → St G F' θ' H' S' env σ fp → Res G H fp F' θ' H' w v f → Q v H') → wpAny (model X.prog X.w) X.A (call (.ref C) us) (EP X pins σ Q) X.xe s
theorem KnC.mono {G : Gd} {mg : Str → Option Value} {base : Heap} {x : Str} {j k : Nat} {m : MF} (h : KnC G mg base x j m) (l : j ≤ k) : KnC G mg base x k m := by
  obtain ⟨C, a, b, c⟩ := h.ex
  exact ⟨C, a, b, fun X h1 h2 h3 hr => c X h1 h2 h3 (hr.mono l)⟩
section
variable {X : Cx} {G : Gd} {k j : Nat} {m : MF} {ms : MA} {x : Str} {p pos : Pos} {e : Expr} {es : List Expr}
theorem z_mk (C : KnC G X.mg X.base x j m) (hr : Room k X.A) (hj : j ≤ k) (hgd : X.A.guards = some []) (hg : Gl X x) (ha : PA X (e :: es) (tOfA G ms))
    (hdb : (x == ("__debug__" : Str)) = false := by decide) (he : starEach (e :: es) X.env = (false, eval e X.env) :: starEach es X.env := by rfl) (hpl : (backTo pos (starEach es X.env)).any (·.1) = false := by rfl) (hG : X.prog = G.P ∧ X.w = G.w ∧ X.K = G.K := by exact ⟨rfl, rfl, rfl⟩) :
    PE X (.Call (.Name x p) (e :: es) [] pos) (tOf G (mCall m ms)) := by
  obtain ⟨f, hm, hk, run⟩ := C.ex
  refine ⟨fun pins s σ H Q I h => ?_⟩
  obtain ⟨F, θ, S, env, fp, w, S', st, e1, q⟩ := h
  unfold mCall at e1
  obtain ⟨⟨as, S1⟩, e2, e1⟩ := Option.bind_eq_some_iff.mp e1
  dsimp only at e1
  split at e1
  · rename_i hA
    refine wpAny_Call_Name_kw (ld_glob I hg hm ?_ hdb)
    refine PySem.W.callWith_K (h₀ := X.base) I.ok.mod.kin (by rw [hG.2.2]; exact hk) (thn (ha.run pos pins s σ H (fun vs H1 => ∃ F1 θ1, Tr F θ H F1 θ1 H1 ∧ St G F1 θ1 H1 S1 env σ fp ∧ RsA G H fp F1 θ1 H1 as vs) I ⟨F, θ, S, env, fp, as, S1, st, e2, fun F1 θ1 H1 vs t1 s1 r1 => ⟨F1, θ1, t1, s1, r1⟩⟩) fun us s1 ⟨vs, H1, I1, r, F1, θ1, t1, st1, r1⟩ => ⟨I1.kIn, ?_⟩) he hpl
    exact run X hG rfl rfl (hr.mono hj) hgd pins σ H1 s1 Q us vs F1 θ1 S1 S' as w env fp I1 r st1 (r1.args hA) e1 fun F2 θ2 H2 v f t2 s2 rv => q F2 θ2 H2 v f (t1.trans t2) s2 (rv.earlier t1)
  · cases e1
end
theorem St.made {G : Gd} {F H : Hp} {θ : Th} {S : Store} {env : En} {σ : L2.St} {fp : List Addr} {as : List W} {vs : List V} {x dx : Addr} {c n : Nat} (st : St G F θ H S env σ fp) (ra : RWs G F θ H as vs []) (fx : H x = none) (fd : H dx = none) (ne : dx ≠ x) :
    St (G.at x) F θ (upd (upd H dx (.own x)) x (.ins (G.cls c) dx [])) S (some (.slf c []) :: (as.map some ++ List.replicate n none)) (some (.ref x) :: (vs.map some ++ List.replicate n none)) [x, dx] := by
  have k : ∀ b u, H b = some u → (upd (upd H dx (.own x)) x (.ins (G.cls c) dx [])) b = some u := fun b u e => by
    rw [upd_ne (ne_of_none e fx), upd_ne (ne_of_none e fd)]
    exact e
  obtain ⟨_, _, nx1, nx2, _⟩ := st.new0 fx (.own x)
  obtain ⟨_, _, nd1, nd2, _⟩ := st.new0 fd (.own x)
  refine ⟨fun a u e => k a u (st.sub a u e), ?_, ?_, ?_, fun a ha => ?_⟩
  · exact RS.cong (G := G) (G' := G.at x) rfl rfl rfl rfl (st.store.move (.refl F) (fun _ _ h => h) fun b _ u e => k b u e)
  · refine ⟨.ref x, _, [x, dx], [], rfl, ⟨dx, [], rfl, upd_same, by rw [upd_ne ne, upd_same], rfl, rfl⟩, ?_, rfl⟩
    refine RE.ofArgs n (RWs.move (.refl F) (fun _ _ h => h) as vs [] (fun _ h => absurd h (by simp)) (RWs.cong (G := G) (G' := G.at x) rfl rfl rfl rfl as vs ra))
  · simpa using (Ne.symm ne)
  · rcases List.mem_cons.mp ha with e | ha
    · rw [e]
      exact ⟨nx1, nx2⟩
    · rw [List.mem_singleton.mp ha]
      exact ⟨nd1, nd2⟩
/-- the instance that __init__ leaves, frozen -/
theorem St.madeEnd {G : Gd} {F F1 H H1 : Hp} {θ θ1 : Th} {S S' : Store} {env rest : En} {σ σ1 : L2.St} {fp fp1 : List Addr} {x dx : Addr} {c : Nat} {fs : List (Str × D)} (st : St G F θ H S env σ fp) (fx : H x = none) (fd : H dx = none) (ne : dx ≠ x)
    (t1 : TrS F θ (upd (upd H dx (.own x)) x (.ins (G.cls c) dx [])) [x, dx] F1 θ1 H1 fp1) (s1 : St (G.at x) F1 θ1 H1 S' (some (.slf c fs) :: rest) σ1 fp1) :
    ∃ F', Tr F θ H F' θ1 H1 ∧ St G F' θ1 H1 S' env σ fp ∧ R G F' (.ins c fs) (.ref x) := by
  obtain ⟨v, r, f1, f2, e1, ⟨dy, us, h1, h2, h3, h4, h5⟩, _, h6⟩ := s1.env
  have k0 : ∀ b, b ∉ [x, dx] → (upd (upd H dx (.own x)) x (.ins (G.cls c) dx [])) b = H b := fun b hb => by
    rw [upd_ne (fun z => hb (by rw [z]; simp)), upd_ne (fun z => hb (by rw [z]; simp))]
  have mx : x ∈ fp1 := by rw [h6, h5]; simp
  have my : dy ∈ fp1 := by rw [h6, h5]; simp
  have ny : dy ≠ x := by
    have nd := s1.nd
    rw [h6, h5] at nd
    intro z
    exact (List.nodup_cons.mp (List.nodup_append.mp nd).1).1 (by rw [← z]; simp)
  have two : ∀ b ∈ [x, dx], H b = none := fun b hb => by
    rcases List.mem_cons.mp hb with e | hb
    · rw [e]; exact fx
    · rw [List.mem_singleton.mp hb]; exact fd
  have was : ∀ b, (upd (upd H dx (.own x)) x (.ins (G.cls c) dx [])) b = none → H b = none := fun b e => by
    by_cases z : b ∈ [x, dx]
    · exact two b z
    · rw [k0 b z] at e; exact e
  have fy : H dy = none := (t1.newP dy my).elim (two dy) (was dy)
  obtain ⟨ax, tx⟩ := s1.apart x mx
  obtain ⟨ay, ty⟩ := s1.apart dy my
  let F' : Hp := upd (upd F1 x (.ins (G.cls c) dy us)) dy (.own x)
  have old : ∀ b u, F1 b = some u → F' b = some u := fun b u e => by
    show upd (upd F1 x _) dy _ b = some u
    rw [upd_ne (ne_of_none e ay), upd_ne (ne_of_none e ax)]
    exact e
  have new : ∀ b, F1 b = none → b ∈ θ1 → F' b = none := fun b e hb => by
    show upd (upd F1 x _) dy _ b = none
    rw [upd_ne (show b ≠ dy from fun z => ty (z ▸ hb)), upd_ne (show b ≠ x from fun z => tx (z ▸ hb))]
    exact e
  have sub : ∀ b u, F' b = some u → H1 b = some u := fun b u e => by
    have e' : upd (upd F1 x (.ins (G.cls c) dy us)) dy (.own x) b = some u := e
    by_cases z : b = dy
    · rw [z, upd_same] at e'
      rw [z, ← e']
      exact h3
    · rw [upd_ne z] at e'
      by_cases z2 : b = x
      · rw [z2, upd_same] at e'
        rw [z2, ← e']
        exact h2
      · rw [upd_ne z2] at e'
        exact s1.sub b u e'
  have out : ∀ b, b ∉ [x, dx] → ∀ u, H b = some u → (upd (upd H dx (.own x)) x (.ins (G.cls c) dx [])) b = some u := fun b hb u e => by
    rw [k0 b hb]; exact e
  have notin : ∀ b u, H b = some u → b ∉ [x, dx] := fun b u e hb => by
    rw [two b hb] at e; cases e
  have tr : Tr F θ H F' θ1 H1 := by
    refine ⟨t1.le.trans (Le.of old), t1.th, fun b q1 q2 => ?_, fun b q1 q2 => ?_, fun b u q1 q2 => ?_, fun b u q1 => ?_⟩
    · by_cases z : b = dy
      · rw [z]; exact fy
      · by_cases z2 : b = x
        · rw [z2]; exact fx
        · have q3 : F1 b ≠ none := fun e => q2 (by
            show upd (upd F1 x _) dy _ b = none
            rw [upd_ne z, upd_ne z2]
            exact e)
          exact (t1.newF b q1 q3).elim (was b) (two b)
    · exact (t1.newT b q1 q2).elim (was b) (two b)
    · exact t1.keep b u q1 (notin b u q2) (out b (notin b u q2) u q2)
    · exact t1.live b u (out b (notin b u q1) u q1)
  refine ⟨F', tr, st.step tr sub ?_, ⟨x, dy, us, rfl, ?_, upd_same, ?_⟩⟩
  · exact RS.cong (G := G.at x) (G' := G) rfl rfl rfl rfl (s1.store.move (Le.of old) (fun b hb e => new b e hb) fun _ _ _ e => e)
  · show upd (upd F1 x _) dy _ x = _
    rw [upd_ne (Ne.symm ny), upd_same]
  · exact Rf.cong (G := G.at x) (G' := G) rfl rfl rfl rfl fs us (Rf.mono (Le.of old) fs us h4)
/-- the run of an __init__ -/
theorem init_run {G : Gd} {mg : Str → Option Value} {base : Heap} {k : Nat} {f : Addr} {name qual : Str} {params : Arguments} {body : List Stmt} {scope : Scope} {dvs : List V} {kws : List (Str × V)} {fd : FuncData} {N ps : List Str} {mb : MS} {x : Addr}
    (D : FunD G.K name qual params body scope dvs kws f fd) (sc : FnScope N ps scope)
    (hb : ∀ (cdv : Value) (A : Around) (outer : List Env) (s : Shared) (H : Hp), Room k (A.deeper (envOfC qual scope s.heap.objs.size f cdv)) → A.guards = some [] →
      PSs (cxOf CX0 G.P G.w G.K mg base N qual scope f cdv A outer s H E0).nox body (tOfS (G.at x) mb))
    {A : Around} {outer : List Env} {s : Shared} {H F : Hp} {θ : Th} {S S1 : Store} {env en : En} {fp : List Addr} {args : Args} {us : List Value} {vs : List V} (hr : Room (k + 1) A) (hgd : A.guards = some []) (e0 : Env0 G.P G.w G.K mg base A outer s H) (hbd : BindsTo s fd args (ps.zip us)) (rv : Vals vs us) (hl : vs.length = ps.length)
    (st : St (G.at x) F θ H S env (L2.start N vs) fp) (e1 : mb env S = some (.nx, en, S1)) :
    codeAny (model G.P G.w) A (.call (.ref f) args) (fun r s' => match r with
      | .ok (.ret u) => CE outer G.P G.w H s (fun v H1 => v = .non ∧ ∃ F1 θ1 σ1 fp1, TrS F θ H fp F1 θ1 H1 fp1 ∧ St (G.at x) F1 θ1 H1 S1 en σ1 fp1) u s'
      | _ => False) s := by
  obtain ⟨oc, od, dV, kV, doc, pm, an, cdv, ct, osl, hfd, lk, hcd, _, _⟩ := D.ex
  subst hfd
  have kin : G.K.In s.heap := e0.mod.kin.keeps fun b o z => (e0.bs b o z).1
  have nolim : s.heap.NoLimit := e0.mod.nolimit.keeps fun b o z => (e0.bs b o z).1
  have kinds : ∀ y ∈ ps.zip us, scope.names.lookup y.1 = some .local ∨ (scope.names.lookup y.1 = some .cell ∧ ((cellsFrom (s.heap.objs.size + 1) scope.names []).lookup y.1).isSome = true) := fun ⟨n, v⟩ hy => by
    rcases sc.par n (List.of_mem_zip hy).1 with q | q
    · exact .inl q
    · exact .inr ⟨q, PySem.W.cellsFrom_some _ _ _ (.inl q)⟩
  refine codeAny_call_function hr.depth (kin _ _ lk) rfl sc.co sc.gen rfl (PySem.W.codeRec_of kin hcd) (hbd _ _ _ _ ?_)
  refine wpAny_newFunctionEnv_cells sc.kind kinds fun env' he s1 x' => ?_
  subst he
  refine ⟨nolim.keeps x'.toInCall.keep, codeAny_func ?_⟩
  have inv : Inv (cxOf CX0 G.P G.w G.K mg base N qual scope f cdv A outer s H E0) [] (L2.start N vs) H s1 := inv_start sc hr.hd e0 hl rv x'
  let nx0 : L2.St → Hp → Prop := fun _ H1 => ∃ F1 θ1 σ1 fp1, TrS F θ H fp F1 θ1 H1 fp1 ∧ St (G.at x) F1 θ1 H1 S1 en σ1 fp1
  refine wpAny_mono ((hb cdv A outer s H (hr.deeper _) hgd).nox.run [] s1 (L2.start N vs) H { nx := nx0, rt := fun _ _ => False } inv ⟨F, θ, S, env, fp, .nx, en, S1, st, e1, fun F1 θ1 H1 σ1 fp1 t1 s2 => ⟨F1, θ1, σ1, fp1, t1, s2⟩⟩) (fun fl' s' hs => ?_) fun e s' hs => hs
  cases fl' with
  | ret u =>
    obtain ⟨v, σ', H', J, rv', q⟩ := hs
    exact q.elim
  | next =>
    obtain ⟨σ', H', J, q⟩ := hs
    exact ⟨.non, H', J.os, J.bare, J.base, J.hok, rfl, rfl, q⟩
  | brk =>
    obtain ⟨_, _, _, q⟩ := hs
    exact q.elim
  | cont =>
    obtain ⟨_, _, _, q⟩ := hs
    exact q.elim
theorem KnC.mk' {G : Gd} {mg : Str → Option Value} {base : Heap} {x : Str} {k c : Nat} {ps N : List Str} {name qual : Str} {params : Arguments} {body : List Stmt} {scope : Scope} {f : Addr} {mb : MS} {m : MF}
    (D : ∃ fd, FunD G.K name qual params body scope [] [] f fd) (hx : mg x = some (.ref (G.cls c))) (M : Mk G.K (G.cls c) f) (sc : FnScope N ps scope) (hm : m = mInit c ps.length N.length mb)
    (hbd : ∀ (kV doc pm : Value) (an : Option Addr) (cdv ct : Value) (us : List Value), us.length = ps.length → bindArgs (PySem.W.fnOf name qual params body scope .none kV doc pm an cdv ct) ⟨us, []⟩ = pure (ps.zip us))
    (hb : ∀ (x : Addr) (cdv : Value) (A : Around) (outer : List Env) (s : Shared) (H : Hp), Room k (A.deeper (envOfC qual scope s.heap.objs.size f cdv)) → A.guards = some [] →
      PSs (cxOf CX0 G.P G.w G.K mg base N qual scope f cdv A outer s H E0).nox body (tOfS (G.at x) mb)) : KnC G mg base x (k + 2) m := by
  obtain ⟨fd, D⟩ := D
  have b : Binds G.K fd ps [] := by
    obtain ⟨oc, od, dV, kV, doc, pm, an, cdv, ct, osl, hfd, _, _, hD, _⟩ := D.ex
    subst hfd
    rcases hD with ⟨_, rfl⟩ | ⟨e, _⟩
    · exact .all (hbd kV doc pm an cdv ct)
    · exact absurd rfl e
  refine ⟨G.cls c, hx, M.kp, fun X hG h4 h5 hr hgd pins σ H s Q us vs F θ S S' as w env fp I r st ra e q => ?_⟩
  obtain ⟨h1, h2, h3⟩ := hG
  have kin : G.K.In s.heap := h3 ▸ I.kIn
  have I2 := Inv.made (C := G.cls c) I
  have fx : H (s.heap.objs.size + 1) = none := I.hok.fresh (Nat.le_succ _)
  have fd' : H s.heap.objs.size = none := I.hok.fresh (Nat.le_refl _)
  have ne : s.heap.objs.size ≠ s.heap.objs.size + 1 := Nat.ne_of_lt (Nat.lt_succ_self _)
  rw [hm] at e
  unfold mInit at e
  split at e
  · rename_i hc
    obtain ⟨⟨fl, en, S1⟩, e1, e2⟩ := Option.bind_eq_some_iff.mp e
    have lu : us.length + 1 = ps.length := by rw [← r.length, ra.len]; exact hc.1
    have kin2 := I2.kIn
    rw [h3] at kin2
    have e0 := I2.env0.make (G.cls c) us []
    rw [h1, h2, h3, h4, h5] at e0
    have bd := b _ (Value.ref (s.heap.objs.size + 1) :: us) kin2 (by rw [List.append_nil, List.length_cons]; exact lu)
    rw [List.append_nil] at bd
    have r2 : Vals (V.ref (s.heap.objs.size + 1) :: vs) (Value.ref (s.heap.objs.size + 1) :: us) := .cons rfl r
    have hl : (V.ref (s.heap.objs.size + 1) :: vs).length = ps.length := by rw [List.length_cons, ra.len]; exact hc.1
    have st0 := st.made (c := c) (n := N.length - ps.length) ra fx fd' ne
    have eN : L2.start N (V.ref (s.heap.objs.size + 1) :: vs) = some (V.ref (s.heap.objs.size + 1)) :: (vs.map some ++ List.replicate (N.length - ps.length) none) := by
      unfold L2.start
      rw [hl]
      rfl
    rw [← eN] at st0
    cases fl with
    | nx =>
      dsimp only at e2
      split at e2
      · rename_i c' fs rest q1
        clear q1
        split at e2
        · rename_i hcc
          subst hcc
          cases e2
          refine wpAny_call (make_map (f := f) I.kIn (by rw [h3]; exact M.makes) (by rw [h3]; exact M.init) (by rw [h3]; exact beq_iff_eq.mp M.fn) (codeAny_mono (by rw [h1, h2]; exact init_run (x := s.heap.objs.size + 1) D sc (hb _) (hr.make (G.cls _) us []) hgd e0 bd r2 hl st0 e1) fun rr s' hq' => ?_))
          cases rr with
          | error e => exact hq'.elim
          | ok fl =>
            cases fl with
            | next => exact hq'.elim
            | brk => exact hq'.elim
            | cont => exact hq'.elim
            | ret u =>
              have hq2 := hq'
              dsimp only at hq2
              rw [← h1, ← h2] at hq2
              obtain ⟨v, H', I3, rv, ev, F1, θ1, σ1, fp1, t1, s1⟩ := I2.after hq2
              subst ev
              refine ⟨rv, ⟨V.ref (s.heap.objs.size + 1), H', I3, rfl, ?_⟩⟩
              obtain ⟨F', tr, s2, rr⟩ := st.madeEnd fx fd' ne t1 s1
              exact q F' θ1 H' _ [] tr s2 (Res.d rr)
        · cases e2
      · cases e2
    | ret _ => cases e2
    | brk => cases e2
    | cont => cases e2
  · cases e
end Zf
set_option Elab.async false
set_option linter.all false
set_option maxRecDepth 100000
set_option maxHeartbeats 2000000
namespace Zf
open PySem PySem.Spec PyProof.Rows L2

/-! ### a < b < c -/
def mChain (g g' : Op2) (a b c : ME) : ME := fun env S => (a env S).bind fun p => (b env p.2).bind fun q => (g q.2 p.1 q.1).bind fun z => match z with
  | .d (.bl true) => (c env q.2).bind fun r => (g' r.2 q.1 r.1).map fun w => (w, r.2)
  | .d (.bl false) => some (.d (.bl false), q.2)
  | _ => none
theorem tOf_chain {G : Gd} {r r' : R2} {g g' : Op2} {ma mb mc : ME} (s : Sim2 G r g) (s' : Sim2 G r' g') {σ : L2.St} {H : Hp} {Q : VK} (h : tOf G (mChain g g' ma mb mc) σ H Q) : tChain r r' (tOf G ma) (tOf G mb) (tOf G mc) σ H Q := by
  obtain ⟨F, θ, S, env, fp, w, S', st, e, k⟩ := h
  unfold mChain at e
  obtain ⟨⟨x, S1⟩, ea, e⟩ := Option.bind_eq_some_iff.mp e
  obtain ⟨⟨y, S2⟩, eb, e⟩ := Option.bind_eq_some_iff.mp e
  obtain ⟨z, ez, e⟩ := Option.bind_eq_some_iff.mp e
  refine ⟨F, θ, S, env, fp, x, S1, st, ea, fun F1 θ1 H1 vx fx t1 st1 rx => ?_⟩
  refine ⟨F1, θ1, S1, env, fp, y, S2, st1, eb, fun F2 θ2 H2 vy fy t2 st2 ry => ?_⟩
  have t := t1.trans t2
  refine s.run st2 (rx.mono t2) (ry.earlier t1) ez t.live fun F3 θ3 H3 v f t3 st3 rv => ?_
  split at e
  · refine ⟨true, rv.rw.dAt, ?_⟩
    obtain ⟨⟨u, S3⟩, ec, e⟩ := Option.bind_eq_some_iff.mp e
    obtain ⟨w', ew, e⟩ := Option.map_eq_some_iff.mp e
    cases e
    rw [if_pos rfl]
    refine ⟨F3, θ3, S2, env, fp, u, _, st3, ec, fun F4 θ4 H4 vu fu t4 st4 ru => ?_⟩
    have tt := t.trans t3
    exact s'.run st4 (((ry.earlier t1).mono t3).mono t4) (ru.earlier tt) ew (tt.trans t4).live fun F5 θ5 H5 v5 f5 t5 st5 rv5 => k F5 θ5 H5 v5 f5 ((tt.trans t4).trans t5) st5 rv5
  · cases e
    refine ⟨false, rv.rw.dAt, ?_⟩
    rw [if_neg (by decide)]
    exact k F3 θ3 H3 _ _ (t.trans t3) st3 (.d rfl)
  · cases e
section
variable {X : Cx} {G : Gd} {a b c : Expr} {ma mb mc : ME} {g g' : Op2} {r r' : R2} {op op' : CmpOp} {pos : Pos}
theorem z_chain (ho : OpR X (compareOp op) r) (ho' : OpR X (compareOp op') r') (s : Sim2 G r g) (s' : Sim2 G r' g') (ha : PE X a (tOf G ma)) (hb : PE X b (tOf G mb)) (hc : PE X c (tOf G mc)) (hm : lastMarks [op, op'] [b, c] = false := by with_unfolding_all rfl) :
    PE X (.Compare a [op, op'] [b, c] pos) (tOf G (mChain g g' ma mb mc)) := pe_imp (pe_chain ho ho' ha hb hc hm) fun _ _ _ h => tOf_chain s s' h
theorem z_chainT (ho : OpR X (compareOp op) r) (ho' : OpR X (compareOp op') r') (s : Sim2 G r g) (s' : Sim2 G r' g') (ha : PE X a (tOf G ma)) (hb : PE X b (tOf G mb)) (hc : PE X c (tOf G mc)) (hm : lastMarks [op, op'] [b, c] = false := by with_unfolding_all rfl) :
    PT X (.Compare a [op, op'] [b, c] pos) (tOfT G (mTst (mChain g g' ma mb mc))) := pt_imp (pt_chain ho ho' ha hb hc hm) fun _ _ _ h => tOf_chain s s' (tOfT_tst h)
/-- a <= b <= c -/
theorem z_leLe (ha : PE X a (tOf G ma)) (hb : PE X b (tOf G mb)) (hc : PE X c (tOf G mc)) (hm : lastMarks [.LtE, .LtE] [b, c] = false := by with_unfolding_all rfl) : PE X (.Compare a [.LtE, .LtE] [b, c] pos) (tOf G (mChain gLe gLe ma mb mc)) := z_chain (op_le.or op_le_str) (op_le.or op_le_str) sim_le sim_le ha hb hc hm
theorem z_leLeT (ha : PE X a (tOf G ma)) (hb : PE X b (tOf G mb)) (hc : PE X c (tOf G mc)) (hm : lastMarks [.LtE, .LtE] [b, c] = false := by with_unfolding_all rfl) : PT X (.Compare a [.LtE, .LtE] [b, c] pos) (tOfT G (mTst (mChain gLe gLe ma mb mc))) := z_chainT (op_le.or op_le_str) (op_le.or op_le_str) sim_le sim_le ha hb hc hm
end
/-! ### {k: v for .. in nothing} -/
/-- a dict comprehension that walks nothing -/
def mDcE (mi : MI) : ME := fun env S => (mi env S).bind fun p => match p.1 with
  | [] => some (.d (.dct []), p.2)
  | _ => none
theorem dcE_reads {G : Gd} {mi : MI} {g : TG} {tt : TT} {tk tv : TE} {vs : List Nat} {σ : L2.St} {H : Hp} {Q : VK} (h : tOf G (mDcE mi) σ H Q) : tDc (tOfI G mi) g tt tk tv vs σ H Q := by
  obtain ⟨F, θ, S, env, fp, w, S', s, e, k⟩ := h
  unfold mDcE at e
  obtain ⟨⟨ds, S1⟩, e1, e⟩ := Option.bind_eq_some_iff.mp e
  dsimp only at e
  split at e
  · cases e
    refine ⟨F, θ, S, env, fp, [], _, s, e1, fun F1 θ1 H1 J t1 s1 run Da hD => ?_⟩
    obtain ⟨t2, s2, n1, n2, n3⟩ := s1.new0 hD (.dK [])
    have gr := Grow.new1 s1.sub hD (.dK [])
    refine ⟨fun i m H' => i = 0 ∧ H' = upd H1 Da (.dK []), ⟨0, rfl, rfl⟩, fun i m H' hw => .inl ?_⟩
    obtain ⟨rfl, rfl⟩ := hw
    have rr := run 0 F1 (upd H1 Da (.dK [])) (.refl F1) s2.sub
    exact ⟨rr.2 rfl, k (upd F1 Da (.dK [])) θ1 _ _ [] (t1.trans (gr.tr θ1)) (s1.grow gr) (.d ⟨Da, [], rfl, .inl upd_same, rfl⟩)⟩
  · cases e
section
variable {X : Cx} {G : Gd} {kx vx tg iter : Expr} {ifs : List Expr} {scope : Scope} {own : List (Str × Nat)} {pos : Pos} {mi : MI} {t : Tg} {mt : MT} {mk mv : ME}
theorem ps_setDc {i : Nat} {y : Str} {py spos : Pos} {wi : TI} {g : TG} {tt : TT} {tk tv : TE} (hc : X.calm = true) (hN : X.N.Nodup) (hy : X.N[i]? = some y) (hyl : X.env.scope.names.lookup y = some .local)
    (hsw : swapsWith (.DictComp kx vx [⟨tg, iter, ifs, 0⟩] scope pos) (some (.Name y py)) spos.line X.env = pure true) (hi : PI X tg iter wi) (ok : BlkOk X.N X.env.scope scope own)
    (hg : ∀ (s : Shared) (H : Hp) (C : Addr) (cl : List (Str × Addr)) (fp : List Addr), PG (X.blk s H scope (compEnvC scope cl C X.env) fp) tg g) (ht : ∀ (s : Shared) (H : Hp) (C : Addr) (cl : List (Str × Addr)) (fp : List Addr), PTs (X.blk s H scope (compEnvC scope cl C X.env) fp) ifs tt)
    (hk : ∀ (s : Shared) (H : Hp) (C : Addr) (cl : List (Str × Addr)) (fp : List Addr), PE (X.blk s H scope (compEnvC scope cl C X.env) fp) kx tk)
    (he : ∀ (s : Shared) (H : Hp) (C : Addr) (cl : List (Str × Addr)) (fp : List Addr), PE (X.blk s H scope (compEnvC scope cl C X.env) fp) vx tv) (hs : ∀ x, foldedSetIterable iter X.env x = pure x := by intro _; rfl) :
    PS X (.Assign [.Name y py] (.DictComp kx vx [⟨tg, iter, ifs, 0⟩] scope pos) spos) (tAsg (tDc wi g tt tk tv (own.map (·.2))) (gName i)) := by
  refine ⟨fun pins s σ H D I h => ?_⟩
  rw [exec_Assign_Name_used _ _ _ _ hsw]
  refine wpAny_bind (wpAny_standAt (wpAny_bind ?_))
  show wpAny _ X.A (do let _ ← comprehension (.DictComp kx vx [⟨tg, iter, ifs, 0⟩] scope pos) scope X.env (firstIterPos [⟨tg, iter, ifs, 0⟩] pos) newDict false (eval iter X.env) (some (assign (.Name y py) X.env))) _ _ s
  have h : tDc wi g tt tk tv (own.map (·.2)) σ H (fun x H1 => gName i x σ H1 D.nx) := h
  refine wpAny_bind (thn (dc_core (Qf := fun _ s' => SP X pins D .next s') hc hN I hi ok hg ht hk he hs h fun L C s' m H' I' q hn f => ?_) fun _ s' hq => wpAny_pure (wpAny_pure hq))
  show wpAny _ _ (assign (.Name y py) X.env (.ref L)) _ _ _
  refine wpAny_assign_Name (store_ok2 (v := V.ref L) I' hN hy (.inl hyl) rfl (fun s2 I2 ⟨a, sb, ha⟩ => ?_) (.inr hyl))
  obtain ⟨f0, f1, f2, f3, f4, f5⟩ := f
  have haC : C ≠ a := by
    rcases ha with z | z
    · rw [z]; exact f1
    · exact fun e => f4 y a z e.symm
  refine ⟨m, hn.sameBut sb haC, fun h3 sb3 => ?_⟩
  exact ⟨_, H', I2.turned (t' := s2.toks) (fun b o hb e => (sb3.2 b hb).trans e) f0 f1 f3 f4 f5, q⟩
theorem z_dcE (hN : X.N.Nodup) (hi : PI X tg iter (tOfI G mi)) (ok : BlkOk X.N X.env.scope scope own)
    (hg : ∀ (s : Shared) (H : Hp) (C : Addr) (cl : List (Str × Addr)) (fp : List Addr), PG (X.blk s H scope (PySem.compEnvC scope cl C X.env) fp) tg (gOf G.K t))
    (ht : ∀ (s : Shared) (H : Hp) (C : Addr) (cl : List (Str × Addr)) (fp : List Addr), PTs (X.blk s H scope (PySem.compEnvC scope cl C X.env) fp) ifs (tOfT G mt))
    (hk : ∀ (s : Shared) (H : Hp) (C : Addr) (cl : List (Str × Addr)) (fp : List Addr), PE (X.blk s H scope (PySem.compEnvC scope cl C X.env) fp) kx (tOf G mk))
    (he : ∀ (s : Shared) (H : Hp) (C : Addr) (cl : List (Str × Addr)) (fp : List Addr), PE (X.blk s H scope (PySem.compEnvC scope cl C X.env) fp) vx (tOf G mv))
    (hc : X.calm = true := by rfl) (hs : ∀ x, foldedSetIterable iter X.env x = pure x := by intro _; rfl) : PE X (.DictComp kx vx [⟨tg, iter, ifs, 0⟩] scope pos) (tOf G (mDcE mi)) :=
  pe_imp (pe_dc hc hN hi ok hg ht hk he hs) fun _ _ _ h => dcE_reads h
theorem z_setDcE {i : Nat} {y : Str} {py spos : Pos} (hN : X.N.Nodup) (hy : X.N[i]? = some y) (hyl : X.env.scope.names.lookup y = some .local)
    (hsw : swapsWith (.DictComp kx vx [⟨tg, iter, ifs, 0⟩] scope pos) (some (.Name y py)) spos.line X.env = pure true) (hi : PI X tg iter (tOfI G mi)) (ok : BlkOk X.N X.env.scope scope own)
    (hg : ∀ (s : Shared) (H : Hp) (C : Addr) (cl : List (Str × Addr)) (fp : List Addr), PG (X.blk s H scope (PySem.compEnvC scope cl C X.env) fp) tg (gOf G.K t))
    (ht : ∀ (s : Shared) (H : Hp) (C : Addr) (cl : List (Str × Addr)) (fp : List Addr), PTs (X.blk s H scope (PySem.compEnvC scope cl C X.env) fp) ifs (tOfT G mt))
    (hk : ∀ (s : Shared) (H : Hp) (C : Addr) (cl : List (Str × Addr)) (fp : List Addr), PE (X.blk s H scope (PySem.compEnvC scope cl C X.env) fp) kx (tOf G mk))
    (he : ∀ (s : Shared) (H : Hp) (C : Addr) (cl : List (Str × Addr)) (fp : List Addr), PE (X.blk s H scope (PySem.compEnvC scope cl C X.env) fp) vx (tOf G mv))
    (hc : X.calm = true := by rfl) (hs : ∀ x, foldedSetIterable iter X.env x = pure x := by intro _; rfl) :
    PS X (.Assign [.Name y py] (.DictComp kx vx [⟨tg, iter, ifs, 0⟩] scope pos) spos) (tOfS G (mSet i (mDcE mi))) :=
  ps_imp (ps_setDc hc hN hy hyl hsw hi ok hg ht hk he hs) fun D σ H h => dcE_reads (tOf_set h)
end
end Zf
set_option Elab.async false
set_option linter.all false
set_option maxRecDepth 100000
set_option maxHeartbeats 4000000
namespace Ts
open PySem PySem.Spec PyProof.Rows L2
theorem free_one (i p : Nat) (h : i < 8) : SetTable.layClean.free 7 (Array.replicate 8 none) 22 i p = some i := by
  have e : ∀ i < 8, (List.range (SetTable.runEnd 7 i + 1 - i)).find? (fun k => ((Array.replicate 8 (none : Option Nat)).getD (i + k) (some 0)).isNone) = some 0 := by decide +kernel
  unfold SetTable.layClean.free
  rw [e i h]
  rfl
theorem laid_one (h : Int) (f m : Nat) (l p : Bool) : ∃ j, SetTable.laid 7 f m l p #[h] = some ({ mask := 7, place := #[j], dummies := #[], finger := f, led := l, moves := m, plain := p }, #[0]) := by
  have hi : SetTable.bits h % 8 < 8 := Nat.mod_lt _ (by decide)
  refine ⟨SetTable.bits h % 8, ?_⟩
  have e1 : SetTable.layClean 7 #[h] = some ((Array.replicate 8 none).setIfInBounds (SetTable.bits h % 8) (some 0)) := by
    unfold SetTable.layClean
    simp only [List.foldl_toArray', List.foldl_cons, List.foldl_nil, Option.bind_eq_bind, Option.bind_some, List.size_toArray, List.length_cons, List.length_nil]
    rw [show SetTable.layClean.free 7 (Array.replicate (7 + 1) none) (SetTable.turns 7) (SetTable.bits h % (7 + 1)) (SetTable.bits h) = some (SetTable.bits h % 8) from free_one _ _ hi]
    rfl
  unfold SetTable.laid
  rw [e1]
  generalize SetTable.bits h % 8 = i at hi
  have : i = 0 ∨ i = 1 ∨ i = 2 ∨ i = 3 ∨ i = 4 ∨ i = 5 ∨ i = 6 ∨ i = 7 := by omega
  rcases this with rfl | rfl | rfl | rfl | rfl | rfl | rfl | rfl <;> rfl
end Ts
set_option Elab.async false
set_option linter.all false
set_option maxRecDepth 100000
set_option maxHeartbeats 4000000
namespace Ts
open PySem PySem.Spec PyProof.Rows L2
theorem entry_set_or : entryFor table "set.__or__" = some Builtin.«frozenset.__or__» :=
  entryFor_alias (id' := "frozenset.__or__") (by kernel_rfl) rfl (by decide +kernel) (by kernel_rfl)
section
variable {P : Program} {w : World} {A : Around} {E : Value → Shared → Prop} {s : Shared}
/-- an empty set gets what another has, at most one text -/
theorem merge_one {n b : Addr} {ks : List Str} {each : Sem Unit} {Q : Unit → Shared → Prop} (hn : s.heap.get? n = some { cls := .type "set", dict := none, data := .set #[] 0 (.fresh 0 0 (!w.params.followText "set-order")) }) (tb : SetT P w s.heap b ks) (few : ks.length ≤ 1) (ne : n ≠ b)
    (q : ∀ h', SetT P w h' n ks → (∀ c o, c ≠ n → s.heap.get? c = some o → h'.get? c = some o) → Q () { s with heap := h' }) : wpAny (model P w) A (setMerge n b each) Q E s := by
  obtain ⟨⟨es, ep, t⟩, g1, g2, g3, g4, g5⟩ := tb
  have sz : es.size = ks.length := g2.sz
  have z : (n == b) = false := by simpa using ne
  unfold setMerge
  rw [z]
  refine wpAny_bind (wpAny_setState_of g1 rfl g2.fit ?_)
  dsimp only
  cases ks with
  | nil =>
    have e0 : es = #[] := Array.eq_empty_of_size_eq_zero sz
    subst e0
    exact wpAny_pure (q s.heap (fresh_set hn) fun _ _ _ h => h)
  | cons k r =>
    have r0 : r = [] := by
      cases r with
      | nil => rfl
      | cons _ _ => simp at few
    subst r0
    obtain ⟨l⟩ := es
    match l, sz with
    | [e], _ =>
      have fit0 : ∀ ld, (SetTable.fresh 0 0 ld).fits (#[] : Array (Int × Value)).size = true := fun ld => by cases ld <;> rfl
      have room : ∀ {Q' : Unit → Shared → Prop}, Q' () s → wpAny (model P w) A (setRoomFor n 1) Q' E s := fun {Q'} h => by
        unfold setRoomFor
        refine wpAny_bind (wpAny_setState_of hn rfl (fit0 _) ?_)
        exact wpAny_pure h
      rw [if_neg (fun h => by cases (show false = true from h))]
      refine wpAny_bind (room ?_)
      refine wpAny_bind (wpAny_setState_of hn rfl (fit0 _) ?_)
      dsimp only
      have gu : ∀ t', (s.heap.update n (Obj.putSet #[e] t')).get? n = some (Froz.sObj "set" (#[e], 1, t')) := fun t' => Heap.get?_update_self (Obj.putSet #[e] t') hn rfl
      have done : ∀ {t' : SetTable}, t'.fits 1 = true → Ris t'.place.toList → Led w t' → Q () { s with heap := s.heap.update n (Obj.putSet #[e] t') } := fun {t'} f1 f2 f3 => by
        refine q _ ⟨(#[e], 1, t'), gu t', ⟨g2.el, g2.mem, rfl, f1⟩, g3, f2, f3⟩ fun c o hc h => ?_
        exact ((Heap.SameBut.update s.heap n _).2 c hc).trans h
      have led0 : Led w { t with led := (!w.params.followText "set-order") && t.led } := by
        cases q1 : w.params.followText "set-order" with
        | true => exact .inl q1
        | false => exact .inr (by
            show (!false && t.led) = true
            exact (g5.resolve_left (by rw [q1]; decide)))
      unfold SetTable.road
      rw [if_neg (fun h => absurd h (by simp [SetTable.fresh, SetTable.fill]))]
      by_cases rd : (((SetTable.fresh 0 0 (!w.params.followText "set-order")).mask == t.mask && t.dummies.isEmpty) = true)
      · rw [if_pos rd]
        exact wpAny_storeSet_of hn rfl (done g2.fit g4 (led0.imp id id)) (by show 1 ≤ sizeLine; decide)
      · rw [if_neg rd]
        dsimp only
        obtain ⟨j, hj⟩ := laid_one e.1 0 0 ((!w.params.followText "set-order") && t.led) (true && t.plain)
        have em : Array.map (fun x => x.fst) (⟨[e]⟩ : Array (Int × Value)) = #[e.1] := by simp
        rw [em]
        have hj' : SetTable.laid (SetTable.fresh 0 0 (!w.params.followText "set-order")).mask (SetTable.fresh 0 0 (!w.params.followText "set-order")).finger (SetTable.fresh 0 0 (!w.params.followText "set-order")).moves ((SetTable.fresh 0 0 (!w.params.followText "set-order")).led && t.led) ((SetTable.fresh 0 0 (!w.params.followText "set-order")).plain && t.plain) #[e.1] = _ := hj
        rw [hj']
        refine wpAny_bind ?_
        wp_walk
        have ef : Array.filterMap (fun x => (⟨[e]⟩ : Array (Int × Value))[x]?) #[0] = #[e] := by simp
        rw [ef]
        exact done rfl (List.pairwise_singleton _ _) (led0.imp id id)
theorem SetT.typeIs {a : Addr} {l : List Str} (T : SetT P w s.heap a l) : s.TypeIs (.ref a) "set" := by
  obtain ⟨D, d, _⟩ := T
  exact ⟨_, d, rfl⟩
theorem call_or {a b : Addr} {ks : List Str} {Q : Value → Shared → Prop} (ta : SetT P w s.heap a []) (tb : SetT P w s.heap b ks) (few : ks.length ≤ 1)
    (q : ∀ h', SetT P w h' s.heap.objs.size ks → (∀ b o, s.heap.get? b = some o → h'.get? b = some o) → Q (.ref s.heap.objs.size) { s with heap := h' }) : wpAny (model P w) A (binaryOp .BitOr (.ref a) (.ref b)) Q E s := by
  have t1 := ta.typeIs
  have t2 := tb.typeIs
  refine wpAny_binaryOp_same t1 t2 PySem.F.fills_set_or PySem.F.slot_set_or (wpAny_call_entry PySem.F.slot_set_or t1 entry_set_or ?_ (PySem.F.args_set_or_2 _ _))
  have tb0 := tb
  obtain ⟨⟨es1, ep1, tt1⟩, d1, d2, d3, d4, d5⟩ := ta
  obtain ⟨⟨es2, ep2, tt2⟩, g1, g2, g3, g4, g5⟩ := tb
  have d1' : s.heap.get? a = some { cls := .type "set", dict := none, data := .set es1 ep1 tt1 } := d1
  have g1' : s.heap.get? b = some { cls := .type "set", dict := none, data := .set es2 ep2 tt2 } := g1
  have u1 : isSubtype (.type "set") (.type "set") = pure true := by rw [isSubtype_type]; kernel_rfl
  have la : a < s.heap.objs.size := Heap.lt_size d1
  have lb : b < s.heap.objs.size := Heap.lt_size g1
  have e1 : es1 = #[] := Array.eq_empty_of_size_eq_zero d2.sz
  clear d1 g1 t1 t2
  unfold Builtin.«frozenset.__or__»
  wp_walk
  refine wpAny_askSetting (wpAny_pure ?_)
  dsimp only
  rw [if_pos rfl]
  unfold newObj
  refine wpAny_bind (wpAny_alloc (wpAny_pure ?_))
  have new : (s.heap.push (newSet w)).get? s.heap.objs.size = some (newSet w) := Heap.get?_push_size _ rfl
  have na : (s.heap.objs.size == a) = false := by simpa using Nat.ne_of_gt la
  refine wpAny_bind (wpAny_pure ?_)
  refine wpAny_bind ?_
  unfold setMerge
  rw [na]
  refine wpAny_bind (wpAny_setState_of (Heap.get?_push_of_some _ d1') rfl d2.fit ?_)
  dsimp only
  rw [if_pos (by rw [e1]; rfl)]
  refine wpAny_pure (wpAny_pure ?_)
  by_cases ne : a = b
  · subst ne
    have ek : ks = [] := by
      rw [d1'] at g1'
      cases g1'
      have := g2.sz.symm.trans d2.sz
      exact List.eq_nil_of_length_eq_zero this
    subst ek
    rw [if_neg (by
      show ¬ (Value.ref a != Value.ref a) = true
      simp)]
    exact wpAny_pure (wpAny_pure ⟨_, rfl, (fun h => by cases h), q _ (fresh_set new) fun c o h => Heap.get?_push_of_some _ h⟩)
  · rw [if_pos (by
      show (Value.ref b != Value.ref a) = true
      simpa using Ne.symm ne)]
    refine wpAny_bind (wpAny_pure ?_)
    refine wpAny_bind (wpAny_holding ?_)
    have tb' := tb0.on (h' := s.heap.push (newSet w)) fun o z => Heap.get?_push_of_some _ z
    have g1'' : (s.heap.push (newSet w)).get? b = some { cls := .type "set", dict := none, data := .set es2 ep2 tt2 } := Heap.get?_push_of_some _ g1'
    unfold Builtin.Frozenset.updateFrom
    wp_walk
    have hf := g2.fit
    have hc : (tt2.place.size != es2.size || decide (tt2.fill > tt2.mask)) = false := by
      simp only [SetTable.fits, Bool.and_eq_true, beq_iff_eq, decide_eq_true_eq] at hf
      simp [hf.1, Nat.not_lt.mpr hf.2]
    rw [if_neg (by rw [hc]; decide)]
    refine wpAny_pure (wpAny_pure ?_)
    refine merge_one (w := w) (ks := ks) new tb' few (Nat.ne_of_gt lb) fun h' T old => ?_
    refine wpAny_pure (wpAny_pure ⟨_, rfl, (fun h => by cases h), q h' T fun c o h => old c o (Nat.ne_of_lt (Heap.lt_size h)) (Heap.get?_push_of_some _ h)⟩)
end
section
variable {X : Cx}
/-- s | t, s empty, t at most one text -/
theorem op_orS : OpR X (binaryOp .BitOr) (fun x y H Q => ∃ (a b : Addr) (ks : List Str), x = .ref a ∧ y = .ref b ∧ H a = some (SetX X.prog X.w a []) ∧ H b = some (SetX X.prog X.w b ks) ∧ ks.length ≤ 1 ∧ ∀ p, H p = none → Q (.ref p) (upd H p (SetX X.prog X.w p ks))) := by
  intro pins s σ H x y v u Q I rx ry h
  obtain ⟨a, b, ks, rfl, rfl, ha, hb, few, q⟩ := h
  cases (show v = Value.ref a from rx)
  cases (show u = Value.ref b from ry)
  exact call_or (setX_at I ha) (setX_at I hb) few fun h' T old => ⟨.ref _, _, I.laid (t' := s.toks) old (Nat.le_refl _) (setX_ok T), rfl, q _ (I.hok.fresh (Nat.le_refl _))⟩
end
end Ts
set_option Elab.async false
set_option linter.all false
set_option maxRecDepth 100000
set_option maxHeartbeats 2000000
namespace Zf
open PySem PySem.Spec PyProof.Rows L2

/-! ### s | t -/
def gOr : Op2 := fun _ x y => match x, y with
  | .d (.st []), .d (.st ks) => if ks.length ≤ 1 then some (.d (.st ks)) else none
  | _, _ => none
theorem sim_or {X : Cx} {G : Gd} (hG : Same X G) : Sim2 G (fun x y H Q => ∃ (a b : Addr) (ks : List Str), x = .ref a ∧ y = .ref b ∧ H a = some (Ts.SetX X.prog X.w a []) ∧ H b = some (Ts.SetX X.prog X.w b ks) ∧ ks.length ≤ 1 ∧ ∀ p, H p = none → Q (.ref p) (upd H p (Ts.SetX X.prog X.w p ks))) gOr := by
  obtain ⟨g1, g2, g3⟩ := hG
  refine ⟨fun {F θ H0 H S env σ fp x y vx vy fx fy z Q} st rx ry e l k => ?_⟩
  unfold gOr at e
  split at e
  · rename_i ks
    split at e
    · rename_i hc
      cases e
      obtain ⟨a, q1, q2⟩ := rx.rw.dAt
      obtain ⟨b, q3, q4⟩ := ry.rw.dAt
      rw [g1, g2]
      refine ⟨a, b, ks, q1, q3, st.sub _ _ q2, st.sub _ _ q4, hc, fun p hp => ?_⟩
      obtain ⟨t, s⟩ := st.new hp (Ts.SetX G.P G.w p ks)
      exact k _ θ _ _ [] t s (.d ⟨p, rfl, by rw [upd_same]⟩)
    · cases e
  · cases e
theorem z_orS {X : Cx} {G : Gd} {a b : Expr} {ma mb : ME} {pos : Pos} (ha : PE X a (tOf G ma)) (hb : PE X b (tOf G mb)) (hG : Same X G := by exact ⟨rfl, rfl, rfl⟩) : PE X (.BinOp a .BitOr b pos) (tOf G (mBin gOr ma mb)) := z_bin Ts.op_orS (sim_or hG) ha hb
/-! ### isinstance of an instance, built-in types asked -/
def insB (x : Str) (K : PySem.W.Frag) : Bool := He.eqO (PySem.W.findIn K (.ref (He.ga K x)) "__class__") (some (some (.builtin "object.__class__"))) && (He.eqO (PySem.W.specialIn K (.builtin "object.__class__") "__get__") (some (some (.builtin "getset_descriptor.__get__"))) &&
  (decide (PySem.W.takesIn K (.builtin "object.__class__") = some true) && (decide (PySem.W.mroIn K (He.ga K x) (.type "object") = some true) && asked.all fun T => decide (PySem.W.kitOne K (.ref (He.ga K x)) (.type T) = some false))))
/-- the classes below n are plain ones -/
structure InsOk (G : Gd) (n : Nat) : Prop where
  ok : ∀ c < n, Cls G.K (G.cls c) ∧ PySem.W.findIn G.K (.ref (G.cls c)) "__class__" = some (some (.builtin "object.__class__")) ∧ PySem.W.specialIn G.K (.builtin "object.__class__") "__get__" = some (some (.builtin "getset_descriptor.__get__")) ∧ PySem.W.takesIn G.K (.builtin "object.__class__") = some true ∧
    PySem.W.mroIn G.K (G.cls c) (.type "object") = some true ∧ ∀ T ∈ asked, PySem.W.kitOne G.K (.ref (G.cls c)) (.type T) = some false
theorem insB_ok {K : PySem.W.Frag} {x : Str} (h : insB x K = true) : PySem.W.findIn K (.ref (He.ga K x)) "__class__" = some (some (.builtin "object.__class__")) ∧ PySem.W.specialIn K (.builtin "object.__class__") "__get__" = some (some (.builtin "getset_descriptor.__get__")) ∧ PySem.W.takesIn K (.builtin "object.__class__") = some true ∧
    PySem.W.mroIn K (He.ga K x) (.type "object") = some true ∧ ∀ T ∈ asked, PySem.W.kitOne K (.ref (He.ga K x)) (.type T) = some false := by
  obtain ⟨c1, h⟩ := He.ba h
  obtain ⟨c2, h⟩ := He.ba h
  obtain ⟨c3, h⟩ := He.ba h
  obtain ⟨c4, c5⟩ := He.ba h
  exact ⟨He.eqO_ok c1, He.eqO_ok c2, of_decide_eq_true c3, of_decide_eq_true c4, fun T hT => of_decide_eq_true (List.all_eq_true.mp c5 T hT)⟩
def mIsiC (n : Nat) (T : String) (m : ME) : ME := fun env S => (m env S).bind fun p => if asked.contains T = true then match p.1 with
  | .d (.ins c _) => if c < n then some (.d (.bl false), p.2) else none
  | w => (tyD p.2 w).map fun t => (.d (.bl (isTy t T)), p.2) else none
def mIsi2C (n : Nat) (T T' : String) (m : ME) : ME := fun env S => (m env S).bind fun p => if asked.contains T = true ∧ asked.contains T' = true then match p.1 with
  | .d (.ins c _) => if c < n then some (.d (.bl false), p.2) else none
  | w => (tyD p.2 w).map fun t => (.d (.bl (isTy t T || isTy t T')), p.2) else none
theorem InsOk.ty {G : Gd} {n c : Nat} {fs : List (Str × D)} {F H : Hp} {v : V} (o : InsOk G n) (h : c < n) (r : R G F (.ins c fs) v) (sub : ∀ a u, F a = some u → H a = some u) : TyX G.K H v (.ref (G.cls c)) := by
  obtain ⟨a, dx, vs, h1, h2, _⟩ := r
  obtain ⟨q1, q2, q3, q4, q5, _⟩ := o.ok c h
  rw [h1]
  exact .base (.ins (sub _ _ h2) q1 q2 q3 q4 q5)
section
variable {X : Cx} {G : Gd} {e : Expr} {m : ME} {p p1 p2 p3 pos : Pos} {T T' : String} {x x' : Str} {kx : ExprCtx} {nc : Nat}
theorem z_isiC (o : InsOk G nc) (hg : Gl X "isinstance") (hm : X.mg "isinstance" = none) (he : PE X e (tOf G m)) (hgT : Gl X x) (hmT : X.mg x = none) (hvT : bootBuiltins x = some (.type T)) (hn : x ≠ "__name__" := by decide) (hd : (x == ("__debug__" : Str)) = false := by decide) (hK : X.K = G.K := by rfl)
    (h1 : starEach (e :: [.Name x p1]) X.env = (false, eval e X.env) :: starEach [.Name x p1] X.env := by rfl) (h2 : (backTo pos (starEach [.Name x p1] X.env)).any (·.1) = false := by rfl) : PE X (.Call (.Name "isinstance" p) [e, .Name x p1] [] pos) (tOf G (mIsiC nc T m)) := by
  refine pe_imp (pe_callB call_isi hg hm boot_isinstance (pa_cons he (pa_cons (pe_bltn hgT hmT hvT (v := .ty T) rfl hn hd) pa_nil) h1) (by decide) (by decide) h1 h2) fun σ H Q h => ?_
  rw [hK]
  obtain ⟨F, θ, S, env, fp, w, S', st, e, k⟩ := h
  unfold mIsiC at e
  obtain ⟨⟨y, S1⟩, e1, e⟩ := Option.bind_eq_some_iff.mp e
  dsimp only at e
  split at e
  · rename_i hT
    split at e
    · rename_i c fs
      split at e
      · rename_i hc
        cases e
        refine ⟨F, θ, S, env, fp, _, _, st, e1, fun F1 θ1 H1 v f t1 s1 r => ?_⟩
        exact ⟨v, .ty T, .ref (G.cls c), .type T, false, rfl, .ty T, o.ty hc r.rw.dAt s1.sub, (o.ok c hc).2.2.2.2.2 T (List.contains_iff_mem.mp hT), k F1 θ1 H1 _ _ t1 s1 (.d rfl)⟩
      · cases e
    · obtain ⟨t, e2, e3⟩ := Option.map_eq_some_iff.mp e
      cases e3
      refine ⟨F, θ, S, env, fp, y, _, st, e1, fun F1 θ1 H1 v f t1 s1 r => ?_⟩
      exact ⟨v, .ty T, .type t, .type T, _, rfl, .ty T, tyD_ok s1 r e2, kit_ty (kit_all t (tyD_mem e2) T (List.contains_iff_mem.mp hT)), k F1 θ1 H1 _ _ t1 s1 (.d rfl)⟩
  · cases e
theorem z_isi2C {n : Nat} (o : InsOk G nc) (hg : Gl X "isinstance") (hm : X.mg "isinstance" = none) (he : PE X e (tOf G m)) (hgT : Gl X x) (hmT : X.mg x = none) (hvT : bootBuiltins x = some (.type T)) (hgT' : Gl X x') (hmT' : X.mg x' = none) (hvT' : bootBuiltins x' = some (.type T'))
    (hn : x ≠ "__name__" := by decide) (hd : (x == ("__debug__" : Str)) = false := by decide) (hn' : x' ≠ "__name__" := by decide) (hd' : (x' == ("__debug__" : Str)) = false := by decide) (hK : X.K = G.K := by rfl)
    (h1 : starEach (e :: [.Tuple [.Name x p1, .Name x' p2] n p3]) X.env = (false, eval e X.env) :: starEach [.Tuple [.Name x p1, .Name x' p2] n p3] X.env := by rfl) (h2 : (backTo pos (starEach [.Tuple [.Name x p1, .Name x' p2] n p3] X.env)).any (·.1) = false := by rfl) :
    PE X (.Call (.Name "isinstance" p) [e, .Tuple [.Name x p1, .Name x' p2] n p3] [] pos) (tOf G (mIsi2C nc T T' m)) := by
  refine pe_imp (pe_callB call_isiT hg hm boot_isinstance (pa_cons he (pa_cons (pe_tup (pa_cons (pe_bltn hgT hmT hvT (v := .ty T) rfl hn hd) (pa_cons (pe_bltn hgT' hmT' hvT' (v := .ty T') rfl hn' hd') pa_nil))) pa_nil) h1) (by decide) (by decide) h1 h2) fun σ H Q h => ?_
  rw [hK]
  obtain ⟨F, θ, S, env, fp, w, S', st, e, k⟩ := h
  unfold mIsi2C at e
  obtain ⟨⟨y, S1⟩, e1, e⟩ := Option.bind_eq_some_iff.mp e
  dsimp only at e
  split at e
  · rename_i hT
    split at e
    · rename_i c fs
      split at e
      · rename_i hc
        cases e
        refine ⟨F, θ, S, env, fp, _, _, st, e1, fun F1 θ1 H1 v f t1 s1 r => ?_⟩
        refine ⟨by show 2 ≤ sizeLine; decide, fun q hq => ?_⟩
        obtain ⟨t2, s2⟩ := s1.new hq (.tup [.ty T, .ty T'])
        have r2 := r.mono t2
        refine ⟨v, q, [.ty T, .ty T'], .ref (G.cls c), [.type T, .type T'], false, rfl, upd_same, .cons (.ty T) (.cons (.ty T') .nil), o.ty hc r2.rw.dAt s2.sub, ?_, k _ _ _ _ _ (t1.trans t2) s2 (.d rfl)⟩
        refine kitAny_cons ((o.ok c hc).2.2.2.2.2 T (List.contains_iff_mem.mp hT.1)) (fun hb => ?_) (fun hb => by cases hb)
        exact kitAny_cons ((o.ok c hc).2.2.2.2.2 T' (List.contains_iff_mem.mp hT.2)) (fun hb' => kitAny_nil) (fun hb' => by cases hb')
      · cases e
    · obtain ⟨t, e2, e3⟩ := Option.map_eq_some_iff.mp e
      cases e3
      refine ⟨F, θ, S, env, fp, y, _, st, e1, fun F1 θ1 H1 v f t1 s1 r => ?_⟩
      refine ⟨by show 2 ≤ sizeLine; decide, fun q hq => ?_⟩
      obtain ⟨t2, s2⟩ := s1.new hq (.tup [.ty T, .ty T'])
      have r2 := r.mono t2
      refine ⟨v, q, [.ty T, .ty T'], .type t, [.type T, .type T'], isTy t T || isTy t T', rfl, upd_same, .cons (.ty T) (.cons (.ty T') .nil), tyD_ok s2 r2 e2, ?_, k _ _ _ _ _ (t1.trans t2) s2 (.d rfl)⟩
      refine kitAny_cons (kit_ty (kit_all t (tyD_mem e2) T (List.contains_iff_mem.mp hT.1))) (fun hb => ?_) (fun hb => by rw [hb]; rfl)
      refine kitAny_cons (kit_ty (kit_all t (tyD_mem e2) T' (List.contains_iff_mem.mp hT.2))) (fun hb' => ?_) (fun hb' => by rw [hb, hb']; rfl)
      rw [hb, hb']
      exact kitAny_nil
  · cases e
end
theorem sw_trueD {k v : Expr} {gs : List Comprehension} {scope : Scope} {pos py : Pos} {y : Str} {l : Nat} {env : Env} (hk : env.scope.kind = .function) (hy : env.scope.names.lookup y = some .local) (hl : (py.line == pos.line) = true)
    (ha : (scope.names.any fun (n, k) => n == y && (k == .local || k == .cell)) = false) : swapsWith (.DictComp k v gs scope pos) (some (.Name y py)) l env = pure true := by
  have ky : env.kindOf y = some .local := hy
  have hb : env.blockKind = .function := by unfold Env.blockKind; rw [hk]; rfl
  unfold swapsWith
  simp only [hb, ky, ha, Expr.pos, hl]
  rfl
theorem Hd.at {fa : List He.Fa} {fn : List He.DefD} {ts : List He.Tab} {eb : List (PySem.W.Frag → Bool)} {G : Gd} {mg : Str → Option Value} {base : Heap} (h : Hd fa fn ts eb G mg base) (y : Addr) : Hd fa fn ts eb (G.at y) mg base := ⟨h.kin, h.ns, h.z, h.sys⟩
/-! ### walks over a text too -/
def signs (x : Str) : List D := x.cps.toList.map fun c => .str ⟨#[c]⟩
def mIStr (m : ME) : MI := fun env S => (m env S).bind fun p => match p.1 with
  | .d (.str x) => some (signs x, p.2)
  | _ => none
def mISeqS (m : ME) : MI := fun env S => (mISeq m env S).or (mIStr m env S)
theorem zi_str {X : Cx} {G : Gd} {tg l : Expr} {m : ME} (h : PE X l (tOf G m)) : PI X tg l (tOfI G (mIStr m)) := by
  refine pi_imp (pi_str h) fun σ H Rr q => ?_
  obtain ⟨F, θ, S, env, fp, ds, S', s, e, k⟩ := q
  unfold mIStr at e
  obtain ⟨⟨w, S1⟩, e1, e⟩ := Option.bind_eq_some_iff.mp e
  dsimp only at e
  split at e
  · rename_i x
    cases e
    refine ⟨F, θ, S, env, fp, _, _, s, e1, fun F1 θ1 H1 v f t1 s1 r => ?_⟩
    refine ⟨x, r.rw.dAt, k F1 θ1 H1 _ t1 s1 fun i F2 H2 le sub => ⟨fun d hd => ?_, fun hi => ?_⟩⟩
    · unfold signs at hd
      rw [List.getElem?_map] at hd
      obtain ⟨c, e2, e3⟩ := Option.map_eq_some_iff.mp hd
      rw [Array.getElem?_toList] at e2
      refine ⟨(Array.getElem?_eq_some_iff.mp e2).1, fun y H3 z => ?_⟩
      obtain ⟨rfl, c', e4, e5⟩ := z
      rw [e2] at e4
      cases e4
      exact ⟨F2, .refl sub, by rw [← e3, e5]; rfl⟩
    · show x.cps.size ≤ i
      unfold signs at hi
      rw [List.length_map, Array.length_toList] at hi
      omega
  · cases e
theorem zi_seqS {X : Cx} {G : Gd} {tg l : Expr} {m : ME} (h : PE X l (tOf G m)) (hK : X.K = G.K := by rfl) : PI X tg l (tOfI G (mISeqS m)) := by
  refine pi_imp (pi_or (zi_seq h hK) (zi_str h)) fun σ H Rr q => ?_
  obtain ⟨F, θ, S, env, fp, ds, S', s, e, k⟩ := q
  unfold mISeqS at e
  cases z : mISeq m env S with
  | some r =>
    rw [z] at e
    have e' : r = (ds, S') := by simpa using e
    exact .inl ⟨F, θ, S, env, fp, ds, S', s, by rw [z, e'], k⟩
  | none =>
    rw [z] at e
    exact .inr ⟨F, θ, S, env, fp, ds, S', s, by simpa using e, k⟩
end Zf
set_option Elab.async false
set_option linter.all false
set_option maxRecDepth 100000
set_option maxHeartbeats 4000000
namespace Zf
open PySem PySem.Spec PyProof.Rows L2
/-! ### tuple * int, many times (the library's rule stops at 1000) -/
def rRepM (K : PySem.W.Frag) : R2 := fun x y H Q => ∃ l k xs, x = .ref l ∧ y = .int k ∧ SqT K H l xs ∧ (0 < xs.length ∧ xs.length ≤ 10 ∧ 1 < k ∧ k ≤ 100000) ∧ ∀ p, H p = none → Q (.ref p) (upd H p (.tup (List.replicate k.toNat xs).flatten))
theorem op_repM {X : Cx} : OpR X (binaryOp .Mult) (rRepM X.K) := fun pins s σ H x y v u Q I rx ry h => by
  obtain ⟨l, k, xs, rfl, rfl, hT, ⟨z1, z2, z3, z4⟩, q⟩ := h
  obtain rfl : v = Value.ref l := rx
  obtain ⟨t, rfl⟩ := ry
  obtain ⟨its, r, ⟨o, ho, hc, n, hd⟩, _⟩ := I.tuple hT
  obtain ⟨oc, dd, od, sl⟩ := o
  obtain rfl : oc = .type "tuple" := hc
  obtain rfl : od = .seq its.toArray n := hd
  have len : its.length = xs.length := r.length.symm
  have ty : s.TypeIs (.ref l) "tuple" := ⟨_, ho, rfl⟩
  have isz : its.toArray.size = its.length := List.size_toArray ..
  have emp : its.toArray.isEmpty = false := by
    cases its with
    | nil => rw [← len] at z1; cases z1
    | cons _ _ => rfl
  have total : ∀ m : List Value, m.length ≤ 10 → (List.replicate k.toNat m).flatten.length ≤ sizeLine := fun m hm => by
    rw [PyProof.Rows.lm_len_rep_flat, sizeLine_eq]
    have : k.toNat * m.length ≤ 100000 * 10 := Nat.mul_le_mul (by omega) hm
    omega
  have prod : ((its.toArray.size : Nat) : Int) * k ≤ 1000000 := by
    have : ((its.length : Nat) : Int) * k ≤ 10 * k := Int.mul_le_mul_of_nonneg_right (by omega) (by omega)
    rw [isz]
    omega
  have m1 : (decide (k < -(2 ^ 63)) || decide (k ≥ 2 ^ 63)) = false := by simp; omega
  have m2 : (its.toArray.isEmpty || k == 1) = false := by simp [emp]; omega
  have m3 : (decide (k ≤ 0) || its.toArray.isEmpty) = false := by simp [emp]; omega
  have m4 : Builtin.Tuple.tupleTooMany (((its.toArray.size : Nat) : Int) * k) = false := by
    unfold Builtin.Tuple.tupleTooMany
    rw [sizeLine_eq]
    exact decide_eq_false (by omega)
  have m5 := L2.size_rep its k.toNat
  have meets := (L2.tuple_mulW l its.toArray n dd sl k t m1 m2 m3 (by omega) m4 (by rw [m5, List.size_toArray]; exact total its (by omega)))
  refine wpAny_binaryOp_repeat_ref (T := "tuple") (U := "int") (by decide) ty (fun s' => typeIs_int s' k t) L2.noFill_tuple_mul F.fills_int_mul F.slot_int_rmul L2.repeat_tuple F.slot_int_index.lookup
    (call_meets F.slot_int_rmul (typeIs_int s k t) F.entry_int_rmul (F.args_int_rmul_2 _ _) (L2.int_rmul_tuple k t l its.toArray n dd sl) ⟨ho, rfl, ty, call_meets PySem.F.slot_tuple_mul ty PySem.F.entry_tuple_mul (PySem.F.args_tuple_mul_2 _ _) meets ⟨ho, ?_⟩⟩)
  rw [m5]
  have big : (List.replicate k.toNat xs).flatten.length ≤ sizeLine := by
    rw [PyProof.Rows.lm_len_rep_flat, ← len, ← PyProof.Rows.lm_len_rep_flat]
    exact total its (by omega)
  refine ⟨.ref s.heap.objs.size, _, I.laid (t' := s.toks) (o := .tup (List.replicate k.toNat xs).flatten) (fun b ob e => Heap.get?_push_of_some _ e) (Nat.le_refl _) ?_, rfl, q _ (I.hok.fresh (Nat.le_refl _))⟩
  exact ⟨big, _, r.rep k.toNat, IsTup.new _ _⟩
def gRepT : Op2 := fun _ x y => match x, y with
  | .d (.tup xs), .d (.int k) => if 0 < xs.length ∧ xs.length ≤ 10 ∧ 1 < k ∧ k ≤ 100000 then some (.d (.tup (List.replicate k.toNat xs).flatten)) else none
  | _, _ => none
theorem sim_repT {G : Gd} : Sim2 G (rRepM G.K) gRepT := by
  refine ⟨fun {F θ H0 H S env σ fp x y vx vy fx fy z Q} st rx ry e l k => ?_⟩
  unfold gRepT at e
  split at e
  · rename_i xs n
    split at e
    · rename_i h
      cases e
      obtain ⟨a, vs, h1, h2, h3⟩ := rx.rw.dAt
      refine ⟨a, n, vs, h1, ry.rw.dAt, sub_sqT st.sub h2, by rw [h3.len]; exact h, fun p hp => ?_⟩
      obtain ⟨t, s⟩ := st.new hp (.tup (List.replicate n.toNat vs).flatten)
      exact k _ _ _ _ _ t s (.newT (Rs.mono t.le _ _ (h3.rep _)))
    · cases e
  · cases e
def gMulT : Op2 := fun S x y => (gMul S x y).or (gRepT S x y)
theorem z_mulT {X : Cx} {G : Gd} {a b : Expr} {ma mb : ME} {pos : Pos} (ha : PE X a (tOf G ma)) (hb : PE X b (tOf G mb)) (hK : X.K = G.K := by rfl) : PE X (.BinOp a .Mult b pos) (tOf G (mBin gMulT ma mb)) :=
  z_bin ((op_mul.or op_rep).or op_repM) (((sim_int (g := fun i j => .int (i * j)) (fun _ _ h => cMul_ok h) fun _ _ => trivial).or sim_repL).or (by rw [hK]; exact sim_repT)) ha hb
end Zf
set_option Elab.async false
set_option linter.all false
set_option maxRecDepth 100000
set_option maxHeartbeats 2000000
namespace Zf
open PySem PySem.Spec PyProof.Rows L2
/-! ### repr of plain values too -/
def rReprS : List V → Hp → VK → Prop := fun xs H Q => (xs = [.non] ∧ Q (.str "None") H) ∨ (∃ b, xs = [.bl b] ∧ Q (.str (if b then "True" else "False")) H) ∨ (∃ i, xs = [.int i] ∧ i.natAbs.log2 < 1920 ∧ Q (.str (toString i)) H) ∨ ∃ x, xs = [.str x] ∧ (reprText x).length ≤ sizeLine ∧ Q (.str (reprText x)) H
theorem cr_reprS {X : Cx} : CallR X (.builtin "repr") rReprS := by
  intro pins s σ H xs us Q I r h
  rcases h with ⟨rfl, q⟩ | ⟨b, rfl, q⟩ | ⟨i, rfl, hz, q⟩ | ⟨x, rfl, hz, q⟩
  · obtain ⟨u, rfl, e⟩ := vals1 r
    obtain rfl : u = Value.none := e
    exact PySem.P.repr_of_none ⟨.str _, H, I.tok _, ⟨_, rfl⟩, q⟩
  · obtain ⟨u, rfl, e⟩ := vals1 r
    obtain rfl : u = Value.bool b := e
    exact PySem.P.repr_of_bool ⟨.str _, H, I.tok _, ⟨_, rfl⟩, q⟩
  · obtain ⟨u, rfl, t, rfl⟩ := vals1 r
    exact PySem.P.repr_of_int hz ⟨.str _, H, I.tok _, ⟨_, rfl⟩, q⟩
  · obtain ⟨u, rfl, t, rfl⟩ := vals1 r
    exact PySem.P.repr_of_str (h := ⟨.str _, H, I.tok _, ⟨_, rfl⟩, q⟩) (hsz := hz)
def gReprS (_ : Store) (w : W) : Option W := match w with
  | .d .non => some (.d (.str "None"))
  | .d (.bl b) => some (.d (.str (if b then "True" else "False")))
  | .d (.int i) => if i.natAbs.log2 < 1920 then some (.d (.str (toString i))) else none
  | .d (.str x) => if (reprText x).length ≤ cap then some (.d (.str (reprText x))) else none
  | _ => none
theorem sim_reprS {G : Gd} : SimC G rReprS (g1 gReprS) := by
  refine ⟨fun {F θ H0 H S env σ fp ws vs z Q} st rx e l k => ?_⟩
  unfold g1 at e
  split at e
  · rename_i w
    obtain ⟨v, r', f, h1, h2, h3⟩ := rx
    have h3' : r' = [] := h3
    rw [h3'] at h1
    unfold gReprS at e
    split at e
    · cases e
      exact .inl ⟨by rw [h1, show v = V.non from h2.rw.dAt], k F θ H _ _ (.refl ..) st (.d rfl)⟩
    · rename_i b
      cases e
      exact .inr (.inl ⟨b, by rw [h1, show v = V.bl b from h2.rw.dAt], k F θ H _ _ (.refl ..) st (.d rfl)⟩)
    · rename_i i
      split at e
      · rename_i hz
        cases e
        exact .inr (.inr (.inl ⟨i, by rw [h1, show v = V.int i from h2.rw.dAt], hz, k F θ H _ _ (.refl ..) st (.d rfl)⟩))
      · cases e
    · rename_i x
      split at e
      · rename_i hz
        cases e
        exact .inr (.inr (.inr ⟨x, by rw [h1, show v = V.str x from h2.rw.dAt], cap_ok hz, k F θ H _ _ (.refl ..) st (.d rfl)⟩))
      · cases e
    · cases e
  · cases e
def gReprA (S : Store) (w : W) : Option W := (gRepr S w).or (gReprS S w)
theorem sim_reprA {X : Cx} {G : Gd} (hK : X.K = G.K) (sys : SysK G.K) : SimC G (fun vs H Q => rRepr X vs H Q ∨ rReprS vs H Q) (g1 gReprA) := by
  refine ⟨fun {F θ H0 H S env σ fp ws vs z Q} st rx e l k => ?_⟩
  unfold g1 at e
  split at e
  · rename_i w
    unfold gReprA at e
    cases q : gRepr S w with
    | some y =>
      have e' : y = z := by simpa [q] using e
      exact .inl ((sim_repr hK sys).run st rx (by unfold g1; dsimp only; rw [q, e']) l k)
    | none =>
      have e' : gReprS S w = some z := by simpa [q] using e
      exact .inr (sim_reprS.run st rx (by unfold g1; dsimp only; exact e') l k)
  · cases e
theorem z_reprA {X : Cx} {G : Gd} {e : Expr} {ms : MA} {p pos : Pos} {k : Nat} (hr : Room k X.A) (hgd : X.A.guards = some []) (sys : SysK G.K) (hg : Gl X "repr") (hm : X.mg "repr" = none) (ha : PA X [e] (tOfA G ms)) (he : starEach [e] X.env = (false, eval e X.env) :: starEach [] X.env := by rfl) (hpl : (backTo pos (starEach [] X.env)).any (·.1) = false := by rfl) (hK : X.K = G.K := by rfl) :
    PE X (.Call (.Name "repr" p) [e] [] pos) (tOf G (mCB (g1 gReprA) ms)) :=
  z_cb (callR_or (cr_repr hr hgd) cr_reprS) (sim_reprA hK sys) hg hm (by decide +kernel) ha (by decide) (by decide) he hpl
end Zf
set_option Elab.async false
set_option linter.all false
set_option maxRecDepth 100000
set_option maxHeartbeats 2000000
namespace Zf
open PySem PySem.Spec PyProof.Rows L2
/-! ### == of two lists of different lengths -/
def rEqLen (K : PySem.W.Frag) : R2 := fun x y H Q => ∃ a b xs ys, x = .ref a ∧ y = .ref b ∧ SqL K H a xs ∧ SqL K H b ys ∧ xs.length ≠ ys.length ∧ Q (.bl false) H
theorem op_eqLen {X : Cx} {k : Nat} (hr : Room k X.A) : OpR X (compareOp .Eq) (rEqLen X.K) := by
  intro pins s σ H x y v u Q I rx ry h
  obtain ⟨a, b, xs, ys, rfl, rfl, ha, hb, ne, q⟩ := h
  obtain rfl : v = Value.ref a := rx
  obtain rfl : u = Value.ref b := ry
  obtain ⟨i1, r1, l1, _⟩ := I.list ha
  obtain ⟨i2, r2, l2, _⟩ := I.list hb
  have n1 := r1.length
  have n2 := r2.length
  exact (SeqAt.RcAt.lists_lengths l1.isList l2.isList (by simpa using (show i1.length ≠ i2.length by omega)) (by have := hr.un; omega)) X.prog X.w X.xe _ ⟨.bl false, H, I, rfl, q⟩
def gEqLen : Op2 := fun S x y => (vL S x).bind fun xs => (vL S y).bind fun ys => if xs.length = ys.length then none else some (.d (.bl false))
theorem sim_eqLen {G : Gd} : Sim2 G (rEqLen G.K) gEqLen := by
  refine ⟨fun {F θ H0 H S env σ fp x y vx vy fx fy z Q} st rx ry e l k => ?_⟩
  unfold gEqLen at e
  obtain ⟨xs, e1, e⟩ := Option.bind_eq_some_iff.mp e
  obtain ⟨ys, e2, e⟩ := Option.bind_eq_some_iff.mp e
  split at e
  · cases e
  · rename_i hn
    cases e
    obtain ⟨a, vs, f1, h1, h2, h3, _⟩ := vL_ok st rx e1
    obtain ⟨b, us, f2, h4, h5, h6, _⟩ := vL_ok st ry e2
    exact ⟨a, b, vs, us, h1, h4, SqL.of h2, SqL.of h5, by rw [h3.len, h6.len]; exact hn, k F θ H _ _ (.refl ..) st (.d rfl)⟩
def gEqA : Op2 := fun S x y => (gEq S x y).or (gEqLen S x y)
section
variable {X : Cx} {G : Gd} {a b : Expr} {ma mb : ME} {pos : Pos} {k : Nat}
theorem z_eqA (hr : Room k X.A) (ha : PE X a (tOf G ma)) (hb : PE X b (tOf G mb)) (hK : X.K = G.K := by rfl) : PE X (.Compare a [.Eq] [b] pos) (tOf G (mBin gEqA ma mb)) :=
  z_cmp ((op_eq.or (op_eqD hr.units)).or (op_eqLen hr)) ((sim_eqS.or (by rw [hK]; exact sim_eqP)).or (by rw [hK]; exact sim_eqLen)) ha hb (nomark _)
theorem z_eqAT (hr : Room k X.A) (ha : PE X a (tOf G ma)) (hb : PE X b (tOf G mb)) (hK : X.K = G.K := by rfl) : PT X (.Compare a [.Eq] [b] pos) (tOfT G (mTst (mBin gEqA ma mb))) :=
  z_cmpT ((op_eq.or (op_eqD hr.units)).or (op_eqLen hr)) ((sim_eqS.or (by rw [hK]; exact sim_eqP)).or (by rw [hK]; exact sim_eqLen)) ha hb (nomark _)
end
end Zf
set_option Elab.async false
set_option linter.all false
set_option maxRecDepth 100000
set_option maxHeartbeats 4000000
namespace L11
open PySem PySem.Spec PyProof.Rows L2 Zf
def top (i : Nat) : Stmt := PySem.Challenge.pw_cutoutpieces_k11_words_of_any_value.main.body.getD i (.Pass ⟨0, 0, 0, 0⟩)
def inCls (s : Stmt) (i : Nat) : Stmt := match s with
  | .ClassDef _ _ _ b _ _ _ _ _ _ _ => b.getD i (.Pass ⟨0, 0, 0, 0⟩)
  | _ => .Pass ⟨0, 0, 0, 0⟩
def clsOf (K : PySem.W.Frag) : Nat → Addr
  | 0 => He.ga K "Body"
  | _ => 0
/-! ### the text's defs and facts -/
def fn : List He.DefD := [⟨("is_integer", none), "is_integer", "is_integer", defArgs (top 7), defBody (top 7), defScope (top 7), [], []⟩,
  ⟨("is_name", none), "is_name", "is_name", defArgs (top 8), defBody (top 8), defScope (top 8), [], []⟩,
  ⟨("is_use", none), "is_use", "is_use", defArgs (top 9), defBody (top 9), defScope (top 9), [], []⟩,
  ⟨("is_way", none), "is_way", "is_way", defArgs (top 10), defBody (top 10), defScope (top 10), [], []⟩,
  ⟨("is_handing", none), "is_handing", "is_handing", defArgs (top 11), defBody (top 11), defScope (top 11), [], []⟩,
  ⟨("are_names", none), "are_names", "are_names", defArgs (top 12), defBody (top 12), defScope (top 12), [], []⟩,
  ⟨("is_address", none), "is_address", "is_address", defArgs (top 13), defBody (top 13), defScope (top 13), [], []⟩,
  ⟨("are_rows", none), "are_rows", "are_rows", defArgs (top 30), defBody (top 30), defScope (top 30), [], []⟩,
  ⟨("is_row", none), "is_row", "is_row", defArgs (top 29), defBody (top 29), defScope (top 29), [], []⟩,
  ⟨("ahead_of_lists", none), "ahead_of_lists", "ahead_of_lists", defArgs (top 31), defBody (top 31), defScope (top 31), [], []⟩,
  ⟨("own_lists", none), "own_lists", "own_lists", defArgs (top 32), defBody (top 32), defScope (top 32), [], []⟩,
  ⟨("frozen", none), "frozen", "frozen", defArgs (top 34), defBody (top 34), defScope (top 34), [], []⟩,
  ⟨("with_lists", none), "with_lists", "with_lists", defArgs (top 33), defBody (top 33), defScope (top 33), [], []⟩,
  ⟨("reads", none), "reads", "reads", defArgs (top 35), defBody (top 35), defScope (top 35), [], []⟩,
  ⟨("sets", none), "sets", "sets", defArgs (top 36), defBody (top 36), defScope (top 36), [], []⟩,
  ⟨("every_row", none), "every_row", "every_row", defArgs (top 37), defBody (top 37), defScope (top 37), [], []⟩,
  ⟨("names_in", none), "names_in", "names_in", defArgs (top 38), defBody (top 38), defScope (top 38), [], []⟩,
  ⟨("marks_in", none), "marks_in", "marks_in", defArgs (top 39), defBody (top 39), defScope (top 39), [], []⟩,
  ⟨("count", none), "count", "count", defArgs (top 40), defBody (top 40), defScope (top 40), [], []⟩,
  ⟨("depth", none), "depth", "depth", defArgs (top 41), defBody (top 41), defScope (top 41), [], []⟩,
  ⟨("are_given", none), "are_given", "are_given", defArgs (top 48), defBody (top 48), defScope (top 48), [], []⟩,
  ⟨("rows_with_places", none), "rows_with_places", "rows_with_places", defArgs (top 49), defBody (top 49), defScope (top 49), [], []⟩,
  ⟨("check_ends", none), "check_ends", "check_ends", defArgs (top 50), defBody (top 50), defScope (top 50), [], []⟩,
  ⟨("check_loops", none), "check_loops", "check_loops", defArgs (top 51), defBody (top 51), defScope (top 51), [], []⟩,
  ⟨("check_marks", none), "check_marks", "check_marks", defArgs (top 52), defBody (top 52), defScope (top 52), [], []⟩,
  ⟨("Body", some "__init__"), "__init__", "Body.__init__", defArgs (inCls (top 54) 0), defBody (inCls (top 54) 0), defScope (inCls (top 54) 0), [], []⟩,
  ⟨("_law_bag", none), "_law_bag", "_law_bag", defArgs (top 56), defBody (top 56), defScope (top 56), [], []⟩,
  ⟨("_law_take", none), "_law_take", "_law_take", defArgs (top 57), defBody (top 57), defScope (top 57), [], []⟩,
  ⟨("_law_alike", none), "_law_alike", "_law_alike", defArgs (top 58), defBody (top 58), defScope (top 58), [], []⟩,
  ⟨("_law_names", none), "_law_names", "_law_names", defArgs (top 59), defBody (top 59), defScope (top 59), [], []⟩,
  ⟨("_law_is_word", none), "_law_is_word", "_law_is_word", defArgs (top 60), defBody (top 60), defScope (top 60), [], []⟩,
  ⟨("_law_text", none), "_law_text", "_law_text", defArgs (top 61), defBody (top 61), defScope (top 61), [], []⟩,
  ⟨("_law_thing", none), "_law_thing", "_law_thing", defArgs (top 62), defBody (top 62), defScope (top 62), [], []⟩,
  ⟨("_law_address", none), "_law_address", "_law_address", defArgs (top 63), defBody (top 63), defScope (top 63), [], []⟩,
  ⟨("_law_is_int", none), "_law_is_int", "_law_is_int", defArgs (top 64), defBody (top 64), defScope (top 64), [], []⟩,
  ⟨("_law_right", none), "_law_right", "_law_right", defArgs (top 65), defBody (top 65), defScope (top 65), [], []⟩,
  ⟨("law", none), "law", "law", defArgs (top 66), defBody (top 66), defScope (top 66), [], []⟩]
def fa : List He.Fa := [.free "abs", .free "all", .free "bool", .free "dict", .free "enumerate", .free "int", .free "isinstance", .free "len", .free "list", .free "max", .free "range", .free "repr", .free "set", .free "sorted", .free "str", .free "tuple", .free "zip", .glo "_wall", .glo "is_integer", .glo "is_name", .glo "is_use", .glo "is_way", .glo "is_handing", .glo "are_names", .glo "is_address", .glo "is_row", .glo "are_rows", .glo "ahead_of_lists", .glo "own_lists", .glo "with_lists", .glo "frozen", .glo "reads", .glo "sets", .glo "every_row", .glo "names_in", .glo "marks_in", .glo "count", .glo "depth", .glo "are_given", .glo "rows_with_places", .glo "check_ends", .glo "check_loops", .glo "check_marks", .glo "edited", .glo "Body", .glo "_law_bag", .glo "_law_take", .glo "_law_alike", .glo "_law_names", .glo "_law_is_word", .glo "_law_text", .glo "_law_thing", .glo "_law_address", .glo "_law_is_int", .glo "_law_right", .glo "law", .cls "Body", .mkr "Body", .int "LONGEST" 8, .str "LETTERS" "abcdefghijklmnopqrstuvwxyz", .glo "USES", .glo "WAYS", .glo "HANDINGS", .glo "MANY_LISTS", .glo "MARKED", .int "MOST_ARGS" 3, .int "MOST_GIVEN" 4, .glo "ENDERS", .int "MOST_ROWS" 100, .int "MOST_DEEP" 10, .int "MOST_NAMES" 8, .noat "Body" "held_rows", .noat "Body" "held_given", .noat "Body" "held_places"]
def t_MANY_LISTS : He.Tab := (fun K => He.ga K "MANY_LISTS", ["if", "loop", "guard", "last"])
def ts : List He.Tab := [t_MANY_LISTS]
def eb : List (PySem.W.Frag → Bool) := [sysB, insB "Body", fun K => He.tupB K "USES" ((["look", "put"] : List Str).map He.Dv.str), fun K => He.tupB K "WAYS" ((["again", "answer", "end", "fail", "leave", "shut"] : List Str).map He.Dv.str), fun K => He.tupB K "HANDINGS" ((["none", "value", "state"] : List Str).map He.Dv.str), fun K => He.tupB K "MARKED" ((["do", "yield", "strike", "catch", "if", "loop", "answer"] : List Str).map He.Dv.str), fun K => He.tupB K "ENDERS" ((["leave", "again", "answer"] : List Str).map He.Dv.str)]
theorem clse0 {G : Gd} (hcl : G.cls = clsOf G.K) : G.cls 0 = He.ga G.K "Body" := by rw [hcl]; rfl
theorem cls0 {G : Gd} {mg : Str → Option Value} {base : Heap} (h : Hd fa fn ts eb G mg base) (hcl : G.cls = clsOf G.K) : Cls G.K (G.cls 0) := by rw [clse0 hcl]; exact He.cls_ok (h.says.fact 56)
theorem insO {G : Gd} {mg : Str → Option Value} {base : Heap} (h : Hd fa fn ts eb G mg base) (hcl : G.cls = clsOf G.K) : InsOk G 1 := ⟨fun c hc => match c, hc with
  | 0, _ => ⟨cls0 h hcl, by rw [clse0 hcl]; exact insB_ok (h.z.ex 1)⟩⟩
abbrev s_is_integer : Stmt := top 7
def m_is_integer : MF := mFn 1 1
    (mRet (mAndV (mIsiC 1 "int" (mVar 0)) (mNotV (mIsiC 1 "bool" (mVar 0)))))
theorem sc_is_integer : FnScope ["thing"] ["thing"] (defScope s_is_integer) := ⟨rfl, rfl, rfl, by decide +kernel, rfl, by decide +kernel, by decide +kernel⟩
theorem kn_is_integer {G : Gd} {mg : Str → Option Value} {base : Heap} (h : Hd fa fn ts eb G mg base) (hcl : G.cls = clsOf G.K)  : Kn G mg base "is_integer" 1 ["thing"] m_is_integer :=
  Kn.mk' (k := 0) (h.says.def_ 0 rfl) (h.glo 18) sc_is_integer rfl (fun _ _ _ _ _ _ us hl => match us, hl with | [_], _ => rfl) fun cdv A outer s H hr hgd =>
    (zs_one (z_ret (z_andV (z_isiC (T := "int") (insO h hcl) rfl (h.free 6) (z_var 0) rfl (h.free 5) (by decide +kernel)) (z_one (z_notV (z_isiC (T := "bool") (insO h hcl) rfl (h.free 6) (z_var 0) rfl (h.free 2) (by decide +kernel)))))))
abbrev s_is_name : Stmt := top 8
def m_is_name : MF := mFn 1 2
    (mSeq (mIfS (mOrT (mNotT (mTst (mIsiC 1 "str" (mVar 0)))) (mNotT (mTst (mChain gLe gLe (mD (.int 1)) (mCB (g1 gLen) (mCons (mVar 0) mNil)) (mD (.int 8)))))) (mRet (mD (.bl false))) mNext)
    (mRet (mCB (g1 gAllB) (mCons (mLc (mISeqS (mVar 0)) (.nm 1) mYes (mBin gInA (mVar 1) (mD (.str "abcdefghijklmnopqrstuvwxyz"))) (([("sign", 1)] : List (Str × Nat)).map (·.2))) mNil))))
theorem sc_is_name : FnScope ["thing", "sign"] ["thing"] (defScope s_is_name) := ⟨rfl, rfl, rfl, by decide +kernel, rfl, by decide +kernel, by decide +kernel⟩
theorem kn_is_name {G : Gd} {mg : Str → Option Value} {base : Heap} (h : Hd fa fn ts eb G mg base) (hcl : G.cls = clsOf G.K)  : Kn G mg base "is_name" 1 ["thing"] m_is_name :=
  Kn.mk' (k := 0) (h.says.def_ 1 rfl) (h.glo 19) sc_is_name rfl (fun _ _ _ _ _ _ us hl => match us, hl with | [_], _ => rfl) fun cdv A outer s H hr hgd =>
    (zs_cons (z_if (PW.pt (z_or (z_not (z_val (z_isiC (T := "str") (insO h hcl) rfl (h.free 6) (z_var 0) rfl (h.free 14) (by decide +kernel)))) (z_or1 (z_not (z_leLeT z_int (z_len rfl (h.free 7) (z_cons (z_var 0) z_nil)) (z_d (pe_glob rfl (h.gint 58).choose_spec (show RelV (V.int 8) _ from ⟨_, rfl⟩)) (fun _ => rfl))))))) (zs_one (z_ret z_bl)) zs_nil)
      (zs_one (z_ret (z_all rfl rfl (h.free 1) (z_cons (z_lc (t := (.nm 1)) sc_is_name.nd (zi_seqS (z_var 0)) (blkOk_by (own := [("sign", 1)]) (show blkC ["thing", "sign"] (defScope s_is_name) _ _ = true by decide +kernel)) (fun _ _ _ _ _ => (pg_name (i := 1) sc_is_name.nd rfl (by first | exact Or.inl rfl | exact Or.inr rfl))) (fun _ _ _ _ _ => z_tests0) (fun _ _ _ _ _ => (z_in (z_var 1) (z_d (pe_glob rfl (h.gstr 59).choose_spec (show RelV (V.str "abcdefghijklmnopqrstuvwxyz") _ from ⟨_, rfl⟩)) (fun _ => rfl))))) z_nil)))))
abbrev s_is_use : Stmt := top 9
def m_is_use : MF := mFn 1 1
    (mRet (mAndV (mIsiC 1 "str" (mVar 0)) (mBin gInA (mVar 0) (mD (.tup ((["look", "put"] : List Str).map .str))))))
theorem sc_is_use : FnScope ["thing"] ["thing"] (defScope s_is_use) := ⟨rfl, rfl, rfl, by decide +kernel, rfl, by decide +kernel, by decide +kernel⟩
theorem kn_is_use {G : Gd} {mg : Str → Option Value} {base : Heap} (h : Hd fa fn ts eb G mg base) (hcl : G.cls = clsOf G.K)  : Kn G mg base "is_use" 1 ["thing"] m_is_use :=
  Kn.mk' (k := 0) (h.says.def_ 2 rfl) (h.glo 20) sc_is_use rfl (fun _ _ _ _ _ _ us hl => match us, hl with | [_], _ => rfl) fun cdv A outer s H hr hgd =>
    (zs_one (z_ret (z_andV (z_isiC (T := "str") (insO h hcl) rfl (h.free 6) (z_var 0) rfl (h.free 14) (by decide +kernel)) (z_one (z_in (z_var 0) (z_d (glo_ref rfl (h.glo 60)) (fun F => tupc (ss := ["look", "put"]) (h.z.ex 2) F)))))))
abbrev s_is_way : Stmt := top 10
def m_is_way : MF := mFn 1 1
    (mRet (mAndV (mIsiC 1 "str" (mVar 0)) (mBin gInA (mVar 0) (mD (.tup ((["again", "answer", "end", "fail", "leave", "shut"] : List Str).map .str))))))
theorem sc_is_way : FnScope ["thing"] ["thing"] (defScope s_is_way) := ⟨rfl, rfl, rfl, by decide +kernel, rfl, by decide +kernel, by decide +kernel⟩
theorem kn_is_way {G : Gd} {mg : Str → Option Value} {base : Heap} (h : Hd fa fn ts eb G mg base) (hcl : G.cls = clsOf G.K)  : Kn G mg base "is_way" 1 ["thing"] m_is_way :=
  Kn.mk' (k := 0) (h.says.def_ 3 rfl) (h.glo 21) sc_is_way rfl (fun _ _ _ _ _ _ us hl => match us, hl with | [_], _ => rfl) fun cdv A outer s H hr hgd =>
    (zs_one (z_ret (z_andV (z_isiC (T := "str") (insO h hcl) rfl (h.free 6) (z_var 0) rfl (h.free 14) (by decide +kernel)) (z_one (z_in (z_var 0) (z_d (glo_ref rfl (h.glo 61)) (fun F => tupc (ss := ["again", "answer", "end", "fail", "leave", "shut"]) (h.z.ex 3) F)))))))
abbrev s_is_handing : Stmt := top 11
def m_is_handing : MF := mFn 1 1
    (mRet (mAndV (mIsiC 1 "str" (mVar 0)) (mBin gInA (mVar 0) (mD (.tup ((["none", "value", "state"] : List Str).map .str))))))
theorem sc_is_handing : FnScope ["thing"] ["thing"] (defScope s_is_handing) := ⟨rfl, rfl, rfl, by decide +kernel, rfl, by decide +kernel, by decide +kernel⟩
theorem kn_is_handing {G : Gd} {mg : Str → Option Value} {base : Heap} (h : Hd fa fn ts eb G mg base) (hcl : G.cls = clsOf G.K)  : Kn G mg base "is_handing" 1 ["thing"] m_is_handing :=
  Kn.mk' (k := 0) (h.says.def_ 4 rfl) (h.glo 22) sc_is_handing rfl (fun _ _ _ _ _ _ us hl => match us, hl with | [_], _ => rfl) fun cdv A outer s H hr hgd =>
    (zs_one (z_ret (z_andV (z_isiC (T := "str") (insO h hcl) rfl (h.free 6) (z_var 0) rfl (h.free 14) (by decide +kernel)) (z_one (z_in (z_var 0) (z_d (glo_ref rfl (h.glo 62)) (fun F => tupc (ss := ["none", "value", "state"]) (h.z.ex 4) F)))))))
abbrev s_are_names : Stmt := top 12
def m_are_names : MF := mFn 2 3
    (mSeq (mIfS (mOrT (mNotT (mTst (mIsi2C 1 "list" "tuple" (mVar 0)))) (mTst (mBin gGt (mCB (g1 gLen) (mCons (mVar 0) mNil)) (mVar 1)))) (mRet (mD (.bl false))) mNext)
    (mRet (mCB (g1 gAllB) (mCons (mLc (mISeq (mVar 0)) (.nm 2) mYes (mCall m_is_name (mCons (mVar 2) mNil)) (([("one", 2)] : List (Str × Nat)).map (·.2))) mNil))))
theorem sc_are_names : FnScope ["thing", "most", "one"] ["thing", "most"] (defScope s_are_names) := ⟨rfl, rfl, rfl, by decide +kernel, rfl, by decide +kernel, by decide +kernel⟩
theorem kn_are_names {G : Gd} {mg : Str → Option Value} {base : Heap} (h : Hd fa fn ts eb G mg base) (hcl : G.cls = clsOf G.K) (k_is_name : Kn G mg base "is_name" 1 ["thing"] m_is_name) : Kn G mg base "are_names" 2 ["thing", "most"] m_are_names :=
  Kn.mk' (k := 1) (h.says.def_ 5 rfl) (h.glo 23) sc_are_names rfl (fun _ _ _ _ _ _ us hl => match us, hl with | [_, _], _ => rfl) fun cdv A outer s H hr hgd =>
    (zs_cons (z_if (PW.pt (z_or (z_not (z_val (z_isi2C (T := "list") (T' := "tuple") (insO h hcl) rfl (h.free 6) (z_var 0) rfl (h.free 8) (by decide +kernel) rfl (h.free 15) (by decide +kernel)))) (z_or1 (z_gtT (z_len rfl (h.free 7) (z_cons (z_var 0) z_nil)) (z_var 1))))) (zs_one (z_ret z_bl)) zs_nil)
      (zs_one (z_ret (z_all rfl rfl (h.free 1) (z_cons (z_lc (t := (.nm 2)) sc_are_names.nd (zi_seq (z_var 0)) (blkOk_by (own := [("one", 2)]) (show blkC ["thing", "most", "one"] (defScope s_are_names) _ _ = true by decide +kernel)) (fun _ _ _ _ _ => (pg_name (i := 2) sc_are_names.nd rfl (by first | exact Or.inl rfl | exact Or.inr rfl))) (fun _ _ _ _ _ => z_tests0) (fun _ _ _ _ _ => (z_fn k_is_name hr (by omega) hgd rfl (z_cons (z_var 2) z_nil)))) z_nil)))))
abbrev s_is_address : Stmt := top 13
def m_is_address : MF := mFn 1 2
    (mSeq (mIfS (mOrT (mNotT (mTst (mIsiC 1 "tuple" (mVar 0)))) (mTst (mBin gEqA (mBin (gInt (fun _ j => decide (0 < j)) fun i j => .int (i % j)) (mCB (g1 gLen) (mCons (mVar 0) mNil)) (mD (.int 2))) (mD (.int 0))))) (mRet (mD (.bl false))) mNext)
    (mRet (mCB (g1 gAllB) (mCons (mLc (mISeq (mVar 0)) (.nm 1) mYes (mAndV (mCall m_is_integer (mCons (mVar 1) mNil)) (mBin gGe (mVar 1) (mD (.int 0)))) (([("one", 1)] : List (Str × Nat)).map (·.2))) mNil))))
theorem sc_is_address : FnScope ["thing", "one"] ["thing"] (defScope s_is_address) := ⟨rfl, rfl, rfl, by decide +kernel, rfl, by decide +kernel, by decide +kernel⟩
theorem kn_is_address {G : Gd} {mg : Str → Option Value} {base : Heap} (h : Hd fa fn ts eb G mg base) (hcl : G.cls = clsOf G.K) (k_is_integer : Kn G mg base "is_integer" 1 ["thing"] m_is_integer) : Kn G mg base "is_address" 2 ["thing"] m_is_address :=
  Kn.mk' (k := 1) (h.says.def_ 6 rfl) (h.glo 24) sc_is_address rfl (fun _ _ _ _ _ _ us hl => match us, hl with | [_], _ => rfl) fun cdv A outer s H hr hgd =>
    (zs_cons (z_if (PW.pt (z_or (z_not (z_val (z_isiC (T := "tuple") (insO h hcl) rfl (h.free 6) (z_var 0) rfl (h.free 15) (by decide +kernel)))) (z_or1 (z_eqAT hr (z_mod (z_len rfl (h.free 7) (z_cons (z_var 0) z_nil)) z_int) z_int)))) (zs_one (z_ret z_bl)) zs_nil)
      (zs_one (z_ret (z_all rfl rfl (h.free 1) (z_cons (z_lc (t := (.nm 1)) sc_is_address.nd (zi_seq (z_var 0)) (blkOk_by (own := [("one", 1)]) (show blkC ["thing", "one"] (defScope s_is_address) _ _ = true by decide +kernel)) (fun _ _ _ _ _ => (pg_name (i := 1) sc_is_address.nd rfl (by first | exact Or.inl rfl | exact Or.inr rfl))) (fun _ _ _ _ _ => z_tests0) (fun _ _ _ _ _ => (z_andV (z_fn k_is_integer hr (by omega) hgd rfl (z_cons (z_var 1) z_nil)) (z_one (z_ge (z_var 1) z_int))))) z_nil)))))
abbrev s_are_rows : Stmt := top 30
abbrev s_is_row : Stmt := top 29
mutual
def m_are_rows : Nat → MF
  | 0 => fun _ _ => none
  | n + 1 => mFn 1 2
    (mRet (mAndV (mIsi2C 1 "list" "tuple" (mVar 0)) (mCB (g1 gAllB) (mCons (mLc (mISeq (mVar 0)) (.nm 1) mYes (mCall (m_is_row n) (mCons (mVar 1) mNil)) (([("row", 1)] : List (Str × Nat)).map (·.2))) mNil))))
def m_is_row : Nat → MF
  | 0 => fun _ _ => none
  | n + 1 => mFn 1 5
    (mSeq (mIfS (mOrT (mNotT (mTst (mIsiC 1 "tuple" (mVar 0)))) (mOrT (mTst (mBin gEqA (mCB (g1 gLen) (mCons (mVar 0) mNil)) (mD (.int 0)))) (mNotT (mTst (mIsiC 1 "str" (mBin gIx (mVar 0) (mD (.int 0)))))))) (mRet (mD (.bl false))) mNext)
    (mSeq (mSet 1 (mBin gIx (mVar 0) (mD (.int 0))))
    (mSeq (mIfS (mTst (mInK false ["if", "loop", "guard", "last"] (mVar 1))) (mSeq (mSet 2 (mIf (mTst (mBin gInA (mVar 1) (mD (.tup ((["do", "yield", "strike", "catch", "if", "loop", "answer"] : List Str).map .str))))) (mD (.int 2)) (mD (.int 1))))
    (mSeq (mIfS (mOrT (mTst (mBin gNe (mCB (g1 gLen) (mCons (mVar 0) mNil)) (mBin gAdd (mVar 2) (mBin gIx mNone (mVar 1))))) (mNotT (mTst (mCB (g1 gAllB) (mCons (mLc (mISeq (mSl (mVar 0) (mPart (mD (.int 1))) (mPart (mVar 2)))) (.nm 3) mYes (mCall m_is_name (mCons (mVar 3) mNil)) (([("mark", 3)] : List (Str × Nat)).map (·.2))) mNil))))) (mRet (mD (.bl false))) mNext)
    (mRet (mCB (g1 gAllB) (mCons (mLc (mISeq (mSl (mVar 0) (mPart (mVar 2)) mNoPart)) (.nm 4) mYes (mCall (m_are_rows n) (mCons (mVar 4) mNil)) (([("part", 4)] : List (Str × Nat)).map (·.2))) mNil))))) mNext)
    (mSeq (mIfS (mTst (mBin gInA (mVar 1) (mTup (mCons (mD (.str "leave")) (mCons (mD (.str "again")) mNil))))) (mRet (mBin gEqA (mCB (g1 gLen) (mCons (mVar 0) mNil)) (mD (.int 1)))) mNext)
    (mSeq (mIfS (mOrT (mTst (mBin gNiA (mVar 1) (mD (.tup ((["do", "yield", "strike", "catch", "if", "loop", "answer"] : List Str).map .str))))) (mOrT (mTst (mBin gLt (mCB (g1 gLen) (mCons (mVar 0) mNil)) (mD (.int 3)))) (mNotT (mTst (mCall m_is_name (mCons (mBin gIx (mVar 0) (mD (.int 1))) mNil)))))) (mRet (mD (.bl false))) mNext)
    (mSeq (mIfS (mTst (mBin gEqA (mVar 1) (mD (.str "strike")))) (mRet (mAndV (mBin gEqA (mCB (g1 gLen) (mCons (mVar 0) mNil)) (mD (.int 3))) (mCall m_is_name (mCons (mBin gIx (mVar 0) (mD (.int 2))) mNil)))) mNext)
    (mSeq (mIfS (mTst (mBin gEqA (mVar 1) (mD (.str "catch")))) (mRet (mAndV (mBin gEqA (mCB (g1 gLen) (mCons (mVar 0) mNil)) (mD (.int 4))) (mAndV (mCall m_is_name (mCons (mBin gIx (mVar 0) (mD (.int 2))) mNil)) (mCall m_is_use (mCons (mBin gIx (mVar 0) (mD (.int 3))) mNil))))) mNext)
    (mSeq (mIfS (mTst (mBin gEqA (mVar 1) (mD (.str "answer")))) (mRet (mAndV (mBin gEqA (mCB (g1 gLen) (mCons (mVar 0) mNil)) (mD (.int 3))) (mCall m_are_names (mCons (mBin gIx (mVar 0) (mD (.int 2))) (mCons (mD (.int 3)) mNil))))) mNext)
    (mRet (mAndV (mBin gEqA (mCB (g1 gLen) (mCons (mVar 0) mNil)) (mD (.int 4))) (mAndV (mCall m_are_names (mCons (mBin gIx (mVar 0) (mD (.int 2))) (mCons (mD (.int 3)) mNil))) (mOrV (mCall m_is_name (mCons (mBin gIx (mVar 0) (mD (.int 3))) mNil)) (mBin gEqA (mBin gIx (mVar 0) (mD (.int 3))) (mD (.str "")))))))))))))))
end
theorem sc_are_rows : FnScope ["thing", "row"] ["thing"] (defScope s_are_rows) := ⟨rfl, rfl, rfl, by decide +kernel, rfl, by decide +kernel, by decide +kernel⟩
theorem sc_is_row : FnScope ["thing", "word", "ahead", "mark", "part"] ["thing"] (defScope s_is_row) := ⟨rfl, rfl, rfl, by decide +kernel, rfl, by decide +kernel, by decide +kernel⟩
theorem ks_are_rows {G : Gd} {mg : Str → Option Value} {base : Heap} (h : Hd fa fn ts eb G mg base) (hcl : G.cls = clsOf G.K) (k_is_name : Kn G mg base "is_name" 1 ["thing"] m_is_name) (k_is_use : Kn G mg base "is_use" 1 ["thing"] m_is_use) (k_are_names : Kn G mg base "are_names" 2 ["thing", "most"] m_are_names) {n : Nat} (ih_are_rows : Kn G mg base "are_rows" (2 + n) ["thing"] (m_are_rows n)) (ih_is_row : Kn G mg base "is_row" (2 + n) ["thing"] (m_is_row n)) : Kn G mg base "are_rows" (2 + (n + 1)) ["thing"] (m_are_rows (n + 1)) :=
  Kn.mk' (k := 2 + n) (h.says.def_ 7 rfl) (h.glo 26) sc_are_rows rfl (fun _ _ _ _ _ _ us hl => match us, hl with | [_], _ => rfl) fun cdv A outer s H hr hgd =>
    (zs_one (z_ret (z_andV (z_isi2C (T := "list") (T' := "tuple") (insO h hcl) rfl (h.free 6) (z_var 0) rfl (h.free 8) (by decide +kernel) rfl (h.free 15) (by decide +kernel)) (z_one (z_all rfl rfl (h.free 1) (z_cons (z_lc (t := (.nm 1)) sc_are_rows.nd (zi_seq (z_var 0)) (blkOk_by (own := [("row", 1)]) (show blkC ["thing", "row"] (defScope s_are_rows) _ _ = true by decide +kernel)) (fun _ _ _ _ _ => (pg_name (i := 1) sc_are_rows.nd rfl (by first | exact Or.inl rfl | exact Or.inr rfl))) (fun _ _ _ _ _ => z_tests0) (fun _ _ _ _ _ => (z_fn ih_is_row hr (by omega) hgd rfl (z_cons (z_var 1) z_nil)))) z_nil))))))
theorem kz_are_rows {G : Gd} {mg : Str → Option Value} {base : Heap} (h : Hd fa fn ts eb G mg base) (k : Nat) : Kn G mg base "are_rows" k ["thing"] (m_are_rows 0) := Kn.zero (h.says.def_ 7 rfl) (h.glo 26) (fun _ _ _ _ _ _ us hl => match us, hl with | [_], _ => rfl)
theorem ks_is_row {G : Gd} {mg : Str → Option Value} {base : Heap} (h : Hd fa fn ts eb G mg base) (hcl : G.cls = clsOf G.K) (k_is_name : Kn G mg base "is_name" 1 ["thing"] m_is_name) (k_is_use : Kn G mg base "is_use" 1 ["thing"] m_is_use) (k_are_names : Kn G mg base "are_names" 2 ["thing", "most"] m_are_names) {n : Nat} (ih_are_rows : Kn G mg base "are_rows" (2 + n) ["thing"] (m_are_rows n)) (ih_is_row : Kn G mg base "is_row" (2 + n) ["thing"] (m_is_row n)) : Kn G mg base "is_row" (2 + (n + 1)) ["thing"] (m_is_row (n + 1)) :=
  Kn.mk' (k := 2 + n) (h.says.def_ 8 rfl) (h.glo 25) sc_is_row rfl (fun _ _ _ _ _ _ us hl => match us, hl with | [_], _ => rfl) fun cdv A outer s H hr hgd =>
    (zs_cons (z_if (PW.pt (z_or (z_not (z_val (z_isiC (T := "tuple") (insO h hcl) rfl (h.free 6) (z_var 0) rfl (h.free 15) (by decide +kernel)))) (z_or (z_eqAT hr (z_len rfl (h.free 7) (z_cons (z_var 0) z_nil)) z_int) (z_or1 (z_not (z_val (z_isiC (T := "str") (insO h hcl) rfl (h.free 6) (z_ix (z_var 0) z_int) rfl (h.free 14) (by decide +kernel)))))))) (zs_one (z_ret z_bl)) zs_nil)
      (zs_cons (z_set (i := 1) sc_is_row.nd rfl (by first | exact Or.inl rfl | exact Or.inr rfl) (z_ix (z_var 0) z_int))
      (zs_cons (z_if (z_inKT (h.z.t.tab 0 (t := t_MANY_LISTS)).choose_spec.choose_spec (h.z.keys 0 (t := t_MANY_LISTS)) (z_var 1) (glo_ref rfl (h.glo 63))) (zs_cons (z_set (i := 2) sc_is_row.nd rfl (by first | exact Or.inl rfl | exact Or.inr rfl) (z_ifE (z_inT (z_var 1) (z_d (glo_ref rfl (h.glo 64)) (fun F => tupc (ss := ["do", "yield", "strike", "catch", "if", "loop", "answer"]) (h.z.ex 5) F))) z_int z_int))
      (zs_cons (z_if (PW.pt (z_or (z_neT hr (z_len rfl (h.free 7) (z_cons (z_var 0) z_nil)) (z_add (z_var 2) (z_ix (z_none) (z_var 1)))) (z_or1 (z_not (z_val (z_all rfl rfl (h.free 1) (z_cons (z_lc (t := (.nm 3)) sc_is_row.nd (zi_seq (z_sl (z_var 0) (z_part z_int) (z_part (z_var 2)))) (blkOk_by (own := [("mark", 3)]) (show blkC ["thing", "word", "ahead", "mark", "part"] (defScope s_is_row) _ _ = true by decide +kernel)) (fun _ _ _ _ _ => (pg_name (i := 3) sc_is_row.nd rfl (by first | exact Or.inl rfl | exact Or.inr rfl))) (fun _ _ _ _ _ => z_tests0) (fun _ _ _ _ _ => (z_fn k_is_name hr (by omega) hgd rfl (z_cons (z_var 3) z_nil)))) z_nil))))))) (zs_one (z_ret z_bl)) zs_nil)
      (zs_one (z_ret (z_all rfl rfl (h.free 1) (z_cons (z_lc (t := (.nm 4)) sc_is_row.nd (zi_seq (z_sl (z_var 0) (z_part (z_var 2)) z_noPart)) (blkOk_by (own := [("part", 4)]) (show blkC ["thing", "word", "ahead", "mark", "part"] (defScope s_is_row) _ _ = true by decide +kernel)) (fun _ _ _ _ _ => (pg_name (i := 4) sc_is_row.nd rfl (by first | exact Or.inl rfl | exact Or.inr rfl))) (fun _ _ _ _ _ => z_tests0) (fun _ _ _ _ _ => (z_fn ih_are_rows hr (by omega) hgd rfl (z_cons (z_var 4) z_nil)))) z_nil)))))) zs_nil)
      (zs_cons (z_if (z_inT (z_var 1) (z_tup (z_cons z_str (z_cons z_str z_nil)))) (zs_one (z_ret (z_eqA hr (z_len rfl (h.free 7) (z_cons (z_var 0) z_nil)) z_int))) zs_nil)
      (zs_cons (z_if (PW.pt (z_or (z_niT (z_var 1) (z_d (glo_ref rfl (h.glo 64)) (fun F => tupc (ss := ["do", "yield", "strike", "catch", "if", "loop", "answer"]) (h.z.ex 5) F))) (z_or (z_ltT (z_len rfl (h.free 7) (z_cons (z_var 0) z_nil)) z_int) (z_or1 (z_not (z_val (z_fn k_is_name hr (by omega) hgd rfl (z_cons (z_ix (z_var 0) z_int) z_nil)))))))) (zs_one (z_ret z_bl)) zs_nil)
      (zs_cons (z_if (z_eqAT hr (z_var 1) z_str) (zs_one (z_ret (z_andV (z_eqA hr (z_len rfl (h.free 7) (z_cons (z_var 0) z_nil)) z_int) (z_one (z_fn k_is_name hr (by omega) hgd rfl (z_cons (z_ix (z_var 0) z_int) z_nil)))))) zs_nil)
      (zs_cons (z_if (z_eqAT hr (z_var 1) z_str) (zs_one (z_ret (z_andV (z_eqA hr (z_len rfl (h.free 7) (z_cons (z_var 0) z_nil)) z_int) (z_andV (z_fn k_is_name hr (by omega) hgd rfl (z_cons (z_ix (z_var 0) z_int) z_nil)) (z_one (z_fn k_is_use hr (by omega) hgd rfl (z_cons (z_ix (z_var 0) z_int) z_nil))))))) zs_nil)
      (zs_cons (z_if (z_eqAT hr (z_var 1) z_str) (zs_one (z_ret (z_andV (z_eqA hr (z_len rfl (h.free 7) (z_cons (z_var 0) z_nil)) z_int) (z_one (z_fn k_are_names hr (by omega) hgd rfl (z_cons (z_ix (z_var 0) z_int) (z_cons (z_d (pe_glob rfl (h.gint 65).choose_spec (show RelV (V.int 3) _ from ⟨_, rfl⟩)) (fun _ => rfl)) z_nil))))))) zs_nil)
      (zs_one (z_ret (z_andV (z_eqA hr (z_len rfl (h.free 7) (z_cons (z_var 0) z_nil)) z_int) (z_andV (z_fn k_are_names hr (by omega) hgd rfl (z_cons (z_ix (z_var 0) z_int) (z_cons (z_d (pe_glob rfl (h.gint 65).choose_spec (show RelV (V.int 3) _ from ⟨_, rfl⟩)) (fun _ => rfl)) z_nil))) (z_one (z_orV (z_fn k_is_name hr (by omega) hgd rfl (z_cons (z_ix (z_var 0) z_int) z_nil)) (z_one (z_eqA hr (z_ix (z_var 0) z_int) z_str))))))))))))))))
theorem kz_is_row {G : Gd} {mg : Str → Option Value} {base : Heap} (h : Hd fa fn ts eb G mg base) (k : Nat) : Kn G mg base "is_row" k ["thing"] (m_is_row 0) := Kn.zero (h.says.def_ 8 rfl) (h.glo 25) (fun _ _ _ _ _ _ us hl => match us, hl with | [_], _ => rfl)
theorem kr_are_rows {G : Gd} {mg : Str → Option Value} {base : Heap} (h : Hd fa fn ts eb G mg base) (hcl : G.cls = clsOf G.K) (k_is_name : Kn G mg base "is_name" 1 ["thing"] m_is_name) (k_is_use : Kn G mg base "is_use" 1 ["thing"] m_is_use) (k_are_names : Kn G mg base "are_names" 2 ["thing", "most"] m_are_names) : ∀ n, Kn G mg base "are_rows" (2 + n) ["thing"] (m_are_rows n) ∧ Kn G mg base "is_row" (2 + n) ["thing"] (m_is_row n)
  | 0 => ⟨kz_are_rows h _, kz_is_row h _⟩
  | n + 1 => by
    have ih := kr_are_rows h hcl k_is_name k_is_use k_are_names n
    obtain ⟨i0, i1⟩ := ih
    exact ⟨ks_are_rows h hcl k_is_name k_is_use k_are_names i0 i1, ks_is_row h hcl k_is_name k_is_use k_are_names i0 i1⟩
abbrev s_ahead_of_lists : Stmt := top 31
def m_ahead_of_lists : MF := mFn 1 1
    (mRet (mIf (mTst (mBin gInA (mBin gIx (mVar 0) (mD (.int 0))) (mD (.tup ((["do", "yield", "strike", "catch", "if", "loop", "answer"] : List Str).map .str))))) (mSl (mVar 0) mNoPart (mPart (mD (.int 2)))) (mSl (mVar 0) mNoPart (mPart (mD (.int 1))))))
theorem sc_ahead_of_lists : FnScope ["row"] ["row"] (defScope s_ahead_of_lists) := ⟨rfl, rfl, rfl, by decide +kernel, rfl, by decide +kernel, by decide +kernel⟩
theorem kn_ahead_of_lists {G : Gd} {mg : Str → Option Value} {base : Heap} (h : Hd fa fn ts eb G mg base) (hcl : G.cls = clsOf G.K)  : Kn G mg base "ahead_of_lists" 1 ["row"] m_ahead_of_lists :=
  Kn.mk' (k := 0) (h.says.def_ 9 rfl) (h.glo 27) sc_ahead_of_lists rfl (fun _ _ _ _ _ _ us hl => match us, hl with | [_], _ => rfl) fun cdv A outer s H hr hgd =>
    (zs_one (z_ret (z_ifE (z_inT (z_ix (z_var 0) z_int) (z_d (glo_ref rfl (h.glo 64)) (fun F => tupc (ss := ["do", "yield", "strike", "catch", "if", "loop", "answer"]) (h.z.ex 5) F))) (z_sl (z_var 0) z_noPart (z_part z_int)) (z_sl (z_var 0) z_noPart (z_part z_int)))))
abbrev s_own_lists : Stmt := top 32
def m_own_lists : MF := mFn 1 2
    (mSeq (mIfS (mTst (mInK true ["if", "loop", "guard", "last"] (mBin gIx (mVar 0) (mD (.int 0))))) (mRet (mLst mNil)) mNext)
    (mRet (mLc (mISeq (mSl (mVar 0) (mPart (mCB (g1 gLen) (mCons (mCall m_ahead_of_lists (mCons (mVar 0) mNil)) mNil))) mNoPart)) (.nm 1) mYes (mCB (g1 gList) (mCons (mVar 1) mNil)) (([("part", 1)] : List (Str × Nat)).map (·.2)))))
theorem sc_own_lists : FnScope ["row", "part"] ["row"] (defScope s_own_lists) := ⟨rfl, rfl, rfl, by decide +kernel, rfl, by decide +kernel, by decide +kernel⟩
theorem kn_own_lists {G : Gd} {mg : Str → Option Value} {base : Heap} (h : Hd fa fn ts eb G mg base) (hcl : G.cls = clsOf G.K) (k_ahead_of_lists : Kn G mg base "ahead_of_lists" 1 ["row"] m_ahead_of_lists) : Kn G mg base "own_lists" 2 ["row"] m_own_lists :=
  Kn.mk' (k := 1) (h.says.def_ 10 rfl) (h.glo 28) sc_own_lists rfl (fun _ _ _ _ _ _ us hl => match us, hl with | [_], _ => rfl) fun cdv A outer s H hr hgd =>
    (zs_cons (z_if (z_niKT (h.z.t.tab 0 (t := t_MANY_LISTS)).choose_spec.choose_spec (h.z.keys 0 (t := t_MANY_LISTS)) (z_ix (z_var 0) z_int) (glo_ref rfl (h.glo 63))) (zs_one (z_ret (z_lst z_nil))) zs_nil)
      (zs_one (z_ret (z_lc (t := (.nm 1)) sc_own_lists.nd (zi_seq (z_sl (z_var 0) (z_part (z_len rfl (h.free 7) (z_cons (z_fn k_ahead_of_lists hr (by omega) hgd rfl (z_cons (z_var 0) z_nil)) z_nil))) z_noPart)) (blkOk_by (own := [("part", 1)]) (show blkC ["row", "part"] (defScope s_own_lists) _ _ = true by decide +kernel)) (fun _ _ _ _ _ => (pg_name (i := 1) sc_own_lists.nd rfl (by first | exact Or.inl rfl | exact Or.inr rfl))) (fun _ _ _ _ _ => z_tests0) (fun _ _ _ _ _ => (z_list rfl (h.free 8) (z_cons (z_var 1) z_nil)))))))
abbrev s_frozen : Stmt := top 34
abbrev s_with_lists : Stmt := top 33
mutual
def m_frozen : Nat → MF
  | 0 => fun _ _ => none
  | n + 1 => mFn 1 2
    (mSeq (mIfS (mTst (mInK false ["if", "loop", "guard", "last"] (mBin gIx (mVar 0) (mD (.int 0))))) (mRet (mCall (m_with_lists n) (mCons (mVar 0) (mCons (mCall m_own_lists (mCons (mVar 0) mNil)) mNil)))) mNext)
    (mRet (mCB (g1 gTuple) (mCons (mLc (mISeq (mVar 0)) (.nm 1) mYes (mIf (mTst (mIsiC 1 "list" (mVar 1))) (mCB (g1 gTuple) (mCons (mVar 1) mNil)) (mVar 1)) (([("part", 1)] : List (Str × Nat)).map (·.2))) mNil))))
def m_with_lists : Nat → MF
  | 0 => fun _ _ => none
  | n + 1 => mFn 2 4
    (mSeq (mIfS (mTst (mInK false ["if", "loop", "guard", "last"] (mBin gIx (mVar 0) (mD (.int 0))))) (mRet (mTup (mStar (mCall m_ahead_of_lists (mCons (mVar 0) mNil)) (mStar (mLc (mISeq (mVar 1)) (.nm 3) mYes (mCB (g1 gTuple) (mCons (mLc (mISeq (mVar 3)) (.nm 2) mYes (mCall (m_frozen n) (mCons (mVar 2) mNil)) (([("one", 2)] : List (Str × Nat)).map (·.2))) mNil)) (([("part", 3)] : List (Str × Nat)).map (·.2))) mNil)))) mNext)
    (mRet (mCall (m_frozen n) (mCons (mVar 0) mNil))))
end
theorem sc_frozen : FnScope ["row", "part"] ["row"] (defScope s_frozen) := ⟨rfl, rfl, rfl, by decide +kernel, rfl, by decide +kernel, by decide +kernel⟩
theorem sc_with_lists : FnScope ["row", "lists", "one", "part"] ["row", "lists"] (defScope s_with_lists) := ⟨rfl, rfl, rfl, by decide +kernel, rfl, by decide +kernel, by decide +kernel⟩
theorem ks_frozen {G : Gd} {mg : Str → Option Value} {base : Heap} (h : Hd fa fn ts eb G mg base) (hcl : G.cls = clsOf G.K) (k_ahead_of_lists : Kn G mg base "ahead_of_lists" 1 ["row"] m_ahead_of_lists) (k_own_lists : Kn G mg base "own_lists" 2 ["row"] m_own_lists) {n : Nat} (ih_frozen : Kn G mg base "frozen" (2 + n) ["row"] (m_frozen n)) (ih_with_lists : Kn G mg base "with_lists" (2 + n) ["row", "lists"] (m_with_lists n)) : Kn G mg base "frozen" (2 + (n + 1)) ["row"] (m_frozen (n + 1)) :=
  Kn.mk' (k := 2 + n) (h.says.def_ 11 rfl) (h.glo 30) sc_frozen rfl (fun _ _ _ _ _ _ us hl => match us, hl with | [_], _ => rfl) fun cdv A outer s H hr hgd =>
    (zs_cons (z_if (z_inKT (h.z.t.tab 0 (t := t_MANY_LISTS)).choose_spec.choose_spec (h.z.keys 0 (t := t_MANY_LISTS)) (z_ix (z_var 0) z_int) (glo_ref rfl (h.glo 63))) (zs_one (z_ret (z_fn ih_with_lists hr (by omega) hgd rfl (z_cons (z_var 0) (z_cons (z_fn k_own_lists hr (by omega) hgd rfl (z_cons (z_var 0) z_nil)) z_nil))))) zs_nil)
      (zs_one (z_ret (z_tuple rfl (h.free 15) (z_cons (z_lc (t := (.nm 1)) sc_frozen.nd (zi_seq (z_var 0)) (blkOk_by (own := [("part", 1)]) (show blkC ["row", "part"] (defScope s_frozen) _ _ = true by decide +kernel)) (fun _ _ _ _ _ => (pg_name (i := 1) sc_frozen.nd rfl (by first | exact Or.inl rfl | exact Or.inr rfl))) (fun _ _ _ _ _ => z_tests0) (fun _ _ _ _ _ => (z_ifE (z_val (z_isiC (T := "list") (insO h hcl) rfl (h.free 6) (z_var 1) rfl (h.free 8) (by decide +kernel))) (z_tuple rfl (h.free 15) (z_cons (z_var 1) z_nil)) (z_var 1)))) z_nil)))))
theorem kz_frozen {G : Gd} {mg : Str → Option Value} {base : Heap} (h : Hd fa fn ts eb G mg base) (k : Nat) : Kn G mg base "frozen" k ["row"] (m_frozen 0) := Kn.zero (h.says.def_ 11 rfl) (h.glo 30) (fun _ _ _ _ _ _ us hl => match us, hl with | [_], _ => rfl)
theorem ks_with_lists {G : Gd} {mg : Str → Option Value} {base : Heap} (h : Hd fa fn ts eb G mg base) (hcl : G.cls = clsOf G.K) (k_ahead_of_lists : Kn G mg base "ahead_of_lists" 1 ["row"] m_ahead_of_lists) (k_own_lists : Kn G mg base "own_lists" 2 ["row"] m_own_lists) {n : Nat} (ih_frozen : Kn G mg base "frozen" (2 + n) ["row"] (m_frozen n)) (ih_with_lists : Kn G mg base "with_lists" (2 + n) ["row", "lists"] (m_with_lists n)) : Kn G mg base "with_lists" (2 + (n + 1)) ["row", "lists"] (m_with_lists (n + 1)) :=
  Kn.mk' (k := 2 + n) (h.says.def_ 12 rfl) (h.glo 29) sc_with_lists rfl (fun _ _ _ _ _ _ us hl => match us, hl with | [_, _], _ => rfl) fun cdv A outer s H hr hgd =>
    (zs_cons (z_if (z_inKT (h.z.t.tab 0 (t := t_MANY_LISTS)).choose_spec.choose_spec (h.z.keys 0 (t := t_MANY_LISTS)) (z_ix (z_var 0) z_int) (glo_ref rfl (h.glo 63))) (zs_one (z_ret (z_tup (z_star (z_fn k_ahead_of_lists hr (by omega) hgd rfl (z_cons (z_var 0) z_nil)) (z_star (z_lc (t := (.nm 3)) sc_with_lists.nd (zi_seq (z_var 1)) (blkOk_by (own := [("part", 3)]) (show blkC ["row", "lists", "one", "part"] (defScope s_with_lists) _ _ = true by decide +kernel)) (fun _ _ _ _ _ => (pg_name (i := 3) sc_with_lists.nd rfl (by first | exact Or.inl rfl | exact Or.inr rfl))) (fun _ _ _ _ _ => z_tests0) (fun _ _ _ _ _ => (z_tuple rfl (h.free 15) (z_cons (z_lc (t := (.nm 2)) sc_with_lists.nd (zi_seq (z_var 3)) (blk_nest (own := [("one", 2)]) ["row", "lists", "one", "part"] rfl (by decide +kernel)) (fun _ _ _ _ _ => (pg_name (i := 2) sc_with_lists.nd rfl (by first | exact Or.inl rfl | exact Or.inr rfl))) (fun _ _ _ _ _ => z_tests0) (fun _ _ _ _ _ => (z_fn ih_frozen hr (by omega) hgd rfl (z_cons (z_var 2) z_nil)))) z_nil)))) z_nil))))) zs_nil)
      (zs_one (z_ret (z_fn ih_frozen hr (by omega) hgd rfl (z_cons (z_var 0) z_nil)))))
theorem kz_with_lists {G : Gd} {mg : Str → Option Value} {base : Heap} (h : Hd fa fn ts eb G mg base) (k : Nat) : Kn G mg base "with_lists" k ["row", "lists"] (m_with_lists 0) := Kn.zero (h.says.def_ 12 rfl) (h.glo 29) (fun _ _ _ _ _ _ us hl => match us, hl with | [_, _], _ => rfl)
theorem kr_frozen {G : Gd} {mg : Str → Option Value} {base : Heap} (h : Hd fa fn ts eb G mg base) (hcl : G.cls = clsOf G.K) (k_ahead_of_lists : Kn G mg base "ahead_of_lists" 1 ["row"] m_ahead_of_lists) (k_own_lists : Kn G mg base "own_lists" 2 ["row"] m_own_lists) : ∀ n, Kn G mg base "frozen" (2 + n) ["row"] (m_frozen n) ∧ Kn G mg base "with_lists" (2 + n) ["row", "lists"] (m_with_lists n)
  | 0 => ⟨kz_frozen h _, kz_with_lists h _⟩
  | n + 1 => by
    have ih := kr_frozen h hcl k_ahead_of_lists k_own_lists n
    obtain ⟨i0, i1⟩ := ih
    exact ⟨ks_frozen h hcl k_ahead_of_lists k_own_lists i0 i1, ks_with_lists h hcl k_ahead_of_lists k_own_lists i0 i1⟩
abbrev s_reads : Stmt := top 35
def m_reads : MF := mFn 1 1
    (mSeq (mIfS (mTst (mBin gEqA (mBin gIx (mVar 0) (mD (.int 0))) (mD (.str "strike")))) (mRet (mLst (mCons (mBin gIx (mVar 0) (mD (.int 2))) mNil))) mNext)
    (mRet (mIf (mTst (mBin gInA (mBin gIx (mVar 0) (mD (.int 0))) (mTup (mCons (mD (.str "do")) (mCons (mD (.str "yield")) (mCons (mD (.str "answer")) mNil)))))) (mCB (g1 gList) (mCons (mBin gIx (mVar 0) (mD (.int 2))) mNil)) (mLst mNil))))
theorem sc_reads : FnScope ["row"] ["row"] (defScope s_reads) := ⟨rfl, rfl, rfl, by decide +kernel, rfl, by decide +kernel, by decide +kernel⟩
theorem kn_reads {G : Gd} {mg : Str → Option Value} {base : Heap} (h : Hd fa fn ts eb G mg base) (hcl : G.cls = clsOf G.K)  : Kn G mg base "reads" 1 ["row"] m_reads :=
  Kn.mk' (k := 0) (h.says.def_ 13 rfl) (h.glo 31) sc_reads rfl (fun _ _ _ _ _ _ us hl => match us, hl with | [_], _ => rfl) fun cdv A outer s H hr hgd =>
    (zs_cons (z_if (z_eqAT hr (z_ix (z_var 0) z_int) z_str) (zs_one (z_ret (z_lst (z_cons (z_ix (z_var 0) z_int) z_nil)))) zs_nil)
      (zs_one (z_ret (z_ifE (z_inT (z_ix (z_var 0) z_int) (z_tup (z_cons z_str (z_cons z_str (z_cons z_str z_nil))))) (z_list rfl (h.free 8) (z_cons (z_ix (z_var 0) z_int) z_nil)) (z_lst z_nil)))))
abbrev s_sets : Stmt := top 36
def m_sets : MF := mFn 1 1
    (mRet (mIf (mAndT (mTst (mBin gInA (mBin gIx (mVar 0) (mD (.int 0))) (mTup (mCons (mD (.str "do")) (mCons (mD (.str "yield")) mNil))))) (mTst (mBin gNe (mBin gIx (mVar 0) (mD (.int 3))) (mD (.str ""))))) (mBin gIx (mVar 0) (mD (.int 3))) (mD .non)))
theorem sc_sets : FnScope ["row"] ["row"] (defScope s_sets) := ⟨rfl, rfl, rfl, by decide +kernel, rfl, by decide +kernel, by decide +kernel⟩
theorem kn_sets {G : Gd} {mg : Str → Option Value} {base : Heap} (h : Hd fa fn ts eb G mg base) (hcl : G.cls = clsOf G.K)  : Kn G mg base "sets" 1 ["row"] m_sets :=
  Kn.mk' (k := 0) (h.says.def_ 14 rfl) (h.glo 32) sc_sets rfl (fun _ _ _ _ _ _ us hl => match us, hl with | [_], _ => rfl) fun cdv A outer s H hr hgd =>
    (zs_one (z_ret (z_ifE (PW.pt (z_and (z_inT (z_ix (z_var 0) z_int) (z_tup (z_cons z_str (z_cons z_str z_nil)))) (z_and1 (z_neT hr (z_ix (z_var 0) z_int) z_str)))) (z_ix (z_var 0) z_int) z_non)))
abbrev s_every_row : Stmt := top 37

def m_every_row : Nat → MF
  | 0 => fun _ _ => none
  | n + 1 => mFn 1 4
    (mSeq (mSet 1 (mLstO mNil))
    (mSeq (mFor (mISeq (mVar 0)) (.nm 2) (mSeq (mMut 1 (mCons (mVar 2) mNil) gApp)
    (mFor (mISeq (mCall m_own_lists (mCons (mVar 2) mNil))) (.nm 3) (mMut 1 (mCons (mCall (m_every_row n) (mCons (mVar 3) mNil)) mNil) gExt))))
    (mSeq (mFrz 1) (mRet (mVar 1)))))

theorem sc_every_row : FnScope ["rows", "found", "row", "part"] ["rows"] (defScope s_every_row) := ⟨rfl, rfl, rfl, by decide +kernel, rfl, by decide +kernel, by decide +kernel⟩
theorem ks_every_row {G : Gd} {mg : Str → Option Value} {base : Heap} (h : Hd fa fn ts eb G mg base) (hcl : G.cls = clsOf G.K) (k_own_lists : Kn G mg base "own_lists" 2 ["row"] m_own_lists) {n : Nat} (ih_every_row : Kn G mg base "every_row" (2 + n) ["rows"] (m_every_row n)) : Kn G mg base "every_row" (2 + (n + 1)) ["rows"] (m_every_row (n + 1)) :=
  Kn.mk' (k := 2 + n) (h.says.def_ 15 rfl) (h.glo 33) sc_every_row rfl (fun _ _ _ _ _ _ us hl => match us, hl with | [_], _ => rfl) fun cdv A outer s H hr hgd =>
    (zs_cons (z_set (i := 1) sc_every_row.nd rfl (by first | exact Or.inl rfl | exact Or.inr rfl) (z_lstO z_nil))
      (zs_cons (z_for (t := (.nm 2)) PassesOwn.never (zi_seq (z_var 0)) (pg_name (i := 2) sc_every_row.nd rfl (by first | exact Or.inl rfl | exact Or.inr rfl)) (zs_cons (z_mut (i := 1) sim_app (ps_expr (pe_bm PySem.F.plainAttrs_list PySem.F.slot_list_append PySem.F.type_list_append mt_append (pv 1) (z_cons (z_var 2) z_nil))))
      (zs_one (z_for (t := (.nm 3)) PassesOwn.never (zi_seq (z_fn k_own_lists hr (by omega) hgd rfl (z_cons (z_var 2) z_nil))) (pg_name (i := 3) sc_every_row.nd rfl (by first | exact Or.inl rfl | exact Or.inr rfl)) (zs_one (z_mut (i := 1) sim_ext (ps_expr (pe_bm PySem.F.plainAttrs_list PySem.F.slot_list_extend PySem.F.type_list_extend mt_extend (pv 1) (z_cons (z_fn ih_every_row hr (by omega) hgd rfl (z_cons (z_var 3) z_nil)) z_nil)))))))))
      (zs_frz 1 (zs_one (z_ret (z_var 1))))))
theorem kz_every_row {G : Gd} {mg : Str → Option Value} {base : Heap} (h : Hd fa fn ts eb G mg base) (k : Nat) : Kn G mg base "every_row" k ["rows"] (m_every_row 0) := Kn.zero (h.says.def_ 15 rfl) (h.glo 33) (fun _ _ _ _ _ _ us hl => match us, hl with | [_], _ => rfl)
theorem kr_every_row {G : Gd} {mg : Str → Option Value} {base : Heap} (h : Hd fa fn ts eb G mg base) (hcl : G.cls = clsOf G.K) (k_own_lists : Kn G mg base "own_lists" 2 ["row"] m_own_lists) : ∀ n, Kn G mg base "every_row" (2 + n) ["rows"] (m_every_row n)
  | 0 => kz_every_row h _
  | n + 1 => by
    have ih := kr_every_row h hcl k_own_lists n
    exact ks_every_row h hcl k_own_lists ih
abbrev s_names_in : Stmt := top 38
def m_names_in : MF := mFn 1 3
    (mSeq (mSet 1 (mLstO mNil))
    (mSeq (mFor (mISeq (mCall (m_every_row 12) (mCons (mVar 0) mNil))) (.nm 2) (mSeq (mMut 1 (mCons (mCall m_reads (mCons (mVar 2) mNil)) mNil) gExt)
    (mSeq (mMut 1 (mCons (mIf (mTst (mBin gEqA (mBin gIx (mVar 2) (mD (.int 0))) (mD (.str "catch")))) (mLst (mCons (mBin gIx (mVar 2) (mD (.int 2))) mNil)) (mLst mNil)) mNil) gExt)
    (mMut 1 (mCons (mIf (mTst (mBin (gIs true) (mCall m_sets (mCons (mVar 2) mNil)) (mD .non))) (mLst (mCons (mCall m_sets (mCons (mVar 2) mNil)) mNil)) (mLst mNil)) mNil) gExt))))
    (mSeq (mFrz 1) (mRet (mFrzE (mCB (g1 gSorted) (mCons (mCB (g1 gSet) (mCons (mVar 1) mNil)) mNil)))))))
theorem sc_names_in : FnScope ["rows", "found", "row"] ["rows"] (defScope s_names_in) := ⟨rfl, rfl, rfl, by decide +kernel, rfl, by decide +kernel, by decide +kernel⟩
theorem kn_names_in {G : Gd} {mg : Str → Option Value} {base : Heap} (h : Hd fa fn ts eb G mg base) (hcl : G.cls = clsOf G.K) (k_reads : Kn G mg base "reads" 1 ["row"] m_reads) (k_sets : Kn G mg base "sets" 1 ["row"] m_sets) (k_every_row : ∀ n, Kn G mg base "every_row" (2 + n) ["rows"] (m_every_row n)) : Kn G mg base "names_in" 15 ["rows"] m_names_in :=
  Kn.mk' (k := 14) (h.says.def_ 16 rfl) (h.glo 34) sc_names_in rfl (fun _ _ _ _ _ _ us hl => match us, hl with | [_], _ => rfl) fun cdv A outer s H hr hgd =>
    (zs_cons (z_set (i := 1) sc_names_in.nd rfl (by first | exact Or.inl rfl | exact Or.inr rfl) (z_lstO z_nil))
      (zs_cons (z_for (t := (.nm 2)) PassesOwn.never (zi_seq (z_fn (k_every_row 12) hr (by omega) hgd rfl (z_cons (z_var 0) z_nil))) (pg_name (i := 2) sc_names_in.nd rfl (by first | exact Or.inl rfl | exact Or.inr rfl)) (zs_cons (z_mut (i := 1) sim_ext (ps_expr (pe_bm PySem.F.plainAttrs_list PySem.F.slot_list_extend PySem.F.type_list_extend mt_extend (pv 1) (z_cons (z_fn k_reads hr (by omega) hgd rfl (z_cons (z_var 2) z_nil)) z_nil))))
      (zs_cons (z_mut (i := 1) sim_ext (ps_expr (pe_bm PySem.F.plainAttrs_list PySem.F.slot_list_extend PySem.F.type_list_extend mt_extend (pv 1) (z_cons (z_ifE (z_eqAT hr (z_ix (z_var 2) z_int) z_str) (z_lst (z_cons (z_ix (z_var 2) z_int) z_nil)) (z_lst z_nil)) z_nil))))
      (zs_one (z_mut (i := 1) sim_ext (ps_expr (pe_bm PySem.F.plainAttrs_list PySem.F.slot_list_extend PySem.F.type_list_extend mt_extend (pv 1) (z_cons (z_ifE (z_isnT (z_fn k_sets hr (by omega) hgd rfl (z_cons (z_var 2) z_nil)) z_non) (z_lst (z_cons (z_fn k_sets hr (by omega) hgd rfl (z_cons (z_var 2) z_nil)) z_nil)) (z_lst z_nil)) z_nil))))))))
      (zs_frz 1 (zs_one (z_ret (z_frzE (z_sorted rfl rfl (h.free 13) (z_cons (z_set1 rfl rfl (h.free 12) (z_cons (z_var 1) z_nil)) z_nil))))))))
abbrev s_marks_in : Stmt := top 39
def m_marks_in : MF := mFn 1 2
    (mRet (mLc (mISeq (mCall (m_every_row 12) (mCons (mVar 0) mNil))) (.nm 1) (mTst (mBin gInA (mBin gIx (mVar 1) (mD (.int 0))) (mD (.tup ((["do", "yield", "strike", "catch", "if", "loop", "answer"] : List Str).map .str))))) (mBin gIx (mVar 1) (mD (.int 1))) (([("row", 1)] : List (Str × Nat)).map (·.2))))
theorem sc_marks_in : FnScope ["rows", "row"] ["rows"] (defScope s_marks_in) := ⟨rfl, rfl, rfl, by decide +kernel, rfl, by decide +kernel, by decide +kernel⟩
theorem kn_marks_in {G : Gd} {mg : Str → Option Value} {base : Heap} (h : Hd fa fn ts eb G mg base) (hcl : G.cls = clsOf G.K) (k_every_row : ∀ n, Kn G mg base "every_row" (2 + n) ["rows"] (m_every_row n)) : Kn G mg base "marks_in" 15 ["rows"] m_marks_in :=
  Kn.mk' (k := 14) (h.says.def_ 17 rfl) (h.glo 35) sc_marks_in rfl (fun _ _ _ _ _ _ us hl => match us, hl with | [_], _ => rfl) fun cdv A outer s H hr hgd =>
    (zs_one (z_ret (z_lc (t := (.nm 1)) sc_marks_in.nd (zi_seq (z_fn (k_every_row 12) hr (by omega) hgd rfl (z_cons (z_var 0) z_nil))) (blkOk_by (own := [("row", 1)]) (show blkC ["rows", "row"] (defScope s_marks_in) _ _ = true by decide +kernel)) (fun _ _ _ _ _ => (pg_name (i := 1) sc_marks_in.nd rfl (by first | exact Or.inl rfl | exact Or.inr rfl))) (fun _ _ _ _ _ => (z_tests1 (z_inT (z_ix (z_var 1) z_int) (z_d (glo_ref rfl (h.glo 64)) (fun F => tupc (ss := ["do", "yield", "strike", "catch", "if", "loop", "answer"]) (h.z.ex 5) F))))) (fun _ _ _ _ _ => (z_ix (z_var 1) z_int)))))
abbrev s_count : Stmt := top 40
def m_count : MF := mFn 1 1
    (mRet (mCB (g1 gLen) (mCons (mCall (m_every_row 12) (mCons (mVar 0) mNil)) mNil)))
theorem sc_count : FnScope ["rows"] ["rows"] (defScope s_count) := ⟨rfl, rfl, rfl, by decide +kernel, rfl, by decide +kernel, by decide +kernel⟩
theorem kn_count {G : Gd} {mg : Str → Option Value} {base : Heap} (h : Hd fa fn ts eb G mg base) (hcl : G.cls = clsOf G.K) (k_every_row : ∀ n, Kn G mg base "every_row" (2 + n) ["rows"] (m_every_row n)) : Kn G mg base "count" 15 ["rows"] m_count :=
  Kn.mk' (k := 14) (h.says.def_ 18 rfl) (h.glo 36) sc_count rfl (fun _ _ _ _ _ _ us hl => match us, hl with | [_], _ => rfl) fun cdv A outer s H hr hgd =>
    (zs_one (z_ret (z_len rfl (h.free 7) (z_cons (z_fn (k_every_row 12) hr (by omega) hgd rfl (z_cons (z_var 0) z_nil)) z_nil))))
abbrev s_depth : Stmt := top 41

def m_depth : Nat → MF
  | 0 => fun _ _ => none
  | n + 1 => mFn 1 3
    (mSeq (mIfS (mTst (mBin gEqA (mCB (g1 gLen) (mCons (mVar 0) mNil)) (mD (.int 0)))) (mRet (mD (.int 0))) mNext)
    (mRet (mBin gAdd (mD (.int 1)) (mCB (g1 gMax) (mCons (mLc (mISeq (mVar 0)) (.nm 2) mYes (mMaxD 0 (mLc (mISeq (mCall m_own_lists (mCons (mVar 2) mNil))) (.nm 1) mYes (mCall (m_depth n) (mCons (mVar 1) mNil)) (([("part", 1)] : List (Str × Nat)).map (·.2)))) (([("row", 2)] : List (Str × Nat)).map (·.2))) mNil)))))

theorem sc_depth : FnScope ["rows", "part", "row"] ["rows"] (defScope s_depth) := ⟨rfl, rfl, rfl, by decide +kernel, rfl, by decide +kernel, by decide +kernel⟩
theorem ks_depth {G : Gd} {mg : Str → Option Value} {base : Heap} (h : Hd fa fn ts eb G mg base) (hcl : G.cls = clsOf G.K) (k_own_lists : Kn G mg base "own_lists" 2 ["row"] m_own_lists) {n : Nat} (ih_depth : Kn G mg base "depth" (2 + n) ["rows"] (m_depth n)) : Kn G mg base "depth" (2 + (n + 1)) ["rows"] (m_depth (n + 1)) :=
  Kn.mk' (k := 2 + n) (h.says.def_ 19 rfl) (h.glo 37) sc_depth rfl (fun _ _ _ _ _ _ us hl => match us, hl with | [_], _ => rfl) fun cdv A outer s H hr hgd =>
    (zs_cons (z_if (z_eqAT hr (z_len rfl (h.free 7) (z_cons (z_var 0) z_nil)) z_int) (zs_one (z_ret z_int)) zs_nil)
      (zs_one (z_ret (z_add z_int (z_max rfl rfl (h.free 9) (z_cons (z_lc (t := (.nm 2)) sc_depth.nd (zi_seq (z_var 0)) (blkOk_by (own := [("row", 2)]) (show blkC ["rows", "part", "row"] (defScope s_depth) _ _ = true by decide +kernel)) (fun _ _ _ _ _ => (pg_name (i := 2) sc_depth.nd rfl (by first | exact Or.inl rfl | exact Or.inr rfl))) (fun _ _ _ _ _ => z_tests0) (fun _ _ _ _ _ => (z_maxD hr rfl (h.free 9) (z_lc (t := (.nm 1)) sc_depth.nd (zi_seq (z_fn k_own_lists hr (by omega) hgd rfl (z_cons (z_var 2) z_nil))) (blk_nest (own := [("part", 1)]) ["rows", "part", "row"] rfl (by decide +kernel)) (fun _ _ _ _ _ => (pg_name (i := 1) sc_depth.nd rfl (by first | exact Or.inl rfl | exact Or.inr rfl))) (fun _ _ _ _ _ => z_tests0) (fun _ _ _ _ _ => (z_fn ih_depth hr (by omega) hgd rfl (z_cons (z_var 1) z_nil))))))) z_nil))))))
theorem kz_depth {G : Gd} {mg : Str → Option Value} {base : Heap} (h : Hd fa fn ts eb G mg base) (k : Nat) : Kn G mg base "depth" k ["rows"] (m_depth 0) := Kn.zero (h.says.def_ 19 rfl) (h.glo 37) (fun _ _ _ _ _ _ us hl => match us, hl with | [_], _ => rfl)
theorem kr_depth {G : Gd} {mg : Str → Option Value} {base : Heap} (h : Hd fa fn ts eb G mg base) (hcl : G.cls = clsOf G.K) (k_own_lists : Kn G mg base "own_lists" 2 ["row"] m_own_lists) : ∀ n, Kn G mg base "depth" (2 + n) ["rows"] (m_depth n)
  | 0 => kz_depth h _
  | n + 1 => by
    have ih := kr_depth h hcl k_own_lists n
    exact ks_depth h hcl k_own_lists ih
abbrev s_are_given : Stmt := top 48
def m_are_given : MF := mFn 1 1
    (mRet (mAndV (mCall m_are_names (mCons (mVar 0) (mCons (mD (.int 4)) mNil))) (mBin gEqA (mCB (g1 gLenS) (mCons (mCB (g1 gSet) (mCons (mVar 0) mNil)) mNil)) (mCB (g1 gLen) (mCons (mVar 0) mNil)))))
theorem sc_are_given : FnScope ["thing"] ["thing"] (defScope s_are_given) := ⟨rfl, rfl, rfl, by decide +kernel, rfl, by decide +kernel, by decide +kernel⟩
theorem kn_are_given {G : Gd} {mg : Str → Option Value} {base : Heap} (h : Hd fa fn ts eb G mg base) (hcl : G.cls = clsOf G.K) (k_are_names : Kn G mg base "are_names" 2 ["thing", "most"] m_are_names) : Kn G mg base "are_given" 3 ["thing"] m_are_given :=
  Kn.mk' (k := 2) (h.says.def_ 20 rfl) (h.glo 38) sc_are_given rfl (fun _ _ _ _ _ _ us hl => match us, hl with | [_], _ => rfl) fun cdv A outer s H hr hgd =>
    (zs_one (z_ret (z_andV (z_fn k_are_names hr (by omega) hgd rfl (z_cons (z_var 0) (z_cons (z_d (pe_glob rfl (h.gint 66).choose_spec (show RelV (V.int 4) _ from ⟨_, rfl⟩)) (fun _ => rfl)) z_nil))) (z_one (z_eqA hr (z_lenS rfl (h.free 7) (z_cons (z_set1 rfl rfl (h.free 12) (z_cons (z_var 0) z_nil)) z_nil)) (z_len rfl (h.free 7) (z_cons (z_var 0) z_nil)))))))
abbrev s_rows_with_places : Stmt := top 49

def m_rows_with_places : Nat → MF
  | 0 => fun _ _ => none
  | n + 1 => mFn 2 7
    (mSeq (mSet 2 (mLstO mNil))
    (mSeq (mFor (mIEnum (mCons (mVar 0) mNil)) (.tup [3, 4]) (mSeq (mMut 2 (mCons (mTup (mCons (mTup (mStar (mVar 1) (mCons (mVar 3) mNil))) (mCons (mVar 4) mNil))) mNil) gApp)
    (mFor (mIEnum (mCons (mCall m_own_lists (mCons (mVar 4) mNil)) mNil)) (.tup [5, 6]) (mMut 2 (mCons (mCall (m_rows_with_places n) (mCons (mVar 6) (mCons (mTup (mStar (mVar 1) (mCons (mVar 3) (mCons (mVar 5) mNil)))) mNil))) mNil) gExt))))
    (mSeq (mFrz 2) (mRet (mVar 2)))))

theorem sc_rows_with_places : FnScope ["rows", "path", "found", "at", "row", "number", "part"] ["rows", "path"] (defScope s_rows_with_places) := ⟨rfl, rfl, rfl, by decide +kernel, rfl, by decide +kernel, by decide +kernel⟩
theorem ks_rows_with_places {G : Gd} {mg : Str → Option Value} {base : Heap} (h : Hd fa fn ts eb G mg base) (hcl : G.cls = clsOf G.K) (k_own_lists : Kn G mg base "own_lists" 2 ["row"] m_own_lists) {n : Nat} (ih_rows_with_places : Kn G mg base "rows_with_places" (2 + n) ["rows", "path"] (m_rows_with_places n)) : Kn G mg base "rows_with_places" (2 + (n + 1)) ["rows", "path"] (m_rows_with_places (n + 1)) :=
  Kn.mk' (k := 2 + n) (h.says.def_ 21 rfl) (h.glo 39) sc_rows_with_places rfl (fun _ _ _ _ _ _ us hl => match us, hl with | [_, _], _ => rfl) fun cdv A outer s H hr hgd =>
    (zs_cons (z_set (i := 2) sc_rows_with_places.nd rfl (by first | exact Or.inl rfl | exact Or.inr rfl) (z_lstO z_nil))
      (zs_cons (z_for (t := (.tup [3, 4])) PassesOwn.never (zi_enum rfl (h.free 4) (z_cons (z_var 0) z_nil)) (pg_tup rfl (pgs_cons (pg_name (i := 3) sc_rows_with_places.nd rfl (by first | exact Or.inl rfl | exact Or.inr rfl)) (pgs_cons (pg_name (i := 4) sc_rows_with_places.nd rfl (by first | exact Or.inl rfl | exact Or.inr rfl)) pgs_nil))) (zs_cons (z_mut (i := 2) sim_app (ps_expr (pe_bm PySem.F.plainAttrs_list PySem.F.slot_list_append PySem.F.type_list_append mt_append (pv 2) (z_cons (z_tup (z_cons (z_tup (z_star (z_var 1) (z_cons (z_var 3) z_nil))) (z_cons (z_var 4) z_nil))) z_nil))))
      (zs_one (z_for (t := (.tup [5, 6])) PassesOwn.never (zi_enum rfl (h.free 4) (z_cons (z_fn k_own_lists hr (by omega) hgd rfl (z_cons (z_var 4) z_nil)) z_nil)) (pg_tup rfl (pgs_cons (pg_name (i := 5) sc_rows_with_places.nd rfl (by first | exact Or.inl rfl | exact Or.inr rfl)) (pgs_cons (pg_name (i := 6) sc_rows_with_places.nd rfl (by first | exact Or.inl rfl | exact Or.inr rfl)) pgs_nil))) (zs_one (z_mut (i := 2) sim_ext (ps_expr (pe_bm PySem.F.plainAttrs_list PySem.F.slot_list_extend PySem.F.type_list_extend mt_extend (pv 2) (z_cons (z_fn ih_rows_with_places hr (by omega) hgd rfl (z_cons (z_var 6) (z_cons (z_tup (z_star (z_var 1) (z_cons (z_var 3) (z_cons (z_var 5) z_nil)))) z_nil))) z_nil)))))))))
      (zs_frz 2 (zs_one (z_ret (z_var 2))))))
theorem kz_rows_with_places {G : Gd} {mg : Str → Option Value} {base : Heap} (h : Hd fa fn ts eb G mg base) (k : Nat) : Kn G mg base "rows_with_places" k ["rows", "path"] (m_rows_with_places 0) := Kn.zero (h.says.def_ 21 rfl) (h.glo 39) (fun _ _ _ _ _ _ us hl => match us, hl with | [_, _], _ => rfl)
theorem kr_rows_with_places {G : Gd} {mg : Str → Option Value} {base : Heap} (h : Hd fa fn ts eb G mg base) (hcl : G.cls = clsOf G.K) (k_own_lists : Kn G mg base "own_lists" 2 ["row"] m_own_lists) : ∀ n, Kn G mg base "rows_with_places" (2 + n) ["rows", "path"] (m_rows_with_places n)
  | 0 => kz_rows_with_places h _
  | n + 1 => by
    have ih := kr_rows_with_places h hcl k_own_lists n
    exact ks_rows_with_places h hcl k_own_lists ih
abbrev s_check_ends : Stmt := top 50
def m_check_ends : MF := mFn 1 5
    (mSeq (mSet 1 (mCall (m_rows_with_places 12) (mCons (mVar 0) (mCons (mTup mNil) mNil))))
    (mSeq (mSet 2 (mDcE (mISeq (mVar 1))))
    (mFor (mISeq (mVar 1)) (.tup [3, 4]) (mIfS (mAndT (mTst (mBin gInA (mBin gIx (mVar 4) (mD (.int 0))) (mD (.tup ((["leave", "again", "answer"] : List Str).map .str))))) (mTst (mBin gInA (mTup (mStar (mSl (mVar 3) mNoPart (mPart (mNeg (mD (.int 1))))) (mCons (mBin gAdd (mBin gIx (mVar 3) (mNeg (mD (.int 1)))) (mD (.int 1))) mNil))) (mVar 2)))) mStuck mNext))))
theorem sc_check_ends : FnScope ["rows", "placed", "known", "address", "row"] ["rows"] (defScope s_check_ends) := ⟨rfl, rfl, rfl, by decide +kernel, rfl, by decide +kernel, by decide +kernel⟩
theorem kn_check_ends {G : Gd} {mg : Str → Option Value} {base : Heap} (h : Hd fa fn ts eb G mg base) (hcl : G.cls = clsOf G.K) (k_rows_with_places : ∀ n, Kn G mg base "rows_with_places" (2 + n) ["rows", "path"] (m_rows_with_places n)) : Kn G mg base "check_ends" 15 ["rows"] m_check_ends :=
  Kn.mk' (k := 14) (h.says.def_ 22 rfl) (h.glo 40) sc_check_ends rfl (fun _ _ _ _ _ _ us hl => match us, hl with | [_], _ => rfl) fun cdv A outer s H hr hgd =>
    (zs_cons (z_set (i := 1) sc_check_ends.nd rfl (by first | exact Or.inl rfl | exact Or.inr rfl) (z_fn (k_rows_with_places 12) hr (by omega) hgd rfl (z_cons (z_var 0) (z_cons (z_tup z_nil) z_nil))))
      (zs_cons (z_setDcE (i := 2) (t := (.tup [3, 4])) sc_check_ends.nd rfl rfl (sw_trueD rfl rfl rfl (by decide +kernel)) (zi_seq (z_var 1)) (blkOk_by (own := [("address", 3), ("row", 4)]) (show blkC ["rows", "placed", "known", "address", "row"] (defScope s_check_ends) _ _ = true by decide +kernel)) (fun _ _ _ _ _ => (pg_tup rfl (pgs_cons (pg_name (i := 3) sc_check_ends.nd rfl (by first | exact Or.inl rfl | exact Or.inr rfl)) (pgs_cons (pg_name (i := 4) sc_check_ends.nd rfl (by first | exact Or.inl rfl | exact Or.inr rfl)) pgs_nil)))) (fun _ _ _ _ _ => z_tests0) (fun _ _ _ _ _ => (z_var 3)) (fun _ _ _ _ _ => z_bl))
      (zs_one (z_for (t := (.tup [3, 4])) PassesOwn.never (zi_seq (z_var 1)) (pg_tup rfl (pgs_cons (pg_name (i := 3) sc_check_ends.nd rfl (by first | exact Or.inl rfl | exact Or.inr rfl)) (pgs_cons (pg_name (i := 4) sc_check_ends.nd rfl (by first | exact Or.inl rfl | exact Or.inr rfl)) pgs_nil))) (zs_one (z_if (PW.pt (z_and (z_inT (z_ix (z_var 4) z_int) (z_d (glo_ref rfl (h.glo 67)) (fun F => tupc (ss := ["leave", "again", "answer"]) (h.z.ex 6) F))) (z_and1 (z_inT (z_tup (z_star (z_sl (z_var 3) z_noPart (z_part (z_neg z_int))) (z_cons (z_add (z_ix (z_var 3) (z_neg z_int)) z_int) z_nil))) (z_var 2))))) (zs_one z_stuck) zs_nil))))))
abbrev s_check_loops : Stmt := top 51
def m_check_loops : MF := mFn 1 7
    (mSeq (mSet 1 (mCall (m_rows_with_places 12) (mCons (mVar 0) (mCons (mTup mNil) mNil))))
    (mSeq (mSet 2 (mDcE (mISeq (mVar 1))))
    (mFor (mISeq (mVar 1)) (.tup [3, 4]) (mSeq (mSet 5 (mLc (mISeq mNone) (.nm 6) mYes (mBin gIx (mVar 2) (mSl (mVar 3) mNoPart (mPart (mVar 6)))) (([("at", 6)] : List (Str × Nat)).map (·.2))))
    (mIfS (mAndT (mTst (mBin gInA (mBin gIx (mVar 4) (mD (.int 0))) (mTup (mCons (mD (.str "leave")) (mCons (mD (.str "again")) mNil))))) (mTst (mBin gNiA (mD (.str "loop")) (mVar 5)))) mStuck mNext)))))
theorem sc_check_loops : FnScope ["rows", "placed", "kinds", "address", "row", "around", "at"] ["rows"] (defScope s_check_loops) := ⟨rfl, rfl, rfl, by decide +kernel, rfl, by decide +kernel, by decide +kernel⟩
theorem kn_check_loops {G : Gd} {mg : Str → Option Value} {base : Heap} (h : Hd fa fn ts eb G mg base) (hcl : G.cls = clsOf G.K) (k_rows_with_places : ∀ n, Kn G mg base "rows_with_places" (2 + n) ["rows", "path"] (m_rows_with_places n)) : Kn G mg base "check_loops" 15 ["rows"] m_check_loops :=
  Kn.mk' (k := 14) (h.says.def_ 23 rfl) (h.glo 41) sc_check_loops rfl (fun _ _ _ _ _ _ us hl => match us, hl with | [_], _ => rfl) fun cdv A outer s H hr hgd =>
    (zs_cons (z_set (i := 1) sc_check_loops.nd rfl (by first | exact Or.inl rfl | exact Or.inr rfl) (z_fn (k_rows_with_places 12) hr (by omega) hgd rfl (z_cons (z_var 0) (z_cons (z_tup z_nil) z_nil))))
      (zs_cons (z_set (i := 2) sc_check_loops.nd rfl (by first | exact Or.inl rfl | exact Or.inr rfl) (z_dcE (t := (.tup [3, 4])) sc_check_loops.nd (zi_seq (z_var 1)) (blkOk_by (own := [("address", 3), ("row", 4)]) (show blkC ["rows", "placed", "kinds", "address", "row", "around", "at"] (defScope s_check_loops) _ _ = true by decide +kernel)) (fun _ _ _ _ _ => (pg_tup rfl (pgs_cons (pg_name (i := 3) sc_check_loops.nd rfl (by first | exact Or.inl rfl | exact Or.inr rfl)) (pgs_cons (pg_name (i := 4) sc_check_loops.nd rfl (by first | exact Or.inl rfl | exact Or.inr rfl)) pgs_nil)))) (fun _ _ _ _ _ => z_tests0) (fun _ _ _ _ _ => (z_var 3)) (fun _ _ _ _ _ => (z_ix (z_var 4) z_int))))
      (zs_one (z_for (t := (.tup [3, 4])) PassesOwn.never (zi_seq (z_var 1)) (pg_tup rfl (pgs_cons (pg_name (i := 3) sc_check_loops.nd rfl (by first | exact Or.inl rfl | exact Or.inr rfl)) (pgs_cons (pg_name (i := 4) sc_check_loops.nd rfl (by first | exact Or.inl rfl | exact Or.inr rfl)) pgs_nil))) (zs_cons (z_setLc (i := 5) (t := (.nm 6)) sc_check_loops.nd rfl rfl (sw_true rfl rfl rfl (by decide +kernel)) (zi_seq (z_none)) (blkOk_by (own := [("at", 6)]) (show blkC ["rows", "placed", "kinds", "address", "row", "around", "at"] (defScope s_check_loops) _ _ = true by decide +kernel)) (fun _ _ _ _ _ => (pg_name (i := 6) sc_check_loops.nd rfl (by first | exact Or.inl rfl | exact Or.inr rfl))) (fun _ _ _ _ _ => z_tests0) (fun _ _ _ _ _ => (z_ix (z_var 2) (z_sl (z_var 3) z_noPart (z_part (z_var 6))))))
      (zs_one (z_if (PW.pt (z_and (z_inT (z_ix (z_var 4) z_int) (z_tup (z_cons z_str (z_cons z_str z_nil)))) (z_and1 (z_niT z_str (z_var 5))))) (zs_one z_stuck) zs_nil)))))))
abbrev s_check_marks : Stmt := top 52
def m_check_marks : MF := mFn 1 4
    (mSeq (mSet 1 (mFrzE (mCB (g1 gSorted) (mCons (mCall m_marks_in (mCons (mVar 0) mNil)) mNil))))
    (mFor (mIZip (mCons (mVar 1) (mCons (mSl (mVar 1) (mPart (mD (.int 1))) mNoPart) mNil))) (.tup [2, 3]) (mIfS (mTst (mBin gEqA (mVar 2) (mVar 3))) mStuck mNext)))
theorem sc_check_marks : FnScope ["rows", "marks", "mark", "other"] ["rows"] (defScope s_check_marks) := ⟨rfl, rfl, rfl, by decide +kernel, rfl, by decide +kernel, by decide +kernel⟩
theorem kn_check_marks {G : Gd} {mg : Str → Option Value} {base : Heap} (h : Hd fa fn ts eb G mg base) (hcl : G.cls = clsOf G.K) (k_marks_in : Kn G mg base "marks_in" 15 ["rows"] m_marks_in) : Kn G mg base "check_marks" 16 ["rows"] m_check_marks :=
  Kn.mk' (k := 15) (h.says.def_ 24 rfl) (h.glo 42) sc_check_marks rfl (fun _ _ _ _ _ _ us hl => match us, hl with | [_], _ => rfl) fun cdv A outer s H hr hgd =>
    (zs_cons (z_set (i := 1) sc_check_marks.nd rfl (by first | exact Or.inl rfl | exact Or.inr rfl) (z_frzE (z_sorted rfl rfl (h.free 13) (z_cons (z_fn k_marks_in hr (by omega) hgd rfl (z_cons (z_var 0) z_nil)) z_nil))))
      (zs_one (z_for (t := (.tup [2, 3])) PassesOwn.never (zi_zip rfl (h.free 16) (z_cons (z_var 1) (z_cons (z_sl (z_var 1) (z_part z_int) z_noPart) z_nil))) (pg_tup rfl (pgs_cons (pg_name (i := 2) sc_check_marks.nd rfl (by first | exact Or.inl rfl | exact Or.inr rfl)) (pgs_cons (pg_name (i := 3) sc_check_marks.nd rfl (by first | exact Or.inl rfl | exact Or.inr rfl)) pgs_nil))) (zs_one (z_if (z_eqAT hr (z_var 2) (z_var 3)) (zs_one z_stuck) zs_nil)))))
abbrev s_Body_init : Stmt := (inCls (top 54) 0)
def m_Body_init : MF := mInit 0 3 5
    (mSeq (mIfS (mNotT (mTst (mCall m_are_given (mCons (mVar 1) mNil)))) mStuck mNext)
    (mSeq (mIfS (mNotT (mTst (mCall (m_are_rows 12) (mCons (mVar 2) mNil)))) mStuck mNext)
    (mSeq (mSet 3 (mLc (mISeq (mVar 2)) (.nm 4) mYes (mCall (m_frozen 12) (mCons (mVar 4) mNil)) (([("row", 4)] : List (Str × Nat)).map (·.2))))
    (mSeq (mIfS (mTst (mBin gGt (mCall m_count (mCons (mVar 3) mNil)) (mD (.int 100)))) mStuck mNext)
    (mSeq (mIfS (mTst (mBin gGt (mCall (m_depth 12) (mCons (mVar 3) mNil)) (mD (.int 10)))) mStuck mNext)
    (mSeq (mIfS (mTst (mBin gGt (mCB (g1 gLenS) (mCons (mBin gOr (mCB (g1 gSet) (mCons (mCall m_names_in (mCons (mVar 3) mNil)) mNil)) (mCB (g1 gSet) (mCons (mVar 1) mNil))) mNil)) (mD (.int 8)))) mStuck mNext)
    (mSeq (mDrop (mCall m_check_marks (mCons (mVar 3) mNil)))
    (mSeq (mDrop (mCall m_check_ends (mCons (mVar 3) mNil)))
    (mSeq (mDrop (mCall m_check_loops (mCons (mVar 3) mNil)))
    (mSeq (mSetFs 0 0 ["held_given", "held_rows"] (mCons (mCB (g1 gTuple) (mCons (mFrzE (mCB (g1 gSorted) (mCons (mVar 1) mNil))) mNil)) (mCons (mVar 3) mNil)))
    (mSetF 0 0 "held_places" (mCB (g1 gDict) (mCons (mCall (m_rows_with_places 12) (mCons (mVar 3) (mCons (mTup mNil) mNil))) mNil)))))))))))))
theorem sc_Body_init : FnScope ["self", "given", "rows", "kept", "row"] ["self", "given", "rows"] (defScope s_Body_init) := ⟨rfl, rfl, rfl, by decide +kernel, rfl, by decide +kernel, by decide +kernel⟩
theorem kn_Body_init {G : Gd} {mg : Str → Option Value} {base : Heap} (h : Hd fa fn ts eb G mg base) (hcl : G.cls = clsOf G.K) (k_are_rows : ∀ y n, Kn (G.at y) mg base "are_rows" (2 + n) ["thing"] (m_are_rows n)) (k_frozen : ∀ y n, Kn (G.at y) mg base "frozen" (2 + n) ["row"] (m_frozen n)) (k_names_in : ∀ y, Kn (G.at y) mg base "names_in" 15 ["rows"] m_names_in) (k_count : ∀ y, Kn (G.at y) mg base "count" 15 ["rows"] m_count) (k_depth : ∀ y n, Kn (G.at y) mg base "depth" (2 + n) ["rows"] (m_depth n)) (k_are_given : ∀ y, Kn (G.at y) mg base "are_given" 3 ["thing"] m_are_given) (k_rows_with_places : ∀ y n, Kn (G.at y) mg base "rows_with_places" (2 + n) ["rows", "path"] (m_rows_with_places n)) (k_check_ends : ∀ y, Kn (G.at y) mg base "check_ends" 15 ["rows"] m_check_ends) (k_check_loops : ∀ y, Kn (G.at y) mg base "check_loops" 15 ["rows"] m_check_loops) (k_check_marks : ∀ y, Kn (G.at y) mg base "check_marks" 16 ["rows"] m_check_marks) : KnC G mg base "Body" 18 m_Body_init :=
  KnC.mk' (k := 16) (c := 0) (h.says.def_ 25 rfl) (by rw [clse0 hcl]; exact h.glo 44) (by rw [clse0 hcl]; exact He.mkr_ok (h.says.fact 57)) sc_Body_init rfl (fun _ _ _ _ _ _ us hl => match us, hl with | [_, _, _], _ => rfl) fun y cdv A outer s H hr hgd =>
    have h0 := h
    have h := h.at y
    (zs_cons (z_if (z_not (z_val (z_fn (k_are_given y) hr (by omega) hgd rfl (z_cons (z_var 1) z_nil)))) (zs_one z_stuck) zs_nil)
      (zs_cons (z_if (z_not (z_val (z_fn (k_are_rows y 12) hr (by omega) hgd rfl (z_cons (z_var 2) z_nil)))) (zs_one z_stuck) zs_nil)
      (zs_cons (z_setLc (i := 3) (t := (.nm 4)) sc_Body_init.nd rfl rfl (sw_true rfl rfl rfl (by decide +kernel)) (zi_seq (z_var 2)) (blkOk_by (own := [("row", 4)]) (show blkC ["self", "given", "rows", "kept", "row"] (defScope s_Body_init) _ _ = true by decide +kernel)) (fun _ _ _ _ _ => (pg_name (i := 4) sc_Body_init.nd rfl (by first | exact Or.inl rfl | exact Or.inr rfl))) (fun _ _ _ _ _ => z_tests0) (fun _ _ _ _ _ => (z_fn (k_frozen y 12) hr (by omega) hgd rfl (z_cons (z_var 4) z_nil))))
      (zs_cons (z_if (z_gtT (z_fn (k_count y) hr (by omega) hgd rfl (z_cons (z_var 3) z_nil)) (z_d (pe_glob rfl (h.gint 68).choose_spec (show RelV (V.int 100) _ from ⟨_, rfl⟩)) (fun _ => rfl))) (zs_one z_stuck) zs_nil)
      (zs_cons (z_if (z_gtT (z_fn (k_depth y 12) hr (by omega) hgd rfl (z_cons (z_var 3) z_nil)) (z_d (pe_glob rfl (h.gint 69).choose_spec (show RelV (V.int 10) _ from ⟨_, rfl⟩)) (fun _ => rfl))) (zs_one z_stuck) zs_nil)
      (zs_cons (z_if (z_gtT (z_lenS rfl (h.free 7) (z_cons (z_orS (z_set1 rfl rfl (h.free 12) (z_cons (z_fn (k_names_in y) hr (by omega) hgd rfl (z_cons (z_var 3) z_nil)) z_nil)) (z_set1 rfl rfl (h.free 12) (z_cons (z_var 1) z_nil))) z_nil)) (z_d (pe_glob rfl (h.gint 70).choose_spec (show RelV (V.int 8) _ from ⟨_, rfl⟩)) (fun _ => rfl))) (zs_one z_stuck) zs_nil)
      (zs_cons (z_expr (z_fn (k_check_marks y) hr (by omega) hgd rfl (z_cons (z_var 3) z_nil)))
      (zs_cons (z_expr (z_fn (k_check_ends y) hr (by omega) hgd rfl (z_cons (z_var 3) z_nil)))
      (zs_cons (z_expr (z_fn (k_check_loops y) hr (by omega) hgd rfl (z_cons (z_var 3) z_nil)))
      (zs_cons (z_setFs (c := 0) (i := 0) (is := ["held_given", "held_rows"]) (z_cons (z_tuple rfl (h.free 15) (z_cons (z_frzE (z_sorted rfl rfl (h.free 13) (z_cons (z_var 1) z_nil))) z_nil)) (z_cons (z_var 3) z_nil)) (cls0 h0 hcl) (List.forall_mem_cons.mpr ⟨by rw [clse0 hcl]; exact He.noat_ok (h0.says.fact 72), (List.forall_mem_cons.mpr ⟨by rw [clse0 hcl]; exact He.noat_ok (h0.says.fact 71), (fun _ z => absurd z (by simp))⟩)⟩) (pgs_cons (pg_fld (pv 0)) (pgs_cons (pg_fld (pv 0)) pgs_nil)))
      (zs_one (z_setF (c := 0) 0 (z_dict rfl rfl (h.free 3) (z_cons (z_fn (k_rows_with_places y 12) hr (by omega) hgd rfl (z_cons (z_var 3) (z_cons (z_tup z_nil) z_nil))) z_nil)) (cls0 h0 hcl) (by rw [clse0 hcl]; exact He.noat_ok (h0.says.fact 73))))))))))))))
abbrev s_law_bag : Stmt := top 56
def m_law_bag : MF := mFn 1 2
    (mRet (mLstO (mCons (mD (.int 0)) (mCons (mD (.int 1234567891)) (mCons (mD (.int 0)) (mCons (mLc (mISeq (mSl (mVar 0) mNoPart (mPart (mD (.int 63))))) (.nm 1) mYes (mCB (g1 gAbs) (mCons (mVar 1) mNil)) (([("_law_cell", 1)] : List (Str × Nat)).map (·.2))) mNil))))))
theorem sc_law_bag : FnScope ["_law_script", "_law_cell"] ["_law_script"] (defScope s_law_bag) := ⟨rfl, rfl, rfl, by decide +kernel, rfl, by decide +kernel, by decide +kernel⟩
theorem kn_law_bag {G : Gd} {mg : Str → Option Value} {base : Heap} (h : Hd fa fn ts eb G mg base) (hcl : G.cls = clsOf G.K)  : Kn G mg base "_law_bag" 1 ["_law_script"] m_law_bag :=
  Kn.mk' (k := 0) (h.says.def_ 26 rfl) (h.glo 45) sc_law_bag rfl (fun _ _ _ _ _ _ us hl => match us, hl with | [_], _ => rfl) fun cdv A outer s H hr hgd =>
    (zs_one (z_ret (z_lstO (z_cons z_int (z_cons z_int (z_cons z_int (z_cons (z_lc (t := (.nm 1)) sc_law_bag.nd (zi_seq (z_sl (z_var 0) z_noPart (z_part z_int))) (blkOk_by (own := [("_law_cell", 1)]) (show blkC ["_law_script", "_law_cell"] (defScope s_law_bag) _ _ = true by decide +kernel)) (fun _ _ _ _ _ => (pg_name (i := 1) sc_law_bag.nd rfl (by first | exact Or.inl rfl | exact Or.inr rfl))) (fun _ _ _ _ _ => z_tests0) (fun _ _ _ _ _ => (z_abs rfl (h.free 0) (z_cons (z_var 1) z_nil)))) z_nil)))))))
abbrev s_law_take : Stmt := top 57
def m_law_take : MF := mFn 2 7
    (mSeq (mIfS (mTst (mBin gEqA (mBin gIx (mVar 0) (mD (.int 0))) (mD (.int 0)))) (mSeq (mSet 2 (mD (.int 0)))
    (mSeq (mIfS (mTst (mBin gLt (mBin gIx (mVar 0) (mD (.int 2))) (mCB (g1 gLen) (mCons (mBin gIx (mVar 0) (mD (.int 3))) mNil)))) (mSet 2 (mBin gIx (mBin gIx (mVar 0) (mD (.int 3))) (mBin gIx (mVar 0) (mD (.int 2))))) mNext)
    (mSeq (mAugIx (fun i j => i + j) (mVar 0) (mD (.int 2)) (mD (.int 1)))
    (mSeq (mIfS (mTst (mBin gGe (mVar 2) (mBin (gInt cPow fun i j => .int (i ^ j.toNat)) (mD (.int 10)) (mD (.int 18))))) (mSetIx (mVar 0) (mD (.int 0)) (mVar 2)) mNext)
    (mSeq (mSet 3 (mBin gAdd (mBin gAdd (mBin gMulT (mBin gIx (mVar 0) (mD (.int 1))) (mD (.int 48271))) (mBin (gInt (fun _ j => decide (0 < j)) fun i j => .int (i % j)) (mCB (g1 gInt1) (mCons (mVar 2) mNil)) (mD (.int 2147483647)))) (mBin gMulT (mD (.int 7919)) (mBin gIx (mVar 0) (mD (.int 2))))))
    (mSetIx (mVar 0) (mD (.int 1)) (mBin (gInt (fun _ j => decide (0 < j)) fun i j => .int (i % j)) (mCB (g1 gInt1) (mCons (mVar 3) mNil)) (mD (.int 2147483647))))))))) mNext)
    (mSeq (mIfS (mTst (mBin gGt (mBin gIx (mVar 0) (mD (.int 0))) (mD (.int 0)))) (mSeq (mSet 4 (mBin (gInt (fun _ j => decide (0 < j)) fun i j => .int (i % j)) (mCB (g1 gInt1) (mCons (mBin gIx (mVar 0) (mD (.int 0))) mNil)) (mVar 1)))
    (mSeq (mSetIx (mVar 0) (mD (.int 0)) (mBin (gInt cDiv fun i j => .int (i / j)) (mBin gIx (mVar 0) (mD (.int 0))) (mVar 1)))
    (mRet (mVar 4)))) mNext)
    (mSeq (mSet 5 (mBin (gInt (fun _ j => decide (0 < j)) fun i j => .int (i % j)) (mCB (g1 gInt1) (mCons (mBin gMulT (mBin gAdd (mBin gIx (mVar 0) (mD (.int 1))) (mD (.int 1))) (mD (.int 39373))) mNil)) (mD (.int 1000000007))))
    (mSeq (mSet 6 (mBin (gInt (fun _ j => decide (0 < j)) fun i j => .int (i % j)) (mCB (g1 gInt1) (mCons (mBin gMulT (mBin (gInt (fun _ j => decide (0 < j)) fun i j => .int (i % j)) (mCB (g1 gInt1) (mCons (mBin gMulT (mVar 5) (mVar 5)) mNil)) (mD (.int 998244353))) (mD (.int 30011))) mNil)) (mD (.int 998244353))))
    (mRet (mBin (gInt (fun _ j => decide (0 < j)) fun i j => .int (i % j)) (mCB (g1 gInt1) (mCons (mBin (gInt cDiv fun i j => .int (i / j)) (mVar 6) (mD (.int 7))) mNil)) (mVar 1)))))))
theorem sc_law_take : FnScope ["_law_bag_here", "_law_many", "_law_cell", "_law_mixed", "_law_value", "_law_begin", "_law_second"] ["_law_bag_here", "_law_many"] (defScope s_law_take) := ⟨rfl, rfl, rfl, by decide +kernel, rfl, by decide +kernel, by decide +kernel⟩
theorem kn_law_take {G : Gd} {mg : Str → Option Value} {base : Heap} (h : Hd fa fn ts eb G mg base) (hcl : G.cls = clsOf G.K)  : Kn G mg base "_law_take" 1 ["_law_bag_here", "_law_many"] m_law_take :=
  Kn.mk' (k := 0) (h.says.def_ 27 rfl) (h.glo 46) sc_law_take rfl (fun _ _ _ _ _ _ us hl => match us, hl with | [_, _], _ => rfl) fun cdv A outer s H hr hgd =>
    (zs_cons (z_if (z_eqAT hr (z_ix (z_var 0) z_int) z_int) (zs_cons (z_set (i := 2) sc_law_take.nd rfl (by first | exact Or.inl rfl | exact Or.inr rfl) z_int)
      (zs_cons (z_if (z_ltT (z_ix (z_var 0) z_int) (z_len rfl (h.free 7) (z_cons (z_ix (z_var 0) z_int) z_nil))) (zs_one (z_set (i := 2) sc_law_take.nd rfl (by first | exact Or.inl rfl | exact Or.inr rfl) (z_ix (z_ix (z_var 0) z_int) (z_ix (z_var 0) z_int)))) zs_nil)
      (zs_cons (z_augIx ip_add (z_var 0) z_int z_int)
      (zs_cons (z_if (z_geT (z_var 2) (z_pow z_int z_int)) (zs_one (z_setIx (z_var 2) (z_var 0) z_int (pg_sub (z_var 0) z_int set_list))) zs_nil)
      (zs_cons (z_set (i := 3) sc_law_take.nd rfl (by first | exact Or.inl rfl | exact Or.inr rfl) (z_add (z_add (z_mulT (z_ix (z_var 0) z_int) z_int) (z_mod (z_int1 rfl (h.free 5) (z_cons (z_var 2) z_nil)) z_int)) (z_mulT z_int (z_ix (z_var 0) z_int))))
      (zs_one (z_setIx (z_mod (z_int1 rfl (h.free 5) (z_cons (z_var 3) z_nil)) z_int) (z_var 0) z_int (pg_sub (z_var 0) z_int set_list)))))))) zs_nil)
      (zs_cons (z_if (z_gtT (z_ix (z_var 0) z_int) z_int) (zs_cons (z_set (i := 4) sc_law_take.nd rfl (by first | exact Or.inl rfl | exact Or.inr rfl) (z_mod (z_int1 rfl (h.free 5) (z_cons (z_ix (z_var 0) z_int) z_nil)) (z_var 1)))
      (zs_cons (z_setIx (z_fdiv (z_ix (z_var 0) z_int) (z_var 1)) (z_var 0) z_int (pg_sub (z_var 0) z_int set_list))
      (zs_one (z_ret (z_var 4))))) zs_nil)
      (zs_cons (z_set (i := 5) sc_law_take.nd rfl (by first | exact Or.inl rfl | exact Or.inr rfl) (z_mod (z_int1 rfl (h.free 5) (z_cons (z_mulT (z_add (z_ix (z_var 0) z_int) z_int) z_int) z_nil)) z_int))
      (zs_cons (z_set (i := 6) sc_law_take.nd rfl (by first | exact Or.inl rfl | exact Or.inr rfl) (z_mod (z_int1 rfl (h.free 5) (z_cons (z_mulT (z_mod (z_int1 rfl (h.free 5) (z_cons (z_mulT (z_var 5) (z_var 5)) z_nil)) z_int) z_int) z_nil)) z_int))
      (zs_one (z_ret (z_mod (z_int1 rfl (h.free 5) (z_cons (z_fdiv (z_var 6) z_int) z_nil)) (z_var 1))))))))
abbrev s_law_alike : Stmt := top 58
def m_law_alike : MF := mFn 2 2
    (mRet (mAndV (mBin gEqA (mVar 0) (mVar 1)) (mBin gEqA (mCB (g1 gReprA) (mCons (mVar 0) mNil)) (mCB (g1 gReprA) (mCons (mVar 1) mNil)))))
theorem sc_law_alike : FnScope ["_law_found", "_law_due"] ["_law_found", "_law_due"] (defScope s_law_alike) := ⟨rfl, rfl, rfl, by decide +kernel, rfl, by decide +kernel, by decide +kernel⟩
theorem kn_law_alike {G : Gd} {mg : Str → Option Value} {base : Heap} (h : Hd fa fn ts eb G mg base) (hcl : G.cls = clsOf G.K)  : Kn G mg base "_law_alike" 1 ["_law_found", "_law_due"] m_law_alike :=
  Kn.mk' (k := 0) (h.says.def_ 28 rfl) (h.glo 47) sc_law_alike rfl (fun _ _ _ _ _ _ us hl => match us, hl with | [_, _], _ => rfl) fun cdv A outer s H hr hgd =>
    (zs_one (z_ret (z_andV (z_eqA hr (z_var 0) (z_var 1)) (z_one (z_eqA hr (z_reprA hr hgd h.sys rfl (h.free 11) (z_cons (z_var 0) z_nil)) (z_reprA hr hgd h.sys rfl (h.free 11) (z_cons (z_var 1) z_nil)))))))
abbrev s_law_names : Stmt := top 59
def m_law_names : MF := mFn 2 7
    (mSeq (mSet 2 (mLst (mCons (mD (.str "a")) (mCons (mD (.str "aa")) (mCons (mD (.str "ab")) (mCons (mD (.str "b")) (mCons (mD (.str "do")) (mCons (mD (.str "fail")) (mCons (mD (.str "last")) (mCons (mD (.str "put")) (mCons (mD (.str "x")) (mCons (mD (.str "y")) (mCons (mD (.str "z")) (mCons (mD (.str "zzzzzzzz")) mNil))))))))))))))
    (mSeq (mUnp [3, 4] (mCons (mCall m_law_take (mCons (mVar 0) (mCons (mD (.int 3)) mNil))) (mCons (mCall m_law_take (mCons (mVar 0) (mCons (mD (.int 26)) mNil))) mNil)))
    (mSeq (mIfS (mTst (mBin gEqA (mVar 3) (mD (.int 0)))) (mRet (mFrzE (mCB (g1 gSorted) (mCons (mSl (mBin gAdd (mSl (mVar 2) (mPart (mBin (gInt (fun _ j => decide (0 < j)) fun i j => .int (i % j)) (mCB (g1 gInt1) (mCons (mVar 4) mNil)) (mD (.int 12)))) mNoPart) (mSl (mVar 2) mNoPart (mPart (mBin (gInt (fun _ j => decide (0 < j)) fun i j => .int (i % j)) (mCB (g1 gInt1) (mCons (mVar 4) mNil)) (mD (.int 12)))))) mNoPart (mPart (mVar 1))) mNil)))) mNext)
    (mSeq (mSet 5 (mD (.str "abcdefghijklmnopqrstuvwxyz")))
    (mRet (mFrzE (mCB (g1 gSorted) (mCons (mLc (mIRng1 (mCons (mVar 1) mNil)) (.nm 6) mYes (mBin gAdd (mBin gIx (mLst (mCons (mD (.str "")) (mCons (mD (.str "n")) mNil))) (mBin (gInt (fun _ _ => true) fun i j => .int (i - j)) (mVar 3) (mD (.int 1)))) (mBin gIx (mVar 5) (mBin (gInt (fun _ j => decide (0 < j)) fun i j => .int (i % j)) (mCB (g1 gInt1) (mCons (mBin gAdd (mVar 4) (mBin gMulT (mD (.int 5)) (mVar 6))) mNil)) (mD (.int 26))))) (([("_law_k", 6)] : List (Str × Nat)).map (·.2))) mNil))))))))
theorem sc_law_names : FnScope ["_law_bag_here", "_law_many", "_law_words", "_law_way", "_law_turn", "_law_letters", "_law_k"] ["_law_bag_here", "_law_many"] (defScope s_law_names) := ⟨rfl, rfl, rfl, by decide +kernel, rfl, by decide +kernel, by decide +kernel⟩
theorem kn_law_names {G : Gd} {mg : Str → Option Value} {base : Heap} (h : Hd fa fn ts eb G mg base) (hcl : G.cls = clsOf G.K) (k_law_take : Kn G mg base "_law_take" 1 ["_law_bag_here", "_law_many"] m_law_take) : Kn G mg base "_law_names" 2 ["_law_bag_here", "_law_many"] m_law_names :=
  Kn.mk' (k := 1) (h.says.def_ 29 rfl) (h.glo 48) sc_law_names rfl (fun _ _ _ _ _ _ us hl => match us, hl with | [_, _], _ => rfl) fun cdv A outer s H hr hgd =>
    (zs_cons (z_set (i := 2) sc_law_names.nd rfl (by first | exact Or.inl rfl | exact Or.inr rfl) (z_lst (z_cons z_str (z_cons z_str (z_cons z_str (z_cons z_str (z_cons z_str (z_cons z_str (z_cons z_str (z_cons z_str (z_cons z_str (z_cons z_str (z_cons z_str (z_cons z_str z_nil))))))))))))))
      (zs_cons (z_unp (is := [3, 4]) (z_cons (z_fn k_law_take hr (by omega) hgd rfl (z_cons (z_var 0) (z_cons z_int z_nil))) (z_cons (z_fn k_law_take hr (by omega) hgd rfl (z_cons (z_var 0) (z_cons z_int z_nil))) z_nil)) (pg_tup rfl (pgs_cons (pg_name (i := 3) sc_law_names.nd rfl (by first | exact Or.inl rfl | exact Or.inr rfl)) (pgs_cons (pg_name (i := 4) sc_law_names.nd rfl (by first | exact Or.inl rfl | exact Or.inr rfl)) pgs_nil))))
      (zs_cons (z_if (z_eqAT hr (z_var 3) z_int) (zs_one (z_ret (z_frzE (z_sorted rfl rfl (h.free 13) (z_cons (z_sl (z_add (z_sl (z_var 2) (z_part (z_mod (z_int1 rfl (h.free 5) (z_cons (z_var 4) z_nil)) z_int)) z_noPart) (z_sl (z_var 2) z_noPart (z_part (z_mod (z_int1 rfl (h.free 5) (z_cons (z_var 4) z_nil)) z_int)))) z_noPart (z_part (z_var 1))) z_nil))))) zs_nil)
      (zs_cons (z_set (i := 5) sc_law_names.nd rfl (by first | exact Or.inl rfl | exact Or.inr rfl) z_str)
      (zs_one (z_ret (z_frzE (z_sorted rfl rfl (h.free 13) (z_cons (z_lc (t := (.nm 6)) sc_law_names.nd (zi_rng1 rfl (h.free 10) (z_cons (z_var 1) z_nil)) (blkOk_by (own := [("_law_k", 6)]) (show blkC ["_law_bag_here", "_law_many", "_law_words", "_law_way", "_law_turn", "_law_letters", "_law_k"] (defScope s_law_names) _ _ = true by decide +kernel)) (fun _ _ _ _ _ => (pg_name (i := 6) sc_law_names.nd rfl (by first | exact Or.inl rfl | exact Or.inr rfl))) (fun _ _ _ _ _ => z_tests0) (fun _ _ _ _ _ => (z_add (z_ix (z_lst (z_cons z_str (z_cons z_str z_nil))) (z_sub (z_var 3) z_int)) (z_ix (z_var 5) (z_mod (z_int1 rfl (h.free 5) (z_cons (z_add (z_var 4) (z_mulT z_int (z_var 6))) z_nil)) z_int))))) z_nil)))))))))
abbrev s_law_is_word : Stmt := top 60
def m_law_is_word : MF := mFn 1 2
    (mSeq (mIfS (mOrT (mNotT (mTst (mIsiC 1 "str" (mVar 0)))) (mNotT (mTst (mChain gLe gLe (mD (.int 1)) (mCB (g1 gLen) (mCons (mVar 0) mNil)) (mD (.int 8)))))) (mRet (mD (.bl false))) mNext)
    (mRet (mBin gEqA (mLc (mISeqS (mVar 0)) (.nm 1) (mNotT (mTst (mChain gLe gLe (mD (.str "a")) (mVar 1) (mD (.str "z"))))) (mVar 1) (([("_law_sign", 1)] : List (Str × Nat)).map (·.2))) (mLst mNil))))
theorem sc_law_is_word : FnScope ["_law_thing_here", "_law_sign"] ["_law_thing_here"] (defScope s_law_is_word) := ⟨rfl, rfl, rfl, by decide +kernel, rfl, by decide +kernel, by decide +kernel⟩
theorem kn_law_is_word {G : Gd} {mg : Str → Option Value} {base : Heap} (h : Hd fa fn ts eb G mg base) (hcl : G.cls = clsOf G.K)  : Kn G mg base "_law_is_word" 1 ["_law_thing_here"] m_law_is_word :=
  Kn.mk' (k := 0) (h.says.def_ 30 rfl) (h.glo 49) sc_law_is_word rfl (fun _ _ _ _ _ _ us hl => match us, hl with | [_], _ => rfl) fun cdv A outer s H hr hgd =>
    (zs_cons (z_if (PW.pt (z_or (z_not (z_val (z_isiC (T := "str") (insO h hcl) rfl (h.free 6) (z_var 0) rfl (h.free 14) (by decide +kernel)))) (z_or1 (z_not (z_leLeT z_int (z_len rfl (h.free 7) (z_cons (z_var 0) z_nil)) z_int))))) (zs_one (z_ret z_bl)) zs_nil)
      (zs_one (z_ret (z_eqA hr (z_lc (t := (.nm 1)) sc_law_is_word.nd (zi_seqS (z_var 0)) (blkOk_by (own := [("_law_sign", 1)]) (show blkC ["_law_thing_here", "_law_sign"] (defScope s_law_is_word) _ _ = true by decide +kernel)) (fun _ _ _ _ _ => (pg_name (i := 1) sc_law_is_word.nd rfl (by first | exact Or.inl rfl | exact Or.inr rfl))) (fun _ _ _ _ _ => (z_tests1 (z_not (z_leLeT z_str (z_var 1) z_str)))) (fun _ _ _ _ _ => (z_var 1))) (z_lst z_nil)))))
abbrev s_law_text : Stmt := top 61
def m_law_text : MF := mFn 1 5
    (mSeq (mSet 1 (mLst (mCons (mD (.str "look")) (mCons (mD (.str "put")) (mCons (mD (.str "again")) (mCons (mD (.str "answer")) (mCons (mD (.str "end")) (mCons (mD (.str "fail")) (mCons (mD (.str "leave")) (mCons (mD (.str "shut")) (mCons (mD (.str "none")) (mCons (mD (.str "value")) (mCons (mD (.str "state")) (mCons (mD (.str "told")) (mCons (mD (.str "last")) mNil)))))))))))))))
    (mSeq (mSet 2 (mIf (mTst (mBin gEqA (mCall m_law_take (mCons (mVar 0) (mCons (mD (.int 2)) mNil))) (mD (.int 0)))) (mBin gIx (mVar 1) (mCall m_law_take (mCons (mVar 0) (mCons (mD (.int 13)) mNil)))) (mSl (mD (.str "abcdefghij")) mNoPart (mPart (mCall m_law_take (mCons (mVar 0) (mCons (mD (.int 11)) mNil)))))))
    (mSeq (mPar 3 4 (mCons (mCall m_law_take (mCons (mVar 0) (mCons (mBin gAdd (mCB (g1 gLen) (mCons (mVar 2) mNil)) (mD (.int 1))) mNil))) (mCons (mCall m_law_take (mCons (mVar 0) (mCons (mD (.int 8)) mNil))) mNil)))
    (mSeq (mIfS (mTst (mBin gEqA (mVar 4) (mD (.int 0)))) (mRet (mBin gAdd (mBin gAdd (mSl (mVar 2) mNoPart (mPart (mVar 3))) (mBin gIx (mLst (mCons (mD (.str "A")) (mCons (mD (.str " ")) (mCons (mD (.str "1")) (mCons (mD (.str "_")) (mCons (mD (.str "z")) (mCons (mD (.str "-")) (mCons (mD (.str "{")) (mCons (mD (.str "`")) mNil))))))))) (mCall m_law_take (mCons (mVar 0) (mCons (mD (.int 8)) mNil))))) (mSl (mVar 2) (mPart (mVar 3)) mNoPart))) mNext)
    (mRet (mIf (mTst (mBin gEqA (mVar 4) (mD (.int 1)))) (mBin gAdd (mSl (mVar 2) mNoPart (mPart (mVar 3))) (mSl (mVar 2) (mPart (mBin gAdd (mVar 3) (mD (.int 1)))) mNoPart)) (mVar 2)))))))
theorem sc_law_text : FnScope ["_law_bag_here", "_law_words", "_law_text_here", "_law_at", "_law_way"] ["_law_bag_here"] (defScope s_law_text) := ⟨rfl, rfl, rfl, by decide +kernel, rfl, by decide +kernel, by decide +kernel⟩
theorem kn_law_text {G : Gd} {mg : Str → Option Value} {base : Heap} (h : Hd fa fn ts eb G mg base) (hcl : G.cls = clsOf G.K) (k_law_take : Kn G mg base "_law_take" 1 ["_law_bag_here", "_law_many"] m_law_take) : Kn G mg base "_law_text" 2 ["_law_bag_here"] m_law_text :=
  Kn.mk' (k := 1) (h.says.def_ 31 rfl) (h.glo 50) sc_law_text rfl (fun _ _ _ _ _ _ us hl => match us, hl with | [_], _ => rfl) fun cdv A outer s H hr hgd =>
    (zs_cons (z_set (i := 1) sc_law_text.nd rfl (by first | exact Or.inl rfl | exact Or.inr rfl) (z_lst (z_cons z_str (z_cons z_str (z_cons z_str (z_cons z_str (z_cons z_str (z_cons z_str (z_cons z_str (z_cons z_str (z_cons z_str (z_cons z_str (z_cons z_str (z_cons z_str (z_cons z_str z_nil)))))))))))))))
      (zs_cons (z_set (i := 2) sc_law_text.nd rfl (by first | exact Or.inl rfl | exact Or.inr rfl) (z_ifE (z_eqAT hr (z_fn k_law_take hr (by omega) hgd rfl (z_cons (z_var 0) (z_cons z_int z_nil))) z_int) (z_ix (z_var 1) (z_fn k_law_take hr (by omega) hgd rfl (z_cons (z_var 0) (z_cons z_int z_nil)))) (z_sl z_str z_noPart (z_part (z_fn k_law_take hr (by omega) hgd rfl (z_cons (z_var 0) (z_cons z_int z_nil)))))))
      (zs_cons (z_par (i := 3) (j := 4) sc_law_text.nd rfl rfl (by decide) rfl rfl (z_cons (z_fn k_law_take hr (by omega) hgd rfl (z_cons (z_var 0) (z_cons (z_add (z_len rfl (h.free 7) (z_cons (z_var 2) z_nil)) z_int) z_nil))) (z_cons (z_fn k_law_take hr (by omega) hgd rfl (z_cons (z_var 0) (z_cons z_int z_nil))) z_nil)) rfl)
      (zs_cons (z_if (z_eqAT hr (z_var 4) z_int) (zs_one (z_ret (z_add (z_add (z_sl (z_var 2) z_noPart (z_part (z_var 3))) (z_ix (z_lst (z_cons z_str (z_cons z_str (z_cons z_str (z_cons z_str (z_cons z_str (z_cons z_str (z_cons z_str (z_cons z_str z_nil))))))))) (z_fn k_law_take hr (by omega) hgd rfl (z_cons (z_var 0) (z_cons z_int z_nil))))) (z_sl (z_var 2) (z_part (z_var 3)) z_noPart)))) zs_nil)
      (zs_one (z_ret (z_ifE (z_eqAT hr (z_var 4) z_int) (z_add (z_sl (z_var 2) z_noPart (z_part (z_var 3))) (z_sl (z_var 2) (z_part (z_add (z_var 3) z_int)) z_noPart)) (z_var 2))))))))
abbrev s_law_thing : Stmt := top 62

def m_law_thing : Nat → MF
  | 0 => fun _ _ => none
  | n + 1 => mFn 2 4
    (mSeq (mSet 2 (mCall m_law_take (mCons (mVar 0) (mCons (mD (.int 8)) mNil))))
    (mSeq (mIfS (mAndT (mTst (mBin gEqA (mVar 2) (mD (.int 0)))) (mTst (mBin gGt (mVar 1) (mD (.int 0))))) (mRet (mLc (mIRng1 (mCons (mCall m_law_take (mCons (mVar 0) (mCons (mD (.int 6)) mNil))) mNil)) (.nm 3) mYes (mCall (m_law_thing n) (mCons (mVar 0) (mCons (mBin (gInt (fun _ _ => true) fun i j => .int (i - j)) (mVar 1) (mD (.int 1))) mNil))) (([("_law_k", 3)] : List (Str × Nat)).map (·.2)))) mNext)
    (mSeq (mIfS (mAndT (mTst (mBin gEqA (mVar 2) (mD (.int 1)))) (mTst (mBin gGt (mVar 1) (mD (.int 0))))) (mRet (mCB (g1 gTuple) (mCons (mLc (mIRng1 (mCons (mCall m_law_take (mCons (mVar 0) (mCons (mD (.int 6)) mNil))) mNil)) (.nm 3) mYes (mCall (m_law_thing n) (mCons (mVar 0) (mCons (mBin (gInt (fun _ _ => true) fun i j => .int (i - j)) (mVar 1) (mD (.int 1))) mNil))) (([("_law_k", 3)] : List (Str × Nat)).map (·.2))) mNil))) mNext)
    (mSeq (mIfS (mTst (mBin gLt (mVar 2) (mD (.int 4)))) (mRet (mBin gIx (mLst (mCons (mD .non) (mCons (mD (.bl true)) (mCons (mD (.bl false)) (mCons (mD (.int 0)) (mCons (mD (.int 1)) (mCons (mD (.int 7)) (mCons (mNeg (mD (.int 1))) (mCons (mBin (gInt cPow fun i j => .int (i ^ j.toNat)) (mD (.int 10)) (mD (.int 50))) (mCons (mBin (gInt cPow fun i j => .int (i ^ j.toNat)) (mD (.int 2)) (mD (.int 64))) mNil)))))))))) (mCall m_law_take (mCons (mVar 0) (mCons (mD (.int 9)) mNil))))) mNext)
    (mRet (mIf (mAndT (mTst (mBin gEqA (mVar 2) (mD (.int 4)))) (mTst (mBin gEqA (mCall m_law_take (mCons (mVar 0) (mCons (mD (.int 4)) mNil))) (mD (.int 0))))) (mDisp [("a", (mD (.int 1)))]) (mCall m_law_text (mCons (mVar 0) mNil))))))))

theorem sc_law_thing : FnScope ["_law_bag_here", "_law_deep", "_law_way", "_law_k"] ["_law_bag_here", "_law_deep"] (defScope s_law_thing) := ⟨rfl, rfl, rfl, by decide +kernel, rfl, by decide +kernel, by decide +kernel⟩
theorem ks_law_thing {G : Gd} {mg : Str → Option Value} {base : Heap} (h : Hd fa fn ts eb G mg base) (hcl : G.cls = clsOf G.K) (k_law_take : Kn G mg base "_law_take" 1 ["_law_bag_here", "_law_many"] m_law_take) (k_law_text : Kn G mg base "_law_text" 2 ["_law_bag_here"] m_law_text) {n : Nat} (ih_law_thing : Kn G mg base "_law_thing" (2 + n) ["_law_bag_here", "_law_deep"] (m_law_thing n)) : Kn G mg base "_law_thing" (2 + (n + 1)) ["_law_bag_here", "_law_deep"] (m_law_thing (n + 1)) :=
  Kn.mk' (k := 2 + n) (h.says.def_ 32 rfl) (h.glo 51) sc_law_thing rfl (fun _ _ _ _ _ _ us hl => match us, hl with | [_, _], _ => rfl) fun cdv A outer s H hr hgd =>
    (zs_cons (z_set (i := 2) sc_law_thing.nd rfl (by first | exact Or.inl rfl | exact Or.inr rfl) (z_fn k_law_take hr (by omega) hgd rfl (z_cons (z_var 0) (z_cons z_int z_nil))))
      (zs_cons (z_if (PW.pt (z_and (z_eqAT hr (z_var 2) z_int) (z_and1 (z_gtT (z_var 1) z_int)))) (zs_one (z_ret (z_lc (t := (.nm 3)) sc_law_thing.nd (zi_rng1 rfl (h.free 10) (z_cons (z_fn k_law_take hr (by omega) hgd rfl (z_cons (z_var 0) (z_cons z_int z_nil))) z_nil)) (blkOk_by (own := [("_law_k", 3)]) (show blkC ["_law_bag_here", "_law_deep", "_law_way", "_law_k"] (defScope s_law_thing) _ _ = true by decide +kernel)) (fun _ _ _ _ _ => (pg_name (i := 3) sc_law_thing.nd rfl (by first | exact Or.inl rfl | exact Or.inr rfl))) (fun _ _ _ _ _ => z_tests0) (fun _ _ _ _ _ => (z_fn ih_law_thing hr (by omega) hgd rfl (z_cons (z_var 0) (z_cons (z_sub (z_var 1) z_int) z_nil))))))) zs_nil)
      (zs_cons (z_if (PW.pt (z_and (z_eqAT hr (z_var 2) z_int) (z_and1 (z_gtT (z_var 1) z_int)))) (zs_one (z_ret (z_tuple rfl (h.free 15) (z_cons (z_lc (t := (.nm 3)) sc_law_thing.nd (zi_rng1 rfl (h.free 10) (z_cons (z_fn k_law_take hr (by omega) hgd rfl (z_cons (z_var 0) (z_cons z_int z_nil))) z_nil)) (blkOk_by (own := [("_law_k", 3)]) (show blkC ["_law_bag_here", "_law_deep", "_law_way", "_law_k"] (defScope s_law_thing) _ _ = true by decide +kernel)) (fun _ _ _ _ _ => (pg_name (i := 3) sc_law_thing.nd rfl (by first | exact Or.inl rfl | exact Or.inr rfl))) (fun _ _ _ _ _ => z_tests0) (fun _ _ _ _ _ => (z_fn ih_law_thing hr (by omega) hgd rfl (z_cons (z_var 0) (z_cons (z_sub (z_var 1) z_int) z_nil))))) z_nil)))) zs_nil)
      (zs_cons (z_if (z_ltT (z_var 2) z_int) (zs_one (z_ret (z_ix (z_lst (z_cons z_non (z_cons z_bl (z_cons z_bl (z_cons z_int (z_cons z_int (z_cons z_int (z_cons (z_neg z_int) (z_cons (z_pow z_int z_int) (z_cons (z_pow z_int z_int) z_nil)))))))))) (z_fn k_law_take hr (by omega) hgd rfl (z_cons (z_var 0) (z_cons z_int z_nil)))))) zs_nil)
      (zs_one (z_ret (z_ifE (PW.pt (z_and (z_eqAT hr (z_var 2) z_int) (z_and1 (z_eqAT hr (z_fn k_law_take hr (by omega) hgd rfl (z_cons (z_var 0) (z_cons z_int z_nil))) z_int)))) (z_dispz (ppz_cons z_int ppz_nil)) (z_fn k_law_text hr (by omega) hgd rfl (z_cons (z_var 0) z_nil)))))))))
theorem kz_law_thing {G : Gd} {mg : Str → Option Value} {base : Heap} (h : Hd fa fn ts eb G mg base) (k : Nat) : Kn G mg base "_law_thing" k ["_law_bag_here", "_law_deep"] (m_law_thing 0) := Kn.zero (h.says.def_ 32 rfl) (h.glo 51) (fun _ _ _ _ _ _ us hl => match us, hl with | [_, _], _ => rfl)
theorem kr_law_thing {G : Gd} {mg : Str → Option Value} {base : Heap} (h : Hd fa fn ts eb G mg base) (hcl : G.cls = clsOf G.K) (k_law_take : Kn G mg base "_law_take" 1 ["_law_bag_here", "_law_many"] m_law_take) (k_law_text : Kn G mg base "_law_text" 2 ["_law_bag_here"] m_law_text) : ∀ n, Kn G mg base "_law_thing" (2 + n) ["_law_bag_here", "_law_deep"] (m_law_thing n)
  | 0 => kz_law_thing h _
  | n + 1 => by
    have ih := kr_law_thing h hcl k_law_take k_law_text n
    exact ks_law_thing h hcl k_law_take k_law_text ih
abbrev s_law_address : Stmt := top 63
def m_law_address : MF := mFn 1 5
    (mSeq (mSet 1 (mCB (g1 gTuple) (mCons (mLc (mIRng1 (mCons (mCall m_law_take (mCons (mVar 0) (mCons (mD (.int 6)) mNil))) mNil)) (.nm 2) mYes (mCall m_law_take (mCons (mVar 0) (mCons (mD (.int 4)) mNil))) (([("_law_k", 2)] : List (Str × Nat)).map (·.2))) mNil)))
    (mSeq (mSet 3 (mCall m_law_take (mCons (mVar 0) (mCons (mBin gAdd (mCB (g1 gLen) (mCons (mVar 1) mNil)) (mD (.int 1))) mNil))))
    (mSeq (mSet 4 (mBin gIx (mLst (mCons (mD (.bl true)) (mCons (mNeg (mD (.int 1))) (mCons (mD .non) (mCons (mD (.str "0")) (mCons (mBin (gInt cPow fun i j => .int (i ^ j.toNat)) (mD (.int 10)) (mD (.int 40))) (mCons (mTup (mCons (mD (.int 0)) mNil)) (mCons (mLst (mCons (mD (.int 0)) mNil)) mNil)))))))) (mCall m_law_take (mCons (mVar 0) (mCons (mD (.int 7)) mNil)))))
    (mRet (mBin gIx (mLst (mCons (mVar 1) (mCons (mVar 1) (mCons (mCB (g1 gList) (mCons (mVar 1) mNil)) (mCons (mBin gAdd (mBin gAdd (mSl (mVar 1) mNoPart (mPart (mVar 3))) (mTup (mCons (mVar 4) mNil))) (mSl (mVar 1) (mPart (mBin gAdd (mVar 3) (mD (.int 1)))) mNoPart)) mNil))))) (mCall m_law_take (mCons (mVar 0) (mCons (mD (.int 4)) mNil))))))))
theorem sc_law_address : FnScope ["_law_bag_here", "_law_found", "_law_k", "_law_at", "_law_odd"] ["_law_bag_here"] (defScope s_law_address) := ⟨rfl, rfl, rfl, by decide +kernel, rfl, by decide +kernel, by decide +kernel⟩
theorem kn_law_address {G : Gd} {mg : Str → Option Value} {base : Heap} (h : Hd fa fn ts eb G mg base) (hcl : G.cls = clsOf G.K) (k_law_take : Kn G mg base "_law_take" 1 ["_law_bag_here", "_law_many"] m_law_take) : Kn G mg base "_law_address" 2 ["_law_bag_here"] m_law_address :=
  Kn.mk' (k := 1) (h.says.def_ 33 rfl) (h.glo 52) sc_law_address rfl (fun _ _ _ _ _ _ us hl => match us, hl with | [_], _ => rfl) fun cdv A outer s H hr hgd =>
    (zs_cons (z_set (i := 1) sc_law_address.nd rfl (by first | exact Or.inl rfl | exact Or.inr rfl) (z_tuple rfl (h.free 15) (z_cons (z_lc (t := (.nm 2)) sc_law_address.nd (zi_rng1 rfl (h.free 10) (z_cons (z_fn k_law_take hr (by omega) hgd rfl (z_cons (z_var 0) (z_cons z_int z_nil))) z_nil)) (blkOk_by (own := [("_law_k", 2)]) (show blkC ["_law_bag_here", "_law_found", "_law_k", "_law_at", "_law_odd"] (defScope s_law_address) _ _ = true by decide +kernel)) (fun _ _ _ _ _ => (pg_name (i := 2) sc_law_address.nd rfl (by first | exact Or.inl rfl | exact Or.inr rfl))) (fun _ _ _ _ _ => z_tests0) (fun _ _ _ _ _ => (z_fn k_law_take hr (by omega) hgd rfl (z_cons (z_var 0) (z_cons z_int z_nil))))) z_nil)))
      (zs_cons (z_set (i := 3) sc_law_address.nd rfl (by first | exact Or.inl rfl | exact Or.inr rfl) (z_fn k_law_take hr (by omega) hgd rfl (z_cons (z_var 0) (z_cons (z_add (z_len rfl (h.free 7) (z_cons (z_var 1) z_nil)) z_int) z_nil))))
      (zs_cons (z_set (i := 4) sc_law_address.nd rfl (by first | exact Or.inl rfl | exact Or.inr rfl) (z_ix (z_lst (z_cons z_bl (z_cons (z_neg z_int) (z_cons z_non (z_cons z_str (z_cons (z_pow z_int z_int) (z_cons (z_tup (z_cons z_int z_nil)) (z_cons (z_lst (z_cons z_int z_nil)) z_nil)))))))) (z_fn k_law_take hr (by omega) hgd rfl (z_cons (z_var 0) (z_cons z_int z_nil)))))
      (zs_one (z_ret (z_ix (z_lst (z_cons (z_var 1) (z_cons (z_var 1) (z_cons (z_list rfl (h.free 8) (z_cons (z_var 1) z_nil)) (z_cons (z_add (z_add (z_sl (z_var 1) z_noPart (z_part (z_var 3))) (z_tup (z_cons (z_var 4) z_nil))) (z_sl (z_var 1) (z_part (z_add (z_var 3) z_int)) z_noPart)) z_nil))))) (z_fn k_law_take hr (by omega) hgd rfl (z_cons (z_var 0) (z_cons z_int z_nil)))))))))
abbrev s_law_is_int : Stmt := top 64
def m_law_is_int : MF := mFn 1 1
    (mRet (mAndV (mIsiC 1 "int" (mVar 0)) (mNotV (mIsiC 1 "bool" (mVar 0)))))
theorem sc_law_is_int : FnScope ["_law_thing_here"] ["_law_thing_here"] (defScope s_law_is_int) := ⟨rfl, rfl, rfl, by decide +kernel, rfl, by decide +kernel, by decide +kernel⟩
theorem kn_law_is_int {G : Gd} {mg : Str → Option Value} {base : Heap} (h : Hd fa fn ts eb G mg base) (hcl : G.cls = clsOf G.K)  : Kn G mg base "_law_is_int" 1 ["_law_thing_here"] m_law_is_int :=
  Kn.mk' (k := 0) (h.says.def_ 34 rfl) (h.glo 53) sc_law_is_int rfl (fun _ _ _ _ _ _ us hl => match us, hl with | [_], _ => rfl) fun cdv A outer s H hr hgd =>
    (zs_one (z_ret (z_andV (z_isiC (T := "int") (insO h hcl) rfl (h.free 6) (z_var 0) rfl (h.free 5) (by decide +kernel)) (z_one (z_notV (z_isiC (T := "bool") (insO h hcl) rfl (h.free 6) (z_var 0) rfl (h.free 2) (by decide +kernel)))))))
abbrev s_law_right : Stmt := top 65
def m_law_right : MF := mFn 2 8
    (mSeq (mPar 2 3 (mCons (mIsiC 1 "str" (mVar 0)) (mCons (mIsi2C 1 "list" "tuple" (mVar 0)) mNil)))
    (mSeq (mSet 4 (mLstO (mCons (mCall m_law_is_int (mCons (mVar 0) mNil)) (mCons (mCall m_law_is_word (mCons (mVar 0) mNil)) (mCons (mAndV (mVar 2) (mBin gInA (mVar 0) (mTup (mCons (mD (.str "look")) (mCons (mD (.str "put")) mNil))))) mNil)))))
    (mSeq (mMut 4 (mCons (mAndV (mVar 2) (mBin gInA (mVar 0) (mTup (mCons (mD (.str "again")) (mCons (mD (.str "answer")) (mCons (mD (.str "end")) (mCons (mD (.str "fail")) (mCons (mD (.str "leave")) (mCons (mD (.str "shut")) mNil))))))))) mNil) gApp)
    (mSeq (mMut 4 (mCons (mAndV (mVar 2) (mBin gInA (mVar 0) (mTup (mCons (mD (.str "none")) (mCons (mD (.str "value")) (mCons (mD (.str "state")) mNil)))))) mNil) gApp)
    (mSeq (mMut 4 (mCons (mAndV (mVar 3) (mAndV (mBin gLe (mCB (g1 gLen) (mCons (mVar 0) mNil)) (mVar 1)) (mBin gEqA (mLc (mISeq (mVar 0)) (.nm 5) (mNotT (mTst (mCall m_law_is_word (mCons (mVar 5) mNil)))) (mVar 5) (([("_law_one", 5)] : List (Str × Nat)).map (·.2))) (mLst mNil)))) mNil) gApp)
    (mSeq (mSet 6 (mAndV (mIsiC 1 "tuple" (mVar 0)) (mBin gEqA (mBin (gInt (fun _ j => decide (0 < j)) fun i j => .int (i % j)) (mCB (g1 gInt1) (mCons (mCB (g1 gLen) (mCons (mVar 0) mNil)) mNil)) (mD (.int 2))) (mD (.int 1)))))
    (mSeq (mMut 4 (mCons (mAndV (mVar 6) (mBin gEqA (mLc (mISeq (mVar 0)) (.nm 5) (mOrT (mNotT (mTst (mCall m_law_is_int (mCons (mVar 5) mNil)))) (mTst (mBin gLt (mVar 5) (mD (.int 0))))) (mVar 5) (([("_law_one", 5)] : List (Str × Nat)).map (·.2))) (mLst mNil))) mNil) gApp)
    (mSeq (mFrz 4) (mSeq (mSet 7 (mLst (mCons (mCall m_is_integer (mCons (mVar 0) mNil)) (mCons (mCall m_is_name (mCons (mVar 0) mNil)) (mCons (mCall m_is_use (mCons (mVar 0) mNil)) (mCons (mCall m_is_way (mCons (mVar 0) mNil)) (mCons (mCall m_is_handing (mCons (mVar 0) mNil)) mNil)))))))
    (mRet (mCall m_law_alike (mCons (mBin gAdd (mVar 7) (mLst (mCons (mCall m_are_names (mCons (mVar 0) (mCons (mVar 1) mNil))) (mCons (mCall m_is_address (mCons (mVar 0) mNil)) mNil)))) (mCons (mVar 4) mNil)))))))))))))
theorem sc_law_right : FnScope ["_law_thing_here", "_law_upto", "_law_is_text", "_law_is_list", "_law_due", "_law_one", "_law_good", "_law_found"] ["_law_thing_here", "_law_upto"] (defScope s_law_right) := ⟨rfl, rfl, rfl, by decide +kernel, rfl, by decide +kernel, by decide +kernel⟩
theorem kn_law_right {G : Gd} {mg : Str → Option Value} {base : Heap} (h : Hd fa fn ts eb G mg base) (hcl : G.cls = clsOf G.K) (k_is_integer : Kn G mg base "is_integer" 1 ["thing"] m_is_integer) (k_is_name : Kn G mg base "is_name" 1 ["thing"] m_is_name) (k_is_use : Kn G mg base "is_use" 1 ["thing"] m_is_use) (k_is_way : Kn G mg base "is_way" 1 ["thing"] m_is_way) (k_is_handing : Kn G mg base "is_handing" 1 ["thing"] m_is_handing) (k_are_names : Kn G mg base "are_names" 2 ["thing", "most"] m_are_names) (k_is_address : Kn G mg base "is_address" 2 ["thing"] m_is_address) (k_law_alike : Kn G mg base "_law_alike" 1 ["_law_found", "_law_due"] m_law_alike) (k_law_is_word : Kn G mg base "_law_is_word" 1 ["_law_thing_here"] m_law_is_word) (k_law_is_int : Kn G mg base "_law_is_int" 1 ["_law_thing_here"] m_law_is_int) : Kn G mg base "_law_right" 3 ["_law_thing_here", "_law_upto"] m_law_right :=
  Kn.mk' (k := 2) (h.says.def_ 35 rfl) (h.glo 54) sc_law_right rfl (fun _ _ _ _ _ _ us hl => match us, hl with | [_, _], _ => rfl) fun cdv A outer s H hr hgd =>
    (zs_cons (z_par (i := 2) (j := 3) sc_law_right.nd rfl rfl (by decide) rfl rfl (z_cons (z_isiC (T := "str") (insO h hcl) rfl (h.free 6) (z_var 0) rfl (h.free 14) (by decide +kernel)) (z_cons (z_isi2C (T := "list") (T' := "tuple") (insO h hcl) rfl (h.free 6) (z_var 0) rfl (h.free 8) (by decide +kernel) rfl (h.free 15) (by decide +kernel)) z_nil)) rfl)
      (zs_cons (z_set (i := 4) sc_law_right.nd rfl (by first | exact Or.inl rfl | exact Or.inr rfl) (z_lstO (z_cons (z_fn k_law_is_int hr (by omega) hgd rfl (z_cons (z_var 0) z_nil)) (z_cons (z_fn k_law_is_word hr (by omega) hgd rfl (z_cons (z_var 0) z_nil)) (z_cons (z_andV (z_var 2) (z_one (z_in (z_var 0) (z_tup (z_cons z_str (z_cons z_str z_nil)))))) z_nil)))))
      (zs_cons (z_mut (i := 4) sim_app (ps_expr (pe_bm PySem.F.plainAttrs_list PySem.F.slot_list_append PySem.F.type_list_append mt_append (pv 4) (z_cons (z_andV (z_var 2) (z_one (z_in (z_var 0) (z_tup (z_cons z_str (z_cons z_str (z_cons z_str (z_cons z_str (z_cons z_str (z_cons z_str z_nil)))))))))) z_nil))))
      (zs_cons (z_mut (i := 4) sim_app (ps_expr (pe_bm PySem.F.plainAttrs_list PySem.F.slot_list_append PySem.F.type_list_append mt_append (pv 4) (z_cons (z_andV (z_var 2) (z_one (z_in (z_var 0) (z_tup (z_cons z_str (z_cons z_str (z_cons z_str z_nil))))))) z_nil))))
      (zs_cons (z_mut (i := 4) sim_app (ps_expr (pe_bm PySem.F.plainAttrs_list PySem.F.slot_list_append PySem.F.type_list_append mt_append (pv 4) (z_cons (z_andV (z_var 3) (z_andV (z_le (z_len rfl (h.free 7) (z_cons (z_var 0) z_nil)) (z_var 1)) (z_one (z_eqA hr (z_lc (t := (.nm 5)) sc_law_right.nd (zi_seq (z_var 0)) (blkOk_by (own := [("_law_one", 5)]) (show blkC ["_law_thing_here", "_law_upto", "_law_is_text", "_law_is_list", "_law_due", "_law_one", "_law_good", "_law_found"] (defScope s_law_right) _ _ = true by decide +kernel)) (fun _ _ _ _ _ => (pg_name (i := 5) sc_law_right.nd rfl (by first | exact Or.inl rfl | exact Or.inr rfl))) (fun _ _ _ _ _ => (z_tests1 (z_not (z_val (z_fn k_law_is_word hr (by omega) hgd rfl (z_cons (z_var 5) z_nil)))))) (fun _ _ _ _ _ => (z_var 5))) (z_lst z_nil))))) z_nil))))
      (zs_cons (z_set (i := 6) sc_law_right.nd rfl (by first | exact Or.inl rfl | exact Or.inr rfl) (z_andV (z_isiC (T := "tuple") (insO h hcl) rfl (h.free 6) (z_var 0) rfl (h.free 15) (by decide +kernel)) (z_one (z_eqA hr (z_mod (z_int1 rfl (h.free 5) (z_cons (z_len rfl (h.free 7) (z_cons (z_var 0) z_nil)) z_nil)) z_int) z_int))))
      (zs_cons (z_mut (i := 4) sim_app (ps_expr (pe_bm PySem.F.plainAttrs_list PySem.F.slot_list_append PySem.F.type_list_append mt_append (pv 4) (z_cons (z_andV (z_var 6) (z_one (z_eqA hr (z_lc (t := (.nm 5)) sc_law_right.nd (zi_seq (z_var 0)) (blkOk_by (own := [("_law_one", 5)]) (show blkC ["_law_thing_here", "_law_upto", "_law_is_text", "_law_is_list", "_law_due", "_law_one", "_law_good", "_law_found"] (defScope s_law_right) _ _ = true by decide +kernel)) (fun _ _ _ _ _ => (pg_name (i := 5) sc_law_right.nd rfl (by first | exact Or.inl rfl | exact Or.inr rfl))) (fun _ _ _ _ _ => (z_tests1 (PW.pt (z_or (z_not (z_val (z_fn k_law_is_int hr (by omega) hgd rfl (z_cons (z_var 5) z_nil)))) (z_or1 (z_ltT (z_var 5) z_int)))))) (fun _ _ _ _ _ => (z_var 5))) (z_lst z_nil)))) z_nil))))
      (zs_frz 4 (zs_cons (z_set (i := 7) sc_law_right.nd rfl (by first | exact Or.inl rfl | exact Or.inr rfl) (z_lst (z_cons (z_fn k_is_integer hr (by omega) hgd rfl (z_cons (z_var 0) z_nil)) (z_cons (z_fn k_is_name hr (by omega) hgd rfl (z_cons (z_var 0) z_nil)) (z_cons (z_fn k_is_use hr (by omega) hgd rfl (z_cons (z_var 0) z_nil)) (z_cons (z_fn k_is_way hr (by omega) hgd rfl (z_cons (z_var 0) z_nil)) (z_cons (z_fn k_is_handing hr (by omega) hgd rfl (z_cons (z_var 0) z_nil)) z_nil)))))))
      (zs_one (z_ret (z_fn k_law_alike hr (by omega) hgd rfl (z_cons (z_add (z_var 7) (z_lst (z_cons (z_fn k_are_names hr (by omega) hgd rfl (z_cons (z_var 0) (z_cons (z_var 1) z_nil))) (z_cons (z_fn k_is_address hr (by omega) hgd rfl (z_cons (z_var 0) z_nil)) z_nil)))) (z_cons (z_var 4) z_nil))))))))))))))
abbrev s_law : Stmt := top 66
def m_law : MF := mFn 1 9
    (mSeq (mSet 1 (mPubE (mCall m_law_bag (mCons (mVar 0) mNil))))
    (mSeq (mSet 2 (mLst mNil))
    (mSeq (mFor (mIRng1 (mCons (mD (.int 20)) mNil)) (.nm 3) (mSet 2 (mLst (mCons (mVar 2) mNil))))
    (mSeq (mSet 4 (mBin gAdd (mLc (mIRng1 (mCons (mD (.int 30)) mNil)) (.nm 3) mYes (mCall (m_law_thing 12) (mCons (mVar 1) (mCons (mD (.int 2)) mNil))) (([("_law_k", 3)] : List (Str × Nat)).map (·.2))) (mLc (mIRng1 (mCons (mD (.int 10)) mNil)) (.nm 3) mYes (mCall m_law_address (mCons (mVar 1) mNil)) (([("_law_k", 3)] : List (Str × Nat)).map (·.2)))))
    (mSeq (mSet 4 (mBin gAdd (mVar 4) (mLst (mCons (mBin gMulT (mLst (mCons (mD (.int 0)) mNil)) (mD (.int 9000))) (mCons (mBin gMulT (mTup (mCons (mD (.str "a")) mNil)) (mD (.int 9000))) (mCons (mVar 2) (mCons (mCall m_law_names (mCons (mVar 1) (mCons (mD (.int 4)) mNil))) (mCons (mBin gMulT (mCall m_law_names (mCons (mVar 1) (mCons (mD (.int 3)) mNil))) (mD (.int 2))) (mCons (mCall m_law_names (mCons (mVar 1) (mCons (mD (.int 9)) mNil))) mNil)))))))))
    (mSeq (mFor (mISeq (mVar 4)) (.nm 5) (mSeq (mPar 6 7 (mCons (mCB (g1 gReprA) (mCons (mVar 5) mNil)) (mCons (mBin gIx (mLst (mCons (mD (.int 0)) (mCons (mD (.int 1)) (mCons (mD (.int 2)) (mCons (mD (.int 3)) (mCons (mD (.int 4)) (mCons (mD (.int 6)) (mCons (mD (.int 9)) mNil)))))))) (mCall m_law_take (mCons (mVar 1) (mCons (mD (.int 7)) mNil)))) mNil)))
    (mIfS (mOrT (mNotT (mTst (mCall m_law_right (mCons (mVar 5) (mCons (mVar 7) mNil))))) (mOrT (mNotT (mTst (mCall m_law_right (mCons (mVar 5) (mCons (mVar 7) mNil))))) (mTst (mBin gNe (mCB (g1 gReprA) (mCons (mVar 5) mNil)) (mVar 6))))) (mRet (mD (.bl false))) mNext)))
    (mSeq (mSet 8 (mCall m_Body_init (mCons (mLst (mCons (mD (.str "a")) mNil)) (mCons (mLst mNil) mNil))))
    (mRet (mBin gEqA (mLst (mCons (mCall m_is_integer (mCons (mVar 8) mNil)) (mCons (mCall m_is_name (mCons (mVar 8) mNil)) (mCons (mCall m_are_names (mCons (mVar 8) (mCons (mD (.int 3)) mNil))) (mCons (mCall m_is_address (mCons (mVar 8) mNil)) (mCons (mCall m_is_way (mCons (mLst (mCons (mVar 8) mNil)) mNil)) mNil)))))) (mBin gMulT (mLst (mCons (mD (.bl false)) mNil)) (mD (.int 5))))))))))))
theorem sc_law : FnScope ["_law_script", "_law_bag_here", "_law_deep", "_law_k", "_law_things", "_law_thing_here", "_law_shown", "_law_upto", "_law_body"] ["_law_script"] (defScope s_law) := ⟨rfl, rfl, rfl, by decide +kernel, rfl, by decide +kernel, by decide +kernel⟩
theorem fn_law {G : Gd} {mg : Str → Option Value} {base : Heap} (h : Hd fa fn ts eb G mg base) (hcl : G.cls = clsOf G.K) (k_is_integer : Kn G mg base "is_integer" 1 ["thing"] m_is_integer) (k_is_name : Kn G mg base "is_name" 1 ["thing"] m_is_name) (k_is_way : Kn G mg base "is_way" 1 ["thing"] m_is_way) (k_are_names : Kn G mg base "are_names" 2 ["thing", "most"] m_are_names) (k_is_address : Kn G mg base "is_address" 2 ["thing"] m_is_address) (k_Body_init : KnC G mg base "Body" 18 m_Body_init) (k_law_bag : Kn G mg base "_law_bag" 1 ["_law_script"] m_law_bag) (k_law_take : Kn G mg base "_law_take" 1 ["_law_bag_here", "_law_many"] m_law_take) (k_law_names : Kn G mg base "_law_names" 2 ["_law_bag_here", "_law_many"] m_law_names) (k_law_thing : ∀ n, Kn G mg base "_law_thing" (2 + n) ["_law_bag_here", "_law_deep"] (m_law_thing n)) (k_law_address : Kn G mg base "_law_address" 2 ["_law_bag_here"] m_law_address) (k_law_right : Kn G mg base "_law_right" 3 ["_law_thing_here", "_law_upto"] m_law_right) {fd : FuncData} (D : FunD G.K "law" "law" (defArgs s_law) (defBody s_law) (defScope s_law) [] [] (He.fAd G.K ("law", none)) fd) : FnG G mg base 19 (He.fAd G.K ("law", none)) fd ["_law_script"] m_law :=
  fn_rule D sc_law rfl fun cdv A outer s H hr hgd =>
    (zs_cons (z_set (i := 1) sc_law.nd rfl (by first | exact Or.inl rfl | exact Or.inr rfl) (z_pub (z_fn k_law_bag hr (by omega) hgd rfl (z_cons (z_var 0) z_nil))))
      (zs_cons (z_set (i := 2) sc_law.nd rfl (by first | exact Or.inl rfl | exact Or.inr rfl) (z_lst z_nil))
      (zs_cons (z_for (t := (.nm 3)) PassesOwn.never (zi_rng1 rfl (h.free 10) (z_cons z_int z_nil)) (pg_name (i := 3) sc_law.nd rfl (by first | exact Or.inl rfl | exact Or.inr rfl)) (zs_one (z_set (i := 2) sc_law.nd rfl (by first | exact Or.inl rfl | exact Or.inr rfl) (z_lst (z_cons (z_var 2) z_nil)))))
      (zs_cons (z_set (i := 4) sc_law.nd rfl (by first | exact Or.inl rfl | exact Or.inr rfl) (z_add (z_lc (t := (.nm 3)) sc_law.nd (zi_rng1 rfl (h.free 10) (z_cons z_int z_nil)) (blkOk_by (own := [("_law_k", 3)]) (show blkC ["_law_script", "_law_bag_here", "_law_deep", "_law_k", "_law_things", "_law_thing_here", "_law_shown", "_law_upto", "_law_body"] (defScope s_law) _ _ = true by decide +kernel)) (fun _ _ _ _ _ => (pg_name (i := 3) sc_law.nd rfl (by first | exact Or.inl rfl | exact Or.inr rfl))) (fun _ _ _ _ _ => z_tests0) (fun _ _ _ _ _ => (z_fn (k_law_thing 12) hr (by omega) hgd rfl (z_cons (z_var 1) (z_cons z_int z_nil))))) (z_lc (t := (.nm 3)) sc_law.nd (zi_rng1 rfl (h.free 10) (z_cons z_int z_nil)) (blkOk_by (own := [("_law_k", 3)]) (show blkC ["_law_script", "_law_bag_here", "_law_deep", "_law_k", "_law_things", "_law_thing_here", "_law_shown", "_law_upto", "_law_body"] (defScope s_law) _ _ = true by decide +kernel)) (fun _ _ _ _ _ => (pg_name (i := 3) sc_law.nd rfl (by first | exact Or.inl rfl | exact Or.inr rfl))) (fun _ _ _ _ _ => z_tests0) (fun _ _ _ _ _ => (z_fn k_law_address hr (by omega) hgd rfl (z_cons (z_var 1) z_nil))))))
      (zs_cons (z_set (i := 4) sc_law.nd rfl (by first | exact Or.inl rfl | exact Or.inr rfl) (z_add (z_var 4) (z_lst (z_cons (z_mulT (z_lst (z_cons z_int z_nil)) z_int) (z_cons (z_mulT (z_tup (z_cons z_str z_nil)) z_int) (z_cons (z_var 2) (z_cons (z_fn k_law_names hr (by omega) hgd rfl (z_cons (z_var 1) (z_cons z_int z_nil))) (z_cons (z_mulT (z_fn k_law_names hr (by omega) hgd rfl (z_cons (z_var 1) (z_cons z_int z_nil))) z_int) (z_cons (z_fn k_law_names hr (by omega) hgd rfl (z_cons (z_var 1) (z_cons z_int z_nil))) z_nil)))))))))
      (zs_cons (z_for (t := (.nm 5)) PassesOwn.never (zi_seq (z_var 4)) (pg_name (i := 5) sc_law.nd rfl (by first | exact Or.inl rfl | exact Or.inr rfl)) (zs_cons (z_par (i := 6) (j := 7) sc_law.nd rfl rfl (by decide) rfl rfl (z_cons (z_reprA hr hgd h.sys rfl (h.free 11) (z_cons (z_var 5) z_nil)) (z_cons (z_ix (z_lst (z_cons z_int (z_cons z_int (z_cons z_int (z_cons z_int (z_cons z_int (z_cons z_int (z_cons z_int z_nil)))))))) (z_fn k_law_take hr (by omega) hgd rfl (z_cons (z_var 1) (z_cons z_int z_nil)))) z_nil)) rfl)
      (zs_one (z_if (PW.pt (z_or (z_not (z_val (z_fn k_law_right hr (by omega) hgd rfl (z_cons (z_var 5) (z_cons (z_var 7) z_nil))))) (z_or (z_not (z_val (z_fn k_law_right hr (by omega) hgd rfl (z_cons (z_var 5) (z_cons (z_var 7) z_nil))))) (z_or1 (z_neT hr (z_reprA hr hgd h.sys rfl (h.free 11) (z_cons (z_var 5) z_nil)) (z_var 6)))))) (zs_one (z_ret z_bl)) zs_nil))))
      (zs_cons (z_set (i := 8) sc_law.nd rfl (by first | exact Or.inl rfl | exact Or.inr rfl) (z_mk k_Body_init hr (by omega) hgd rfl (z_cons (z_lst (z_cons z_str z_nil)) (z_cons (z_lst z_nil) z_nil))))
      (zs_one (z_ret (z_eqA hr (z_lst (z_cons (z_fn k_is_integer hr (by omega) hgd rfl (z_cons (z_var 8) z_nil)) (z_cons (z_fn k_is_name hr (by omega) hgd rfl (z_cons (z_var 8) z_nil)) (z_cons (z_fn k_are_names hr (by omega) hgd rfl (z_cons (z_var 8) (z_cons z_int z_nil))) (z_cons (z_fn k_is_address hr (by omega) hgd rfl (z_cons (z_var 8) z_nil)) (z_cons (z_fn k_is_way hr (by omega) hgd rfl (z_cons (z_lst (z_cons (z_var 8) z_nil)) z_nil)) z_nil)))))) (z_mulT (z_lst (z_cons z_bl z_nil)) z_int)))))))))))
theorem the_law {G : Gd} {mg : Str → Option Value} {base : Heap} (h : Hd fa fn ts eb G mg base) (hcl : G.cls = clsOf G.K) {fd : FuncData} (D : FunD G.K "law" "law" (defArgs s_law) (defBody s_law) (defScope s_law) [] [] (He.fAd G.K ("law", none)) fd) : FnG G mg base 19 (He.fAd G.K ("law", none)) fd ["_law_script"] m_law := by
  have k_is_integer := fun y => kn_is_integer (h.at y) (hcl : (G.at y).cls = clsOf (G.at y).K) 
  have k_is_name := fun y => kn_is_name (h.at y) (hcl : (G.at y).cls = clsOf (G.at y).K) 
  have k_is_use := fun y => kn_is_use (h.at y) (hcl : (G.at y).cls = clsOf (G.at y).K) 
  have k_is_way := fun y => kn_is_way (h.at y) (hcl : (G.at y).cls = clsOf (G.at y).K) 
  have k_is_handing := fun y => kn_is_handing (h.at y) (hcl : (G.at y).cls = clsOf (G.at y).K) 
  have k_are_names := fun y => kn_are_names (h.at y) (hcl : (G.at y).cls = clsOf (G.at y).K) (k_is_name y)
  have k_is_address := fun y => kn_is_address (h.at y) (hcl : (G.at y).cls = clsOf (G.at y).K) (k_is_integer y)
  have r_are_rows := fun y => kr_are_rows (h.at y) (hcl : (G.at y).cls = clsOf (G.at y).K) (k_is_name y) (k_is_use y) (k_are_names y)
  have k_are_rows := fun y n => (r_are_rows y n).1
  have k_is_row := fun y n => (r_are_rows y n).2
  have k_ahead_of_lists := fun y => kn_ahead_of_lists (h.at y) (hcl : (G.at y).cls = clsOf (G.at y).K) 
  have k_own_lists := fun y => kn_own_lists (h.at y) (hcl : (G.at y).cls = clsOf (G.at y).K) (k_ahead_of_lists y)
  have r_frozen := fun y => kr_frozen (h.at y) (hcl : (G.at y).cls = clsOf (G.at y).K) (k_ahead_of_lists y) (k_own_lists y)
  have k_frozen := fun y n => (r_frozen y n).1
  have k_with_lists := fun y n => (r_frozen y n).2
  have k_reads := fun y => kn_reads (h.at y) (hcl : (G.at y).cls = clsOf (G.at y).K) 
  have k_sets := fun y => kn_sets (h.at y) (hcl : (G.at y).cls = clsOf (G.at y).K) 
  have r_every_row := fun y => kr_every_row (h.at y) (hcl : (G.at y).cls = clsOf (G.at y).K) (k_own_lists y)
  have k_every_row := fun y n => (r_every_row y n)
  have k_names_in := fun y => kn_names_in (h.at y) (hcl : (G.at y).cls = clsOf (G.at y).K) (k_reads y) (k_sets y) (k_every_row y)
  have k_marks_in := fun y => kn_marks_in (h.at y) (hcl : (G.at y).cls = clsOf (G.at y).K) (k_every_row y)
  have k_count := fun y => kn_count (h.at y) (hcl : (G.at y).cls = clsOf (G.at y).K) (k_every_row y)
  have r_depth := fun y => kr_depth (h.at y) (hcl : (G.at y).cls = clsOf (G.at y).K) (k_own_lists y)
  have k_depth := fun y n => (r_depth y n)
  have k_are_given := fun y => kn_are_given (h.at y) (hcl : (G.at y).cls = clsOf (G.at y).K) (k_are_names y)
  have r_rows_with_places := fun y => kr_rows_with_places (h.at y) (hcl : (G.at y).cls = clsOf (G.at y).K) (k_own_lists y)
  have k_rows_with_places := fun y n => (r_rows_with_places y n)
  have k_check_ends := fun y => kn_check_ends (h.at y) (hcl : (G.at y).cls = clsOf (G.at y).K) (k_rows_with_places y)
  have k_check_loops := fun y => kn_check_loops (h.at y) (hcl : (G.at y).cls = clsOf (G.at y).K) (k_rows_with_places y)
  have k_check_marks := fun y => kn_check_marks (h.at y) (hcl : (G.at y).cls = clsOf (G.at y).K) (k_marks_in y)
  have k_Body_init := fun y => kn_Body_init (h.at y) (hcl : (G.at y).cls = clsOf (G.at y).K) k_are_rows k_frozen k_names_in k_count k_depth k_are_given k_rows_with_places k_check_ends k_check_loops k_check_marks
  have k_law_bag := fun y => kn_law_bag (h.at y) (hcl : (G.at y).cls = clsOf (G.at y).K) 
  have k_law_take := fun y => kn_law_take (h.at y) (hcl : (G.at y).cls = clsOf (G.at y).K) 
  have k_law_alike := fun y => kn_law_alike (h.at y) (hcl : (G.at y).cls = clsOf (G.at y).K) 
  have k_law_names := fun y => kn_law_names (h.at y) (hcl : (G.at y).cls = clsOf (G.at y).K) (k_law_take y)
  have k_law_is_word := fun y => kn_law_is_word (h.at y) (hcl : (G.at y).cls = clsOf (G.at y).K) 
  have k_law_text := fun y => kn_law_text (h.at y) (hcl : (G.at y).cls = clsOf (G.at y).K) (k_law_take y)
  have r_law_thing := fun y => kr_law_thing (h.at y) (hcl : (G.at y).cls = clsOf (G.at y).K) (k_law_take y) (k_law_text y)
  have k_law_thing := fun y n => (r_law_thing y n)
  have k_law_address := fun y => kn_law_address (h.at y) (hcl : (G.at y).cls = clsOf (G.at y).K) (k_law_take y)
  have k_law_is_int := fun y => kn_law_is_int (h.at y) (hcl : (G.at y).cls = clsOf (G.at y).K) 
  have k_law_right := fun y => kn_law_right (h.at y) (hcl : (G.at y).cls = clsOf (G.at y).K) (k_is_integer y) (k_is_name y) (k_is_use y) (k_is_way y) (k_is_handing y) (k_are_names y) (k_is_address y) (k_law_alike y) (k_law_is_word y) (k_law_is_int y)
  exact fn_law h hcl (k_is_integer G.slf) (k_is_name G.slf) (k_is_way G.slf) (k_are_names G.slf) (k_is_address G.slf) (k_Body_init G.slf) (k_law_bag G.slf) (k_law_take G.slf) (k_law_names G.slf) (k_law_thing G.slf) (k_law_address G.slf) (k_law_right G.slf) D
def law_ix : Nat := 36
def law_lv : Nat := 19
def law_fact : Nat := 55
/-! ### the head -/
abbrev theRow : PySem.W.OpenRow := PySem.W.OpenLaw.row PySem.Challenge.rw_cutoutpieces_k11_words_of_any_value
abbrev hk : PySem.W.Hook := hookZ 4 fa fn ts eb
def ob (s : PySem.W.SharedT) : AlZ := obsZG 4 fa fn ts eb (HandSHeadRun.getT s)
theorem ob_eq (s : PySem.W.SharedT) : ob s = hk.obs s.abs := obsZG_eq (HandSHeadRun.getT_eq s)
def loose : List PySem.Str := (["_wall", "is_integer", "is_name", "is_use", "is_way", "is_handing", "are_names", "is_address", "is_row", "are_rows", "ahead_of_lists", "own_lists", "with_lists", "frozen", "reads"] : List PySem.Str) ++ (["sets", "every_row", "names_in", "marks_in", "count", "depth", "are_given", "rows_with_places", "check_ends", "check_loops", "check_marks", "edited", "_law_bag", "_law_take", "_law_alike"] : List PySem.Str) ++ (["_law_names", "_law_is_word", "_law_text", "_law_thing", "_law_address", "_law_is_int", "_law_right", "LETTERS", "LONGEST", "USES", "WAYS", "HANDINGS", "MOST_ARGS", "MANY_LISTS", "MARKED"] : List PySem.Str) ++ (["MOST_GIVEN", "MOST_ROWS", "MOST_DEEP", "MOST_NAMES", "ENDERS", "PieceError", "Wrong", "Full", "Deep", "Many", "Twice", "NotLast", "NoLoop", "NoRow", "NoGap"] : List PySem.Str) ++ (["Body"] : List PySem.Str)
abbrev RunAt (w : World) : Prop := HandSHeadRun.RunEq theRow (PySem.W.view theRow.prog [66]) hk ob 12000 loose w
theorem runF (w : World) : RunAt (w.withFollow "special-get-raises" false) := by
  intro os
  kernel_rfl
theorem runT (w : World) : RunAt (w.withFollow "special-get-raises" true) := by
  intro os
  kernel_rfl
theorem run (w : World) : RunAt w := PySem.W.byRow2 "special-get-raises" (P := RunAt) runF runT w
end L11
set_option Elab.async false
set_option linter.all false
set_option maxRecDepth 100000
set_option maxHeartbeats 4000000
/-! the bag of drawn numbers: what a take gives -/
namespace Kb
open PySem PySem.Spec PyProof.Rows L2 Zf
theorem v_mulT {S : Store} {i j : Int} (h : cMul i j = true) : gMulT S (.d (.int i)) (.d (.int j)) = some (.d (.int (i * j))) := by
  show (gMul S _ _).or _ = _
  rw [v_mul h]
  rfl
theorem gEqA_of {S : Store} {x y w : W} (h : gEq S x y = some w) : gEqA S x y = some w := by
  show (gEq S x y).or _ = _
  rw [h]
  rfl
theorem v_eqAI {S : Store} {i j : Int} : gEqA S (.d (.int i)) (.d (.int j)) = some (.d (.bl (decide (i = j)))) := gEqA_of v_eqI
theorem v_eqAS {S : Store} {x y : Str} : gEqA S (.d (.str x)) (.d (.str y)) = some (.d (.bl (decide (x = y)))) := gEqA_of v_eqS


end Kb
namespace Kb
open PySem PySem.Spec PyProof.Rows L2 Zf
/-- the bag's list -/
def bagL (a c t : Int) (xs : List Int) : List W := [.d (.int a), .d (.int c), .d (.int t), .d (.lst (xs.map .int))]
structure BagAt (S : Store) (b : Nat) (a c t : Int) (xs : List Int) : Prop where
  at_ : S[b]? = some (bagL a c t xs)
  a0 : 0 ≤ a
  c0 : 0 ≤ c
  c1 : c < 2147483647
  t0 : 0 ≤ t
  x0 : ∀ x ∈ xs, 0 ≤ x
  xl : xs.length ≤ 63
def Bag (S : Store) (b : Nat) : Prop := ∃ a c t xs, BagAt S b a c t xs
/-- the first part of a take: a cell is drawn -/
abbrev en7 (b : Nat) (m : Int) : En := [some (.r b), some (.d (.int m)), none, none, none, none, none]
theorem ix0 {S : Store} {b : Nat} {a c t : Int} {xs : List Int} (h : S[b]? = some (bagL a c t xs)) {env : En} (e : env[0]? = some (some (.r b))) : mBin gIx (mVar 0) (mD (.int 0)) env S = some (.d (.int a), S) := by
  simp [mBin, mVar, mD, gIx, vT, vL, h, bagL, toBor, atI, ixN, e]
theorem ix1 {S : Store} {b : Nat} {a c t : Int} {xs : List Int} (h : S[b]? = some (bagL a c t xs)) {env : En} (e : env[0]? = some (some (.r b))) : mBin gIx (mVar 0) (mD (.int 1)) env S = some (.d (.int c), S) := by
  simp [mBin, mVar, mD, gIx, vT, vL, h, bagL, toBor, atI, ixN, e]
theorem ix2 {S : Store} {b : Nat} {a c t : Int} {xs : List Int} (h : S[b]? = some (bagL a c t xs)) {env : En} (e : env[0]? = some (some (.r b))) : mBin gIx (mVar 0) (mD (.int 2)) env S = some (.d (.int t), S) := by
  simp [mBin, mVar, mD, gIx, vT, vL, h, bagL, toBor, atI, ixN, e]
theorem ix3 {S : Store} {b : Nat} {a c t : Int} {xs : List Int} (h : S[b]? = some (bagL a c t xs)) {env : En} (e : env[0]? = some (some (.r b))) : mBin gIx (mVar 0) (mD (.int 3)) env S = some (.d (.lst (xs.map .int)), S) := by
  simp [mBin, mVar, mD, gIx, vT, vL, h, bagL, toBor, atI, ixN, e]
theorem set0 {S : Store} {b : Nat} {a c t : Int} {xs : List Int} (h : S[b]? = some (bagL a c t xs)) {env : En} (e : env[0]? = some (some (.r b))) {me : ME} {v : Int} (hv : me env S = some (.d (.int v), S)) : mSetIx (mVar 0) (mD (.int 0)) me env S = some (.nx, env, S.set b (bagL v c t xs)) := by
  simp [mSetIx, mVar, mD, hv, e, setIx, h, bagL, ixN, toBor, isArg]
theorem set1 {S : Store} {b : Nat} {a c t : Int} {xs : List Int} (h : S[b]? = some (bagL a c t xs)) {env : En} (e : env[0]? = some (some (.r b))) {me : ME} {v : Int} (hv : me env S = some (.d (.int v), S)) : mSetIx (mVar 0) (mD (.int 1)) me env S = some (.nx, env, S.set b (bagL a v t xs)) := by
  simp [mSetIx, mVar, mD, hv, e, setIx, h, bagL, ixN, toBor, isArg]
theorem aug2 {S : Store} {b : Nat} {a c t : Int} {xs : List Int} (h : S[b]? = some (bagL a c t xs)) {env : En} (e : env[0]? = some (some (.r b))) : mAugIx (fun i j => i + j) (mVar 0) (mD (.int 2)) (mD (.int 1)) env S = some (.nx, env, S.set b (bagL a c (t + 1) xs)) := by
  simp [mAugIx, mVar, mD, e, setIx, h, bagL, ixN, toBor, isArg]
theorem at_set {S : Store} {b : Nat} {l l' : List W} (h : S[b]? = some l) : (S.set b l')[b]? = some l' := by
  have := (List.getElem?_eq_some_iff.mp h).1
  simp [this]

theorem wp_aug2 {S : Store} {b : Nat} {a c t : Int} {xs : List Int} {env : En} {P : Fl → En → Store → Prop} (h : S[b]? = some (bagL a c t xs)) (e : env[0]? = some (some (.r b))) (q : P .nx env (S.set b (bagL a c (t + 1) xs))) : OkS (mAugIx (fun i j => i + j) (mVar 0) (mD (.int 2)) (mD (.int 1)) env S) P := ⟨_, aug2 h e, q⟩
def m2 : MS := (mSeq (mIfS (mTst (mBin gGt (mBin gIx (mVar 0) (mD (.int 0))) (mD (.int 0)))) (mSeq (mSet 4 (mBin (gInt (fun _ j => decide (0 < j)) fun i j => .int (i % j)) (mCB (g1 gInt1) (mCons (mBin gIx (mVar 0) (mD (.int 0))) mNil)) (mVar 1)))
    (mSeq (mSetIx (mVar 0) (mD (.int 0)) (mBin (gInt cDiv fun i j => .int (i / j)) (mBin gIx (mVar 0) (mD (.int 0))) (mVar 1)))
    (mRet (mVar 4)))) mNext)
    (mSeq (mSet 5 (mBin (gInt (fun _ j => decide (0 < j)) fun i j => .int (i % j)) (mCB (g1 gInt1) (mCons (mBin gMulT (mBin gAdd (mBin gIx (mVar 0) (mD (.int 1))) (mD (.int 1))) (mD (.int 39373))) mNil)) (mD (.int 1000000007))))
    (mSeq (mSet 6 (mBin (gInt (fun _ j => decide (0 < j)) fun i j => .int (i % j)) (mCB (g1 gInt1) (mCons (mBin gMulT (mBin (gInt (fun _ j => decide (0 < j)) fun i j => .int (i % j)) (mCB (g1 gInt1) (mCons (mBin gMulT (mVar 5) (mVar 5)) mNil)) (mD (.int 998244353))) (mD (.int 30011))) mNil)) (mD (.int 998244353))))
    (mRet (mBin (gInt (fun _ j => decide (0 < j)) fun i j => .int (i % j)) (mCB (g1 gInt1) (mCons (mBin (gInt cDiv fun i j => .int (i / j)) (mVar 6) (mD (.int 7))) mNil)) (mVar 1))))))
def m3 : MS := (mSeq (mAugIx (fun i j => i + j) (mVar 0) (mD (.int 2)) (mD (.int 1)))
    (mSeq (mIfS (mTst (mBin gGe (mVar 2) (mBin (gInt cPow fun i j => .int (i ^ j.toNat)) (mD (.int 10)) (mD (.int 18))))) (mSetIx (mVar 0) (mD (.int 0)) (mVar 2)) mNext)
    (mSeq (mSet 3 (mBin gAdd (mBin gAdd (mBin gMulT (mBin gIx (mVar 0) (mD (.int 1))) (mD (.int 48271))) (mBin (gInt (fun _ j => decide (0 < j)) fun i j => .int (i % j)) (mCB (g1 gInt1) (mCons (mVar 2) mNil)) (mD (.int 2147483647)))) (mBin gMulT (mD (.int 7919)) (mBin gIx (mVar 0) (mD (.int 2))))))
    (mSetIx (mVar 0) (mD (.int 1)) (mBin (gInt (fun _ j => decide (0 < j)) fun i j => .int (i % j)) (mCB (g1 gInt1) (mCons (mVar 3) mNil)) (mD (.int 2147483647)))))))
def m1 : MS := (mIfS (mTst (mBin gEqA (mBin gIx (mVar 0) (mD (.int 0))) (mD (.int 0)))) (mSeq (mSet 2 (mD (.int 0)))
    (mSeq (mIfS (mTst (mBin gLt (mBin gIx (mVar 0) (mD (.int 2))) (mCB (g1 gLen) (mCons (mBin gIx (mVar 0) (mD (.int 3))) mNil)))) (mSet 2 (mBin gIx (mBin gIx (mVar 0) (mD (.int 3))) (mBin gIx (mVar 0) (mD (.int 2))))) mNext)
    m3)) mNext)
def takeM : MF := mFn 2 7 (mSeq m1 m2)
theorem third {S : Store} {b : Nat} {m c t x : Int} {xs : List Int} (h : S[b]? = some (bagL 0 c t xs)) (c0 : 0 ≤ c) (c1 : c < 2147483647) (t0 : 0 ≤ t) (hx : 0 ≤ x) : OkS (m3 [some (.r b), some (.d (.int m)), some (.d (.int x)), none, none, none, none] S) fun f e S' => f = .nx ∧ ∃ o2 o3 a' c' t',
    e = [some (.r b), some (.d (.int m)), o2, o3, none, none, none] ∧ S'[b]? = some (bagL a' c' t' xs) ∧ 0 ≤ a' ∧ 0 ≤ c' ∧ c' < 2147483647 ∧ 0 ≤ t' ∧ (∀ n, n ≠ b → S'[n]? = S[n]?) ∧ S'.length = S.length := by
  refine wp_seq.mpr (wp_aug2 h rfl ?_)
  have h1 := at_set (l' := bagL 0 c (t + 1) xs) h
  have off1 : ∀ n, n ≠ b → (S.set b (bagL 0 c (t + 1) xs))[n]? = S[n]? := fun n hn => List.getElem?_set_ne fun z => hn z.symm
  have len1 : (S.set b (bagL 0 c (t + 1) xs)).length = S.length := List.length_set ..
  revert h1 off1 len1
  generalize S.set b (bagL 0 c (t + 1) xs) = S1
  intro h1 off1 len1
  have fin : ∀ (S2 : Store) (a : Int), S2[b]? = some (bagL a c (t + 1) xs) → 0 ≤ a → (∀ n, n ≠ b → S2[n]? = S[n]?) → S2.length = S.length → OkS ((mSeq (mSet 3 (mBin gAdd (mBin gAdd (mBin gMulT (mBin gIx (mVar 0) (mD (.int 1))) (mD (.int 48271))) (mBin (gInt (fun _ j => decide (0 < j)) fun i j => .int (i % j)) (mCB (g1 gInt1) (mCons (mVar 2) mNil)) (mD (.int 2147483647)))) (mBin gMulT (mD (.int 7919)) (mBin gIx (mVar 0) (mD (.int 2))))))
    (mSetIx (mVar 0) (mD (.int 1)) (mBin (gInt (fun _ j => decide (0 < j)) fun i j => .int (i % j)) (mCB (g1 gInt1) (mCons (mVar 3) mNil)) (mD (.int 2147483647))))) [some (.r b), some (.d (.int m)), some (.d (.int x)), none, none, none, none] S2) fun f e S' => f = .nx ∧ ∃ o2 o3 a' c' t',
    e = [some (.r b), some (.d (.int m)), o2, o3, none, none, none] ∧ S'[b]? = some (bagL a' c' t' xs) ∧ 0 ≤ a' ∧ 0 ≤ c' ∧ c' < 2147483647 ∧ 0 ≤ t' ∧ (∀ n, n ≠ b → S'[n]? = S[n]?) ∧ S'.length = S.length := by
    intro S2 a h2 a0 off2 len2
    have i1 : gIx S2 (.r b) (.d (.int 1)) = some (.d (.int c)) := v_ixR (k := 1) h2 rfl
    have i2 : gIx S2 (.r b) (.d (.int 2)) = some (.d (.int (t + 1))) := v_ixR (k := 2) h2 rfl
    have k1 : ∀ z : Int, cMul z 48271 = true := fun z => by simp [cMul]
    have k2 : ∀ z : Int, cMul 7919 z = true := fun z => by simp [cMul]
    have st : ∀ v : Int, setIx S2 (.r b) (.d (.int 1)) (.d (.int v)) = some (S2.set b (bagL a v (t + 1) xs)) := fun v => by
      simp [setIx, h2, bagL, ixN, isArg]
    (simp only [Zf.wp_d, Zf.wp_var, Zf.wp_bin, Zf.wp_tst, Zf.wp_andT, Zf.wp_orT, Zf.wp_notT, Zf.wp_if, Zf.wp_nil, Zf.wp_cons, Zf.wp_call, Zf.wp_cb, Zf.wp_seq, Zf.wp_next, Zf.wp_ifS, Zf.wp_set, Zf.wp_ret, Zf.wp_setIx, Zf.wp_fn, Zf.wp_frzE, Zf.wp_pubE, Zf.wp_lst, Zf.wp_tup, Zf.wp_lstO, Zf.wp_andV, Zf.wp_noPart, Zf.wp_part, Zf.wp_sl, Zf.wp_par, Zf.wp_unp, Zf.wp_seqI, Zf.wp_rng1, Zf.wp_for, Zf.wp_lc, Zf.wp_yes, Zf.wp_mutE, Zf.wp_neg, Zf.wp_inK, Zf.wp_isi, Zf.wp_isi2, Zf.wp_star, Zf.wp_dix, Zf.wp_dget2, Zf.wp_maxD, Zf.wp_enum, Zf.wp_zip, Zf.wp_dictZip])
    (try simp only [Zf.v_int, Zf.v_addI, Zf.v_ltI, Zf.v_leI, Zf.v_gtI, Zf.v_geI, Kb.v_eqAI, Kb.v_eqAS, Zf.v_eqI, Zf.v_neI, Zf.v_eqS, Zf.v_neS, Zf.v_int1, Zf.v_int1b, Zf.v_abs, Zf.v_lenL, Zf.v_lenT, Zf.v_lenB, Zf.v_listL, Zf.v_listT, Zf.toBor_d, Zf.toBor_r, Zf.toBor_own, Zf.unBor_d, Zf.unBor_r, Zf.unBor_bor, Zf.unBor_own, Zf.isArg_d, Zf.isArg_r, Zf.canSet_d, Zf.canSet_r, Zf.canSet_own, Option.some.injEq, exists_eq_left', exists_eq_left, List.getElem?_cons_zero, List.getElem?_cons_succ, List.length_cons, List.length_nil, List.map_cons, List.map_nil, List.all_cons, List.all_nil, Bool.and_true, and_self, true_and, List.cons_append, List.nil_append, List.replicate, Nat.reduceSub, Nat.reduceLT, Nat.reduceAdd, List.set_cons_zero, List.set_cons_succ, Zf.W.d.injEq, Zf.D.bl.injEq, Zf.D.int.injEq, Zf.D.str.injEq])
    simp only [i1, i2, fun z : Int => v_mulT (S := S2) (k1 z), fun z : Int => v_mulT (S := S2) (k2 z), show (0 : Int) < 2147483647 from by decide, decide_true, if_true, Option.some.injEq, exists_eq_left', v_addI, canSet_d, true_and, toBor_d, v_int1, v_int]
    (try simp only [Zf.v_int, Zf.v_addI, Zf.v_ltI, Zf.v_leI, Zf.v_gtI, Zf.v_geI, Kb.v_eqAI, Kb.v_eqAS, Zf.v_eqI, Zf.v_neI, Zf.v_eqS, Zf.v_neS, Zf.v_int1, Zf.v_int1b, Zf.v_abs, Zf.v_lenL, Zf.v_lenT, Zf.v_lenB, Zf.v_listL, Zf.v_listT, Zf.toBor_d, Zf.toBor_r, Zf.toBor_own, Zf.unBor_d, Zf.unBor_r, Zf.unBor_bor, Zf.unBor_own, Zf.isArg_d, Zf.isArg_r, Zf.canSet_d, Zf.canSet_r, Zf.canSet_own, Option.some.injEq, exists_eq_left', exists_eq_left, List.getElem?_cons_zero, List.getElem?_cons_succ, List.length_cons, List.length_nil, List.map_cons, List.map_nil, List.all_cons, List.all_nil, Bool.and_true, and_self, true_and, List.cons_append, List.nil_append, List.replicate, Nat.reduceSub, Nat.reduceLT, Nat.reduceAdd, List.set_cons_zero, List.set_cons_succ, Zf.W.d.injEq, Zf.D.bl.injEq, Zf.D.int.injEq, Zf.D.str.injEq])
    simp only [show (0 : Int) < 2147483647 from by decide, decide_true, if_true, Option.some.injEq, exists_eq_left', st]
    refine ⟨some (.d (.int x)), _, a, _, t + 1, rfl, at_set h2, a0, Int.emod_nonneg _ (by decide), Int.emod_lt_of_pos _ (by decide), by omega, fun n hn => ?_, ?_⟩
    · rw [List.getElem?_set_ne (fun z => hn z.symm)]
      exact off2 n hn
    · rw [List.length_set]
      exact len2
  refine wp_seq.mpr (wp_ifS.mpr ?_)
  (simp only [Zf.wp_d, Zf.wp_var, Zf.wp_bin, Zf.wp_tst, Zf.wp_andT, Zf.wp_orT, Zf.wp_notT, Zf.wp_if, Zf.wp_nil, Zf.wp_cons, Zf.wp_call, Zf.wp_cb, Zf.wp_seq, Zf.wp_next, Zf.wp_ifS, Zf.wp_set, Zf.wp_ret, Zf.wp_setIx, Zf.wp_fn, Zf.wp_frzE, Zf.wp_pubE, Zf.wp_lst, Zf.wp_tup, Zf.wp_lstO, Zf.wp_andV, Zf.wp_noPart, Zf.wp_part, Zf.wp_sl, Zf.wp_par, Zf.wp_unp, Zf.wp_seqI, Zf.wp_rng1, Zf.wp_for, Zf.wp_lc, Zf.wp_yes, Zf.wp_mutE, Zf.wp_neg, Zf.wp_inK, Zf.wp_isi, Zf.wp_isi2, Zf.wp_star, Zf.wp_dix, Zf.wp_dget2, Zf.wp_maxD, Zf.wp_enum, Zf.wp_zip, Zf.wp_dictZip])
  (try simp only [Zf.v_int, Zf.v_addI, Zf.v_ltI, Zf.v_leI, Zf.v_gtI, Zf.v_geI, Kb.v_eqAI, Kb.v_eqAS, Zf.v_eqI, Zf.v_neI, Zf.v_eqS, Zf.v_neS, Zf.v_int1, Zf.v_int1b, Zf.v_abs, Zf.v_lenL, Zf.v_lenT, Zf.v_lenB, Zf.v_listL, Zf.v_listT, Zf.toBor_d, Zf.toBor_r, Zf.toBor_own, Zf.unBor_d, Zf.unBor_r, Zf.unBor_bor, Zf.unBor_own, Zf.isArg_d, Zf.isArg_r, Zf.canSet_d, Zf.canSet_r, Zf.canSet_own, Option.some.injEq, exists_eq_left', exists_eq_left, List.getElem?_cons_zero, List.getElem?_cons_succ, List.length_cons, List.length_nil, List.map_cons, List.map_nil, List.all_cons, List.all_nil, Bool.and_true, and_self, true_and, List.cons_append, List.nil_append, List.replicate, Nat.reduceSub, Nat.reduceLT, Nat.reduceAdd, List.set_cons_zero, List.set_cons_succ, Zf.W.d.injEq, Zf.D.bl.injEq, Zf.D.int.injEq, Zf.D.str.injEq])
  simp only [show cPow 10 18 = true from by decide, if_true, Option.some.injEq, exists_eq_left', v_geI, W.d.injEq, D.bl.injEq]
  by_cases hb : (10 : Int) ^ (18 : Int).toNat ≤ x
  · have st : setIx S1 (.r b) (.d (.int 0)) (.d (.int x)) = some (S1.set b (bagL x c (t + 1) xs)) := by
      simp [setIx, h1, bagL, ixN, isArg]
    simp only [hb, decide_true, if_true, st, Option.some.injEq, exists_eq_left']
    have := fin (S1.set b (bagL x c (t + 1) xs)) x (at_set h1) hx (fun n hn => by rw [List.getElem?_set_ne (fun z => hn z.symm)]; exact off1 n hn) (by rw [List.length_set]; exact len1)
    revert this
    (simp only [Zf.wp_d, Zf.wp_var, Zf.wp_bin, Zf.wp_tst, Zf.wp_andT, Zf.wp_orT, Zf.wp_notT, Zf.wp_if, Zf.wp_nil, Zf.wp_cons, Zf.wp_call, Zf.wp_cb, Zf.wp_seq, Zf.wp_next, Zf.wp_ifS, Zf.wp_set, Zf.wp_ret, Zf.wp_setIx, Zf.wp_fn, Zf.wp_frzE, Zf.wp_pubE, Zf.wp_lst, Zf.wp_tup, Zf.wp_lstO, Zf.wp_andV, Zf.wp_noPart, Zf.wp_part, Zf.wp_sl, Zf.wp_par, Zf.wp_unp, Zf.wp_seqI, Zf.wp_rng1, Zf.wp_for, Zf.wp_lc, Zf.wp_yes, Zf.wp_mutE, Zf.wp_neg, Zf.wp_inK, Zf.wp_isi, Zf.wp_isi2, Zf.wp_star, Zf.wp_dix, Zf.wp_dget2, Zf.wp_maxD, Zf.wp_enum, Zf.wp_zip, Zf.wp_dictZip])
    (try simp only [Zf.v_int, Zf.v_addI, Zf.v_ltI, Zf.v_leI, Zf.v_gtI, Zf.v_geI, Kb.v_eqAI, Kb.v_eqAS, Zf.v_eqI, Zf.v_neI, Zf.v_eqS, Zf.v_neS, Zf.v_int1, Zf.v_int1b, Zf.v_abs, Zf.v_lenL, Zf.v_lenT, Zf.v_lenB, Zf.v_listL, Zf.v_listT, Zf.toBor_d, Zf.toBor_r, Zf.toBor_own, Zf.unBor_d, Zf.unBor_r, Zf.unBor_bor, Zf.unBor_own, Zf.isArg_d, Zf.isArg_r, Zf.canSet_d, Zf.canSet_r, Zf.canSet_own, Option.some.injEq, exists_eq_left', exists_eq_left, List.getElem?_cons_zero, List.getElem?_cons_succ, List.length_cons, List.length_nil, List.map_cons, List.map_nil, List.all_cons, List.all_nil, Bool.and_true, and_self, true_and, List.cons_append, List.nil_append, List.replicate, Nat.reduceSub, Nat.reduceLT, Nat.reduceAdd, List.set_cons_zero, List.set_cons_succ, Zf.W.d.injEq, Zf.D.bl.injEq, Zf.D.int.injEq, Zf.D.str.injEq])
    exact id
  · simp only [hb, decide_false, Bool.false_eq_true, if_false]
    have := fin S1 0 h1 (Int.le_refl _) off1 len1
    revert this
    (simp only [Zf.wp_d, Zf.wp_var, Zf.wp_bin, Zf.wp_tst, Zf.wp_andT, Zf.wp_orT, Zf.wp_notT, Zf.wp_if, Zf.wp_nil, Zf.wp_cons, Zf.wp_call, Zf.wp_cb, Zf.wp_seq, Zf.wp_next, Zf.wp_ifS, Zf.wp_set, Zf.wp_ret, Zf.wp_setIx, Zf.wp_fn, Zf.wp_frzE, Zf.wp_pubE, Zf.wp_lst, Zf.wp_tup, Zf.wp_lstO, Zf.wp_andV, Zf.wp_noPart, Zf.wp_part, Zf.wp_sl, Zf.wp_par, Zf.wp_unp, Zf.wp_seqI, Zf.wp_rng1, Zf.wp_for, Zf.wp_lc, Zf.wp_yes, Zf.wp_mutE, Zf.wp_neg, Zf.wp_inK, Zf.wp_isi, Zf.wp_isi2, Zf.wp_star, Zf.wp_dix, Zf.wp_dget2, Zf.wp_maxD, Zf.wp_enum, Zf.wp_zip, Zf.wp_dictZip])
    (try simp only [Zf.v_int, Zf.v_addI, Zf.v_ltI, Zf.v_leI, Zf.v_gtI, Zf.v_geI, Kb.v_eqAI, Kb.v_eqAS, Zf.v_eqI, Zf.v_neI, Zf.v_eqS, Zf.v_neS, Zf.v_int1, Zf.v_int1b, Zf.v_abs, Zf.v_lenL, Zf.v_lenT, Zf.v_lenB, Zf.v_listL, Zf.v_listT, Zf.toBor_d, Zf.toBor_r, Zf.toBor_own, Zf.unBor_d, Zf.unBor_r, Zf.unBor_bor, Zf.unBor_own, Zf.isArg_d, Zf.isArg_r, Zf.canSet_d, Zf.canSet_r, Zf.canSet_own, Option.some.injEq, exists_eq_left', exists_eq_left, List.getElem?_cons_zero, List.getElem?_cons_succ, List.length_cons, List.length_nil, List.map_cons, List.map_nil, List.all_cons, List.all_nil, Bool.and_true, and_self, true_and, List.cons_append, List.nil_append, List.replicate, Nat.reduceSub, Nat.reduceLT, Nat.reduceAdd, List.set_cons_zero, List.set_cons_succ, Zf.W.d.injEq, Zf.D.bl.injEq, Zf.D.int.injEq, Zf.D.str.injEq])
    exact id
theorem take_ok {S : Store} {b : Nat} {m : Int} (B : Bag S b) (hm : 0 < m) (hm2 : m < 1000000000) {P : W → Store → Prop}
    (q : ∀ v S', 0 ≤ v → v < m → Bag S' b → (∀ n, n ≠ b → S'[n]? = S[n]?) → S'.length = S.length → P (.d (.int v)) S') : OkE (takeM [.r b, .d (.int m)] S) P := by
  obtain ⟨a, c, t, xs, h, a0, c0, c1, t0, x0, xl⟩ := B
  have i0 : ∀ {S : Store} {a c t : Int} {xs : List Int}, S[b]? = some (bagL a c t xs) → gIx S (.r b) (.d (.int 0)) = some (.d (.int a)) := fun h => v_ixR (k := 0) h rfl
  have i1 : ∀ {S : Store} {a c t : Int} {xs : List Int}, S[b]? = some (bagL a c t xs) → gIx S (.r b) (.d (.int 1)) = some (.d (.int c)) := fun h => v_ixR (k := 1) h rfl
  have i2 : ∀ {S : Store} {a c t : Int} {xs : List Int}, S[b]? = some (bagL a c t xs) → gIx S (.r b) (.d (.int 2)) = some (.d (.int t)) := fun h => v_ixR (k := 2) h rfl
  have i3 : ∀ {S : Store} {a c t : Int} {xs : List Int}, S[b]? = some (bagL a c t xs) → gIx S (.r b) (.d (.int 3)) = some (.d (.lst (xs.map .int))) := fun h => v_ixR (k := 3) h rfl
  have second : ∀ (o2 o3 : Option W) (S' : Store) (a c t : Int), S'[b]? = some (bagL a c t xs) → 0 ≤ a → 0 ≤ c → c < 2147483647 → 0 ≤ t → (∀ n, n ≠ b → S'[n]? = S[n]?) → S'.length = S.length →
      OkS (m2 [some (.r b), some (.d (.int m)), o2, o3, none, none, none] S') fun f _ S' => match f with
        | .nx => P (.d .non) S'
        | .ret w => P (unBor w) S'
        | _ => False := by
    intro o2 o3 S' a c t h a0 c0 c1 t0 off ll
    have bl : b < S'.length := (List.getElem?_eq_some_iff.mp h).1
    unfold m2
    (simp only [Zf.wp_d, Zf.wp_var, Zf.wp_bin, Zf.wp_tst, Zf.wp_andT, Zf.wp_orT, Zf.wp_notT, Zf.wp_if, Zf.wp_nil, Zf.wp_cons, Zf.wp_call, Zf.wp_cb, Zf.wp_seq, Zf.wp_next, Zf.wp_ifS, Zf.wp_set, Zf.wp_ret, Zf.wp_setIx, Zf.wp_fn, Zf.wp_frzE, Zf.wp_pubE, Zf.wp_lst, Zf.wp_tup, Zf.wp_lstO, Zf.wp_andV, Zf.wp_noPart, Zf.wp_part, Zf.wp_sl, Zf.wp_par, Zf.wp_unp, Zf.wp_seqI, Zf.wp_rng1, Zf.wp_for, Zf.wp_lc, Zf.wp_yes, Zf.wp_mutE, Zf.wp_neg, Zf.wp_inK, Zf.wp_isi, Zf.wp_isi2, Zf.wp_star, Zf.wp_dix, Zf.wp_dget2, Zf.wp_maxD, Zf.wp_enum, Zf.wp_zip, Zf.wp_dictZip])
    (try simp only [Zf.v_int, Zf.v_addI, Zf.v_ltI, Zf.v_leI, Zf.v_gtI, Zf.v_geI, Kb.v_eqAI, Kb.v_eqAS, Zf.v_eqI, Zf.v_neI, Zf.v_eqS, Zf.v_neS, Zf.v_int1, Zf.v_int1b, Zf.v_abs, Zf.v_lenL, Zf.v_lenT, Zf.v_lenB, Zf.v_listL, Zf.v_listT, Zf.toBor_d, Zf.toBor_r, Zf.toBor_own, Zf.unBor_d, Zf.unBor_r, Zf.unBor_bor, Zf.unBor_own, Zf.isArg_d, Zf.isArg_r, Zf.canSet_d, Zf.canSet_r, Zf.canSet_own, Option.some.injEq, exists_eq_left', exists_eq_left, List.getElem?_cons_zero, List.getElem?_cons_succ, List.length_cons, List.length_nil, List.map_cons, List.map_nil, List.all_cons, List.all_nil, Bool.and_true, and_self, true_and, List.cons_append, List.nil_append, List.replicate, Nat.reduceSub, Nat.reduceLT, Nat.reduceAdd, List.set_cons_zero, List.set_cons_succ, Zf.W.d.injEq, Zf.D.bl.injEq, Zf.D.int.injEq, Zf.D.str.injEq])
    simp only [i0 h]
    (try simp only [Zf.v_int, Zf.v_addI, Zf.v_ltI, Zf.v_leI, Zf.v_gtI, Zf.v_geI, Kb.v_eqAI, Kb.v_eqAS, Zf.v_eqI, Zf.v_neI, Zf.v_eqS, Zf.v_neS, Zf.v_int1, Zf.v_int1b, Zf.v_abs, Zf.v_lenL, Zf.v_lenT, Zf.v_lenB, Zf.v_listL, Zf.v_listT, Zf.toBor_d, Zf.toBor_r, Zf.toBor_own, Zf.unBor_d, Zf.unBor_r, Zf.unBor_bor, Zf.unBor_own, Zf.isArg_d, Zf.isArg_r, Zf.canSet_d, Zf.canSet_r, Zf.canSet_own, Option.some.injEq, exists_eq_left', exists_eq_left, List.getElem?_cons_zero, List.getElem?_cons_succ, List.length_cons, List.length_nil, List.map_cons, List.map_nil, List.all_cons, List.all_nil, Bool.and_true, and_self, true_and, List.cons_append, List.nil_append, List.replicate, Nat.reduceSub, Nat.reduceLT, Nat.reduceAdd, List.set_cons_zero, List.set_cons_succ, Zf.W.d.injEq, Zf.D.bl.injEq, Zf.D.int.injEq, Zf.D.str.injEq])
    by_cases ha : 0 < a
    · have hd : cDiv a m = true := by
        unfold cDiv
        simp [hm]
        omega
      have hs : setIx S' (.r b) (.d (.int 0)) (.d (.int (a / m))) = some (S'.set b (bagL (a / m) c t xs)) := by
        simp [setIx, h, bagL, ixN, isArg]
      simp only [decide_eq_true ha, decide_eq_true hm, if_true, hd]
      (try simp only [Zf.v_int, Zf.v_addI, Zf.v_ltI, Zf.v_leI, Zf.v_gtI, Zf.v_geI, Kb.v_eqAI, Kb.v_eqAS, Zf.v_eqI, Zf.v_neI, Zf.v_eqS, Zf.v_neS, Zf.v_int1, Zf.v_int1b, Zf.v_abs, Zf.v_lenL, Zf.v_lenT, Zf.v_lenB, Zf.v_listL, Zf.v_listT, Zf.toBor_d, Zf.toBor_r, Zf.toBor_own, Zf.unBor_d, Zf.unBor_r, Zf.unBor_bor, Zf.unBor_own, Zf.isArg_d, Zf.isArg_r, Zf.canSet_d, Zf.canSet_r, Zf.canSet_own, Option.some.injEq, exists_eq_left', exists_eq_left, List.getElem?_cons_zero, List.getElem?_cons_succ, List.length_cons, List.length_nil, List.map_cons, List.map_nil, List.all_cons, List.all_nil, Bool.and_true, and_self, true_and, List.cons_append, List.nil_append, List.replicate, Nat.reduceSub, Nat.reduceLT, Nat.reduceAdd, List.set_cons_zero, List.set_cons_succ, Zf.W.d.injEq, Zf.D.bl.injEq, Zf.D.int.injEq, Zf.D.str.injEq])
      simp only [hs]
      (try simp only [Zf.v_int, Zf.v_addI, Zf.v_ltI, Zf.v_leI, Zf.v_gtI, Zf.v_geI, Kb.v_eqAI, Kb.v_eqAS, Zf.v_eqI, Zf.v_neI, Zf.v_eqS, Zf.v_neS, Zf.v_int1, Zf.v_int1b, Zf.v_abs, Zf.v_lenL, Zf.v_lenT, Zf.v_lenB, Zf.v_listL, Zf.v_listT, Zf.toBor_d, Zf.toBor_r, Zf.toBor_own, Zf.unBor_d, Zf.unBor_r, Zf.unBor_bor, Zf.unBor_own, Zf.isArg_d, Zf.isArg_r, Zf.canSet_d, Zf.canSet_r, Zf.canSet_own, Option.some.injEq, exists_eq_left', exists_eq_left, List.getElem?_cons_zero, List.getElem?_cons_succ, List.length_cons, List.length_nil, List.map_cons, List.map_nil, List.all_cons, List.all_nil, Bool.and_true, and_self, true_and, List.cons_append, List.nil_append, List.replicate, Nat.reduceSub, Nat.reduceLT, Nat.reduceAdd, List.set_cons_zero, List.set_cons_succ, Zf.W.d.injEq, Zf.D.bl.injEq, Zf.D.int.injEq, Zf.D.str.injEq])
      refine q _ _ (Int.emod_nonneg _ (by omega)) (Int.emod_lt_of_pos _ hm) ⟨a / m, c, t, xs, at_set h, Int.ediv_nonneg a0 (by omega), c0, c1, t0, x0, xl⟩ (fun n hn => ?_) ?_
      · rw [List.getElem?_set_ne (fun z => hn z.symm)]
        exact off n hn
      · rw [List.length_set]
        exact ll
    · simp only [decide_eq_false ha, Bool.false_eq_true, if_false, i1 h]
      (try simp only [Zf.v_int, Zf.v_addI, Zf.v_ltI, Zf.v_leI, Zf.v_gtI, Zf.v_geI, Kb.v_eqAI, Kb.v_eqAS, Zf.v_eqI, Zf.v_neI, Zf.v_eqS, Zf.v_neS, Zf.v_int1, Zf.v_int1b, Zf.v_abs, Zf.v_lenL, Zf.v_lenT, Zf.v_lenB, Zf.v_listL, Zf.v_listT, Zf.toBor_d, Zf.toBor_r, Zf.toBor_own, Zf.unBor_d, Zf.unBor_r, Zf.unBor_bor, Zf.unBor_own, Zf.isArg_d, Zf.isArg_r, Zf.canSet_d, Zf.canSet_r, Zf.canSet_own, Option.some.injEq, exists_eq_left', exists_eq_left, List.getElem?_cons_zero, List.getElem?_cons_succ, List.length_cons, List.length_nil, List.map_cons, List.map_nil, List.all_cons, List.all_nil, Bool.and_true, and_self, true_and, List.cons_append, List.nil_append, List.replicate, Nat.reduceSub, Nat.reduceLT, Nat.reduceAdd, List.set_cons_zero, List.set_cons_succ, Zf.W.d.injEq, Zf.D.bl.injEq, Zf.D.int.injEq, Zf.D.str.injEq])
      have k1 : cMul (c + 1) 39373 = true := by
        simp [cMul]
      have g0 := Int.emod_nonneg ((c + 1) * 39373) (show (1000000007 : Int) ≠ 0 by decide)
      have g1' := Int.emod_lt_of_pos ((c + 1) * 39373) (show (0 : Int) < 1000000007 by decide)
      have k2 : cMul ((c + 1) * 39373 % 1000000007) ((c + 1) * 39373 % 1000000007) = true := by
        simp only [cMul, Bool.or_eq_true, Bool.and_eq_true, decide_eq_true_eq]
        left
        omega
      have k3 : ∀ z : Int, cMul z 30011 = true := fun z => by simp [cMul]
      simp only [v_mulT k1]
      (try simp only [Zf.v_int, Zf.v_addI, Zf.v_ltI, Zf.v_leI, Zf.v_gtI, Zf.v_geI, Kb.v_eqAI, Kb.v_eqAS, Zf.v_eqI, Zf.v_neI, Zf.v_eqS, Zf.v_neS, Zf.v_int1, Zf.v_int1b, Zf.v_abs, Zf.v_lenL, Zf.v_lenT, Zf.v_lenB, Zf.v_listL, Zf.v_listT, Zf.toBor_d, Zf.toBor_r, Zf.toBor_own, Zf.unBor_d, Zf.unBor_r, Zf.unBor_bor, Zf.unBor_own, Zf.isArg_d, Zf.isArg_r, Zf.canSet_d, Zf.canSet_r, Zf.canSet_own, Option.some.injEq, exists_eq_left', exists_eq_left, List.getElem?_cons_zero, List.getElem?_cons_succ, List.length_cons, List.length_nil, List.map_cons, List.map_nil, List.all_cons, List.all_nil, Bool.and_true, and_self, true_and, List.cons_append, List.nil_append, List.replicate, Nat.reduceSub, Nat.reduceLT, Nat.reduceAdd, List.set_cons_zero, List.set_cons_succ, Zf.W.d.injEq, Zf.D.bl.injEq, Zf.D.int.injEq, Zf.D.str.injEq])
      simp only [show (0 : Int) < 1000000007 from by decide, show (0 : Int) < 998244353 from by decide, decide_true, if_true]
      (try simp only [Zf.v_int, Zf.v_addI, Zf.v_ltI, Zf.v_leI, Zf.v_gtI, Zf.v_geI, Kb.v_eqAI, Kb.v_eqAS, Zf.v_eqI, Zf.v_neI, Zf.v_eqS, Zf.v_neS, Zf.v_int1, Zf.v_int1b, Zf.v_abs, Zf.v_lenL, Zf.v_lenT, Zf.v_lenB, Zf.v_listL, Zf.v_listT, Zf.toBor_d, Zf.toBor_r, Zf.toBor_own, Zf.unBor_d, Zf.unBor_r, Zf.unBor_bor, Zf.unBor_own, Zf.isArg_d, Zf.isArg_r, Zf.canSet_d, Zf.canSet_r, Zf.canSet_own, Option.some.injEq, exists_eq_left', exists_eq_left, List.getElem?_cons_zero, List.getElem?_cons_succ, List.length_cons, List.length_nil, List.map_cons, List.map_nil, List.all_cons, List.all_nil, Bool.and_true, and_self, true_and, List.cons_append, List.nil_append, List.replicate, Nat.reduceSub, Nat.reduceLT, Nat.reduceAdd, List.set_cons_zero, List.set_cons_succ, Zf.W.d.injEq, Zf.D.bl.injEq, Zf.D.int.injEq, Zf.D.str.injEq])
      simp only [v_mulT k2]
      (try simp only [Zf.v_int, Zf.v_addI, Zf.v_ltI, Zf.v_leI, Zf.v_gtI, Zf.v_geI, Kb.v_eqAI, Kb.v_eqAS, Zf.v_eqI, Zf.v_neI, Zf.v_eqS, Zf.v_neS, Zf.v_int1, Zf.v_int1b, Zf.v_abs, Zf.v_lenL, Zf.v_lenT, Zf.v_lenB, Zf.v_listL, Zf.v_listT, Zf.toBor_d, Zf.toBor_r, Zf.toBor_own, Zf.unBor_d, Zf.unBor_r, Zf.unBor_bor, Zf.unBor_own, Zf.isArg_d, Zf.isArg_r, Zf.canSet_d, Zf.canSet_r, Zf.canSet_own, Option.some.injEq, exists_eq_left', exists_eq_left, List.getElem?_cons_zero, List.getElem?_cons_succ, List.length_cons, List.length_nil, List.map_cons, List.map_nil, List.all_cons, List.all_nil, Bool.and_true, and_self, true_and, List.cons_append, List.nil_append, List.replicate, Nat.reduceSub, Nat.reduceLT, Nat.reduceAdd, List.set_cons_zero, List.set_cons_succ, Zf.W.d.injEq, Zf.D.bl.injEq, Zf.D.int.injEq, Zf.D.str.injEq])
      simp only [show (0 : Int) < 998244353 from by decide, decide_true, if_true, fun z : Int => v_mulT (S := S') (k3 z), Option.some.injEq, exists_eq_left', v_int1, v_int, canSet_d, true_and, toBor_d]
      (try simp only [Zf.v_int, Zf.v_addI, Zf.v_ltI, Zf.v_leI, Zf.v_gtI, Zf.v_geI, Kb.v_eqAI, Kb.v_eqAS, Zf.v_eqI, Zf.v_neI, Zf.v_eqS, Zf.v_neS, Zf.v_int1, Zf.v_int1b, Zf.v_abs, Zf.v_lenL, Zf.v_lenT, Zf.v_lenB, Zf.v_listL, Zf.v_listT, Zf.toBor_d, Zf.toBor_r, Zf.toBor_own, Zf.unBor_d, Zf.unBor_r, Zf.unBor_bor, Zf.unBor_own, Zf.isArg_d, Zf.isArg_r, Zf.canSet_d, Zf.canSet_r, Zf.canSet_own, Option.some.injEq, exists_eq_left', exists_eq_left, List.getElem?_cons_zero, List.getElem?_cons_succ, List.length_cons, List.length_nil, List.map_cons, List.map_nil, List.all_cons, List.all_nil, Bool.and_true, and_self, true_and, List.cons_append, List.nil_append, List.replicate, Nat.reduceSub, Nat.reduceLT, Nat.reduceAdd, List.set_cons_zero, List.set_cons_succ, Zf.W.d.injEq, Zf.D.bl.injEq, Zf.D.int.injEq, Zf.D.str.injEq])
      have k4 : ∀ z : Int, cDiv z 7 = true := fun z => by simp [cDiv]
      simp only [k4, hm, decide_true, if_true]
      (try simp only [Zf.v_int, Zf.v_addI, Zf.v_ltI, Zf.v_leI, Zf.v_gtI, Zf.v_geI, Kb.v_eqAI, Kb.v_eqAS, Zf.v_eqI, Zf.v_neI, Zf.v_eqS, Zf.v_neS, Zf.v_int1, Zf.v_int1b, Zf.v_abs, Zf.v_lenL, Zf.v_lenT, Zf.v_lenB, Zf.v_listL, Zf.v_listT, Zf.toBor_d, Zf.toBor_r, Zf.toBor_own, Zf.unBor_d, Zf.unBor_r, Zf.unBor_bor, Zf.unBor_own, Zf.isArg_d, Zf.isArg_r, Zf.canSet_d, Zf.canSet_r, Zf.canSet_own, Option.some.injEq, exists_eq_left', exists_eq_left, List.getElem?_cons_zero, List.getElem?_cons_succ, List.length_cons, List.length_nil, List.map_cons, List.map_nil, List.all_cons, List.all_nil, Bool.and_true, and_self, true_and, List.cons_append, List.nil_append, List.replicate, Nat.reduceSub, Nat.reduceLT, Nat.reduceAdd, List.set_cons_zero, List.set_cons_succ, Zf.W.d.injEq, Zf.D.bl.injEq, Zf.D.int.injEq, Zf.D.str.injEq])
      simp only [hm, decide_true, if_true]
      (try simp only [Zf.v_int, Zf.v_addI, Zf.v_ltI, Zf.v_leI, Zf.v_gtI, Zf.v_geI, Kb.v_eqAI, Kb.v_eqAS, Zf.v_eqI, Zf.v_neI, Zf.v_eqS, Zf.v_neS, Zf.v_int1, Zf.v_int1b, Zf.v_abs, Zf.v_lenL, Zf.v_lenT, Zf.v_lenB, Zf.v_listL, Zf.v_listT, Zf.toBor_d, Zf.toBor_r, Zf.toBor_own, Zf.unBor_d, Zf.unBor_r, Zf.unBor_bor, Zf.unBor_own, Zf.isArg_d, Zf.isArg_r, Zf.canSet_d, Zf.canSet_r, Zf.canSet_own, Option.some.injEq, exists_eq_left', exists_eq_left, List.getElem?_cons_zero, List.getElem?_cons_succ, List.length_cons, List.length_nil, List.map_cons, List.map_nil, List.all_cons, List.all_nil, Bool.and_true, and_self, true_and, List.cons_append, List.nil_append, List.replicate, Nat.reduceSub, Nat.reduceLT, Nat.reduceAdd, List.set_cons_zero, List.set_cons_succ, Zf.W.d.injEq, Zf.D.bl.injEq, Zf.D.int.injEq, Zf.D.str.injEq])
      exact q _ _ (Int.emod_nonneg _ (by omega)) (Int.emod_lt_of_pos _ hm) ⟨a, c, t, xs, h, a0, c0, c1, t0, x0, xl⟩ off ll
  -- the first half: nothing is left of the first number, or a cell is drawn
  have bl : b < S.length := (List.getElem?_eq_some_iff.mp h).1
  show OkE (mFn 2 7 (mSeq m1 m2) _ S) P
  refine wp_fn.mpr ⟨⟨rfl, rfl⟩, wp_seq.mpr ?_⟩
  unfold m1
  refine wp_ifS.mpr ?_
  (simp only [Zf.wp_d, Zf.wp_var, Zf.wp_bin, Zf.wp_tst, Zf.wp_andT, Zf.wp_orT, Zf.wp_notT, Zf.wp_if, Zf.wp_nil, Zf.wp_cons, Zf.wp_call, Zf.wp_cb, Zf.wp_seq, Zf.wp_next, Zf.wp_ifS, Zf.wp_set, Zf.wp_ret, Zf.wp_setIx, Zf.wp_fn, Zf.wp_frzE, Zf.wp_pubE, Zf.wp_lst, Zf.wp_tup, Zf.wp_lstO, Zf.wp_andV, Zf.wp_noPart, Zf.wp_part, Zf.wp_sl, Zf.wp_par, Zf.wp_unp, Zf.wp_seqI, Zf.wp_rng1, Zf.wp_for, Zf.wp_lc, Zf.wp_yes, Zf.wp_mutE, Zf.wp_neg, Zf.wp_inK, Zf.wp_isi, Zf.wp_isi2, Zf.wp_star, Zf.wp_dix, Zf.wp_dget2, Zf.wp_maxD, Zf.wp_enum, Zf.wp_zip, Zf.wp_dictZip])
  (try simp only [Zf.v_int, Zf.v_addI, Zf.v_ltI, Zf.v_leI, Zf.v_gtI, Zf.v_geI, Kb.v_eqAI, Kb.v_eqAS, Zf.v_eqI, Zf.v_neI, Zf.v_eqS, Zf.v_neS, Zf.v_int1, Zf.v_int1b, Zf.v_abs, Zf.v_lenL, Zf.v_lenT, Zf.v_lenB, Zf.v_listL, Zf.v_listT, Zf.toBor_d, Zf.toBor_r, Zf.toBor_own, Zf.unBor_d, Zf.unBor_r, Zf.unBor_bor, Zf.unBor_own, Zf.isArg_d, Zf.isArg_r, Zf.canSet_d, Zf.canSet_r, Zf.canSet_own, Option.some.injEq, exists_eq_left', exists_eq_left, List.getElem?_cons_zero, List.getElem?_cons_succ, List.length_cons, List.length_nil, List.map_cons, List.map_nil, List.all_cons, List.all_nil, Bool.and_true, and_self, true_and, List.cons_append, List.nil_append, List.replicate, Nat.reduceSub, Nat.reduceLT, Nat.reduceAdd, List.set_cons_zero, List.set_cons_succ, Zf.W.d.injEq, Zf.D.bl.injEq, Zf.D.int.injEq, Zf.D.str.injEq])
  simp only [i0 h]
  (try simp only [Zf.v_int, Zf.v_addI, Zf.v_ltI, Zf.v_leI, Zf.v_gtI, Zf.v_geI, Kb.v_eqAI, Kb.v_eqAS, Zf.v_eqI, Zf.v_neI, Zf.v_eqS, Zf.v_neS, Zf.v_int1, Zf.v_int1b, Zf.v_abs, Zf.v_lenL, Zf.v_lenT, Zf.v_lenB, Zf.v_listL, Zf.v_listT, Zf.toBor_d, Zf.toBor_r, Zf.toBor_own, Zf.unBor_d, Zf.unBor_r, Zf.unBor_bor, Zf.unBor_own, Zf.isArg_d, Zf.isArg_r, Zf.canSet_d, Zf.canSet_r, Zf.canSet_own, Option.some.injEq, exists_eq_left', exists_eq_left, List.getElem?_cons_zero, List.getElem?_cons_succ, List.length_cons, List.length_nil, List.map_cons, List.map_nil, List.all_cons, List.all_nil, Bool.and_true, and_self, true_and, List.cons_append, List.nil_append, List.replicate, Nat.reduceSub, Nat.reduceLT, Nat.reduceAdd, List.set_cons_zero, List.set_cons_succ, Zf.W.d.injEq, Zf.D.bl.injEq, Zf.D.int.injEq, Zf.D.str.injEq])
  by_cases ha : a = 0
  · subst ha
    simp only [decide_true, if_true, i2 h, i3 h, Option.some.injEq, exists_eq_left', v_lenL, v_ltI, W.d.injEq, D.bl.injEq, List.length_map]
    have go : ∀ x : Int, 0 ≤ x → OkS (m3 [some (.r b), some (.d (.int m)), some (.d (.int x)), none, none, none, none] S) (fun f e S' => match f with
        | .nx => OkS (m2 e S') (fun f _ S' => match f with
          | .nx => P (.d .non) S'
          | .ret w => P (unBor w) S'
          | _ => False)
        | f => match f with
          | .nx => P (.d .non) S'
          | .ret w => P (unBor w) S'
          | _ => False) := fun x hx => (third h c0 c1 t0 hx).mono fun f e S' ⟨q1, o2, o3, a', c', t', q2, q3, q4, q5, q6, q7, q8, q9⟩ => by
      subst q1 q2
      exact second o2 o3 S' a' c' t' q3 q4 q5 q6 q7 q8 q9
    by_cases ht : t < (xs.length : Int)
    · have e : xs[t.toNat]? = some xs[t.toNat] := List.getElem?_eq_getElem (by omega)
      have g : gIx S (.d (.lst (xs.map .int))) (.d (.int t)) = some (.d (.int xs[t.toNat])) := by
        have := v_ixL (S := S) (ds := xs.map .int) (d := .int xs[t.toNat]) (k := t.toNat) (by rw [List.getElem?_map, e]; rfl)
        rw [Int.toNat_of_nonneg t0] at this
        exact this
      simp only [ht, decide_true, if_true, g, Option.some.injEq, exists_eq_left', canSet_d, true_and]
      exact go _ (x0 _ (List.getElem_mem _))
    · simp only [ht, decide_false, Bool.false_eq_true, if_false]
      exact go 0 (Int.le_refl _)
  · simp only [decide_eq_false ha, Bool.false_eq_true, if_false]
    exact second none none S a c t h a0 c0 c1 t0 (fun _ _ => rfl) rfl

/-- only the bag has changed -/
structure Fr (b : Nat) (S S' : Store) : Prop where
  bag : Bag S' b
  off : ∀ n, n ≠ b → S'[n]? = S[n]?
  len : S'.length = S.length
theorem Fr.trans {b : Nat} {S S1 S2 : Store} (h : Fr b S S1) (h' : Fr b S1 S2) : Fr b S S2 := ⟨h'.bag, fun n hn => (h'.off n hn).trans (h.off n hn), h'.len.trans h.len⟩
theorem Fr.refl {b : Nat} {S : Store} (h : Bag S b) : Fr b S S := ⟨h, fun _ _ => rfl, rfl⟩
theorem take' {S : Store} {b : Nat} {m : Int} (B : Bag S b) (hm : 0 < m) (hm2 : m < 1000000000) {P : W → Store → Prop} (q : ∀ v S', 0 ≤ v → v < m → Fr b S S' → P (.d (.int v)) S') : OkE (takeM [.r b, .d (.int m)] S) P :=
  take_ok B hm hm2 fun v S' h1 h2 h3 h4 h5 => q v S' h1 h2 ⟨h3, h4, h5⟩

end Kb
set_option Elab.async false
set_option linter.all false
set_option maxRecDepth 100000
set_option maxHeartbeats 1000000
namespace Kb
open PySem PySem.Spec PyProof.Rows L2 Zf
/-! plain data: what the library's own data says of it -/
mutual
def pyD : D → PyData
  | .bl b => .bool b
  | .int i => .int i
  | .str x => .str x
  | .lst xs => .list (pyDs xs)
  | .tup xs => .tuple (pyDs xs)
  | _ => .none
def pyDs : List D → List PyData
  | [] => []
  | x :: r => pyD x :: pyDs r
end
mutual
def plD : D → Bool
  | .non => true
  | .bl _ => true
  | .int i => decide (-999999999999 ≤ i) && decide (i ≤ 999999999999)
  | .str x => PyData.strOk x
  | .lst xs => plDs xs
  | .tup xs => plDs xs
  | _ => false
def plDs : List D → Bool
  | [] => true
  | x :: r => plD x && plDs r
end
mutual
/-- no text that shows it is longer -/
def szD : D → Nat
  | .int _ => 13
  | .str x => 10 * x.length + 2
  | .lst xs => szDs xs + 4
  | .tup xs => szDs xs + 4
  | _ => 5
def szDs : List D → Nat
  | [] => 0
  | x :: r => szD x + 2 + szDs r
end
mutual
def dpD : D → Nat
  | .lst xs => dpDs xs + 1
  | .tup xs => dpDs xs + 1
  | _ => 0
def dpDs : List D → Nat
  | [] => 0
  | x :: r => max (dpD x) (dpDs r)
end
mutual
theorem dpy_pl : ∀ d : D, plD d = true → dpy d = some (pyD d)
  | .non, _ => rfl
  | .bl _, _ => rfl
  | .int _, _ => rfl
  | .str _, _ => rfl
  | .lst xs, h => by
    unfold dpy
    rw [dpys_pl xs h]
    rfl
  | .tup xs, h => by
    unfold dpy
    rw [dpys_pl xs h]
    rfl
  | .ro _, h => by cases h
  | .dct _, h => by cases h
  | .st _, h => by cases h
  | .ins _ _, h => by cases h
theorem dpys_pl : ∀ ds : List D, plDs ds = true → dpys ds = some (pyDs ds)
  | [], _ => rfl
  | x :: r, h => by
    have h' : plD x = true ∧ plDs r = true := by
      rw [← Bool.and_eq_true]
      exact h
    unfold dpys
    rw [dpy_pl x h'.1, dpys_pl r h'.2]
    rfl
end
mutual
theorem spy_pl : ∀ d : D, plD d = true → spy d = some (pyD d)
  | .non, _ => rfl
  | .bl _, _ => rfl
  | .int _, _ => rfl
  | .str _, _ => rfl
  | .lst xs, h => by
    unfold spy
    rw [spys_pl xs h]
    rfl
  | .tup xs, h => by
    unfold spy
    rw [spys_pl xs h]
    rfl
  | .ro _, h => by cases h
  | .dct _, h => by cases h
  | .st _, h => by cases h
  | .ins _ _, h => by cases h
theorem spys_pl : ∀ ds : List D, plDs ds = true → spys ds = some (pyDs ds)
  | [], _ => rfl
  | x :: r, h => by
    have h' : plD x = true ∧ plDs r = true := by
      rw [← Bool.and_eq_true]
      exact h
    unfold spys
    rw [spy_pl x h'.1, spys_pl r h'.2]
    rfl
end
mutual
theorem lay_pl : ∀ d : D, plD d = true → (pyD d).canLay0 = true
  | .non, _ => rfl
  | .bl _, _ => rfl
  | .int _, _ => rfl
  | .str _, h => h
  | .lst xs, h => lays_pl xs h
  | .tup xs, h => lays_pl xs h
  | .ro _, h => by cases h
  | .dct _, h => by cases h
  | .st _, h => by cases h
  | .ins _ _, h => by cases h
theorem lays_pl : ∀ ds : List D, plDs ds = true → PyData.canLayAll0 (pyDs ds) = true
  | [], _ => rfl
  | x :: r, h => by
    have h' : plD x = true ∧ plDs r = true := by
      rw [← Bool.and_eq_true]
      exact h
    show ((pyD x).canLay0 && PyData.canLayAll0 (pyDs r)) = true
    rw [lay_pl x h'.1, lays_pl r h'.2]
    rfl
end
theorem log_small {i : Int} (h1 : -999999999999 ≤ i) (h2 : i ≤ 999999999999) : i.natAbs.log2 < 1920 := by
  by_cases h : i.natAbs = 0
  · rw [h]
    decide
  · have h3 : i.natAbs < 2 ^ 40 := by omega
    have h4 := (Nat.log2_lt h).mpr h3
    omega
mutual
theorem showable_pl : ∀ d : D, plD d = true → (pyD d).showable = true
  | .non, _ => rfl
  | .bl _, _ => rfl
  | .int i, h => by
    have h' : -999999999999 ≤ i ∧ i ≤ 999999999999 := by
      have h0 : (decide (-999999999999 ≤ i) && decide (i ≤ 999999999999)) = true := h
      simpa using h0
    exact decide_eq_true (log_small h'.1 h'.2)
  | .str _, h => rfl
  | .lst xs, h => showables_pl xs h
  | .tup xs, h => showables_pl xs h
  | .ro _, h => by cases h
  | .dct _, h => by cases h
  | .st _, h => by cases h
  | .ins _ _, h => by cases h
theorem showables_pl : ∀ ds : List D, plDs ds = true → PyData.showableAll (pyDs ds) = true
  | [], _ => rfl
  | x :: r, h => by
    have h' : plD x = true ∧ plDs r = true := by
      rw [← Bool.and_eq_true]
      exact h
    show ((pyD x).showable && PyData.showableAll (pyDs r)) = true
    rw [showable_pl x h'.1, showables_pl r h'.2]
    rfl
end
mutual
theorem depth_pl : ∀ d : D, (pyD d).depth = dpD d
  | .non => rfl
  | .bl _ => rfl
  | .int _ => rfl
  | .str _ => rfl
  | .lst xs => by
    show PyData.depthAll (pyDs xs) + 1 = dpDs xs + 1
    rw [depths_pl xs]
  | .tup xs => by
    show PyData.depthAll (pyDs xs) + 1 = dpDs xs + 1
    rw [depths_pl xs]
  | .ro _ => rfl
  | .dct _ => rfl
  | .st _ => rfl
  | .ins _ _ => rfl
theorem depths_pl : ∀ ds : List D, PyData.depthAll (pyDs ds) = dpDs ds
  | [] => rfl
  | x :: r => by
    show max (pyD x).depth (PyData.depthAll (pyDs r)) = max (dpD x) (dpDs r)
    rw [depth_pl x, depths_pl r]
end
mutual
theorem eqv_pl : ∀ d : D, plD d = true → PyData.eqv (pyD d) (pyD d) = true
  | .non, _ => by simp [pyD, PyData.eqv]
  | .bl _, _ => by simp [pyD, PyData.eqv]
  | .int _, _ => by simp [pyD, PyData.eqv]
  | .str _, _ => by simp [pyD, PyData.eqv]
  | .lst xs, h => by
    rw [pyD, PyData.eqv]
    exact eqvs_pl xs h
  | .tup xs, h => by
    rw [pyD, PyData.eqv]
    exact eqvs_pl xs h
  | .ro _, h => by cases h
  | .dct _, h => by cases h
  | .st _, h => by cases h
  | .ins _ _, h => by cases h
theorem eqvs_pl : ∀ ds : List D, plDs ds = true → PyData.eqvAll (pyDs ds) (pyDs ds) = true
  | [], _ => by simp [pyDs, PyData.eqvAll]
  | x :: r, h => by
    have h' : plD x = true ∧ plDs r = true := by
      rw [← Bool.and_eq_true]
      exact h
    rw [pyDs, PyData.eqvAll, eqv_pl x h'.1, eqvs_pl r h'.2]
    rfl
end
/-- the text's length -/
theorem strOk_all {x : Str} (h : PyData.strOk x = true) : ∀ c ∈ x.cps.toList, c < 16 ^ 8 := fun c hc => by
  have h1 : x.cps.all (fun c => decide (c < 0x110000)) = true := h
  rw [← Array.all_toList, List.all_eq_true] at h1
  have := of_decide_eq_true (h1 c hc)
  omega
theorem pyDs_len : ∀ ds : List D, (pyDs ds).length = ds.length
  | [] => rfl
  | x :: r => by
    show (pyDs r).length + 1 = r.length + 1
    rw [pyDs_len r]
mutual
theorem shown_pl : ∀ d : D, plD d = true → (pyD d).shown.length ≤ szD d
  | .non, _ => by
    show (PyData.none).shown.length ≤ _
    rw [PyData.shown_none]
    decide
  | .bl b, _ => by
    show (PyData.bool b).shown.length ≤ _
    rw [PyData.shown_bool]
    cases b <;> decide
  | .int i, h => by
    have h' : -999999999999 ≤ i ∧ i ≤ 999999999999 := by
      have h0 : (decide (-999999999999 ≤ i) && decide (i ≤ 999999999999)) = true := h
      simpa using h0
    exact PyData.shown_int_le2 h'.1 h'.2
  | .str x, h => by
    show (PyData.str x).shown.length ≤ _
    rw [PyData.shown_str]
    exact StrLaws.reprText_len x (strOk_all h)
  | .lst xs, h => by
    have h1 := PySem.listText_len_le (PyData.shownAll (pyDs xs))
    have h2 := showns_pl xs h
    have e : (pyD (.lst xs)).shown = listText (PyData.shownAll (pyDs xs)) := by simp only [pyD, PyData.shown]
    rw [e]
    rw [PyData.shownAll_length] at h1
    show _ ≤ szDs xs + 4
    omega
  | .tup xs, h => by
    have h1 := PySem.tupleText_len_le (PyData.shownAll (pyDs xs))
    have h2 := showns_pl xs h
    have e : (pyD (.tup xs)).shown = tupleText (PyData.shownAll (pyDs xs)) := by simp only [pyD, PyData.shown]
    rw [e]
    rw [PyData.shownAll_length] at h1
    show _ ≤ szDs xs + 4
    omega
  | .ro _, h => by cases h
  | .dct _, h => by cases h
  | .st _, h => by cases h
  | .ins _ _, h => by cases h
theorem showns_pl : ∀ ds : List D, plDs ds = true → ((PyData.shownAll (pyDs ds)).map (·.length)).sum + 2 * (pyDs ds).length ≤ szDs ds
  | [], _ => by
    rw [pyDs, PyData.shownAll_nil]
    exact Nat.le_refl 0
  | x :: r, h => by
    have h' : plD x = true ∧ plDs r = true := by
      rw [← Bool.and_eq_true]
      exact h
    have h1 := shown_pl x h'.1
    have h2 := showns_pl r h'.2
    rw [pyDs, PyData.shownAll_cons, List.map_cons, List.sum_cons, List.length_cons]
    show _ ≤ szD x + 2 + szDs r
    omega
end
/-! the operators -/
def Tame (d : D) : Prop := plD d = true ∧ dpD d ≤ 64 ∧ szD d ≤ cap
theorem v_repr {S : Store} {d : D} (h : Tame d) (hr : isRef (.d d) = true) : gRepr S (.d d) = some (.d (.str (pyD d).shown)) := by
  obtain ⟨h1, h2, h3⟩ := h
  have e : wsp S (.d d) = some (pyD d) := spy_pl d h1
  unfold gRepr
  rw [e]
  exact if_pos ⟨hr, showable_pl d h1, by rw [depth_pl]; exact h2, Nat.le_trans (shown_pl d h1) h3⟩
theorem shaped_pl {d : D} (h1 : plD d = true) (h2 : dpD d ≤ 64) : SeqAt.shaped (pyD d) = true := by
  unfold SeqAt.shaped
  rw [lay_pl d h1, depth_pl, decide_eq_true h2]
  rfl
theorem v_neNil {S : Store} {ds : List D} (h1 : plDs ds = true) (h2 : dpD (.lst ds) ≤ 64) : gNe S (.d (.lst ds)) (.d (.lst [])) = some (.d (.bl (!ds.isEmpty))) := by
  have e0 : gEqS true S (.d (.lst ds)) (.d (.lst [])) = none := rfl
  unfold gNe
  rw [e0]
  show gEqP true S _ _ = _
  unfold gEqP
  have e1 : wpy S (.d (.lst ds)) = some (pyD (.lst ds)) := dpy_pl (.lst ds) h1
  have e2 : wpy S (.d (.lst [])) = some (pyD (.lst [])) := rfl
  rw [e1, e2]
  refine (if_pos ⟨shaped_pl (d := .lst ds) h1 h2, shaped_pl (d := .lst []) rfl (by decide)⟩).trans ?_
  cases ds with
  | nil => rw [pyD, pyDs, PyData.eqv, PyData.eqvAll]; rfl
  | cons x r => rw [pyD, pyD, pyDs, pyDs, PyData.eqv, PyData.eqvAll]; rfl
end Kb
set_option Elab.async false
set_option linter.all false
set_option maxRecDepth 100000
set_option maxHeartbeats 1000000
namespace Kb
open PySem PySem.Spec PyProof.Rows L2 Zf
/-! results as equations -/
theorem okE_eq {m : Option (W × Store)} {w : W} {S : Store} {P : W → Store → Prop} (e : m = some (w, S)) (h : P w S) : OkE m P := ⟨_, e, h⟩
theorem okI_eq {m : Option (List D × Store)} {w : List D} {S : Store} {P : List D → Store → Prop} (e : m = some (w, S)) (h : P w S) : OkI m P := ⟨_, e, h⟩
theorem okT_eq {m : Option (Bool × Store)} {b : Bool} {S : Store} {P : Bool → Store → Prop} (e : m = some (b, S)) (h : P b S) : OkT m P := ⟨_, e, h⟩
theorem okS_eq {m : Option (Fl × En × Store)} {f : Fl} {e : En} {S : Store} {P : Fl → En → Store → Prop} (h0 : m = some (f, e, S)) (h : P f e S) : OkS m P := ⟨_, h0, h⟩
theorem eqE {m : Option (W × Store)} {w : W} {S : Store} (h : OkE m fun v T => v = w ∧ T = S) : m = some (w, S) := by
  obtain ⟨⟨a, b⟩, e, h1, h2⟩ := h
  cases h1
  cases h2
  exact e
theorem eqTT {m : Option (Bool × Store)} {w : Bool} {S : Store} (h : OkT m fun v T => v = w ∧ T = S) : m = some (w, S) := by
  obtain ⟨⟨a, b⟩, e, h1, h2⟩ := h
  cases h1
  cases h2
  exact e
theorem eqI {m : Option (List D × Store)} {w : List D} {S : Store} (h : OkI m fun v T => v = w ∧ T = S) : m = some (w, S) := by
  obtain ⟨⟨a, b⟩, e, h1, h2⟩ := h
  cases h1
  cases h2
  exact e
/-! what is shown -/
/-- d shows in a text of at most sz signs; lists are dp deep -/
def notRo : D → Bool
  | .ro _ => false
  | _ => true
def Sh (sz dp : Nat) (d : D) : Prop := notRo d = true ∧ ∃ p, spy d = some p ∧ p.showable = true ∧ p.depth ≤ dp ∧ p.shown.length ≤ sz
theorem Sh.mono {sz dp sz' dp' : Nat} {d : D} (h : Sh sz dp d) (h1 : sz ≤ sz') (h2 : dp ≤ dp') : Sh sz' dp' d := let ⟨z, p, a, b, c, e⟩ := h; ⟨z, p, a, b, Nat.le_trans c h2, Nat.le_trans e h1⟩
theorem Sh.non : Sh 4 0 .non := ⟨rfl, .none, rfl, rfl, Nat.le_refl _, by rw [PyData.shown_none]; decide⟩
theorem Sh.bl (b : Bool) : Sh 5 0 (.bl b) := ⟨rfl, .bool b, rfl, rfl, Nat.le_refl _, by rw [PyData.shown_bool]; cases b <;> decide⟩
theorem Sh.int {i : Int} (h1 : -999999999999 ≤ i) (h2 : i ≤ 999999999999) : Sh 13 0 (.int i) := ⟨rfl, .int i, rfl, decide_eq_true (log_small h1 h2), Nat.le_refl _, PyData.shown_int_le2 h1 h2⟩
theorem Sh.str {x : Str} {k : Nat} (h : x.length ≤ k) (h2 : PyData.strOk x = true) : Sh (10 * k + 2) 0 (.str x) := ⟨rfl, .str x, rfl, rfl, Nat.le_refl _, by
  rw [PyData.shown_str]
  have := StrLaws.reprText_len x (strOk_all h2)
  omega⟩
theorem Sh.all {sz dp : Nat} : ∀ {xs : List D}, (∀ y ∈ xs, Sh sz dp y) → ∃ ps, spys xs = some ps ∧ PyData.showableAll ps = true ∧ PyData.depthAll ps ≤ dp ∧ ((PyData.shownAll ps).map (·.length)).sum + 2 * ps.length ≤ xs.length * (sz + 2)
  | [], _ => ⟨[], rfl, rfl, Nat.zero_le _, by rw [PyData.shownAll_nil]; simp⟩
  | x :: r, h => by
    obtain ⟨z, p, a, b, c, e⟩ := h x List.mem_cons_self
    obtain ⟨ps, a2, b2, c2, e2⟩ := Sh.all fun y hy => h y (List.mem_cons_of_mem _ hy)
    refine ⟨p :: ps, ?_, ?_, ?_, ?_⟩
    · unfold spys
      rw [a, a2]
      rfl
    · show (p.showable && PyData.showableAll ps) = true
      rw [b, b2]
      rfl
    · show max p.depth (PyData.depthAll ps) ≤ dp
      omega
    · rw [PyData.shownAll_cons, List.map_cons, List.sum_cons, List.length_cons, List.length_cons, Nat.add_mul]
      omega
theorem Sh.lst {sz dp : Nat} {xs : List D} (h : ∀ y ∈ xs, Sh sz dp y) : Sh (xs.length * (sz + 2) + 4) (dp + 1) (.lst xs) := by
  obtain ⟨ps, a, b, c, e⟩ := Sh.all h
  refine ⟨rfl, .list ps, ?_, b, ?_, ?_⟩
  · unfold spy
    rw [a]
    rfl
  · show PyData.depthAll ps + 1 ≤ dp + 1
    omega
  · have h1 := PySem.listText_len_le (PyData.shownAll ps)
    have e2 : (PyData.list ps).shown = listText (PyData.shownAll ps) := by simp only [PyData.shown]
    rw [e2]
    rw [PyData.shownAll_length] at h1
    omega
theorem Sh.tup {sz dp : Nat} {xs : List D} (h : ∀ y ∈ xs, Sh sz dp y) : Sh (xs.length * (sz + 2) + 4) (dp + 1) (.tup xs) := by
  obtain ⟨ps, a, b, c, e⟩ := Sh.all h
  refine ⟨rfl, .tuple ps, ?_, b, ?_, ?_⟩
  · unfold spy
    rw [a]
    rfl
  · show PyData.depthAll ps + 1 ≤ dp + 1
    omega
  · have h1 := PySem.tupleText_len_le (PyData.shownAll ps)
    have e2 : (PyData.tuple ps).shown = tupleText (PyData.shownAll ps) := by simp only [PyData.shown]
    rw [e2]
    rw [PyData.shownAll_length] at h1
    omega
theorem repr_ok {S : Store} {d : D} {sz dp : Nat} (h : Sh sz dp d) (h1 : sz ≤ cap) (h2 : dp ≤ 64) : ∃ x : Str, gReprA S (.d d) = some (.d (.str x)) := by
  obtain ⟨z, p, a, b, c, e⟩ := h
  have e0 : wsp S (.d d) = some p := a
  have e1 : gRepr S (.d d) = if isRef (.d d) = true ∧ p.showable = true ∧ p.depth ≤ 64 ∧ p.shown.length ≤ cap then some (.d (.str p.shown)) else none := by
    unfold gRepr
    rw [e0]
    rfl
  by_cases hr : isRef (.d d) = true
  · rw [if_pos ⟨hr, b, by omega, by omega⟩] at e1
    refine ⟨p.shown, ?_⟩
    unfold gReprA
    rw [e1]
    rfl
  · rw [if_neg (fun z => hr z.1)] at e1
    unfold gReprA
    rw [e1]
    cases d with
    | non => exact ⟨_, rfl⟩
    | bl b => exact ⟨_, rfl⟩
    | int i =>
      cases a
      exact ⟨_, if_pos (of_decide_eq_true b)⟩
    | str x =>
      cases a
      rw [PyData.shown_str] at e
      exact ⟨_, if_pos (by omega)⟩
    | ro _ => cases z
    | st _ => cases a
    | ins _ _ => cases a
    | _ => exact absurd rfl hr
/-- a list is empty -/
theorem eqNil {S : Store} {xs : List D} : gEqA S (.d (.lst xs)) (.d (.lst [])) = some (.d (.bl xs.isEmpty)) := by
  cases xs with
  | nil => rfl
  | cons x r =>
    have e2 : gEqLen S (.d (.lst (x :: r))) (.d (.lst [])) = some (.d (.bl false)) := rfl
    show (gEq S _ _).or _ = _
    rw [e2]
    have e3 : gEq S (.d (.lst (x :: r))) (.d (.lst [])) = gEqP false S (.d (.lst (x :: r))) (.d (.lst [])) := rfl
    rw [e3]
    unfold gEqP
    have e4 : wpy S (.d (.lst [])) = some (.list []) := rfl
    rw [e4]
    cases hx : wpy S (.d (.lst (x :: r))) with
    | none => rfl
    | some p =>
      have e5 : wpy S (.d (.lst (x :: r))) = (dpys (x :: r)).map .list := rfl
      rw [hx] at e5
      obtain ⟨ps, h1, h2⟩ := Option.map_eq_some_iff.mp e5.symm
      unfold dpys at h1
      obtain ⟨a, h3, h4⟩ := Option.bind_eq_some_iff.mp h1
      obtain ⟨as, h5, h6⟩ := Option.map_eq_some_iff.mp h4
      cases h6
      cases h2
      simp only [Option.bind_some]
      split
      · rw [PyData.eqv, PyData.eqvAll]
        rfl
        all_goals (first | (intro h; cases h) | skip)
      · rfl
/-- two equal tame lists -/
theorem eqPl {S : Store} {d : D} (h1 : plD d = true) (h2 : dpD d ≤ 64) (hs : gEqS false S (.d d) (.d d) = none) : gEqA S (.d d) (.d d) = some (.d (.bl true)) := by
  have e1 : wpy S (.d d) = some (pyD d) := dpy_pl d h1
  refine gEqA_of ?_
  show (gEqS false S (.d d) (.d d)).or _ = _
  rw [hs]
  show gEqP false S (.d d) (.d d) = _
  unfold gEqP
  rw [e1]
  refine (if_pos ⟨shaped_pl h1 h2, shaped_pl h1 h2⟩).trans ?_
  rw [eqv_pl d h1]
  rfl
theorem Sh.dct1 : Sh 20 1 (.dct [(.inr "a", .int 1)]) := ⟨rfl, .dict [(.str "a", .int 1)], rfl, by decide +kernel, by decide +kernel, by decide +kernel⟩
end Kb
set_option Elab.async false
set_option linter.all false
set_option maxRecDepth 100000
set_option maxHeartbeats 1000000
namespace Kb
open PySem PySem.Spec PyProof.Rows L2 Zf
/-! more wishes: what W1..W4 lack -/
def isiV (n : Nat) (S : Store) (T : String) : W → Option Bool
  | .d (.ins c _) => if c < n then some false else none
  | w => (tyD S w).map fun t => isTy t T
theorem isi_bool_non {n : Nat} {S : Store}  : isiV n S "bool" (.d D.non) = some false := rfl
theorem isi_bool_bl {n : Nat} {S : Store} {b : Bool} : isiV n S "bool" (.d (D.bl b)) = some true := rfl
theorem isi_bool_int {n : Nat} {S : Store} {i : Int} : isiV n S "bool" (.d (D.int i)) = some false := rfl
theorem isi_bool_str {n : Nat} {S : Store} {x : Str} : isiV n S "bool" (.d (D.str x)) = some false := rfl
theorem isi_bool_lst {n : Nat} {S : Store} {xs : List D} : isiV n S "bool" (.d (D.lst xs)) = some false := rfl
theorem isi_bool_tup {n : Nat} {S : Store} {xs : List D} : isiV n S "bool" (.d (D.tup xs)) = some false := rfl
theorem isi_bool_dct {n : Nat} {S : Store} {kvs : List (Key × D)} : isiV n S "bool" (.d (D.dct kvs)) = some false := rfl
theorem ask_bool : asked.contains "bool" = true := by decide
theorem isi_int_non {n : Nat} {S : Store}  : isiV n S "int" (.d D.non) = some false := rfl
theorem isi_int_bl {n : Nat} {S : Store} {b : Bool} : isiV n S "int" (.d (D.bl b)) = some true := rfl
theorem isi_int_int {n : Nat} {S : Store} {i : Int} : isiV n S "int" (.d (D.int i)) = some true := rfl
theorem isi_int_str {n : Nat} {S : Store} {x : Str} : isiV n S "int" (.d (D.str x)) = some false := rfl
theorem isi_int_lst {n : Nat} {S : Store} {xs : List D} : isiV n S "int" (.d (D.lst xs)) = some false := rfl
theorem isi_int_tup {n : Nat} {S : Store} {xs : List D} : isiV n S "int" (.d (D.tup xs)) = some false := rfl
theorem isi_int_dct {n : Nat} {S : Store} {kvs : List (Key × D)} : isiV n S "int" (.d (D.dct kvs)) = some false := rfl
theorem ask_int : asked.contains "int" = true := by decide
theorem isi_str_non {n : Nat} {S : Store}  : isiV n S "str" (.d D.non) = some false := rfl
theorem isi_str_bl {n : Nat} {S : Store} {b : Bool} : isiV n S "str" (.d (D.bl b)) = some false := rfl
theorem isi_str_int {n : Nat} {S : Store} {i : Int} : isiV n S "str" (.d (D.int i)) = some false := rfl
theorem isi_str_str {n : Nat} {S : Store} {x : Str} : isiV n S "str" (.d (D.str x)) = some true := rfl
theorem isi_str_lst {n : Nat} {S : Store} {xs : List D} : isiV n S "str" (.d (D.lst xs)) = some false := rfl
theorem isi_str_tup {n : Nat} {S : Store} {xs : List D} : isiV n S "str" (.d (D.tup xs)) = some false := rfl
theorem isi_str_dct {n : Nat} {S : Store} {kvs : List (Key × D)} : isiV n S "str" (.d (D.dct kvs)) = some false := rfl
theorem ask_str : asked.contains "str" = true := by decide
theorem isi_list_non {n : Nat} {S : Store}  : isiV n S "list" (.d D.non) = some false := rfl
theorem isi_list_bl {n : Nat} {S : Store} {b : Bool} : isiV n S "list" (.d (D.bl b)) = some false := rfl
theorem isi_list_int {n : Nat} {S : Store} {i : Int} : isiV n S "list" (.d (D.int i)) = some false := rfl
theorem isi_list_str {n : Nat} {S : Store} {x : Str} : isiV n S "list" (.d (D.str x)) = some false := rfl
theorem isi_list_lst {n : Nat} {S : Store} {xs : List D} : isiV n S "list" (.d (D.lst xs)) = some true := rfl
theorem isi_list_tup {n : Nat} {S : Store} {xs : List D} : isiV n S "list" (.d (D.tup xs)) = some false := rfl
theorem isi_list_dct {n : Nat} {S : Store} {kvs : List (Key × D)} : isiV n S "list" (.d (D.dct kvs)) = some false := rfl
theorem ask_list : asked.contains "list" = true := by decide
theorem isi_tuple_non {n : Nat} {S : Store}  : isiV n S "tuple" (.d D.non) = some false := rfl
theorem isi_tuple_bl {n : Nat} {S : Store} {b : Bool} : isiV n S "tuple" (.d (D.bl b)) = some false := rfl
theorem isi_tuple_int {n : Nat} {S : Store} {i : Int} : isiV n S "tuple" (.d (D.int i)) = some false := rfl
theorem isi_tuple_str {n : Nat} {S : Store} {x : Str} : isiV n S "tuple" (.d (D.str x)) = some false := rfl
theorem isi_tuple_lst {n : Nat} {S : Store} {xs : List D} : isiV n S "tuple" (.d (D.lst xs)) = some false := rfl
theorem isi_tuple_tup {n : Nat} {S : Store} {xs : List D} : isiV n S "tuple" (.d (D.tup xs)) = some true := rfl
theorem isi_tuple_dct {n : Nat} {S : Store} {kvs : List (Key × D)} : isiV n S "tuple" (.d (D.dct kvs)) = some false := rfl
theorem ask_tuple : asked.contains "tuple" = true := by decide
theorem isi_dict_non {n : Nat} {S : Store}  : isiV n S "dict" (.d D.non) = some false := rfl
theorem isi_dict_bl {n : Nat} {S : Store} {b : Bool} : isiV n S "dict" (.d (D.bl b)) = some false := rfl
theorem isi_dict_int {n : Nat} {S : Store} {i : Int} : isiV n S "dict" (.d (D.int i)) = some false := rfl
theorem isi_dict_str {n : Nat} {S : Store} {x : Str} : isiV n S "dict" (.d (D.str x)) = some false := rfl
theorem isi_dict_lst {n : Nat} {S : Store} {xs : List D} : isiV n S "dict" (.d (D.lst xs)) = some false := rfl
theorem isi_dict_tup {n : Nat} {S : Store} {xs : List D} : isiV n S "dict" (.d (D.tup xs)) = some false := rfl
theorem isi_dict_dct {n : Nat} {S : Store} {kvs : List (Key × D)} : isiV n S "dict" (.d (D.dct kvs)) = some true := rfl
theorem ask_dict : asked.contains "dict" = true := by decide
theorem isi_ins {n : Nat} {S : Store} {T : String} {c : Nat} {fs : List (Str × D)} (h : c < n) : isiV n S T (.d (.ins c fs)) = some false := if_pos h
section
variable {env : En} {S : Store} {P : W → Store → Prop} {PT : Bool → Store → Prop} {PA : List W → Store → Prop} {PI : List D → Store → Prop} {PS : Fl → En → Store → Prop} {ma mb mc : ME} {t u : MT} {ms : MA} {a b : MS} {g g' : Op2} {i n : Nat} {d : D}
theorem isiC_eq {T : String} : mIsiC n T ma env S = (ma env S).bind fun p => if asked.contains T = true then (isiV n p.2 T p.1).map fun k => (.d (.bl k), p.2) else none := by
  unfold mIsiC
  congr 1
  funext p
  obtain ⟨w, S'⟩ := p
  split
  · cases w with
    | d x => cases x with
      | ins c fs =>
        show (if c < n then some (W.d (.bl false), S') else none) = (if c < n then some false else none : Option Bool).map _
        split <;> rfl
      | _ => rfl
    | r k =>
      show (tyD S' (.r k)).map _ = ((tyD S' (.r k)).map _).map _
      rw [Option.map_map]
      rfl
    | _ => rfl
  · rfl
theorem isi2C_eq {T T' : String} : mIsi2C n T T' ma env S = (ma env S).bind fun p => if asked.contains T = true ∧ asked.contains T' = true then (isiV n p.2 T p.1).bind fun k => (isiV n p.2 T' p.1).map fun k' => (.d (.bl (k || k')), p.2) else none := by
  unfold mIsi2C
  congr 1
  funext p
  obtain ⟨w, S'⟩ := p
  split
  · cases w with
    | d x => cases x with
      | ins c fs =>
        show (if c < n then some (W.d (.bl false), S') else none) = (if c < n then some false else none : Option Bool).bind fun k => (if c < n then some false else none : Option Bool).map _
        by_cases h : c < n
        · rw [if_pos h, if_pos h]; rfl
        · rw [if_neg h, if_neg h]; rfl
      | _ => rfl
    | r k =>
      show (tyD S' (.r k)).map _ = ((tyD S' (.r k)).map _).bind fun k' => ((tyD S' (.r k)).map _).map _
      cases tyD S' (.r k) <;> rfl
    | _ => rfl
  · rfl
theorem wp_isiC {T : String} : OkE (mIsiC n T ma env S) P ↔ OkE (ma env S) fun w S' => asked.contains T = true ∧ ∃ k, isiV n S' T w = some k ∧ P (.d (.bl k)) S' := by
  rw [isiC_eq]
  unfold OkE
  constructor
  · rintro ⟨r, e, h⟩
    obtain ⟨p, e1, e⟩ := Option.bind_eq_some_iff.mp e
    split at e
    · rename_i hT
      obtain ⟨k, e2, e3⟩ := Option.map_eq_some_iff.mp e
      cases e3
      exact ⟨p, e1, hT, k, e2, h⟩
    · cases e
  · rintro ⟨p, e1, hT, k, e2, h⟩
    exact ⟨_, by rw [e1]; simp only [Option.bind_some]; rw [if_pos hT, e2]; rfl, h⟩
theorem wp_isi2C {T T' : String} : OkE (mIsi2C n T T' ma env S) P ↔ OkE (ma env S) fun w S' => (asked.contains T = true ∧ asked.contains T' = true) ∧ ∃ k, isiV n S' T w = some k ∧ ∃ k', isiV n S' T' w = some k' ∧ P (.d (.bl (k || k'))) S' := by
  rw [isi2C_eq]
  unfold OkE
  constructor
  · rintro ⟨r, e, h⟩
    obtain ⟨p, e1, e⟩ := Option.bind_eq_some_iff.mp e
    split at e
    · rename_i hT
      obtain ⟨k, e2, e⟩ := Option.bind_eq_some_iff.mp e
      obtain ⟨k', e3, e4⟩ := Option.map_eq_some_iff.mp e
      cases e4
      exact ⟨p, e1, hT, k, e2, k', e3, h⟩
    · cases e
  · rintro ⟨p, e1, hT, k, e2, k', e3, h⟩
    exact ⟨_, by rw [e1]; simp only [Option.bind_some]; rw [if_pos hT, e2]; simp only [Option.bind_some]; rw [e3]; rfl, h⟩
theorem wp_chain : OkE (mChain g g' ma mb mc env S) P ↔ OkE (ma env S) fun x S1 => OkE (mb env S1) fun y S2 => ∃ z, g S2 x y = some (.d (.bl z)) ∧ if z = true then OkE (mc env S2) fun u S3 => ∃ v, g' S3 y u = some v ∧ P v S3 else P (.d (.bl false)) S2 := by
  unfold mChain OkE
  constructor
  · rintro ⟨r, e, h⟩
    obtain ⟨p, e1, e⟩ := Option.bind_eq_some_iff.mp e
    obtain ⟨q, e2, e⟩ := Option.bind_eq_some_iff.mp e
    obtain ⟨z, e3, e⟩ := Option.bind_eq_some_iff.mp e
    refine ⟨p, e1, q, e2, ?_⟩
    split at e
    · obtain ⟨s, e4, e5⟩ := Option.bind_eq_some_iff.mp e
      obtain ⟨v, e6, e7⟩ := Option.map_eq_some_iff.mp e5
      cases e7
      exact ⟨true, e3, by rw [if_pos rfl]; exact ⟨s, e4, v, e6, h⟩⟩
    · cases e
      exact ⟨false, e3, by rw [if_neg Bool.false_ne_true]; exact h⟩
    · cases e
  · rintro ⟨p, e1, q, e2, z, e3, h⟩
    cases z with
    | true =>
      rw [if_pos rfl] at h
      obtain ⟨s, e4, v, e5, h⟩ := h
      exact ⟨(v, s.2), by rw [e1]; simp only [Option.bind_some]; rw [e2]; simp only [Option.bind_some]; rw [e3]; simp only [Option.bind_some]; rw [e4]; simp only [Option.bind_some]; rw [e5]; rfl, h⟩
    | false =>
      rw [if_neg Bool.false_ne_true] at h
      exact ⟨_, by rw [e1]; simp only [Option.bind_some]; rw [e2]; simp only [Option.bind_some]; rw [e3]; rfl, h⟩
/-- what is walked over -/
def seqW : W → Option (List D)
  | .d (.lst xs) => some xs
  | .d (.tup xs) => some xs
  | _ => none
def seqWS : W → Option (List D)
  | .d (.lst xs) => some xs
  | .d (.tup xs) => some xs
  | .d (.str x) => some (Zf.signs x)
  | _ => none
theorem seqW_l {xs : List D} : seqW (.d (.lst xs)) = some xs := rfl
theorem seqW_t {xs : List D} : seqW (.d (.tup xs)) = some xs := rfl
theorem seqWS_l {xs : List D} : seqWS (.d (.lst xs)) = some xs := rfl
theorem seqWS_t {xs : List D} : seqWS (.d (.tup xs)) = some xs := rfl
theorem seqWS_s {x : Str} : seqWS (.d (.str x)) = some (Zf.signs x) := rfl
theorem iseq_eq : mISeq ma env S = (ma env S).bind fun p => (seqW p.1).map fun xs => (xs, p.2) := by
  unfold mISeq
  congr 1
  funext p
  obtain ⟨w, S'⟩ := p
  cases w with
  | d x => cases x <;> rfl
  | _ => rfl
theorem iseqS_eq : mISeqS ma env S = (ma env S).bind fun p => (seqWS p.1).map fun xs => (xs, p.2) := by
  unfold mISeqS mISeq mIStr
  cases h : ma env S with
  | none => rfl
  | some p =>
    obtain ⟨w, S'⟩ := p
    cases w with
    | d x => cases x <;> rfl
    | _ => rfl
theorem wp_iseq : OkI (mISeq ma env S) PI ↔ OkE (ma env S) fun w S' => ∃ xs, seqW w = some xs ∧ PI xs S' := by
  rw [iseq_eq]
  unfold OkI OkE
  constructor
  · rintro ⟨r, e, hh⟩
    obtain ⟨p, e1, e⟩ := Option.bind_eq_some_iff.mp e
    obtain ⟨xs, e2, e3⟩ := Option.map_eq_some_iff.mp e
    cases e3
    exact ⟨p, e1, xs, e2, hh⟩
  · rintro ⟨p, e1, xs, e2, hh⟩
    exact ⟨(xs, p.2), by rw [e1]; simp only [Option.bind_some]; rw [e2]; rfl, hh⟩
theorem wp_iseqS : OkI (mISeqS ma env S) PI ↔ OkE (ma env S) fun w S' => ∃ xs, seqWS w = some xs ∧ PI xs S' := by
  rw [iseqS_eq]
  unfold OkI OkE
  constructor
  · rintro ⟨r, e, hh⟩
    obtain ⟨p, e1, e⟩ := Option.bind_eq_some_iff.mp e
    obtain ⟨xs, e2, e3⟩ := Option.map_eq_some_iff.mp e
    cases e3
    exact ⟨p, e1, xs, e2, hh⟩
  · rintro ⟨p, e1, xs, e2, hh⟩
    exact ⟨(xs, p.2), by rw [e1]; simp only [Option.bind_some]; rw [e2]; rfl, hh⟩
/-- truth values of words -/
def blW : W → Option Bool
  | .d (.bl k) => some k
  | _ => none
theorem blW_bl {k : Bool} : blW (.d (.bl k)) = some k := rfl
theorem andV_eq : mAndV ma mb env S = (ma env S).bind fun p => (blW p.1).bind fun k => if k = true then (mb env p.2).bind fun q => (blW q.1).map fun c => (.d (.bl c), q.2) else some (.d (.bl false), p.2) := by
  unfold mAndV
  cases h : ma env S with
  | none => rfl
  | some p =>
    obtain ⟨w, S'⟩ := p
    simp only [Option.bind_some]
    have k2 : ∀ q : Option (W × Store), (q.bind fun q => match q.1 with | .d (.bl c) => some (W.d (.bl c), q.2) | _ => none) = q.bind fun q => (blW q.1).map fun c => (W.d (.bl c), q.2) := by
      intro q
      cases q with
      | none => rfl
      | some q =>
        obtain ⟨w', S2⟩ := q
        cases w' with
        | d x => cases x <;> rfl
        | _ => rfl
    cases w with
    | d x =>
      cases x with
      | bl k =>
        cases k with
        | true => exact k2 _
        | false => rfl
      | _ => rfl
    | _ => rfl
theorem orV_eq : mOrV ma mb env S = (ma env S).bind fun p => (blW p.1).bind fun k => if k = true then some (.d (.bl true), p.2) else (mb env p.2).bind fun q => (blW q.1).map fun c => (.d (.bl c), q.2) := by
  unfold mOrV
  cases h : ma env S with
  | none => rfl
  | some p =>
    obtain ⟨w, S'⟩ := p
    simp only [Option.bind_some]
    have k2 : ∀ q : Option (W × Store), (q.bind fun q => match q.1 with | .d (.bl c) => some (W.d (.bl c), q.2) | _ => none) = q.bind fun q => (blW q.1).map fun c => (W.d (.bl c), q.2) := by
      intro q
      cases q with
      | none => rfl
      | some q =>
        obtain ⟨w', S2⟩ := q
        cases w' with
        | d x => cases x <;> rfl
        | _ => rfl
    cases w with
    | d x =>
      cases x with
      | bl k =>
        cases k with
        | true => rfl
        | false => exact k2 _
      | _ => rfl
    | _ => rfl
theorem notV_eq : mNotV ma env S = (ma env S).bind fun p => (blW p.1).map fun k => (.d (.bl (!k)), p.2) := by
  unfold mNotV
  cases h : ma env S with
  | none => rfl
  | some p =>
    obtain ⟨w, S'⟩ := p
    cases w with
    | d x => cases x <;> rfl
    | _ => rfl
theorem wp_andB : OkE (mAndV ma mb env S) P ↔ OkE (ma env S) fun w S1 => ∃ k, blW w = some k ∧ if k = true then OkE (mb env S1) (fun v S2 => ∃ c, blW v = some c ∧ P (.d (.bl c)) S2) else P (.d (.bl false)) S1 := by
  rw [andV_eq]
  unfold OkE
  constructor
  · rintro ⟨r, e, h⟩
    obtain ⟨p, e1, e⟩ := Option.bind_eq_some_iff.mp e
    obtain ⟨k, e2, e⟩ := Option.bind_eq_some_iff.mp e
    refine ⟨p, e1, k, e2, ?_⟩
    split at e
    · rename_i hk
      rw [if_pos hk]
      obtain ⟨q, e3, e⟩ := Option.bind_eq_some_iff.mp e
      obtain ⟨c, e4, e5⟩ := Option.map_eq_some_iff.mp e
      cases e5
      exact ⟨q, e3, c, e4, h⟩
    · rename_i hk
      rw [if_neg hk]
      cases e
      exact h
  · rintro ⟨p, e1, k, e2, h⟩
    split at h
    · rename_i hk
      obtain ⟨q, e3, c, e4, h⟩ := h
      exact ⟨_, by rw [e1]; simp only [Option.bind_some]; rw [e2]; simp only [Option.bind_some]; rw [if_pos hk, e3]; simp only [Option.bind_some]; rw [e4]; rfl, h⟩
    · rename_i hk
      exact ⟨_, by rw [e1]; simp only [Option.bind_some]; rw [e2]; simp only [Option.bind_some]; rw [if_neg hk], h⟩
theorem wp_orB : OkE (mOrV ma mb env S) P ↔ OkE (ma env S) fun w S1 => ∃ k, blW w = some k ∧ if k = true then P (.d (.bl true)) S1 else OkE (mb env S1) (fun v S2 => ∃ c, blW v = some c ∧ P (.d (.bl c)) S2) := by
  rw [orV_eq]
  unfold OkE
  constructor
  · rintro ⟨r, e, h⟩
    obtain ⟨p, e1, e⟩ := Option.bind_eq_some_iff.mp e
    obtain ⟨k, e2, e⟩ := Option.bind_eq_some_iff.mp e
    refine ⟨p, e1, k, e2, ?_⟩
    split at e
    · rename_i hk
      rw [if_pos hk]
      cases e
      exact h
    · rename_i hk
      rw [if_neg hk]
      obtain ⟨q, e3, e⟩ := Option.bind_eq_some_iff.mp e
      obtain ⟨c, e4, e5⟩ := Option.map_eq_some_iff.mp e
      cases e5
      exact ⟨q, e3, c, e4, h⟩
  · rintro ⟨p, e1, k, e2, h⟩
    split at h
    · rename_i hk
      exact ⟨_, by rw [e1]; simp only [Option.bind_some]; rw [e2]; simp only [Option.bind_some]; rw [if_pos hk], h⟩
    · rename_i hk
      obtain ⟨q, e3, c, e4, h⟩ := h
      exact ⟨_, by rw [e1]; simp only [Option.bind_some]; rw [e2]; simp only [Option.bind_some]; rw [if_neg hk, e3]; simp only [Option.bind_some]; rw [e4]; rfl, h⟩
theorem wp_notB : OkE (mNotV ma env S) P ↔ OkE (ma env S) fun w S1 => ∃ k, blW w = some k ∧ P (.d (.bl (!k))) S1 := by
  rw [notV_eq]
  unfold OkE
  constructor
  · rintro ⟨r, e, h⟩
    obtain ⟨p, e1, e⟩ := Option.bind_eq_some_iff.mp e
    obtain ⟨k, e2, e3⟩ := Option.map_eq_some_iff.mp e
    cases e3
    exact ⟨p, e1, k, e2, h⟩
  · rintro ⟨p, e1, k, e2, h⟩
    exact ⟨_, by rw [e1]; simp only [Option.bind_some]; rw [e2]; rfl, h⟩
theorem wp_tstB : OkT (mTst ma env S) PT ↔ OkE (ma env S) fun w S' => ∃ k, blW w = some k ∧ PT k S' := by
  rw [wp_tst]
  unfold OkE
  constructor
  · rintro ⟨p, e, k, hk, h⟩
    exact ⟨p, e, k, by rw [hk]; rfl, h⟩
  · rintro ⟨p, e, k, hk, h⟩
    refine ⟨p, e, k, ?_, h⟩
    cases hw : p.1 with
    | d x =>
      rw [hw] at hk
      cases x <;> first | (cases hk; done) | (cases hk; rfl)
    | _ => rw [hw] at hk; cases hk
theorem wp_ofT : OkE (mOfT t env S) P ↔ OkT (t env S) fun k S' => P (.d (.bl k)) S' := by
  unfold mOfT OkE OkT
  constructor
  · rintro ⟨r, e, h⟩
    obtain ⟨p, e1, e2⟩ := Option.map_eq_some_iff.mp e
    cases e2
    exact ⟨p, e1, h⟩
  · rintro ⟨p, e1, h⟩
    exact ⟨_, by rw [e1]; rfl, h⟩
/-- a method on a slot's list or on a cell -/
theorem wp_mut {g : Store → List W → List W → Option (List W)} : OkS (mMut i ms g env S) PS ↔ OkA (ms env S) fun ws S' => ws.all isArg = true ∧ match env[i]? with
    | some (some (.own xs)) => xs.all isArg = true ∧ ∃ zs, g S' xs ws = some zs ∧ PS .nx (env.set i (some (.own zs))) S'
    | some (some (.r n)) => ∃ xs, S'[n]? = some xs ∧ ∃ zs, g S' xs ws = some zs ∧ PS .nx env (S'.set n zs)
    | _ => False := by
  unfold mMut OkS OkA
  generalize env[i]? = o
  constructor
  · rintro ⟨r, e, h⟩
    obtain ⟨p, e1, e⟩ := Option.bind_eq_some_iff.mp e
    split at e
    · rename_i hA
      refine ⟨p, e1, hA, ?_⟩
      rcases o with _ | _ | w
      · cases e
      · cases e
      · cases w with
        | own xs =>
          dsimp only at e ⊢
          split at e
          · rename_i hx
            obtain ⟨zs, e2, e3⟩ := Option.bind_eq_some_iff.mp e
            cases e3
            exact ⟨hx, zs, e2, h⟩
          · cases e
        | r n =>
          dsimp only at e ⊢
          obtain ⟨xs, e2, e⟩ := Option.bind_eq_some_iff.mp e
          obtain ⟨zs, e3, e4⟩ := Option.bind_eq_some_iff.mp e
          cases e4
          exact ⟨xs, e2, zs, e3, h⟩
        | _ => cases e
    · cases e
  · rintro ⟨p, e1, hA, h⟩
    rw [e1]
    simp only [Option.bind_some]
    rw [if_pos hA]
    rcases o with _ | _ | w
    · exact h.elim
    · exact h.elim
    · cases w with
      | own xs =>
        obtain ⟨hx, zs, e2, h⟩ := h
        exact ⟨_, by dsimp only; rw [if_pos hx, e2]; rfl, h⟩
      | r n =>
        obtain ⟨xs, e2, zs, e3, h⟩ := h
        exact ⟨_, by dsimp only; rw [e2]; simp only [Option.bind_some]; rw [e3]; rfl, h⟩
      | _ => exact h.elim
theorem wp_frzM : OkS (mFrz i env S) PS ↔ match env[i]? with
    | some (some (.own xs)) => ∃ ds, asDs xs = some ds ∧ PS .nx (env.set i (some (.d (.lst ds)))) S
    | _ => PS .nx env S := by
  unfold mFrz OkS
  generalize env[i]? = o
  constructor
  · rintro ⟨r, e, h⟩
    rcases o with _ | _ | w
    · cases e
      exact h
    · cases e
      exact h
    · cases w with
      | own xs =>
        obtain ⟨ds, e1, e2⟩ := Option.map_eq_some_iff.mp e
        cases e2
        exact ⟨ds, e1, h⟩
      | _ =>
        cases e
        exact h
  · intro h
    rcases o with _ | _ | w
    · exact ⟨_, rfl, h⟩
    · exact ⟨_, rfl, h⟩
    · cases w with
      | own xs =>
        obtain ⟨ds, e1, h⟩ := h
        exact ⟨_, by dsimp only; rw [e1]; rfl, h⟩
      | _ => exact ⟨_, rfl, h⟩
theorem wp_drop : OkS (mDrop ma env S) PS ↔ OkE (ma env S) fun _ S' => PS .nx env S' := by
  unfold mDrop OkS OkE
  constructor
  · rintro ⟨r, e, h⟩
    obtain ⟨p, e1, e2⟩ := Option.map_eq_some_iff.mp e
    cases e2
    exact ⟨p, e1, h⟩
  · rintro ⟨p, e1, h⟩
    exact ⟨_, by rw [e1]; rfl, h⟩
end
end Kb
set_option Elab.async false
set_option linter.all false
set_option maxRecDepth 100000
set_option maxHeartbeats 1000000
namespace Kb
open PySem PySem.Spec PyProof.Rows L2 Zf
/-- a short text that can be -/
def SO (k : Nat) (s : Str) : Prop := s.length ≤ k ∧ PyData.strOk s = true
theorem len_str (a b : Str) : (a ++ b).length = a.length + b.length := PySem.Str.length_append ..
theorem v_addS {S : Store} {i j : Str} (h : i.length + j.length ≤ cap) : gAdd S (.d (.str i)) (.d (.str j)) = some (.d (.str (i ++ j))) := by
  have e : gAddS S (.d (.str i)) (.d (.str j)) = some (.d (.str (i ++ j))) := if_pos h
  show (none : Option W).or ((gAddS S (.d (.str i)) (.d (.str j))).or _) = _
  rw [e]
  rfl
theorem strOk_app {a b : Str} (ha : PyData.strOk a = true) (hb : PyData.strOk b = true) : PyData.strOk (a ++ b) = true := by
  have ha' : a.cps.all (fun c => decide (c < 0x110000)) = true := ha
  have hb' : b.cps.all (fun c => decide (c < 0x110000)) = true := hb
  show (a.cps ++ b.cps).all (fun c => decide (c < 0x110000)) = true
  rw [Array.all_append, ha', hb']
  rfl
theorem SO.app {i j : Nat} {a b : Str} (ha : SO i a) (hb : SO j b) : SO (i + j) (a ++ b) := ⟨by rw [len_str]; have := ha.1; have := hb.1; omega, strOk_app ha.2 hb.2⟩
theorem SO.le {i j : Nat} {a : Str} (ha : SO i a) (h : i ≤ j) : SO j a := ⟨Nat.le_trans ha.1 h, ha.2⟩
/-! places and slices of tuples -/
section
variable {S : Store} {a b c d : D} {r : List D}
theorem ixt0 : gIx S (.d (.tup (a :: r))) (.d (.int 0)) = some (.d a) := v_ixT (k := 0) rfl
theorem ixt1 : gIx S (.d (.tup (a :: b :: r))) (.d (.int 1)) = some (.d b) := v_ixT (k := 1) rfl
theorem ixt2 : gIx S (.d (.tup (a :: b :: c :: r))) (.d (.int 2)) = some (.d c) := v_ixT (k := 2) rfl
theorem ixt3 : gIx S (.d (.tup (a :: b :: c :: d :: r))) (.d (.int 3)) = some (.d d) := v_ixT (k := 3) rfl
theorem slFrom {k : Nat} : gSl S (.d (.tup r)) (some (k : Int)) none = some (.d (.tup (r.drop k))) := by
  show some (W.d (.tup (cutA r (some (k : Int)) none))) = _
  unfold cutA
  rw [HT.sIx_nat, HT.sIx_none]
  congr 3
  rw [List.take_of_length_le (by rw [List.length_drop]; omega)]
  by_cases h : k ≤ r.length
  · rw [Nat.min_eq_left h]
  · rw [Nat.min_eq_right (by omega), List.drop_length, List.drop_of_length_le (by omega)]
theorem slTo {k : Nat} : gSl S (.d (.tup r)) none (some (k : Int)) = some (.d (.tup (r.take k))) := by
  show some (W.d (.tup (cutA r none (some (k : Int))))) = _
  unfold cutA
  rw [HT.sIx_nat, HT.sIx_none, List.drop_zero, Nat.sub_zero]
  congr 3
  by_cases h : k ≤ r.length
  · rw [Nat.min_eq_left h]
  · rw [Nat.min_eq_right (by omega), List.take_of_length_le (Nat.le_refl _), List.take_of_length_le (by omega)]
theorem slF1 : gSl S (.d (.tup (a :: r))) (some 1) none = some (.d (.tup r)) := slFrom (k := 1)
theorem slF2 : gSl S (.d (.tup (a :: b :: r))) (some 2) none = some (.d (.tup r)) := slFrom (k := 2)
theorem slF3 : gSl S (.d (.tup (a :: b :: c :: r))) (some 3) none = some (.d (.tup r)) := slFrom (k := 3)
theorem slT0 : gSl S (.d (.tup r)) none (some 0) = some (.d (.tup [])) := slTo (k := 0)
theorem slT1 : gSl S (.d (.tup (a :: r))) none (some 1) = some (.d (.tup [a])) := slTo (k := 1)
theorem slT2 : gSl S (.d (.tup (a :: b :: r))) none (some 2) = some (.d (.tup [a, b])) := slTo (k := 2)
theorem sl12 : gSl S (.d (.tup (a :: b :: r))) (some 1) (some 2) = some (.d (.tup [b])) := by
  show some (W.d (.tup (cutA (a :: b :: r) (some ((1 : Nat) : Int)) (some ((2 : Nat) : Int))))) = _
  unfold cutA
  rw [HT.sIx_nat, HT.sIx_nat, List.length_cons, List.length_cons, Nat.min_eq_left (by omega), Nat.min_eq_left (by omega)]
  rfl
theorem sl12' : gSl S (.d (.tup [a])) (some 1) (some 2) = some (.d (.tup [])) := rfl
theorem v_tupL {xs : List D} : g1 gTuple S [.d (.lst xs)] = some (.d (.tup xs)) := by
  simp [g1, gTuple, vT, vL, asDs_map]
theorem v_tupT {xs : List D} : g1 gTuple S [.d (.tup xs)] = some (.d (.tup xs)) := rfl
theorem seqL {xs : List D} : vSeq S (.d (.lst xs)) = some xs := by
  simp [vSeq, vT, vL, asDs_map]
theorem seqT {xs : List D} : vSeq S (.d (.tup xs)) = some xs := by
  simp [vSeq, vT, vL]
end

theorem slLFrom {S : Store} {r : List D} {k : Nat} : gSl S (.d (.lst r)) (some (k : Int)) none = some (.d (.lst (r.drop k))) := by
  show ((vL S (.d (.lst r))).bind asDs).map _ = _
  simp only [vL, Option.bind_some, asDs_map, Option.map_some]
  unfold cutA
  rw [HT.sIx_nat, HT.sIx_none]
  congr 3
  rw [List.take_of_length_le (by rw [List.length_drop]; omega)]
  by_cases h : k ≤ r.length
  · rw [Nat.min_eq_left h]
  · rw [Nat.min_eq_right (by omega), List.drop_length, List.drop_of_length_le (by omega)]
theorem slLTo {S : Store} {r : List D} {k : Nat} : gSl S (.d (.lst r)) none (some (k : Int)) = some (.d (.lst (r.take k))) := by
  show ((vL S (.d (.lst r))).bind asDs).map _ = _
  simp only [vL, Option.bind_some, asDs_map, Option.map_some]
  unfold cutA
  rw [HT.sIx_nat, HT.sIx_none, List.drop_zero, Nat.sub_zero]
  congr 3
  by_cases h : k ≤ r.length
  · rw [Nat.min_eq_left h]
  · rw [Nat.min_eq_right (by omega), List.take_of_length_le (Nat.le_refl _), List.take_of_length_le (by omega)]
theorem lcMap {α : Type} {e f : α → D} {ma : ME} {ew : En} {i : Nat} {S : Store} (hi : i < ew.length) : ∀ {todo : List α} {acc : List D}, acc.length + todo.length ≤ cap →
    (∀ x ∈ todo, ma (ew.set i (some (.d (e x)))) S = some (.d (f x), S)) → goLc (.nm i) mYes ma ew (todo.map e) S acc = some (acc ++ todo.map f, S)
  | [], acc, _, _ => by
    rw [List.map_nil, List.map_nil, List.append_nil]
    rfl
  | x :: todo, acc, hl, h => by
    rw [List.length_cons] at hl
    have hb : bindT (.nm i) ew (e x) = some (ew.set i (some (.d (e x)))) := if_pos hi
    refine eqI (wp_lcCons.mpr ⟨_, hb, ⟨(true, S), rfl, ?_⟩⟩)
    refine ⟨_, h x List.mem_cons_self, f x, rfl, by omega, ?_⟩
    have ih := lcMap (acc := acc ++ [f x]) hi (by rw [List.length_append, List.length_singleton]; omega) fun y hy => h y (List.mem_cons_of_mem _ hy)
    exact okI_eq ih ⟨by simp, rfl⟩
theorem eqT {m : Option (Bool × Store)} {b : Bool} {S : Store} {P : Bool → Store → Prop} (e : m = some (b, S)) (h : P b S) : OkT m P := ⟨_, e, h⟩
/-- `[f(x) for x in xs if t(x)]`, pure: what each item gives -/
def Gives1 (mt : MT) (ma : ME) (env : En) (S : Store) (ys : List D) : Prop := (mt env S = some (false, S) ∧ ys = []) ∨ (mt env S = some (true, S) ∧ ∃ d, ma env S = some (.d d, S) ∧ ys = [d])
theorem lcFM {α : Type} {e : α → D} {F : α → List D} {mt : MT} {ma : ME} {ew : En} {i : Nat} {S : Store} (hi : i < ew.length) : ∀ {todo : List α} {acc : List D}, acc.length + todo.length ≤ cap →
    (∀ x ∈ todo, Gives1 mt ma (ew.set i (some (.d (e x)))) S (F x)) → goLc (.nm i) mt ma ew (todo.map e) S acc = some (acc ++ todo.flatMap F, S)
  | [], acc, _, _ => by
    rw [List.map_nil, List.flatMap_nil, List.append_nil]
    rfl
  | x :: todo, acc, hl, h => by
    rw [List.length_cons] at hl
    have hb : bindT (.nm i) ew (e x) = some (ew.set i (some (.d (e x)))) := if_pos hi
    refine eqI (wp_lcCons.mpr ⟨_, hb, ?_⟩)
    rcases h x List.mem_cons_self with ⟨h1, h2⟩ | ⟨h1, d, h2, h3⟩
    · refine eqT h1 ?_
      rw [if_neg Bool.false_ne_true]
      have ih := lcFM (acc := acc) hi (by omega) fun y hy => h y (List.mem_cons_of_mem _ hy)
      exact okI_eq ih ⟨by rw [List.flatMap_cons, h2, List.nil_append], rfl⟩
    · refine eqT h1 ?_
      rw [if_pos rfl]
      refine okE_eq h2 ⟨d, rfl, by omega, ?_⟩
      have ih := lcFM (acc := acc ++ [d]) hi (by rw [List.length_append, List.length_singleton]; omega) fun y hy => h y (List.mem_cons_of_mem _ hy)
      exact okI_eq ih ⟨by rw [List.flatMap_cons, h3, List.append_assoc], rfl⟩
def All2 {α β : Type} (R : α → β → Prop) : List α → List β → Prop
  | [], ys => ys = []
  | x :: xs, ys => ∃ y r, ys = y :: r ∧ R x y ∧ All2 R xs r
theorem All2.len {α β : Type} {R : α → β → Prop} : ∀ {xs : List α} {ys : List β}, All2 R xs ys → ys.length = xs.length
  | [], _, h => by rw [h]; rfl
  | x :: xs, _, ⟨y, r, h1, _, h3⟩ => by rw [h1, List.length_cons, List.length_cons, All2.len h3]
theorem All2.mem {α β : Type} {R : α → β → Prop} : ∀ {xs : List α} {ys : List β}, All2 R xs ys → ∀ y ∈ ys, ∃ x ∈ xs, R x y
  | [], _, h, y, hy => by rw [show _ = [] from h] at hy; cases hy
  | x :: xs, _, ⟨z, r, h1, h2, h3⟩, y, hy => by
    rw [h1] at hy
    rcases List.mem_cons.mp hy with e | hy
    · exact ⟨x, List.mem_cons_self, by rw [e]; exact h2⟩
    · obtain ⟨w, h4, h5⟩ := All2.mem h3 y hy
      exact ⟨w, List.mem_cons_of_mem _ h4, h5⟩
/-- comprehensions that draw -/
theorem lcFr {α β : Type} {e : α → D} {f : β → D} {R : α → β → Prop} {b : Nat} {ma : ME} {ew : En} {i : Nat} (hi : i < ew.length) {Q : List D → Store → Prop} : ∀ {todo : List α} {acc : List D} {S : Store}, acc.length + todo.length ≤ cap → Bag S b →
    (∀ x ∈ todo, ∀ (S1 : Store) (P : W → Store → Prop), Bag S1 b → (∀ (y : β) (S2 : Store), R x y → Fr b S1 S2 → P (.d (f y)) S2) → OkE (ma (ew.set i (some (.d (e x)))) S1) P) →
    (∀ (ys : List β) (S2 : Store), All2 R todo ys → Fr b S S2 → Q (acc ++ ys.map f) S2) → OkI (goLc (.nm i) mYes ma ew (todo.map e) S acc) Q
  | [], acc, S, _, B, _, q => wp_lcNil.mpr (by have := q [] S rfl (.refl B); rwa [List.map_nil, List.append_nil] at this)
  | x :: todo, acc, S, hl, B, h, q => by
    rw [List.length_cons] at hl
    have hb : bindT (.nm i) ew (e x) = some (ew.set i (some (.d (e x)))) := if_pos hi
    refine wp_lcCons.mpr ⟨_, hb, ⟨(true, S), rfl, ?_⟩⟩
    dsimp only
    rw [if_pos rfl]
    refine h x List.mem_cons_self S _ B fun y S2 hr f2 => ⟨f y, rfl, by omega, ?_⟩
    refine lcFr hi (acc := acc ++ [f y]) (by rw [List.length_append, List.length_singleton]; omega) f2.bag (fun x' hx' => h x' (List.mem_cons_of_mem _ hx')) fun ys S3 ha f3 => ?_
    have := q (y :: ys) S3 ⟨y, ys, rfl, hr, ha⟩ (f2.trans f3)
    rwa [List.map_cons, List.append_cons] at this

section
variable {S : Store} {d : D} {ds : List D}
theorem asBls_map : ∀ bs : List Bool, asBls (bs.map fun b => .d (.bl b)) = some bs
  | [] => rfl
  | b :: bs => by
    rw [List.map_cons]
    unfold asBls
    rw [asBls_map bs]
    rfl
theorem v_allB {bs : List Bool} : g1 gAllB S [.d (.lst (bs.map .bl))] = some (.d (.bl (bs.all id))) := by
  show (((vL S (.d (.lst (bs.map .bl)))).bind asBls).map _) = _
  rw [vL_lst, Option.bind_some, List.map_map, show (W.d ∘ D.bl) = fun b => .d (.bl b) from rfl, asBls_map]
  rfl
theorem v_lenS {x : Str} (h : x.length ≤ cap) : g1 gLen S [.d (.str x)] = some (.d (.int x.length)) := if_pos h
theorem v_isNon {w : W} : gIs false S w (.d .non) = some (.d (.bl (isNon w))) := by
  show some (W.d (.bl (false != isNon w))) = _
  cases isNon w <;> rfl
theorem v_notNon {w : W} : gIs true S w (.d .non) = some (.d (.bl (!isNon w))) := by
  show some (W.d (.bl (true != isNon w))) = _
  cases isNon w <;> rfl
theorem v_subI {i j : Int} : (gInt (fun _ _ => true) fun i j => .int (i - j)) S (.d (.int i)) (.d (.int j)) = some (.d (.int (i - j))) := rfl
theorem asDs_nil : asDs [] = some [] := rfl
theorem asDs_cons {r : List W} : asDs (.d d :: r) = (asDs r).map (d :: ·) := rfl
theorem wipe0 {e : En} : wipeE e [] = e := rfl
theorem wipe1 {e : En} {v : Nat} {vs : List Nat} : wipeE e (v :: vs) = (wipeE e vs).set v none := rfl
/-- comprehensions over data: all of it; what is kept; drawn by range -/
theorem lcAll {ma : ME} {ew : En} {i : Nat} {S : Store} {xs : List D} {Q : List D → Store → Prop} (f : D → D) (hi : i < ew.length) (hl : xs.length ≤ cap) (h : ∀ x ∈ xs, ma (ew.set i (some (.d x))) S = some (.d (f x), S)) (q : Q (xs.map f) S) : OkI (goLc (.nm i) mYes ma ew xs S []) Q := by
  have := lcMap (e := fun d => d) (f := f) (ma := ma) (ew := ew) (i := i) (S := S) hi (todo := xs) (acc := []) (by simpa using hl) h
  rw [List.map_id', List.nil_append] at this
  exact okI_eq this q
theorem flatIf {α : Type} (t : α → Bool) : ∀ xs : List α, (xs.flatMap fun x => if t x = true then [x] else []) = xs.filter t
  | [] => rfl
  | x :: xs => by
    rw [List.flatMap_cons, flatIf t xs, List.filter_cons]
    cases t x <;> rfl
theorem lcFil {mt : MT} {ew : En} {i : Nat} {S : Store} {xs : List D} {Q : List D → Store → Prop} (t : D → Bool) (hi : i < ew.length) (hl : xs.length ≤ cap) (h : ∀ x ∈ xs, mt (ew.set i (some (.d x))) S = some (t x, S)) (q : Q (xs.filter t) S) : OkI (goLc (.nm i) mt (mVar i) ew xs S []) Q := by
  have := lcFM (e := fun d => d) (F := fun x => if t x = true then [x] else []) (mt := mt) (ma := mVar i) (ew := ew) (i := i) (S := S) hi (todo := xs) (acc := []) (by simpa using hl) (fun x hx => by
    have h1 := h x hx
    cases ht : t x with
    | true =>
      rw [ht] at h1
      refine .inr ⟨h1, x, ?_, by simp⟩
      unfold mVar
      rw [List.getElem?_set_self hi]
      rfl
    | false =>
      rw [ht] at h1
      exact .inl ⟨h1, by simp⟩)
  rw [List.map_id', List.nil_append, flatIf] at this
  exact okI_eq this q
theorem filterNil {α : Type} (t : α → Bool) (xs : List α) : (xs.filter t).isEmpty = xs.all fun x => !t x := by
  induction xs with
  | nil => rfl
  | cons x r ih =>
    rw [List.filter_cons, List.all_cons]
    cases h : t x with
    | true => simp
    | false => simpa using ih
theorem le_cap (n : Nat) (h : n ≤ 1000000) : n ≤ cap := by unfold cap; omega
end
end Kb
local macro_rules | `(tactic| decreasing_with simp [$ts,*]) => `(tactic| simp only [Zf.wp_d, Zf.wp_var, Zf.wp_bin, Kb.wp_tstB, Zf.wp_andT, Zf.wp_orT, Zf.wp_notT, Zf.wp_if, Zf.wp_nil, Zf.wp_cons, Zf.wp_call, Zf.wp_cb, Zf.wp_seq, Zf.wp_next, Zf.wp_ifS, Zf.wp_set, Zf.wp_ret, Zf.wp_setIx, Zf.wp_fn, Zf.wp_frzE, Zf.wp_pubE, Zf.wp_lst, Zf.wp_tup, Zf.wp_lstO, Kb.wp_andB, Kb.wp_orB, Kb.wp_notB, Zf.wp_noPart, Zf.wp_part, Zf.wp_sl, Zf.wp_par, Zf.wp_unp, Kb.wp_iseq, Kb.wp_iseqS, Zf.wp_rng1, Zf.wp_for, Zf.wp_lc, Zf.wp_yes, Zf.wp_mutE, Zf.wp_neg, Zf.wp_inK, Kb.wp_isiC, Kb.wp_isi2C, Zf.wp_star, Zf.wp_dix, Zf.wp_dget2, Zf.wp_maxD, Zf.wp_enum, Zf.wp_zip, Zf.wp_dictZip, Kb.wp_chain, Kb.wp_ofT, Kb.wp_mut, Kb.wp_frzM, Kb.wp_drop,
  Kb.isi_bool_non, Kb.isi_bool_bl, Kb.isi_bool_int, Kb.isi_bool_str, Kb.isi_bool_lst, Kb.isi_bool_tup, Kb.isi_bool_dct, Kb.ask_bool, Kb.isi_int_non, Kb.isi_int_bl, Kb.isi_int_int, Kb.isi_int_str, Kb.isi_int_lst, Kb.isi_int_tup, Kb.isi_int_dct, Kb.ask_int, Kb.isi_str_non, Kb.isi_str_bl, Kb.isi_str_int, Kb.isi_str_str, Kb.isi_str_lst, Kb.isi_str_tup, Kb.isi_str_dct, Kb.ask_str, Kb.isi_list_non, Kb.isi_list_bl, Kb.isi_list_int, Kb.isi_list_str, Kb.isi_list_lst, Kb.isi_list_tup, Kb.isi_list_dct, Kb.ask_list, Kb.isi_tuple_non, Kb.isi_tuple_bl, Kb.isi_tuple_int, Kb.isi_tuple_str, Kb.isi_tuple_lst, Kb.isi_tuple_tup, Kb.isi_tuple_dct, Kb.ask_tuple, Kb.isi_dict_non, Kb.isi_dict_bl, Kb.isi_dict_int, Kb.isi_dict_str, Kb.isi_dict_lst, Kb.isi_dict_tup, Kb.isi_dict_dct, Kb.ask_dict, Zf.v_int, Zf.v_addI, Zf.v_ltI, Zf.v_leI, Zf.v_gtI, Zf.v_geI, Kb.v_eqAI, Kb.v_eqAS, Zf.v_eqI, Zf.v_neI, Zf.v_eqS, Zf.v_neS, Zf.v_int1, Zf.v_int1b, Zf.v_abs, Zf.v_lenL, Zf.v_lenT, Zf.v_lenB, Zf.v_listL, Zf.v_listT, Kb.v_tupL, Kb.v_tupT, Kb.v_allB, Kb.v_isNon, Kb.v_notNon, Zf.toBor_d, Zf.toBor_r, Zf.toBor_own, Zf.unBor_d, Zf.unBor_r, Zf.unBor_bor, Zf.unBor_own, Zf.isArg_d, Zf.isArg_r, Zf.canSet_d, Zf.canSet_r, Zf.canSet_own, Kb.blW_bl, Kb.seqW_l, Kb.seqW_t, Kb.seqWS_l, Kb.seqWS_t, Kb.seqWS_s, Kb.ixt0, Kb.ixt1, Kb.ixt2, Kb.ixt3, Kb.asDs_nil, Kb.asDs_cons, Zf.asDs_map,
  Option.some.injEq, exists_eq_left', exists_eq_left, List.getElem?_cons_zero, List.getElem?_cons_succ, List.length_cons, List.length_nil, List.length_map, List.map_cons, List.map_nil, List.all_cons, List.all_nil, Bool.and_true, Bool.true_and, and_self, true_and, and_true, List.cons_append, List.nil_append, List.replicate, Nat.reduceSub, Nat.reduceLT, Nat.reduceAdd, List.set_cons_zero, List.set_cons_succ, Zf.W.d.injEq, Zf.D.bl.injEq, Zf.D.int.injEq, Zf.D.str.injEq, if_true, if_false, Bool.not_true, Bool.not_false, Bool.false_eq_true, decide_true, decide_false, reduceCtorEq, Bool.or_true, Bool.or_false, Bool.true_or, Bool.false_or, Option.map_some, Option.bind_some, exists_false, exists_const, Kb.wipe0, Kb.wipe1, Int.reduceLT, Int.reduceLE, Int.reduceAdd, Int.reduceSub, Int.reduceNeg, decide_eq_true_eq, Bool.not_eq_true', decide_eq_false_iff_not, $ts,*])
set_option Elab.async false
set_option linter.all false
set_option maxRecDepth 100000
set_option maxHeartbeats 1000000
/-! wishes that simp can walk: what comes next is only looked at when it is reached -/
namespace Kb
open PySem PySem.Spec PyProof.Rows L2 Zf
def OkV {α : Type} (o : Option α) (P : α → Prop) : Prop := ∃ z, o = some z ∧ P z
/-- a slot's value -/
def OkL (o : Option (Option W)) (P : W → Prop) : Prop := ∃ w, o = some (some w) ∧ P w
section
variable {α : Type} {z : α} {o o' : Option α} {P : α → Prop}
theorem okV_some : OkV (some z) P ↔ P z := ⟨fun ⟨_, e, h⟩ => by cases e; exact h, fun h => ⟨_, rfl, h⟩⟩
theorem okV_none : OkV none P ↔ False := ⟨fun ⟨_, e, _⟩ => (nomatch e), False.elim⟩
theorem okL_some {w : W} {P : W → Prop} : OkL (some (some w)) P ↔ P w := ⟨fun ⟨_, e, h⟩ => by cases e; exact h, fun h => ⟨_, rfl, h⟩⟩
end
/-! what a value is -/
def intW : W → Option Int
  | .d (.int j) => some j
  | _ => none
def strW : W → Option Str
  | .d (.str j) => some j
  | _ => none
def ownW : W → Option (List W)
  | .own j => some j
  | _ => none
def int1W : List W → Option Int
  | [.d (.int j)] => some j
  | _ => none
def lst1W : List W → Option (List D)
  | [.d (.lst j)] => some j
  | _ => none
def lst2W : List W → Option (List D × List D)
  | [.d (.lst j), .d (.lst k)] => some (j, k)
  | _ => none
def dctW : W → Option (List (Key × D))
  | .d (.dct j) => some j
  | _ => none
def datW : W → Option D
  | .d j => some j
  | _ => none
def pairW : List W → Option (W × W)
  | [x, y] => some (x, y)
  | _ => none
section
variable {i : Int} {x : Str} {xs ys : List D} {ws : List W} {kvs : List (Key × D)} {d : D} {w v : W}
theorem intW_i : intW (.d (.int i)) = some i := rfl
theorem strW_s : strW (.d (.str x)) = some x := rfl
theorem ownW_o : ownW (.own ws) = some ws := rfl
theorem int1W_i : int1W [.d (.int i)] = some i := rfl
theorem lst1W_l : lst1W [.d (.lst xs)] = some xs := rfl
theorem lst2W_l : lst2W [.d (.lst xs), .d (.lst ys)] = some (xs, ys) := rfl
theorem dctW_d : dctW (.d (.dct kvs)) = some kvs := rfl
theorem datW_d : datW (.d d) = some d := rfl
theorem pairW_p : pairW [w, v] = some (w, v) := rfl
theorem intW_of : intW w = some i ↔ w = .d (.int i) := ⟨fun h => by
  cases w with
  | d x => cases x <;> first | (cases h; rfl) | cases h
  | _ => (cases h), fun h => by rw [h]; rfl⟩
theorem strW_of : strW w = some x ↔ w = .d (.str x) := ⟨fun h => by
  cases w with
  | d x => cases x <;> first | (cases h; rfl) | cases h
  | _ => (cases h), fun h => by rw [h]; rfl⟩
theorem ownW_of : ownW w = some ws ↔ w = .own ws := ⟨fun h => by
  cases w with
  | own x => cases h; rfl
  | _ => (cases h), fun h => by rw [h]; rfl⟩
theorem dctW_of : dctW w = some kvs ↔ w = .d (.dct kvs) := ⟨fun h => by
  cases w with
  | d x => cases x <;> first | (cases h; rfl) | cases h
  | _ => (cases h), fun h => by rw [h]; rfl⟩
theorem datW_of : datW w = some d ↔ w = .d d := ⟨fun h => by
  cases w with
  | d x => cases h; rfl
  | _ => (cases h), fun h => by rw [h]; rfl⟩
theorem int1W_of : int1W ws = some i ↔ ws = [.d (.int i)] := ⟨fun h => by
  unfold int1W at h
  split at h
  · cases h; rfl
  · (cases h), fun h => by rw [h]; rfl⟩
theorem lst1W_of : lst1W ws = some xs ↔ ws = [.d (.lst xs)] := ⟨fun h => by
  unfold lst1W at h
  split at h
  · cases h; rfl
  · (cases h), fun h => by rw [h]; rfl⟩
theorem lst2W_of : lst2W ws = some (xs, ys) ↔ ws = [.d (.lst xs), .d (.lst ys)] := ⟨fun h => by
  unfold lst2W at h
  split at h
  · cases h; rfl
  · (cases h), fun h => by rw [h]; rfl⟩
end
section
variable {env : En} {S : Store} {P : W → Store → Prop} {PT : Bool → Store → Prop} {PA : List W → Store → Prop} {PI : List D → Store → Prop} {PO : Option Int → Store → Prop} {PS : Fl → En → Store → Prop} {ma mb mc : ME} {t u : MT} {ms : MA} {a b : MS} {g g' : Op2} {i n : Nat} {d : D} {l h : MO} {mi : MI}
theorem y_var : OkE (mVar i env S) P ↔ OkL env[i]? fun w => P (toBor w) S := wp_var
theorem y_bin : OkE (mBin g ma mb env S) P ↔ OkE (ma env S) fun x S1 => OkE (mb env S1) fun y S2 => OkV (g S2 x y) fun z => P z S2 := wp_bin
theorem y_tst : OkT (mTst ma env S) PT ↔ OkE (ma env S) fun w S' => OkV (blW w) fun k => PT k S' := wp_tstB
theorem y_cb {f : OpN} : OkE (mCB f ms env S) P ↔ OkA (ms env S) fun ws S1 => OkV (f S1 ws) fun z => P z S1 := wp_cb
theorem y_setIx : OkS (mSetIx ma mb mc env S) PS ↔ OkE (mc env S) fun w S1 => OkE (ma env S1) fun o S2 => OkE (mb env S2) fun j S3 => OkV (setIx S3 o j w) fun S' => PS .nx env S' := wp_setIx
theorem y_frzE : OkE (mFrzE ma env S) P ↔ OkE (ma env S) fun w S' => OkV (ownW w) fun xs => OkV (asDs xs) fun ds => P (.d (.lst ds)) S' := by
  rw [wp_frzE]
  constructor
  · rintro ⟨r, e, xs, ds, h1, h2, h3⟩
    exact ⟨r, e, xs, ownW_of.mpr h1, ds, h2, h3⟩
  · rintro ⟨r, e, xs, h1, ds, h2, h3⟩
    exact ⟨r, e, xs, ds, ownW_of.mp h1, h2, h3⟩
theorem y_pubE : OkE (mPubE ma env S) P ↔ OkE (ma env S) fun w S' => OkV (ownW w) fun xs => xs.all isArg = true ∧ P (.r S'.length) (S' ++ [xs]) := by
  rw [wp_pubE]
  constructor
  · rintro ⟨r, e, xs, h1, h2, h3⟩
    exact ⟨r, e, xs, ownW_of.mpr h1, h2, h3⟩
  · rintro ⟨r, e, xs, h1, h2, h3⟩
    exact ⟨r, e, xs, ownW_of.mp h1, h2, h3⟩
theorem y_lst : OkE (mLst ms env S) P ↔ OkA (ms env S) fun ws S' => OkV (asDs ws) fun xs => xs.length ≤ cap ∧ P (.d (.lst xs)) S' := wp_lst
theorem y_tup : OkE (mTup ms env S) P ↔ OkA (ms env S) fun ws S' => OkV (asDs ws) fun xs => xs.length ≤ cap ∧ P (.d (.tup xs)) S' := wp_tup
theorem y_andV : OkE (mAndV ma mb env S) P ↔ OkE (ma env S) fun w S1 => OkV (blW w) fun k => if k = true then OkE (mb env S1) (fun v S2 => OkV (blW v) fun c => P (.d (.bl c)) S2) else P (.d (.bl false)) S1 := wp_andB
theorem y_orV : OkE (mOrV ma mb env S) P ↔ OkE (ma env S) fun w S1 => OkV (blW w) fun k => if k = true then P (.d (.bl true)) S1 else OkE (mb env S1) (fun v S2 => OkV (blW v) fun c => P (.d (.bl c)) S2) := wp_orB
theorem y_notV : OkE (mNotV ma env S) P ↔ OkE (ma env S) fun w S1 => OkV (blW w) fun k => P (.d (.bl (!k))) S1 := wp_notB
theorem y_part : OkO (mPart ma env S) PO ↔ OkE (ma env S) fun w S' => OkV (intW w) fun j => PO (some j) S' := by
  rw [wp_part]
  constructor
  · rintro ⟨r, e, j, h1, h2⟩
    exact ⟨r, e, j, intW_of.mpr h1, h2⟩
  · rintro ⟨r, e, j, h1, h2⟩
    exact ⟨r, e, j, intW_of.mp h1, h2⟩
theorem y_sl : OkE (mSl ma l h env S) P ↔ OkE (ma env S) fun w S1 => OkO (l env S1) fun lo S2 => OkO (h env S2) fun hi S3 => OkV (gSl S3 w lo hi) fun z => P z S3 := wp_sl
theorem y_par {j : Nat} : OkS (mPar i j ms env S) PS ↔ OkA (ms env S) fun ws S' => OkV (pairW ws) fun q => (isArg q.1 = true ∧ isArg q.2 = true ∧ i < env.length ∧ j < env.length) ∧ PS .nx ((env.set i (some q.1)).set j (some q.2)) S' := by
  rw [wp_par]
  constructor
  · rintro ⟨r, e, x, y, h1, h2, h3⟩
    exact ⟨r, e, (x, y), by rw [h1]; rfl, h2, h3⟩
  · rintro ⟨r, e, ⟨x, y⟩, h1, h2, h3⟩
    refine ⟨r, e, x, y, ?_, h2, h3⟩
    unfold pairW at h1
    split at h1
    · cases h1; assumption
    · cases h1
theorem y_unp {is : List Nat} : OkS (mUnp is ms env S) PS ↔ OkA (ms env S) fun ws S' => ws.length ≤ cap ∧ OkV (bindAllW is ws env) fun env' => PS .nx env' S' := wp_unp
theorem y_seqI : OkI (mISeq ma env S) PI ↔ OkE (ma env S) fun w S' => OkV (seqW w) fun xs => PI xs S' := wp_iseq
theorem y_seqS : OkI (mISeqS ma env S) PI ↔ OkE (ma env S) fun w S' => OkV (seqWS w) fun xs => PI xs S' := wp_iseqS
theorem y_rng1 : OkI (mIRng1 ms env S) PI ↔ OkA (ms env S) fun ws S' => OkV (int1W ws) fun n => (-1000000 < n ∧ n < 1000000) ∧ PI (dRange 0 n.toNat) S' := by
  rw [wp_rng1]
  constructor
  · rintro ⟨r, e, j, h1, h2⟩
    exact ⟨r, e, j, int1W_of.mpr h1, h2⟩
  · rintro ⟨r, e, j, h1, h2⟩
    exact ⟨r, e, j, int1W_of.mp h1, h2⟩
theorem y_mutE {mo : ME} {g : Store → List W → List W → Option (List W)} : OkS (mMutE mo ms g env S) PS ↔ OkE (mo env S) fun o S1 => ∃ n, o = .r n ∧ OkA (ms env S1) fun ws S' => ws.all isArg = true ∧ OkV S'[n]? fun xs => OkV (g S' xs ws) fun zs => PS .nx env (S'.set n zs) := by
  rw [wp_mutE]
  constructor
  · rintro ⟨r, e, n, h1, q, e2, h2, xs, zs, h3, h4, h5⟩
    exact ⟨r, e, n, h1, q, e2, h2, xs, h3, zs, h4, h5⟩
  · rintro ⟨r, e, n, h1, q, e2, h2, xs, h3, zs, h4, h5⟩
    exact ⟨r, e, n, h1, q, e2, h2, xs, zs, h3, h4, h5⟩
theorem y_neg : OkE (mNeg ma env S) P ↔ OkE (ma env S) fun w S' => OkV (intW w) fun j => P (.d (.int (-j))) S' := by
  rw [wp_neg]
  constructor
  · rintro ⟨r, e, j, h1, h2⟩
    exact ⟨r, e, j, intW_of.mpr h1, h2⟩
  · rintro ⟨r, e, j, h1, h2⟩
    exact ⟨r, e, j, intW_of.mp h1, h2⟩
theorem y_inK {neg : Bool} {ks : List Str} : OkE (mInK neg ks ma env S) P ↔ OkE (ma env S) fun w S' => OkV (strW w) fun z => P (.d (.bl (neg != ks.contains z))) S' := by
  rw [wp_inK]
  constructor
  · rintro ⟨r, e, j, h1, h2⟩
    exact ⟨r, e, j, strW_of.mpr h1, h2⟩
  · rintro ⟨r, e, j, h1, h2⟩
    exact ⟨r, e, j, strW_of.mp h1, h2⟩
theorem y_isiC {T : String} : OkE (mIsiC n T ma env S) P ↔ OkE (ma env S) fun w S' => asked.contains T = true ∧ OkV (isiV n S' T w) fun k => P (.d (.bl k)) S' := wp_isiC
theorem y_isi2C {T T' : String} : OkE (mIsi2C n T T' ma env S) P ↔ OkE (ma env S) fun w S' => (asked.contains T = true ∧ asked.contains T' = true) ∧ OkV (isiV n S' T w) fun k => OkV (isiV n S' T' w) fun k' => P (.d (.bl (k || k'))) S' := wp_isi2C
theorem y_star : OkA (mStar ma ms env S) PA ↔ OkE (ma env S) fun w S1 => OkV (vSeq S1 w) fun xs => OkA (ms env S1) fun ws S2 => PA (xs.map .d ++ ws) S2 := wp_star
theorem y_dix : OkE (mDix ma mb env S) P ↔ OkE (ma env S) fun w S1 => OkE (mb env S1) fun v S2 => OkV (dctW w) fun kvs => OkV (dkey v) fun k => OkV (dval kvs k) fun d => P (.d d) S2 := by
  rw [wp_dix]
  constructor
  · rintro ⟨r, e, q, e2, kvs, k, d, h1, h2, h3, h4⟩
    exact ⟨r, e, q, e2, kvs, dctW_of.mpr h1, k, h2, d, h3, h4⟩
  · rintro ⟨r, e, q, e2, kvs, h1, k, h2, d, h3, h4⟩
    exact ⟨r, e, q, e2, kvs, k, d, dctW_of.mp h1, h2, h3, h4⟩
theorem y_dget2 : OkE (mDget2 ma mb mc env S) P ↔ OkE (ma env S) fun w S1 => OkE (mb env S1) fun v S2 => OkE (mc env S2) fun u S3 => OkV (dctW w) fun kvs => OkV (datW u) fun x => OkV (dkey v) fun k => P (.d ((dval kvs k).getD x)) S3 := by
  rw [wp_dget2]
  constructor
  · rintro ⟨r, e, q, e2, s, e3, kvs, x, k, h1, h2, h3, h4⟩
    exact ⟨r, e, q, e2, s, e3, kvs, dctW_of.mpr h1, x, datW_of.mpr h2, k, h3, h4⟩
  · rintro ⟨r, e, q, e2, s, e3, kvs, h1, x, h2, k, h3, h4⟩
    exact ⟨r, e, q, e2, s, e3, kvs, x, k, dctW_of.mp h1, datW_of.mp h2, h3, h4⟩
theorem y_maxD {d : Int} : OkE (mMaxD d ma env S) P ↔ OkE (ma env S) fun w S' => OkV (vInts S' w) fun ns => P (.d (.int (maxOr d ns))) S' := wp_maxD
theorem y_enum : OkI (mIEnum ms env S) PI ↔ OkA (ms env S) fun ws S' => OkV (lst1W ws) fun xs => PI (dEnum 0 xs) S' := by
  rw [wp_enum]
  constructor
  · rintro ⟨r, e, j, h1, h2⟩
    exact ⟨r, e, j, lst1W_of.mpr h1, h2⟩
  · rintro ⟨r, e, j, h1, h2⟩
    exact ⟨r, e, j, lst1W_of.mp h1, h2⟩
theorem y_zip : OkI (mIZip ms env S) PI ↔ OkA (ms env S) fun ws S' => OkV (lst2W ws) fun q => PI (dZip q.1 q.2) S' := by
  rw [wp_zip]
  constructor
  · rintro ⟨r, e, j, k, h1, h2⟩
    exact ⟨r, e, (j, k), lst2W_of.mpr h1, h2⟩
  · rintro ⟨r, e, ⟨j, k⟩, h1, h2⟩
    exact ⟨r, e, j, k, lst2W_of.mp h1, h2⟩
theorem y_chain : OkE (mChain g g' ma mb mc env S) P ↔ OkE (ma env S) fun x S1 => OkE (mb env S1) fun y S2 => OkV (g S2 x y) fun v => OkV (blW v) fun z => if z = true then OkE (mc env S2) fun u S3 => OkV (g' S3 y u) fun v => P v S3 else P (.d (.bl false)) S2 := by
  rw [wp_chain]
  have bl_of : ∀ {w : W} {k : Bool}, blW w = some k → w = .d (.bl k) := fun {w k} h => by
    cases w with
    | d x => cases x <;> first | (cases h; rfl) | cases h
    | _ => cases h
  constructor
  · rintro ⟨r, e, q, e2, z, h1, h2⟩
    exact ⟨r, e, q, e2, _, h1, z, rfl, h2⟩
  · rintro ⟨r, e, q, e2, v, h1, z, h2, h3⟩
    exact ⟨r, e, q, e2, z, by rw [h1, bl_of h2], h3⟩
theorem y_mut {g : Store → List W → List W → Option (List W)} : OkS (mMut i ms g env S) PS ↔ OkA (ms env S) fun ws S' => ws.all isArg = true ∧ OkL env[i]? fun w => match w with
    | .own xs => xs.all isArg = true ∧ OkV (g S' xs ws) fun zs => PS .nx (env.set i (some (.own zs))) S'
    | .r n => OkV S'[n]? fun xs => OkV (g S' xs ws) fun zs => PS .nx env (S'.set n zs)
    | _ => False := by
  rw [wp_mut]
  generalize env[i]? = o
  constructor
  · rintro ⟨r, e, h1, h2⟩
    refine ⟨r, e, h1, ?_⟩
    rcases o with _ | _ | w
    · exact h2.elim
    · exact h2.elim
    · refine ⟨w, rfl, ?_⟩
      cases w <;> exact h2
  · rintro ⟨r, e, h1, w, h2, h3⟩
    refine ⟨r, e, h1, ?_⟩
    rw [h2]
    cases w <;> exact h3
theorem y_frz : OkS (mFrz i env S) PS ↔ match env[i]? with
    | some (some (.own xs)) => OkV (asDs xs) fun ds => PS .nx (env.set i (some (.d (.lst ds)))) S
    | _ => PS .nx env S := wp_frzM
theorem gApp_v {xs : List W} {w : W} (h : xs.length < 10000000) : gApp S xs [w] = some (xs ++ [w]) := if_pos h
theorem y_okE {m : Option (W × Store)} {w : W} {S : Store} (e : m = some (w, S)) : OkE m P ↔ P w S := ⟨fun ⟨r, h1, h2⟩ => by rw [e] at h1; cases h1; exact h2, fun h => ⟨_, e, h⟩⟩
theorem v_addLL {xs ys : List D} (h : xs.length + ys.length ≤ 10000000) : gAdd S (.d (.lst xs)) (.d (.lst ys)) = some (.d (.lst (xs ++ ys))) := by
  show (none : Option W).or ((none : Option W).or ((gAddL S (.d (.lst xs)) (.d (.lst ys))).or _)) = _
  unfold gAddL
  rw [vL_lst, vL_lst, Option.bind_some, Option.bind_some, asDs_map, asDs_map, Option.bind_some, Option.bind_some, if_pos (show xs.length + ys.length ≤ cap from h)]
  rfl
theorem v_addTT {xs ys : List D} (h : xs.length + ys.length ≤ 10000000) : gAdd S (.d (.tup xs)) (.d (.tup ys)) = some (.d (.tup (xs ++ ys))) := by
  show (none : Option W).or ((none : Option W).or ((gAddL S (.d (.tup xs)) (.d (.tup ys))).or (gAddT S (.d (.tup xs)) (.d (.tup ys))))) = _
  have e1 : gAddL S (.d (.tup xs)) (.d (.tup ys)) = none := rfl
  have e2 : gAddT S (.d (.tup xs)) (.d (.tup ys)) = some (.d (.tup (xs ++ ys))) := if_pos h
  rw [e1, e2]
  rfl
end

/-! the same with a token behind: what comes next is no place where simp goes -/
inductive Tk {α : Type} (a : α) : Type
  | mk : Tk a
def KE (m : Option (W × Store)) (P : W → Store → Prop) (_ : Tk P) : Prop := OkE m P
def KT (m : Option (Bool × Store)) (P : Bool → Store → Prop) (_ : Tk P) : Prop := OkT m P
def KA (m : Option (List W × Store)) (P : List W → Store → Prop) (_ : Tk P) : Prop := OkA m P
def KI (m : Option (List D × Store)) (P : List D → Store → Prop) (_ : Tk P) : Prop := OkI m P
def KS (m : Option (Fl × En × Store)) (P : Fl → En → Store → Prop) (_ : Tk P) : Prop := OkS m P
def KO (m : Option (Option Int × Store)) (P : Option Int → Store → Prop) (_ : Tk P) : Prop := OkO m P
def KV {α : Type} (m : Option α) (P : α → Prop) (_ : Tk P) : Prop := OkV m P
def KL (m : Option (Option W)) (P : W → Prop) (_ : Tk P) : Prop := OkL m P
theorem k_E {m : Option (W × Store)} {P : W → Store → Prop} : OkE m P ↔ KE m P .mk := Iff.rfl
theorem k_T {m : Option (Bool × Store)} {P : Bool → Store → Prop} : OkT m P ↔ KT m P .mk := Iff.rfl
theorem k_A {m : Option (List W × Store)} {P : List W → Store → Prop} : OkA m P ↔ KA m P .mk := Iff.rfl
theorem k_I {m : Option (List D × Store)} {P : List D → Store → Prop} : OkI m P ↔ KI m P .mk := Iff.rfl
theorem k_S {m : Option (Fl × En × Store)} {P : Fl → En → Store → Prop} : OkS m P ↔ KS m P .mk := Iff.rfl
theorem k_O {m : Option (Option Int × Store)} {P : Option Int → Store → Prop} : OkO m P ↔ KO m P .mk := Iff.rfl
theorem k_V {α : Type} {m : Option α} {P : α → Prop} : OkV m P ↔ KV m P .mk := Iff.rfl
theorem k_L {m : Option (Option W)} {P : W → Prop} : OkL m P ↔ KL m P .mk := Iff.rfl
theorem z_okE {m : Option (W × Store)} {w : W} {S : Store} {P : W → Store → Prop} {u : Tk P} (e : m = some (w, S)) : KE m P u ↔ P w S := y_okE e

section
variable {env : En} {S : Store} {P : W → Store → Prop} {PT : Bool → Store → Prop} {PA : List W → Store → Prop} {PI : List D → Store → Prop} {PO : Option Int → Store → Prop} {PS : Fl → En → Store → Prop} {ma mb mc : ME} {t u : MT} {ms : MA} {a b : MS} {g g' : Op2} {i n : Nat} {d : D} {l h : MO} {mi : MI}
theorem z_d {tk : Tk P} : KE (mD d env S) P tk ↔ P (.d d) S := Zf.wp_d
theorem z_var {tk : Tk P} : KE (mVar i env S) P tk ↔ OkL env[i]? fun w => P (toBor w) S := Kb.y_var
theorem z_bin {tk : Tk P} : KE (mBin g ma mb env S) P tk ↔ OkE (ma env S) fun x S1 => OkE (mb env S1) fun y S2 => OkV (g S2 x y) fun z => P z S2 := Kb.y_bin
theorem z_tst {tk : Tk PT} : KT (mTst ma env S) PT tk ↔ OkE (ma env S) fun w S' => OkV (blW w) fun k => PT k S' := Kb.y_tst
theorem z_andT {tk : Tk PT} : KT (mAndT t u env S) PT tk ↔ OkT (t env S) fun k S' => if k = true then OkT (u env S') PT else PT false S' := Zf.wp_andT
theorem z_orT {tk : Tk PT} : KT (mOrT t u env S) PT tk ↔ OkT (t env S) fun k S' => if k = true then PT true S' else OkT (u env S') PT := Zf.wp_orT
theorem z_notT {tk : Tk PT} : KT (mNotT t env S) PT tk ↔ OkT (t env S) fun k S' => PT (!k) S' := Zf.wp_notT
theorem z_if {tk : Tk P} : KE (mIf t ma mb env S) P tk ↔ OkT (t env S) fun k S' => if k = true then OkE (ma env S') P else OkE (mb env S') P := Zf.wp_if
theorem z_nil {tk : Tk PA} : KA (mNil env S) PA tk ↔ PA [] S := Zf.wp_nil
theorem z_cons {tk : Tk PA} : KA (mCons ma ms env S) PA tk ↔ OkE (ma env S) fun w S1 => OkA (ms env S1) fun ws S2 => PA (w :: ws) S2 := Zf.wp_cons
theorem z_call {m : MF} {tk : Tk P} : KE (mCall m ms env S) P tk ↔ OkA (ms env S) fun ws S1 => ws.all isArg = true ∧ OkE (m ws S1) P := Zf.wp_call
theorem z_cb {f : OpN} {tk : Tk P} : KE (mCB f ms env S) P tk ↔ OkA (ms env S) fun ws S1 => OkV (f S1 ws) fun z => P z S1 := Kb.y_cb
theorem z_seq {tk : Tk PS} : KS (mSeq a b env S) PS tk ↔ OkS (a env S) fun f e S' => match f with
    | .nx => OkS (b e S') PS
    | f => PS f e S' := Zf.wp_seq
theorem z_next {tk : Tk PS} : KS (mNext env S) PS tk ↔ PS .nx env S := Zf.wp_next
theorem z_ifS {tk : Tk PS} : KS (mIfS t a b env S) PS tk ↔ OkT (t env S) fun k S' => if k = true then OkS (a env S') PS else OkS (b env S') PS := Zf.wp_ifS
theorem z_set {tk : Tk PS} : KS (mSet i ma env S) PS tk ↔ OkE (ma env S) fun w S' => (i < env.length ∧ canSet w = true) ∧ PS .nx (env.set i (some w)) S' := Zf.wp_set
theorem z_ret {tk : Tk PS} : KS (mRet ma env S) PS tk ↔ OkE (ma env S) fun w S' => PS (.ret w) env S' := Zf.wp_ret
theorem z_setIx {tk : Tk PS} : KS (mSetIx ma mb mc env S) PS tk ↔ OkE (mc env S) fun w S1 => OkE (ma env S1) fun o S2 => OkE (mb env S2) fun j S3 => OkV (setIx S3 o j w) fun S' => PS .nx env S' := Kb.y_setIx
theorem z_fn {k n : Nat} {as : List W} {tk : Tk P} : KE (mFn k n a as S) P tk ↔ (as.length = k ∧ as.all isArg = true) ∧ OkS (a (as.map some ++ List.replicate (n - k) none) S) fun f _ S' => match f with
    | .nx => P (.d .non) S'
    | .ret w => P (unBor w) S'
    | _ => False := Zf.wp_fn
theorem z_frzE {tk : Tk P} : KE (mFrzE ma env S) P tk ↔ OkE (ma env S) fun w S' => OkV (ownW w) fun xs => OkV (asDs xs) fun ds => P (.d (.lst ds)) S' := Kb.y_frzE
theorem z_pubE {tk : Tk P} : KE (mPubE ma env S) P tk ↔ OkE (ma env S) fun w S' => OkV (ownW w) fun xs => xs.all isArg = true ∧ P (.r S'.length) (S' ++ [xs]) := Kb.y_pubE
theorem z_lst {tk : Tk P} : KE (mLst ms env S) P tk ↔ OkA (ms env S) fun ws S' => OkV (asDs ws) fun xs => xs.length ≤ cap ∧ P (.d (.lst xs)) S' := Kb.y_lst
theorem z_tup {tk : Tk P} : KE (mTup ms env S) P tk ↔ OkA (ms env S) fun ws S' => OkV (asDs ws) fun xs => xs.length ≤ cap ∧ P (.d (.tup xs)) S' := Kb.y_tup
theorem z_lstO {tk : Tk P} : KE (mLstO ms env S) P tk ↔ OkA (ms env S) fun ws S' => (ws.all isArg = true ∧ ws.length ≤ cap) ∧ P (.own ws) S' := Zf.wp_lstO
theorem z_andV {tk : Tk P} : KE (mAndV ma mb env S) P tk ↔ OkE (ma env S) fun w S1 => OkV (blW w) fun k => if k = true then OkE (mb env S1) (fun v S2 => OkV (blW v) fun c => P (.d (.bl c)) S2) else P (.d (.bl false)) S1 := Kb.y_andV
theorem z_orV {tk : Tk P} : KE (mOrV ma mb env S) P tk ↔ OkE (ma env S) fun w S1 => OkV (blW w) fun k => if k = true then P (.d (.bl true)) S1 else OkE (mb env S1) (fun v S2 => OkV (blW v) fun c => P (.d (.bl c)) S2) := Kb.y_orV
theorem z_notV {tk : Tk P} : KE (mNotV ma env S) P tk ↔ OkE (ma env S) fun w S1 => OkV (blW w) fun k => P (.d (.bl (!k))) S1 := Kb.y_notV
theorem z_noPart {tk : Tk PO} : KO (mNoPart env S) PO tk ↔ PO none S := Zf.wp_noPart
theorem z_part {tk : Tk PO} : KO (mPart ma env S) PO tk ↔ OkE (ma env S) fun w S' => OkV (intW w) fun j => PO (some j) S' := Kb.y_part
theorem z_sl {tk : Tk P} : KE (mSl ma l h env S) P tk ↔ OkE (ma env S) fun w S1 => OkO (l env S1) fun lo S2 => OkO (h env S2) fun hi S3 => OkV (gSl S3 w lo hi) fun z => P z S3 := Kb.y_sl
theorem z_par {j : Nat} {tk : Tk PS} : KS (mPar i j ms env S) PS tk ↔ OkA (ms env S) fun ws S' => OkV (pairW ws) fun q => (isArg q.1 = true ∧ isArg q.2 = true ∧ i < env.length ∧ j < env.length) ∧ PS .nx ((env.set i (some q.1)).set j (some q.2)) S' := Kb.y_par
theorem z_unp {is : List Nat} {tk : Tk PS} : KS (mUnp is ms env S) PS tk ↔ OkA (ms env S) fun ws S' => ws.length ≤ cap ∧ OkV (bindAllW is ws env) fun env' => PS .nx env' S' := Kb.y_unp
theorem z_seqI {tk : Tk PI} : KI (mISeq ma env S) PI tk ↔ OkE (ma env S) fun w S' => OkV (seqW w) fun xs => PI xs S' := Kb.y_seqI
theorem z_seqS {tk : Tk PI} : KI (mISeqS ma env S) PI tk ↔ OkE (ma env S) fun w S' => OkV (seqWS w) fun xs => PI xs S' := Kb.y_seqS
theorem z_rng1 {tk : Tk PI} : KI (mIRng1 ms env S) PI tk ↔ OkA (ms env S) fun ws S' => OkV (int1W ws) fun n => (-1000000 < n ∧ n < 1000000) ∧ PI (dRange 0 n.toNat) S' := Kb.y_rng1
theorem z_for {t : Tg} {tk : Tk PS} : KS (mFor mi t a env S) PS tk ↔ OkI (mi env S) fun ds S' => OkS (goFor t a ds env S') PS := Zf.wp_for
theorem z_lc {tg : Tg} {vs : List Nat} {tk : Tk P} : KE (mLc mi tg t ma vs env S) P tk ↔ OkI (mi env S) fun ds S' => OkI (goLc tg t ma (wipeE env vs) ds S' []) fun xs S2 => P (.d (.lst xs)) S2 := Zf.wp_lc
theorem z_yes {tk : Tk PT} : KT (mYes env S) PT tk ↔ PT true S := Zf.wp_yes
theorem z_mutE {mo : ME} {g : Store → List W → List W → Option (List W)} {tk : Tk PS} : KS (mMutE mo ms g env S) PS tk ↔ OkE (mo env S) fun o S1 => ∃ n, o = .r n ∧ OkA (ms env S1) fun ws S' => ws.all isArg = true ∧ OkV S'[n]? fun xs => OkV (g S' xs ws) fun zs => PS .nx env (S'.set n zs) := Kb.y_mutE
theorem z_neg {tk : Tk P} : KE (mNeg ma env S) P tk ↔ OkE (ma env S) fun w S' => OkV (intW w) fun j => P (.d (.int (-j))) S' := Kb.y_neg
theorem z_inK {neg : Bool} {ks : List Str} {tk : Tk P} : KE (mInK neg ks ma env S) P tk ↔ OkE (ma env S) fun w S' => OkV (strW w) fun z => P (.d (.bl (neg != ks.contains z))) S' := Kb.y_inK
theorem z_isiC {T : String} {tk : Tk P} : KE (mIsiC n T ma env S) P tk ↔ OkE (ma env S) fun w S' => asked.contains T = true ∧ OkV (isiV n S' T w) fun k => P (.d (.bl k)) S' := Kb.y_isiC
theorem z_isi2C {T T' : String} {tk : Tk P} : KE (mIsi2C n T T' ma env S) P tk ↔ OkE (ma env S) fun w S' => (asked.contains T = true ∧ asked.contains T' = true) ∧ OkV (isiV n S' T w) fun k => OkV (isiV n S' T' w) fun k' => P (.d (.bl (k || k'))) S' := Kb.y_isi2C
theorem z_star {tk : Tk PA} : KA (mStar ma ms env S) PA tk ↔ OkE (ma env S) fun w S1 => OkV (vSeq S1 w) fun xs => OkA (ms env S1) fun ws S2 => PA (xs.map .d ++ ws) S2 := Kb.y_star
theorem z_dix {tk : Tk P} : KE (mDix ma mb env S) P tk ↔ OkE (ma env S) fun w S1 => OkE (mb env S1) fun v S2 => OkV (dctW w) fun kvs => OkV (dkey v) fun k => OkV (dval kvs k) fun d => P (.d d) S2 := Kb.y_dix
theorem z_dget2 {tk : Tk P} : KE (mDget2 ma mb mc env S) P tk ↔ OkE (ma env S) fun w S1 => OkE (mb env S1) fun v S2 => OkE (mc env S2) fun u S3 => OkV (dctW w) fun kvs => OkV (datW u) fun x => OkV (dkey v) fun k => P (.d ((dval kvs k).getD x)) S3 := Kb.y_dget2
theorem z_maxD {d : Int} {tk : Tk P} : KE (mMaxD d ma env S) P tk ↔ OkE (ma env S) fun w S' => OkV (vInts S' w) fun ns => P (.d (.int (maxOr d ns))) S' := Kb.y_maxD
theorem z_enum {tk : Tk PI} : KI (mIEnum ms env S) PI tk ↔ OkA (ms env S) fun ws S' => OkV (lst1W ws) fun xs => PI (dEnum 0 xs) S' := Kb.y_enum
theorem z_zip {tk : Tk PI} : KI (mIZip ms env S) PI tk ↔ OkA (ms env S) fun ws S' => OkV (lst2W ws) fun q => PI (dZip q.1 q.2) S' := Kb.y_zip
theorem z_chain {tk : Tk P} : KE (mChain g g' ma mb mc env S) P tk ↔ OkE (ma env S) fun x S1 => OkE (mb env S1) fun y S2 => OkV (g S2 x y) fun v => OkV (blW v) fun z => if z = true then OkE (mc env S2) fun u S3 => OkV (g' S3 y u) fun v => P v S3 else P (.d (.bl false)) S2 := Kb.y_chain
theorem z_ofT {tk : Tk P} : KE (mOfT t env S) P tk ↔ OkT (t env S) fun k S' => P (.d (.bl k)) S' := Kb.wp_ofT
theorem z_mut {g : Store → List W → List W → Option (List W)} {tk : Tk PS} : KS (mMut i ms g env S) PS tk ↔ OkA (ms env S) fun ws S' => ws.all isArg = true ∧ OkL env[i]? fun w => match w with
    | .own xs => xs.all isArg = true ∧ OkV (g S' xs ws) fun zs => PS .nx (env.set i (some (.own zs))) S'
    | .r n => OkV S'[n]? fun xs => OkV (g S' xs ws) fun zs => PS .nx env (S'.set n zs)
    | _ => False := Kb.y_mut
theorem z_frz {tk : Tk PS} : KS (mFrz i env S) PS tk ↔ match env[i]? with
    | some (some (.own xs)) => OkV (asDs xs) fun ds => PS .nx (env.set i (some (.d (.lst ds)))) S
    | _ => PS .nx env S := Kb.y_frz
theorem z_drop {tk : Tk PS} : KS (mDrop ma env S) PS tk ↔ OkE (ma env S) fun _ S' => PS .nx env S' := Kb.wp_drop
theorem z_okV_some {α : Type} {z : α} {P : α → Prop} {tk : Tk P} : KV (some z) P tk ↔ P z := okV_some
theorem z_okV_none {α : Type} {P : α → Prop} {tk : Tk P} : KV none P tk ↔ False := okV_none
theorem z_okL_some {w : W} {P : W → Prop} {tk : Tk P} : KL (some (some w)) P tk ↔ P w := okL_some
end
end Kb
local macro_rules | `(tactic| decreasing_with simp only [$ts,*]) => `(tactic| simp -dsimp only [↓Kb.k_E, ↓Kb.k_T, ↓Kb.k_A, ↓Kb.k_I, ↓Kb.k_S, ↓Kb.k_O, ↓Kb.k_V, ↓Kb.k_L, Kb.z_d, Kb.z_var, Kb.z_bin, Kb.z_tst, Kb.z_andT, Kb.z_orT, Kb.z_notT, Kb.z_if, Kb.z_nil, Kb.z_cons, Kb.z_call, Kb.z_cb, Kb.z_seq, Kb.z_next, Kb.z_ifS, Kb.z_set, Kb.z_ret, Kb.z_setIx, Kb.z_fn, Kb.z_frzE, Kb.z_pubE, Kb.z_lst, Kb.z_tup, Kb.z_lstO, Kb.z_andV, Kb.z_orV, Kb.z_notV, Kb.z_noPart, Kb.z_part, Kb.z_sl, Kb.z_par, Kb.z_unp, Kb.z_seqI, Kb.z_seqS, Kb.z_rng1, Kb.z_for, Kb.z_lc, Kb.z_yes, Kb.z_mutE, Kb.z_neg, Kb.z_inK, Kb.z_isiC, Kb.z_isi2C, Kb.z_star, Kb.z_dix, Kb.z_dget2, Kb.z_maxD, Kb.z_enum, Kb.z_zip, Kb.z_chain, Kb.z_ofT, Kb.z_mut, Kb.z_frz, Kb.z_drop, Kb.z_okV_some, Kb.z_okV_none, Kb.z_okL_some,
  Kb.isi_bool_non, Kb.isi_bool_bl, Kb.isi_bool_int, Kb.isi_bool_str, Kb.isi_bool_lst, Kb.isi_bool_tup, Kb.isi_bool_dct, Kb.ask_bool, Kb.isi_int_non, Kb.isi_int_bl, Kb.isi_int_int, Kb.isi_int_str, Kb.isi_int_lst, Kb.isi_int_tup, Kb.isi_int_dct, Kb.ask_int, Kb.isi_str_non, Kb.isi_str_bl, Kb.isi_str_int, Kb.isi_str_str, Kb.isi_str_lst, Kb.isi_str_tup, Kb.isi_str_dct, Kb.ask_str, Kb.isi_list_non, Kb.isi_list_bl, Kb.isi_list_int, Kb.isi_list_str, Kb.isi_list_lst, Kb.isi_list_tup, Kb.isi_list_dct, Kb.ask_list, Kb.isi_tuple_non, Kb.isi_tuple_bl, Kb.isi_tuple_int, Kb.isi_tuple_str, Kb.isi_tuple_lst, Kb.isi_tuple_tup, Kb.isi_tuple_dct, Kb.ask_tuple, Kb.isi_dict_non, Kb.isi_dict_bl, Kb.isi_dict_int, Kb.isi_dict_str, Kb.isi_dict_lst, Kb.isi_dict_tup, Kb.isi_dict_dct, Kb.ask_dict, Zf.v_int, Zf.v_addI, Zf.v_ltI, Zf.v_leI, Zf.v_gtI, Zf.v_geI, Kb.v_eqAI, Kb.v_eqAS, Zf.v_eqI, Zf.v_neI, Zf.v_eqS, Zf.v_neS, Zf.v_int1, Zf.v_int1b, Zf.v_abs, Zf.v_lenL, Zf.v_lenT, Zf.v_lenB, Zf.v_listL, Zf.v_listT, Kb.v_tupL, Kb.v_tupT, Kb.v_allB, Kb.v_isNon, Kb.v_notNon, Zf.toBor_d, Zf.toBor_r, Zf.toBor_own, Zf.unBor_d, Zf.unBor_r, Zf.unBor_bor, Zf.unBor_own, Zf.isArg_d, Zf.isArg_r, Zf.canSet_d, Zf.canSet_r, Zf.canSet_own, Kb.blW_bl, Kb.seqW_l, Kb.seqW_t, Kb.seqWS_l, Kb.seqWS_t, Kb.seqWS_s, Kb.ixt0, Kb.ixt1, Kb.ixt2, Kb.ixt3, Kb.asDs_nil, Kb.asDs_cons, Zf.asDs_map, Kb.intW_i, Kb.strW_s, Kb.ownW_o, Kb.int1W_i, Kb.lst1W_l, Kb.lst2W_l, Kb.dctW_d, Kb.datW_d, Kb.pairW_p, Kb.v_subI, Zf.cap,
  Option.some.injEq, exists_eq_left', exists_eq_left, List.getElem?_cons_zero, List.getElem?_cons_succ, List.length_cons, List.length_nil, List.length_map, List.map_cons, List.map_nil, List.all_cons, List.all_nil, Bool.and_true, Bool.true_and, and_self, true_and, and_true, List.cons_append, List.nil_append, List.replicate, Nat.reduceSub, Nat.reduceLT, Nat.reduceAdd, List.set_cons_zero, List.set_cons_succ, Zf.W.d.injEq, Zf.D.bl.injEq, Zf.D.int.injEq, Zf.D.str.injEq, if_true, if_false, Bool.not_true, Bool.not_false, Bool.false_eq_true, decide_true, decide_false, reduceCtorEq, Bool.or_true, Bool.or_false, Bool.true_or, Bool.false_or, Option.map_some, Option.bind_some, exists_false, exists_const, Kb.wipe0, Kb.wipe1, Int.reduceLT, Int.reduceLE, Int.reduceAdd, Int.reduceSub, Int.reduceNeg, decide_eq_true_eq, Bool.not_eq_true', decide_eq_false_iff_not, ↓reduceIte, Nat.reduceLeDiff, List.all_map, List.append_nil, $ts,*])
set_option Elab.async false
set_option linter.all false
set_option maxRecDepth 100000
set_option maxHeartbeats 1000000
namespace Kb
open PySem PySem.Spec PyProof.Rows L2 Zf
def sds (as : List Str) : List D := as.map .str
def SOk (s : Str) : Prop := s.length ≤ 12 ∧ PyData.strOk s = true
theorem sds_len (a : List Str) : (sds a).length = a.length := by
  unfold sds
  rw [List.length_map]
def ownS (as : List Str) : W := .own ((sds as).map .d)
theorem asStrs_sds : ∀ as : List Str, asStrs (sds as) = some as
  | [] => rfl
  | a :: as => by
    show asStrs (.str a :: sds as) = _
    unfold asStrs
    rw [asStrs_sds as]
    rfl
def nameSet (as : List Str) : List Str := Ts.sort (Ts.got as.reverse)
theorem strsW_eq (as : List Str) : strsW as = (sds as).map .d := by
  unfold strsW sds
  rw [List.map_map]
  rfl
theorem letter {S : Store} : ∀ k : Nat, k < 26 → ∃ s : Str, gIx S (.d (.str "abcdefghijklmnopqrstuvwxyz")) (.d (.int (k : Int))) = some (.d (.str s)) ∧ SO 1 s
  | 0, _ => ⟨_, rfl, by decide +kernel, by decide +kernel⟩ | 1, _ => ⟨_, rfl, by decide +kernel, by decide +kernel⟩ | 2, _ => ⟨_, rfl, by decide +kernel, by decide +kernel⟩ | 3, _ => ⟨_, rfl, by decide +kernel, by decide +kernel⟩ | 4, _ => ⟨_, rfl, by decide +kernel, by decide +kernel⟩ | 5, _ => ⟨_, rfl, by decide +kernel, by decide +kernel⟩ | 6, _ => ⟨_, rfl, by decide +kernel, by decide +kernel⟩ | 7, _ => ⟨_, rfl, by decide +kernel, by decide +kernel⟩ | 8, _ => ⟨_, rfl, by decide +kernel, by decide +kernel⟩
  | 9, _ => ⟨_, rfl, by decide +kernel, by decide +kernel⟩ | 10, _ => ⟨_, rfl, by decide +kernel, by decide +kernel⟩ | 11, _ => ⟨_, rfl, by decide +kernel, by decide +kernel⟩ | 12, _ => ⟨_, rfl, by decide +kernel, by decide +kernel⟩ | 13, _ => ⟨_, rfl, by decide +kernel, by decide +kernel⟩ | 14, _ => ⟨_, rfl, by decide +kernel, by decide +kernel⟩ | 15, _ => ⟨_, rfl, by decide +kernel, by decide +kernel⟩ | 16, _ => ⟨_, rfl, by decide +kernel, by decide +kernel⟩ | 17, _ => ⟨_, rfl, by decide +kernel, by decide +kernel⟩
  | 18, _ => ⟨_, rfl, by decide +kernel, by decide +kernel⟩ | 19, _ => ⟨_, rfl, by decide +kernel, by decide +kernel⟩ | 20, _ => ⟨_, rfl, by decide +kernel, by decide +kernel⟩ | 21, _ => ⟨_, rfl, by decide +kernel, by decide +kernel⟩ | 22, _ => ⟨_, rfl, by decide +kernel, by decide +kernel⟩ | 23, _ => ⟨_, rfl, by decide +kernel, by decide +kernel⟩ | 24, _ => ⟨_, rfl, by decide +kernel, by decide +kernel⟩ | 25, _ => ⟨_, rfl, by decide +kernel, by decide +kernel⟩
  | k + 26, h => absurd h (by omega)
def nWords : List Str := ["a", "aa", "ab", "b", "do", "fail", "last", "put", "x", "y", "z", "zzzzzzzz"]
theorem nWords_ok : ∀ w ∈ nWords, SO 8 w := by
  intro w hw
  simp only [nWords, List.mem_cons, List.not_mem_nil, or_false] at hw
  rcases hw with h | h | h | h | h | h | h | h | h | h | h | h <;> rw [h] <;> exact ⟨by decide +kernel, by decide +kernel⟩
theorem v_sortL {S : Store} {as : List Str} (h : as.length ≤ cap) : g1 gSorted S [.d (.lst (sds as))] = some (ownS (Ts.sort as)) := by
  have e : vStrs S (.d (.lst (sds as))) = some as := by
    unfold vStrs
    simp only [vL, Option.bind_some, asDs_map, asStrs_sds]
  show gSorted S (.d (.lst (sds as))) = _
  unfold gSorted
  dsimp only
  rw [e, Option.bind_some, if_pos h, strsW_eq]
  rfl
def nmA : ME := (mFrzE (mCB (g1 gSorted) (mCons (mSl (mBin gAdd (mSl (mVar 2) (mPart (mBin (gInt (fun _ j => decide (0 < j)) fun i j => .int (i % j)) (mCB (g1 gInt1) (mCons (mVar 4) mNil)) (mD (.int 12)))) mNoPart) (mSl (mVar 2) mNoPart (mPart (mBin (gInt (fun _ j => decide (0 < j)) fun i j => .int (i % j)) (mCB (g1 gInt1) (mCons (mVar 4) mNil)) (mD (.int 12)))))) mNoPart (mPart (mVar 1))) mNil)))
theorem modE {S : Store} {env : En} {i : Nat} {v k : Int} (h : env[i]? = some (some (.d (.int v)))) (hk : 0 < k) : mBin (gInt (fun _ j => decide (0 < j)) fun i j => .int (i % j)) (mCB (g1 gInt1) (mCons (mVar i) mNil)) (mD (.int k)) env S = some (.d (.int (v % k)), S) := by
  refine eqE ?_
  simp only [wp_bin, wp_cb, wp_cons, wp_nil, wp_var, wp_d]
  refine ⟨_, h, _, v_int1, _, ?_, rfl, trivial⟩
  rw [v_int, if_pos (decide_eq_true hk)]
theorem nmA_ok {S : Store} {a o5 o6 : Option W} {k : Nat} {way turn : Int} (ht : 0 ≤ turn) (hk : k ≤ 12) : ∃ ns : List Str, nmA [a, some (.d (.int (k : Int))), some (.d (.lst (sds nWords))), some (.d (.int way)), some (.d (.int turn)), o5, o6] S = some (.d (.lst (sds ns)), S) ∧ ns.length = k ∧ ∀ n ∈ ns, SOk n := by
  obtain ⟨t, ht'⟩ : ∃ t : Nat, turn % 12 = (t : Int) := ⟨(turn % 12).toNat, (Int.toNat_of_nonneg (Int.emod_nonneg _ (by decide))).symm⟩
  have tl : t < 12 := by
    have := Int.emod_lt_of_pos turn (show (0 : Int) < 12 by decide)
    omega
  refine ⟨Ts.sort ((nWords.drop t ++ nWords.take t).take k), ?_, ?_, ?_⟩
  · refine eqE ?_
    unfold nmA
    rw [wp_frzE, wp_cb, wp_cons]
    simp only [wp_sl, wp_bin, wp_var, wp_noPart, wp_part, wp_nil, wp_cb, wp_cons, wp_d]
    have hm : (gInt (fun _ j => decide (0 < j)) fun i j => D.int (i % j)) S (.d (.int turn)) (.d (.int 12)) = some (.d (.int (t : Int))) := by
      rw [v_int, if_pos (by decide), ht']
    refine ⟨_, rfl, _, rfl, _, v_int1, _, hm, _, rfl, _, slLFrom, _, rfl, _, rfl, _, v_int1, _, hm, _, rfl, _, slLTo, _, v_addLL ?_, _, rfl, _, rfl, _, slLTo, ?_⟩
    · rw [List.length_drop, List.length_take, sds_len]
      show (12 - t) + min t 12 ≤ cap
      unfold cap
      omega
    · have e : (List.drop t (sds nWords) ++ List.take t (sds nWords)).take k = sds ((nWords.drop t ++ nWords.take t).take k) := by
        unfold sds
        rw [← List.map_drop, ← List.map_take, ← List.map_append, ← List.map_take]
      rw [e]
      refine ⟨_, v_sortL ?_, _, _, rfl, asDs_map _, rfl, trivial⟩
      rw [List.length_take]
      unfold cap
      omega
  · rw [(Ts.sort_perm _).length_eq, List.length_take, List.length_append, List.length_drop, List.length_take]
    show min k (12 - t + min t 12) = k
    omega
  · intro n hn
    have h1 := (Ts.sort_perm _).mem_iff.mp hn
    have h2 := List.mem_of_mem_take h1
    refine ⟨?_, ?_⟩
    · rcases List.mem_append.mp h2 with h | h
      · exact Nat.le_trans (nWords_ok n (List.mem_of_mem_drop h)).1 (by decide)
      · exact Nat.le_trans (nWords_ok n (List.mem_of_mem_take h)).1 (by decide)
    · rcases List.mem_append.mp h2 with h | h
      · exact (nWords_ok n (List.mem_of_mem_drop h)).2
      · exact (nWords_ok n (List.mem_of_mem_take h)).2
def nmB : ME := (mFrzE (mCB (g1 gSorted) (mCons (mLc (mIRng1 (mCons (mVar 1) mNil)) (.nm 6) mYes (mBin gAdd (mBin gIx (mLst (mCons (mD (.str "")) (mCons (mD (.str "n")) mNil))) (mBin (gInt (fun _ _ => true) fun i j => .int (i - j)) (mVar 3) (mD (.int 1)))) (mBin gIx (mVar 5) (mBin (gInt (fun _ j => decide (0 < j)) fun i j => .int (i % j)) (mCB (g1 gInt1) (mCons (mBin gAdd (mVar 4) (mBin gMulT (mD (.int 5)) (mVar 6))) mNil)) (mD (.int 26))))) [6]) mNil)))
theorem nmEl {S : Store} {a b c : Option W} {way turn : Int} (hw : way = 1 ∨ way = 2) (ht : 0 ≤ turn) {j : Nat} : ∃ s : Str, (mBin gAdd (mBin gIx (mLst (mCons (mD (.str "")) (mCons (mD (.str "n")) mNil))) (mBin (gInt (fun _ _ => true) fun i j => .int (i - j)) (mVar 3) (mD (.int 1)))) (mBin gIx (mVar 5) (mBin (gInt (fun _ j => decide (0 < j)) fun i j => .int (i % j)) (mCB (g1 gInt1) (mCons (mBin gAdd (mVar 4) (mBin gMulT (mD (.int 5)) (mVar 6))) mNil)) (mD (.int 26))))) ([a, b, c, some (.d (.int way)), some (.d (.int turn)), some (.d (.str "abcdefghijklmnopqrstuvwxyz")), none].set 6 (some (.d (.int (j : Int))))) S = some (.d (.str s), S) ∧ SO 2 s := by
  obtain ⟨s, hs, hl⟩ := letter (S := S) ((turn + 5 * (j : Int)) % 26).toNat (by
    have := Int.emod_lt_of_pos (turn + 5 * (j : Int)) (show (0 : Int) < 26 by decide)
    have := Int.emod_nonneg (turn + 5 * (j : Int)) (show (26 : Int) ≠ 0 by decide)
    omega)
  rw [Int.toNat_of_nonneg (Int.emod_nonneg _ (by decide))] at hs
  have hmul : gMulT S (.d (.int 5)) (.d (.int (j : Int))) = some (.d (.int (5 * (j : Int)))) := v_mulT (by simp [cMul])
  have hm : (gInt (fun _ j => decide (0 < j)) fun i j => D.int (i % j)) S (.d (.int (turn + 5 * (j : Int)))) (.d (.int 26)) = some (.d (.int ((turn + 5 * (j : Int)) % 26))) := by
    rw [v_int, if_pos (by decide)]
  obtain ⟨p, hp, hpl⟩ : ∃ p : Str, gIx S (.d (.lst [.str "", .str "n"])) (.d (.int (way - 1))) = some (.d (.str p)) ∧ SO 1 p := by
    rcases hw with h | h <;> rw [h]
    · exact ⟨"", v_ixL (k := 0) rfl, by decide +kernel, by decide +kernel⟩
    · exact ⟨"n", v_ixL (k := 1) rfl, by decide +kernel, by decide +kernel⟩
  refine ⟨p ++ s, ?_, hpl.app hl⟩
  refine eqE ?_
  simp only [wp_bin, wp_lst, wp_cons, wp_nil, wp_d, wp_var, wp_cb]
  refine ⟨_, rfl, ?_, _, rfl, _, rfl, _, hp, _, rfl, _, rfl, _, rfl, _, hmul, _, v_addI, _, v_int1, _, hm, _, hs, _, v_addS ?_, rfl, trivial⟩
  · exact show 2 ≤ cap from by decide
  · have := hl.1
    have := hpl.1
    unfold cap
    omega
theorem nmB_ok {S : Store} {a o2 o6 : Option W} {k : Nat} {way turn : Int} (ht : 0 ≤ turn) (hw : way = 1 ∨ way = 2) (hk : k ≤ 12) : ∃ ns : List Str, nmB [a, some (.d (.int (k : Int))), o2, some (.d (.int way)), some (.d (.int turn)), some (.d (.str "abcdefghijklmnopqrstuvwxyz")), o6] S = some (.d (.lst (sds ns)), S) ∧ ns.length = k ∧ ∀ n ∈ ns, SOk n := by
  let g : Nat → Str := fun j => (nmEl (S := S) (a := a) (b := some (.d (.int (k : Int)))) (c := o2) (turn := turn) hw ht (j := j)).choose
  have hg : ∀ j, SO 2 (g j) := fun j => (nmEl (S := S) (a := a) (b := some (.d (.int (k : Int)))) (c := o2) (turn := turn) hw ht (j := j)).choose_spec.2
  refine ⟨Ts.sort ((List.range k).map g), ?_, ?_, ?_⟩
  · refine eqE ?_
    unfold nmB
    rw [wp_frzE, wp_cb, wp_cons, wp_lc, wp_rng1]
    simp only [wp_cons, wp_nil, wp_var]
    refine ⟨_, rfl, _, rfl, ⟨by omega, by omega⟩, ?_⟩
    rw [show ((k : Int)).toNat = k from Int.toNat_natCast k]
    refine okI_eq (lcMap (e := fun (i : Nat) => D.int (0 + (i : Int))) (f := fun j => D.str (g j)) (todo := List.range k) (acc := []) (i := 6) ?_ ?_ ?_) ?_
    · exact show 6 < 7 from by decide
    · rw [List.length_nil, List.length_range]; unfold cap; omega
    · intro j hj
      rw [Int.zero_add]
      exact (nmEl (S := S) (a := a) (b := some (.d (.int (k : Int)))) (c := o2) (turn := turn) hw ht (j := j)).choose_spec.1
    · have e : (List.range k).map (fun j => D.str (g j)) = sds ((List.range k).map g) := by
        unfold sds
        rw [List.map_map]
        rfl
      rw [List.nil_append, e]
      refine ⟨_, v_sortL ?_, _, _, rfl, asDs_map _, rfl, rfl⟩
      rw [List.length_map, List.length_range]
      unfold cap
      omega
  · rw [(Ts.sort_perm _).length_eq, List.length_map, List.length_range]
  · intro n hn
    have h1 := (Ts.sort_perm _).mem_iff.mp hn
    obtain ⟨j, _, rfl⟩ := List.mem_map.mp h1
    exact (hg j).le (by decide)
def namesM : MF := mFn 2 7 (mSeq (mSet 2 (mLst (mCons (mD (.str "a")) (mCons (mD (.str "aa")) (mCons (mD (.str "ab")) (mCons (mD (.str "b")) (mCons (mD (.str "do")) (mCons (mD (.str "fail")) (mCons (mD (.str "last")) (mCons (mD (.str "put")) (mCons (mD (.str "x")) (mCons (mD (.str "y")) (mCons (mD (.str "z")) (mCons (mD (.str "zzzzzzzz")) mNil)))))))))))))) (mSeq (mUnp [3, 4] (mCons (mCall takeM (mCons (mVar 0) (mCons (mD (.int 3)) mNil))) (mCons (mCall takeM (mCons (mVar 0) (mCons (mD (.int 26)) mNil))) mNil))) (mSeq (mIfS (mTst (mBin gEqA (mVar 3) (mD (.int 0)))) (mRet nmA) mNext) (mSeq (mSet 5 (mD (.str "abcdefghijklmnopqrstuvwxyz"))) (mRet nmB)))))
theorem names_ok {S : Store} {b k : Nat} (B : Bag S b) (hk : k ≤ 12) {P : W → Store → Prop} (q : ∀ (ns : List Str) (S' : Store), ns.length = k → (∀ n ∈ ns, SOk n) → Fr b S S' → P (.d (.lst (sds ns))) S') : OkE (namesM [.r b, .d (.int (k : Int))] S) P := by
  unfold namesM
  rw [wp_fn]
  refine ⟨⟨rfl, rfl⟩, ?_⟩
  simp only [wp_seq, wp_set, wp_unp, wp_cons, wp_nil, wp_call, wp_var, wp_d, wp_lst]
  refine ⟨_, rfl, by exact (show 12 ≤ cap by decide), ⟨show 2 < 7 from by decide, rfl⟩, _, rfl, rfl, ?_⟩
  refine take' B (by decide) (by decide) fun way S1 w0 w1 f1 => ?_
  refine ⟨_, rfl, rfl, take' f1.bag (by decide) (by decide) fun turn S2 t0 t1 f2 => ?_⟩
  refine ⟨by exact (show 2 ≤ cap by decide), _, rfl, ?_⟩
  rw [wp_ifS, wp_tst]
  simp only [wp_bin, wp_var, wp_d]
  refine ⟨_, rfl, _, v_eqAI, _, rfl, ?_⟩
  by_cases h : way = 0
  · rw [if_pos (decide_eq_true h), wp_ret]
    obtain ⟨ns, e, h1, h2⟩ := nmA_ok (S := S2) (a := some (.r b)) (o5 := none) (o6 := none) (way := way) t0 hk
    exact okE_eq e (q ns S2 h1 h2 (f1.trans f2))
  · rw [if_neg (by rw [decide_eq_false h]; exact Bool.false_ne_true), wp_next]
    dsimp only
    refine ⟨⟨show 5 < 7 from by decide, rfl⟩, ?_⟩
    rw [wp_ret]
    obtain ⟨ns, e, h1, h2⟩ := nmB_ok (S := S2) (a := some (.r b)) (o2 := some (.d (.lst (sds nWords)))) (o6 := none) (way := way) t0 (by omega) hk
    exact okE_eq e (q ns S2 h1 h2 (f1.trans f2))

/-! texts cut, members picked -/
theorem strOk_sub {x y : Str} (h : ∀ c ∈ y.cps.toList, c ∈ x.cps.toList) (hx : PyData.strOk x = true) : PyData.strOk y = true := by
  have h1 : x.cps.all (fun c => decide (c < 0x110000)) = true := hx
  show y.cps.all (fun c => decide (c < 0x110000)) = true
  rw [← Array.all_toList, List.all_eq_true] at h1 ⊢
  exact fun c hc => h1 c (h c hc)
theorem SO.cut {k : Nat} {x : Str} (h : SO k x) (lo hi : Option Int) : SO k (cutS x lo hi) := by
  refine ⟨Nat.le_trans (cutS_length x lo hi) h.1, strOk_sub (fun c hc => ?_) h.2⟩
  exact List.mem_of_mem_drop (List.mem_of_mem_take (by simpa [cutS] using hc))
theorem v_slS {S : Store} {x : Str} {lo hi : Option Int} (h : x.length ≤ 10000000) : gSl S (.d (.str x)) lo hi = some (.d (.str (cutS x lo hi))) := if_pos h
theorem v_slL {S : Store} {xs : List D} {lo hi : Option Int} : gSl S (.d (.lst xs)) lo hi = some (.d (.lst (cutA xs lo hi))) := by
  show ((vL S (.d (.lst xs))).bind asDs).map _ = _
  simp only [vL, Option.bind_some, asDs_map, Option.map_some]
theorem v_slT {S : Store} {xs : List D} {lo hi : Option Int} : gSl S (.d (.tup xs)) lo hi = some (.d (.tup (cutA xs lo hi))) := rfl
theorem cutA_mem {xs : List D} {lo hi : Option Int} {y : D} (h : y ∈ cutA xs lo hi) : y ∈ xs := List.mem_of_mem_drop (List.mem_of_mem_take h)
theorem cutA_len {xs : List D} {lo hi : Option Int} : (cutA xs lo hi).length ≤ xs.length := by
  unfold cutA
  rw [List.length_take, List.length_drop]
  omega
theorem pick {S : Store} {ds : List D} {v : Int} (v0 : 0 ≤ v) (v1 : v < ds.length) : ∃ d ∈ ds, gIx S (.d (.lst ds)) (.d (.int v)) = some (.d d) := by
  have e : ds[v.toNat]? = some ds[v.toNat] := List.getElem?_eq_getElem (by omega)
  have g := v_ixL (S := S) e
  rw [Int.toNat_of_nonneg v0] at g
  exact ⟨_, List.getElem_mem _, g⟩
theorem v_addSS {S : Store} {i j : Str} (h : i.length + j.length ≤ 10000000) : gAdd S (.d (.str i)) (.d (.str j)) = some (.d (.str (i ++ j))) := v_addS h
end Kb
set_option linter.all false
set_option maxRecDepth 100000
namespace L11
open PySem PySem.Spec PyProof.Rows L2 Zf
/-- the kinds of data that k11's things have -/
def tyOf : D → Option String
  | .non => some "NoneType"
  | .bl _ => some "bool"
  | .int _ => some "int"
  | .str _ => some "str"
  | .lst _ => some "list"
  | .tup _ => some "tuple"
  | .dct _ => some "dict"
  | _ => none
theorem wp_isi (T : String) (i : Nat) (env : En) (S : Store) (x : D) (t : String) (he : env[i]? = some (some (.d x))) (ht : tyOf x = some t) (hT : asked.contains T = true) : mIsiC 1 T (mVar i) env S = some (.d (.bl (isTy t T)), S) := by
  have e : mVar i env S = some (.d x, S) := by
    unfold mVar
    rw [he]
    rfl
  unfold mIsiC
  rw [e]
  simp only [Option.bind_some, if_pos hT]
  cases x <;> first | (cases ht; rfl) | (cases ht)
def isInt : D → Bool
  | .int _ => true
  | _ => false
theorem v_is_integer (x : D) (t : String) (ht : tyOf x = some t) (S : Store) : m_is_integer [.d x] S = some (.d (.bl (isInt x)), S) := by
  cases x <;> first | (cases ht; rfl) | (cases ht)
end L11
set_option linter.all false
set_option maxRecDepth 100000
namespace L11
open PySem PySem.Spec PyProof.Rows L2 Zf
theorem eqF_str (a b : Str) : eqF (.str a) (.str b) = (a == b) := rfl
theorem flat_strs (ss : List Str) : (ss.map D.str).all flatD = true := by
  induction ss with
  | nil => rfl
  | cons a r ih => rw [List.map_cons, List.all_cons, ih]; rfl
theorem any_strs (ss : List Str) (x : Str) : ((ss.map D.str).any fun z => eqF z (.str x)) = ss.any (· == x) := by
  induction ss with
  | nil => rfl
  | cons a r ih => rw [List.map_cons, List.any_cons, List.any_cons, ih, eqF_str]
/-- a text in a tuple of texts -/
theorem in_strs (S : Store) (ss : List Str) (x : Str) : gInA S (.d (.str x)) (.d (.tup (ss.map D.str))) = some (.d (.bl (ss.any (· == x)))) := by
  have e : gIn false S (.d (.str x)) (.d (.tup (ss.map D.str))) = some (.d (.bl (ss.any (· == x)))) := by
    show ((vSeq S (.d (.tup (ss.map D.str)))).bind fun ys => if flatD (.str x) = true ∧ ys.all flatD = true then some (W.d (.bl (false != ys.any fun z => eqF z (.str x)))) else none) = _
    rw [show vSeq S (.d (.tup (ss.map D.str))) = some (ss.map D.str) from rfl, Option.bind_some, if_pos ⟨rfl, flat_strs ss⟩, any_strs]
    simp
  show (gIn false S _ _).or _ = _
  rw [e]
  rfl
def isOne (ss : List Str) : D → Bool
  | .str x => ss.any (· == x)
  | _ => false
theorem v_is_use (x : D) (t : String) (ht : tyOf x = some t) (S : Store) : m_is_use [.d x] S = some (.d (.bl (isOne ["look", "put"] x)), S) := by
  cases x with
  | str y =>
    have e := in_strs S ["look", "put"] y
    unfold m_is_use mFn
    rw [if_pos ⟨rfl, rfl⟩]
    show (mRet _ [some (.d (.str y))] S).bind _ = _
    have e2 : mBin gInA (mVar 0) (mD (.tup ((["look", "put"] : List Str).map .str))) [some (.d (.str y))] S = some (.d (.bl (isOne ["look", "put"] (.str y))), S) := by
      unfold mBin
      rw [show mVar 0 [some (.d (.str y))] S = some (.d (.str y), S) from rfl, Option.bind_some]
      rw [show mD (.tup ((["look", "put"] : List Str).map .str)) [some (.d (.str y))] S = some (.d (.tup ((["look", "put"] : List Str).map .str)), S) from rfl, Option.bind_some]
      rw [e]
      rfl
    unfold mRet mAndV
    rw [show mIsiC 1 "str" (mVar 0) [some (.d (.str y))] S = some (.d (.bl true), S) from rfl]
    first
      | (simp only [Option.bind_some, Option.map_some, e2]; rfl)
      | (simp [e2]; rfl)
  | non => cases ht; rfl
  | bl _ => cases ht; rfl
  | int _ => cases ht; rfl
  | lst _ => cases ht; rfl
  | tup _ => cases ht; rfl
  | dct _ => cases ht; rfl
  | _ => cases ht
end L11
set_option linter.all false
set_option maxRecDepth 100000
namespace L11
open PySem PySem.Spec PyProof.Rows L2 Zf
theorem v_is_way (x : D) (t : String) (ht : tyOf x = some t) (S : Store) : m_is_way [.d x] S = some (.d (.bl (isOne ["again", "answer", "end", "fail", "leave", "shut"] x)), S) := by
  cases x with
  | str y =>
    have e := in_strs S ["again", "answer", "end", "fail", "leave", "shut"] y
    unfold m_is_way mFn
    rw [if_pos ⟨rfl, rfl⟩]
    show (mRet _ [some (.d (.str y))] S).bind _ = _
    have e2 : mBin gInA (mVar 0) (mD (.tup ((["again", "answer", "end", "fail", "leave", "shut"] : List Str).map .str))) [some (.d (.str y))] S = some (.d (.bl (isOne ["again", "answer", "end", "fail", "leave", "shut"] (.str y))), S) := by
      unfold mBin
      rw [show mVar 0 [some (.d (.str y))] S = some (.d (.str y), S) from rfl, Option.bind_some]
      rw [show mD (.tup ((["again", "answer", "end", "fail", "leave", "shut"] : List Str).map .str)) [some (.d (.str y))] S = some (.d (.tup ((["again", "answer", "end", "fail", "leave", "shut"] : List Str).map .str)), S) from rfl, Option.bind_some]
      rw [e]
      rfl
    unfold mRet mAndV
    rw [show mIsiC 1 "str" (mVar 0) [some (.d (.str y))] S = some (.d (.bl true), S) from rfl]
    first
      | (simp only [Option.bind_some, Option.map_some, e2]; rfl)
      | (simp [e2]; rfl)
  | non => cases ht; rfl
  | bl _ => cases ht; rfl
  | int _ => cases ht; rfl
  | lst _ => cases ht; rfl
  | tup _ => cases ht; rfl
  | dct _ => cases ht; rfl
  | _ => cases ht
theorem v_is_handing (x : D) (t : String) (ht : tyOf x = some t) (S : Store) : m_is_handing [.d x] S = some (.d (.bl (isOne ["none", "value", "state"] x)), S) := by
  cases x with
  | str y =>
    have e := in_strs S ["none", "value", "state"] y
    unfold m_is_handing mFn
    rw [if_pos ⟨rfl, rfl⟩]
    show (mRet _ [some (.d (.str y))] S).bind _ = _
    have e2 : mBin gInA (mVar 0) (mD (.tup ((["none", "value", "state"] : List Str).map .str))) [some (.d (.str y))] S = some (.d (.bl (isOne ["none", "value", "state"] (.str y))), S) := by
      unfold mBin
      rw [show mVar 0 [some (.d (.str y))] S = some (.d (.str y), S) from rfl, Option.bind_some]
      rw [show mD (.tup ((["none", "value", "state"] : List Str).map .str)) [some (.d (.str y))] S = some (.d (.tup ((["none", "value", "state"] : List Str).map .str)), S) from rfl, Option.bind_some]
      rw [e]
      rfl
    unfold mRet mAndV
    rw [show mIsiC 1 "str" (mVar 0) [some (.d (.str y))] S = some (.d (.bl true), S) from rfl]
    first
      | (simp only [Option.bind_some, Option.map_some, e2]; rfl)
      | (simp [e2]; rfl)
  | non => cases ht; rfl
  | bl _ => cases ht; rfl
  | int _ => cases ht; rfl
  | lst _ => cases ht; rfl
  | tup _ => cases ht; rfl
  | dct _ => cases ht; rfl
  | _ => cases ht
/-- a word -/
def wordB (x : Str) : Bool := decide (1 ≤ x.cps.size) && (decide (x.cps.size ≤ 8) && x.cps.toList.all fun c => decide (97 ≤ c) && decide (c ≤ 122))
theorem letters_mem (c : Nat) : decide (c ∈ ("abcdefghijklmnopqrstuvwxyz" : Str).cps.toList) = (decide (97 ≤ c) && decide (c ≤ 122)) := by
  have e : ("abcdefghijklmnopqrstuvwxyz" : Str).cps.toList = List.range' 97 26 := by decide +kernel
  rw [e, ← Bool.decide_and]
  refine decide_eq_decide.mpr ?_
  rw [List.mem_range'_1]
  omega
end L11
set_option linter.all false
set_option maxRecDepth 100000
namespace L11
open PySem PySem.Spec PyProof.Rows L2 Zf Kb
/-- data of kinds that k11 has; texts are short -/
def ok1 : D → Bool
  | .non => true
  | .bl _ => true
  | .int _ => true
  | .str y => decide (y.length ≤ 1000)
  | .lst _ => true
  | .tup _ => true
  | .dct _ => true
  | _ => false
theorem ok1_ty {x : D} (h : ok1 x = true) : ∃ t, tyOf x = some t := by
  cases x <;> first | exact ⟨_, rfl⟩ | cases h
def isWord : D → Bool
  | .str y => wordB y
  | _ => false
theorem size_eq (y : Str) : y.length = y.cps.size := rfl
theorem signIn {S : Store} {c : Nat} : gInA S (.d (.str ⟨#[c]⟩)) (.d (.str "abcdefghijklmnopqrstuvwxyz")) = some (.d (.bl (decide (97 ≤ c) && decide (c ≤ 122)))) := by
  rw [← letters_mem]
  show (none : Option W).or (some (W.d (.bl (false != decide _)))) = _
  simp
theorem all_signs (y : Str) (t : Nat → Bool) (f : D → D) (h : ∀ c, f (.str ⟨#[c]⟩) = .bl (t c)) : (Zf.signs y).map f = (y.cps.toList.map t).map .bl := by
  unfold Zf.signs
  rw [List.map_map, List.map_map]
  exact List.map_congr_left fun c _ => h c
theorem signs_len (y : Str) : (Zf.signs y).length = y.length := by
  unfold Zf.signs
  rw [List.length_map]
  rfl
def sgn : D → Nat
  | .str y => y.cps.getD 0 0
  | _ => 0
theorem v_is_name (x : D) (hx : ok1 x = true) (S : Store) : m_is_name [.d x] S = some (.d (.bl (isWord x)), S) := by
  cases x with
  | str y =>
    have hy : y.length ≤ 1000 := of_decide_eq_true hx
    refine eqE ?_
    unfold m_is_name
    decreasing_with simp [v_lenS (S := S) (show y.length ≤ cap from le_cap _ (by omega)), isWord, wordB]
    by_cases h1 : 1 ≤ y.length
    · rw [if_pos (by omega)]
      by_cases h2 : y.length ≤ 8
      · rw [if_neg (by omega)]
        refine lcAll (fun d => .bl (decide (97 ≤ sgn d) && decide (sgn d ≤ 122))) (by exact (show 1 < 2 from by decide)) (by rw [signs_len]; unfold cap; omega) ?_ ?_
        · intro d hd
          obtain ⟨c, hc, rfl⟩ := List.mem_map.mp hd
          refine eqE ?_
          decreasing_with simp [signIn]
          rfl
        · rw [all_signs y (fun c => decide (97 ≤ c) && decide (c ≤ 122)) _ (fun c => rfl)]
          decreasing_with simp [id]
          rw [decide_eq_true (show 1 ≤ y.cps.size from h1), decide_eq_true (show y.cps.size ≤ 8 from h2), Bool.true_and, Bool.true_and, List.all_map]
          rfl
      · rw [if_pos (by omega)]
        rw [decide_eq_false (show ¬ y.cps.size ≤ 8 from h2)]
        simp
    · rw [if_neg (by omega)]
      rw [decide_eq_false (show ¬ 1 ≤ y.cps.size from h1)]
      simp
  | non => rfl
  | bl _ => rfl
  | int _ => rfl
  | lst _ => rfl
  | tup _ => rfl
  | dct _ => rfl
  | _ => cases hx
/-- the law's own look at a word -/
theorem signOrd {S : Store} {c : Nat} : (!decide ((⟨#[c]⟩ : Str).cps.toList < ("a" : Str).cps.toList)) = decide (97 ≤ c) ∧ (!decide (("z" : Str).cps.toList < (⟨#[c]⟩ : Str).cps.toList)) = decide (c ≤ 122) := by
  have ea : ("a" : Str).cps.toList = [97] := by decide +kernel
  have ez : ("z" : Str).cps.toList = [122] := by decide +kernel
  have ec : (⟨#[c]⟩ : Str).cps.toList = [c] := rfl
  rw [ea, ez, ec, ← decide_not, ← decide_not]
  constructor
  · refine decide_eq_decide.mpr ?_
    rw [List.cons_lt_cons_iff]
    have : ¬ ([] : List Nat) < [] := List.not_lt_nil _
    simp only [this, and_false, or_false]
    omega
  · refine decide_eq_decide.mpr ?_
    rw [List.cons_lt_cons_iff]
    have : ¬ ([] : List Nat) < [] := List.not_lt_nil _
    simp only [this, and_false, or_false]
    omega
theorem v_leS {S : Store} {x y : Str} : gLe S (.d (.str x)) (.d (.str y)) = some (.d (.bl (!decide (y.cps.toList < x.cps.toList)))) := rfl
theorem filterAll {α : Type} (t : α → Bool) (xs : List α) : (xs.filter fun x => !t x).isEmpty = xs.all t := by
  rw [filterNil]
  congr 1
  funext x
  simp
theorem v_law_is_word (x : D) (hx : ok1 x = true) (S : Store) : m_law_is_word [.d x] S = some (.d (.bl (isWord x)), S) := by
  cases x with
  | str y =>
    have hy : y.length ≤ 1000 := of_decide_eq_true hx
    refine eqE ?_
    unfold m_law_is_word
    decreasing_with simp [v_lenS (S := S) (show y.length ≤ cap from le_cap _ (by omega)), isWord, wordB]
    by_cases h1 : 1 ≤ y.length
    · rw [if_pos (by omega)]
      by_cases h2 : y.length ≤ 8
      · rw [if_neg (by omega)]
        refine lcFil (fun d => !(decide (97 ≤ sgn d) && decide (sgn d ≤ 122))) (by exact (show 1 < 2 from by decide)) (by rw [signs_len]; unfold cap; omega) ?_ ?_
        · intro d hd
          obtain ⟨c, hc, rfl⟩ := List.mem_map.mp hd
          refine eqTT ?_
          decreasing_with simp [v_leS, (signOrd (S := S)).1, (signOrd (S := S)).2]
          show if 97 ≤ c then _ else _
          by_cases k1 : 97 ≤ c
          · rw [if_pos k1]
            show (!_) = !(decide (97 ≤ c) && _)
            rw [decide_eq_true k1]
            rfl
          · rw [if_neg k1]
            show true = !(decide (97 ≤ c) && _)
            rw [decide_eq_false k1]
            rfl
        · decreasing_with simp [eqNil, filterAll]
          refine ⟨by decide, ?_⟩
          rw [decide_eq_true (show 1 ≤ y.cps.size from h1), decide_eq_true (show y.cps.size ≤ 8 from h2), Bool.true_and, Bool.true_and]
          unfold Zf.signs
          rw [List.all_map]
          rfl
      · rw [if_pos (by omega)]
        rw [decide_eq_false (show ¬ y.cps.size ≤ 8 from h2)]
        simp
    · rw [if_neg (by omega)]
      rw [decide_eq_false (show ¬ 1 ≤ y.cps.size from h1)]
      simp
  | non => rfl
  | bl _ => rfl
  | int _ => rfl
  | lst _ => rfl
  | tup _ => rfl
  | dct _ => rfl
  | _ => cases hx
theorem v_law_is_int (x : D) (hx : ok1 x = true) (S : Store) : m_law_is_int [.d x] S = some (.d (.bl (isInt x)), S) := by
  cases x <;> first | rfl | (cases hx)
theorem v_is_integer' (x : D) (hx : ok1 x = true) (S : Store) : m_is_integer [.d x] S = some (.d (.bl (isInt x)), S) := by
  obtain ⟨t, ht⟩ := ok1_ty hx
  exact v_is_integer x t ht S
end L11
set_option linter.all false
set_option maxRecDepth 100000
namespace L11
open PySem PySem.Spec PyProof.Rows L2 Zf Kb
def mems : D → List D
  | .lst xs => xs
  | .tup xs => xs
  | _ => []
def isSeq : D → Bool
  | .lst _ => true
  | .tup _ => true
  | _ => false
structure ok2 (x : D) : Prop where
  o : ok1 x = true
  m : ∀ y ∈ mems x, ok1 y = true
  l : (mems x).length ≤ 100000
def namesB (k : Int) (x : D) : Bool := isSeq x && (decide (((mems x).length : Int) ≤ k) && (mems x).all isWord)
theorem names_seq (t : Bool) (xs : List D) (k : Int) (S : Store) (hm : ∀ y ∈ xs, ok1 y = true) (hl : xs.length ≤ 100000) : m_are_names [.d (if t = true then .tup xs else .lst xs), .d (.int k)] S = some (.d (.bl (decide ((xs.length : Int) ≤ k) && xs.all isWord)), S) := by
  refine eqE ?_
  unfold m_are_names
  have key : OkI (goLc (Tg.nm 2) mYes (mCall m_is_name (mCons (mVar 2) mNil)) [some (W.d (if t = true then .tup xs else .lst xs)), some (W.d (.int k)), none] xs S []) fun ys S2 => ∃ z, g1 gAllB S2 [W.d (.lst ys)] = some z ∧ unBor z = W.d (.bl (xs.all isWord)) ∧ S2 = S := by
    refine lcAll (fun d => .bl (isWord d)) (by exact (show 2 < 3 from by decide)) (by unfold cap; omega) ?_ ?_
    · intro d hd
      refine eqE ?_
      decreasing_with simp [id]
      exact okE_eq (v_is_name d (hm d hd) S) ⟨rfl, rfl⟩
    · rw [show xs.map (fun d => D.bl (isWord d)) = (xs.map isWord).map .bl by rw [List.map_map]; rfl]
      decreasing_with simp [id]
      rw [List.all_map]
      rfl
  cases t with
  | true =>
    simp only [if_true] at key ⊢
    decreasing_with simp [id]
    by_cases h : (xs.length : Int) ≤ k
    · rw [if_neg (by omega), decide_eq_true h]
      exact key
    · rw [if_pos (by omega), decide_eq_false h]
      rfl
  | false =>
    simp only [Bool.false_eq_true, if_false] at key ⊢
    decreasing_with simp [id]
    by_cases h : (xs.length : Int) ≤ k
    · rw [if_neg (by omega), decide_eq_true h]
      exact key
    · rw [if_pos (by omega), decide_eq_false h]
      rfl
theorem v_are_names (x : D) (k : Int) (h : ok2 x) (S : Store) : m_are_names [.d x, .d (.int k)] S = some (.d (.bl (namesB k x)), S) := by
  obtain ⟨o, m, l⟩ := h
  cases x with
  | lst xs => exact names_seq false xs k S m l
  | tup xs => exact names_seq true xs k S m l
  | non => rfl
  | bl _ => rfl
  | int _ => rfl
  | str _ => rfl
  | dct _ => rfl
  | _ => cases o
def natI : D → Bool
  | .int i => decide (0 ≤ i)
  | _ => false
def addrB : D → Bool
  | .tup xs => decide ((xs.length : Int) % 2 = 1) && xs.all natI
  | _ => false
theorem v_is_address (x : D) (h : ok2 x) (S : Store) : m_is_address [.d x] S = some (.d (.bl (addrB x)), S) := by
  obtain ⟨o, m, l⟩ := h
  cases x with
  | tup xs =>
    refine eqE ?_
    unfold m_is_address
    decreasing_with simp [addrB]
    by_cases h : (xs.length : Int) % 2 = 1
    · rw [if_neg (by omega), decide_eq_true h]
      refine lcAll (fun d => .bl (natI d)) (by exact (show 1 < 2 from by decide)) (by have : xs.length ≤ 100000 := l; unfold cap; omega) ?_ ?_
      · intro d hd
        refine eqE ?_
        decreasing_with simp [id]
        refine okE_eq (v_is_integer' d (m d hd) S) ?_
        cases d with
        | int i =>
          show ∃ k, _ ∧ _
          decreasing_with simp [isInt, natI]
        | _ => decreasing_with simp [isInt, natI]
      · rw [show xs.map (fun d => D.bl (natI d)) = (xs.map natI).map .bl by rw [List.map_map]; rfl]
        decreasing_with simp [id]
        rw [List.all_map]
        rfl
    · rw [if_pos (by omega), decide_eq_false h]
      rfl
  | non => rfl
  | bl _ => rfl
  | int _ => rfl
  | str _ => rfl
  | dct _ => rfl
  | lst _ => rfl
  | _ => cases o
end L11
set_option linter.all false
set_option maxRecDepth 100000
set_option maxHeartbeats 1000000
namespace L11
open PySem PySem.Spec PyProof.Rows L2 Zf Kb
theorem alike_bools {S : Store} (bs : List Bool) (h : bs.length ≤ 100) : m_law_alike [.d (.lst (bs.map .bl)), .d (.lst (bs.map .bl))] S = some (.d (.bl true), S) := by
  refine eqE ?_
  unfold m_law_alike
  have h1 : ∀ bs : List Bool, plDs (bs.map .bl) = true := fun bs => by
    induction bs with
    | nil => rfl
    | cons b r ih => exact ih
  have h2 : ∀ bs : List Bool, dpDs (bs.map .bl) = 0 := fun bs => by
    induction bs with
    | nil => rfl
    | cons b r ih =>
      show max 0 (dpDs (r.map .bl)) = 0
      rw [ih]
      rfl
  obtain ⟨x, hx⟩ := repr_ok (S := S) (d := .lst (bs.map .bl)) (sz := 100 * 7 + 4) (dp := 1) ((Sh.lst (sz := 5) (dp := 0) (fun y hy => by
    obtain ⟨b, _, rfl⟩ := List.mem_map.mp hy
    exact Sh.bl b)).mono (by rw [List.length_map]; omega) (by omega)) (by decide) (by decide)
  have he : gEqA S (.d (.lst (bs.map .bl))) (.d (.lst (bs.map .bl))) = some (.d (.bl true)) := eqPl (h1 bs) (by show dpDs (bs.map .bl) + 1 ≤ 64; rw [h2]; omega) rfl
  have hr : g1 gReprA S [.d (.lst (bs.map .bl))] = some (.d (.str x)) := hx
  decreasing_with simp [he, hr]
theorem alike7 {S : Store} {a1 a2 a3 a4 a5 a6 a7 b1 b2 b3 b4 b5 b6 b7 : Bool} (h1 : a1 = b1) (h2 : a2 = b2) (h3 : a3 = b3) (h4 : a4 = b4) (h5 : a5 = b5) (h6 : a6 = b6) (h7 : a7 = b7) {P : W → Store → Prop} (q : P (.d (.bl true)) S) : OkE (m_law_alike [.d (.lst [.bl a1, .bl a2, .bl a3, .bl a4, .bl a5, .bl a6, .bl a7]), .d (.lst [.bl b1, .bl b2, .bl b3, .bl b4, .bl b5, .bl b6, .bl b7])] S) P := by
  subst h1 h2 h3 h4 h5 h6 h7
  exact okE_eq (alike_bools [a1, a2, a3, a4, a5, a6, a7] (show 7 ≤ 100 by decide)) q
theorem isWord_non : isWord .non = false := rfl
theorem isWord_bl {b : Bool} : isWord (.bl b) = false := rfl
theorem isWord_int {b : Int} : isWord (.int b) = false := rfl
theorem isWord_str {b : Str} : isWord (.str b) = wordB b := rfl
theorem isWord_lst {b : List D} : isWord (.lst b) = false := rfl
theorem isWord_tup {b : List D} : isWord (.tup b) = false := rfl
theorem isWord_dct {b : List (Key × D)} : isWord (.dct b) = false := rfl
theorem namesB_lst {k : Int} {xs : List D} : namesB k (.lst xs) = (decide ((xs.length : Int) ≤ k) && xs.all isWord) := rfl
theorem namesB_tup {k : Int} {xs : List D} : namesB k (.tup xs) = (decide ((xs.length : Int) ≤ k) && xs.all isWord) := rfl
theorem namesB_non {k : Int} : namesB k .non = false := rfl
theorem namesB_bl {k : Int} {b : Bool} : namesB k (.bl b) = false := rfl
theorem namesB_int {k : Int} {b : Int} : namesB k (.int b) = false := rfl
theorem namesB_str {k : Int} {b : Str} : namesB k (.str b) = false := rfl
theorem namesB_dct {k : Int} {b : List (Key × D)} : namesB k (.dct b) = false := rfl
theorem natI_all (d : D) : (!(!isInt d || (match d with | .int i => decide (i < 0) | _ => false))) = natI d := by
  cases d <;> first | rfl | (simp [isInt, natI]; try (rw [← decide_not]; refine decide_eq_decide.mpr ?_; omega))
theorem law_right_ok (x : D) (k : Int) (h : ok2 x) (S : Store) : m_law_right [.d x, .d (.int k)] S = some (.d (.bl true), S) := by
  have h0 := h
  obtain ⟨o, m, l⟩ := h
  obtain ⟨t, ht⟩ := ok1_ty o
  refine eqE ?_
  unfold m_law_right
  cases x with
  | str y =>
    have e1 := in_strs S ["look", "put"] y
    have e2 := in_strs S ["again", "answer", "end", "fail", "leave", "shut"] y
    have e3 := in_strs S ["none", "value", "state"] y
    simp only [List.map_cons, List.map_nil] at e1 e2 e3
    decreasing_with simp only [e1, e2, e3, z_okE (v_law_is_int _ o S), z_okE (v_law_is_word _ o S), z_okE (v_is_integer' _ o S), z_okE (v_is_name _ o S), z_okE (v_is_use _ t ht S), z_okE (v_is_way _ t ht S), z_okE (v_is_handing _ t ht S), z_okE (v_are_names _ k h0 S), z_okE (v_is_address _ h0 S), gApp_v, v_addLL, isOne, isWord_non, isWord_str, isWord_lst, isWord_tup, isWord_int, isWord_bl, isWord_dct, isInt, namesB_lst, namesB_tup, namesB_non, namesB_bl, namesB_int, namesB_str, namesB_dct, addrB, Bool.false_and]
    exact alike7 rfl rfl rfl rfl rfl rfl rfl ⟨rfl, rfl⟩
  | lst xs =>
    decreasing_with simp only [z_okE (v_law_is_int _ o S), z_okE (v_law_is_word _ o S), z_okE (v_is_integer' _ o S), z_okE (v_is_name _ o S), z_okE (v_is_use _ t ht S), z_okE (v_is_way _ t ht S), z_okE (v_is_handing _ t ht S), z_okE (v_are_names _ k h0 S), z_okE (v_is_address _ h0 S), gApp_v, v_addLL, isOne, isWord_non, isWord_str, isWord_lst, isWord_tup, isWord_int, isWord_bl, isWord_dct, isInt, namesB_lst, namesB_tup, namesB_non, namesB_bl, namesB_int, namesB_str, namesB_dct, addrB, Bool.false_and]
    by_cases hk : (xs.length : Int) ≤ k
    · rw [if_pos hk]
      refine lcFil (fun d => !isWord d) (by exact (show 5 < 8 from by decide)) (by have : xs.length ≤ 100000 := l; unfold cap; omega) ?_ ?_
      · intro d hd
        refine eqTT ?_
        decreasing_with simp only [z_okE (v_law_is_word d (m d hd) S)]
      · decreasing_with simp only [z_okE (v_law_is_int _ o S), z_okE (v_law_is_word _ o S), z_okE (v_is_integer' _ o S), z_okE (v_is_name _ o S), z_okE (v_is_use _ t ht S), z_okE (v_is_way _ t ht S), z_okE (v_is_handing _ t ht S), z_okE (v_are_names _ k h0 S), z_okE (v_is_address _ h0 S), gApp_v, v_addLL, isOne, isWord_non, isWord_str, isWord_lst, isWord_tup, isWord_int, isWord_bl, isWord_dct, isInt, namesB_lst, namesB_tup, namesB_non, namesB_bl, namesB_int, namesB_str, namesB_dct, addrB, Bool.false_and, eqNil, filterAll]
        exact alike7 rfl rfl rfl rfl rfl (by rw [decide_eq_true hk]; rfl) rfl ⟨rfl, rfl⟩
    · rw [if_neg hk]
      exact alike7 rfl rfl rfl rfl rfl (by rw [decide_eq_false hk]; rfl) rfl ⟨rfl, rfl⟩
  | tup xs =>
    have hl : xs.length ≤ 100000 := l
    decreasing_with simp only [z_okE (v_law_is_int _ o S), z_okE (v_law_is_word _ o S), z_okE (v_is_integer' _ o S), z_okE (v_is_name _ o S), z_okE (v_is_use _ t ht S), z_okE (v_is_way _ t ht S), z_okE (v_is_handing _ t ht S), z_okE (v_are_names _ k h0 S), z_okE (v_is_address _ h0 S), gApp_v, v_addLL, isOne, isWord_non, isWord_str, isWord_lst, isWord_tup, isWord_int, isWord_bl, isWord_dct, isInt, namesB_lst, namesB_tup, namesB_non, namesB_bl, namesB_int, namesB_str, namesB_dct, addrB, Bool.false_and]
    have intF : ∀ {a1 a2 a3 a4 a5 a6 a7 : Option W}, (∀ y ∈ xs, ok1 y = true) → ∀ x ∈ xs, mOrT (mNotT (mTst (mCall m_law_is_int (mCons (mVar 5) mNil)))) (mTst (mBin gLt (mVar 5) (mD (.int 0)))) ([a1, a2, a3, a4, a5, none, a6, a7].set 5 (some (.d x))) S = some (!natI x, S) := by
      intro a1 a2 a3 a4 a5 a6 a7 m d hd
      refine eqTT ?_
      decreasing_with simp only [z_okE (v_law_is_int d (m d hd) S)]
      cases d with
      | int i =>
        decreasing_with simp only [isInt, natI]
        rw [← decide_not]
        refine decide_eq_decide.mpr ?_
        omega
      | _ => decreasing_with simp only [isInt, natI]
    by_cases hk : (xs.length : Int) ≤ k
    · rw [if_pos hk]
      refine lcFil (fun d => !isWord d) (by exact (show 5 < 8 from by decide)) (by unfold cap; omega) ?_ ?_
      · intro d hd
        refine eqTT ?_
        decreasing_with simp only [z_okE (v_law_is_word d (m d hd) S)]
      · decreasing_with simp only [z_okE (v_law_is_int _ o S), z_okE (v_law_is_word _ o S), z_okE (v_is_integer' _ o S), z_okE (v_is_name _ o S), z_okE (v_is_use _ t ht S), z_okE (v_is_way _ t ht S), z_okE (v_is_handing _ t ht S), z_okE (v_are_names _ k h0 S), z_okE (v_is_address _ h0 S), gApp_v, v_addLL, isOne, isWord_non, isWord_str, isWord_lst, isWord_tup, isWord_int, isWord_bl, isWord_dct, isInt, namesB_lst, namesB_tup, namesB_non, namesB_bl, namesB_int, namesB_str, namesB_dct, addrB, Bool.false_and, eqNil, filterAll]
        by_cases hm : (xs.length : Int) % 2 = 1
        · rw [if_pos hm]
          refine lcFil (fun d => !natI d) (by exact (show 5 < 8 from by decide)) (by unfold cap; omega) ?_ ?_
          · exact intF m
          · decreasing_with simp only [z_okE (v_law_is_int _ o S), z_okE (v_law_is_word _ o S), z_okE (v_is_integer' _ o S), z_okE (v_is_name _ o S), z_okE (v_is_use _ t ht S), z_okE (v_is_way _ t ht S), z_okE (v_is_handing _ t ht S), z_okE (v_are_names _ k h0 S), z_okE (v_is_address _ h0 S), gApp_v, v_addLL, isOne, isWord_non, isWord_str, isWord_lst, isWord_tup, isWord_int, isWord_bl, isWord_dct, isInt, namesB_lst, namesB_tup, namesB_non, namesB_bl, namesB_int, namesB_str, namesB_dct, addrB, Bool.false_and, eqNil, filterAll]
            exact alike7 rfl rfl rfl rfl rfl (by rw [decide_eq_true hk]; rfl) (by rw [decide_eq_true hm]; rfl) ⟨rfl, rfl⟩
        · rw [if_neg hm]
          exact alike7 rfl rfl rfl rfl rfl (by rw [decide_eq_true hk]; rfl) (by rw [decide_eq_false hm]; rfl) ⟨rfl, rfl⟩
    · rw [if_neg hk]
      by_cases hm : (xs.length : Int) % 2 = 1
      · rw [if_pos hm]
        refine lcFil (fun d => !natI d) (by exact (show 5 < 8 from by decide)) (by unfold cap; omega) ?_ ?_
        · exact intF m
        · decreasing_with simp only [z_okE (v_law_is_int _ o S), z_okE (v_law_is_word _ o S), z_okE (v_is_integer' _ o S), z_okE (v_is_name _ o S), z_okE (v_is_use _ t ht S), z_okE (v_is_way _ t ht S), z_okE (v_is_handing _ t ht S), z_okE (v_are_names _ k h0 S), z_okE (v_is_address _ h0 S), gApp_v, v_addLL, isOne, isWord_non, isWord_str, isWord_lst, isWord_tup, isWord_int, isWord_bl, isWord_dct, isInt, namesB_lst, namesB_tup, namesB_non, namesB_bl, namesB_int, namesB_str, namesB_dct, addrB, Bool.false_and, eqNil, filterAll]
          exact alike7 rfl rfl rfl rfl rfl (by rw [decide_eq_false hk]; rfl) (by rw [decide_eq_true hm]; rfl) ⟨rfl, rfl⟩
      · rw [if_neg hm]
        exact alike7 rfl rfl rfl rfl rfl (by rw [decide_eq_false hk]; rfl) (by rw [decide_eq_false hm]; rfl) ⟨rfl, rfl⟩
  | non =>
    decreasing_with simp only [z_okE (v_law_is_int _ o S), z_okE (v_law_is_word _ o S), z_okE (v_is_integer' _ o S), z_okE (v_is_name _ o S), z_okE (v_is_use _ t ht S), z_okE (v_is_way _ t ht S), z_okE (v_is_handing _ t ht S), z_okE (v_are_names _ k h0 S), z_okE (v_is_address _ h0 S), gApp_v, v_addLL, isOne, isWord_non, isWord_str, isWord_lst, isWord_tup, isWord_int, isWord_bl, isWord_dct, isInt, namesB_lst, namesB_tup, namesB_non, namesB_bl, namesB_int, namesB_str, namesB_dct, addrB, Bool.false_and]
    exact alike7 rfl rfl rfl rfl rfl rfl rfl ⟨rfl, rfl⟩
  | bl b =>
    cases b
    all_goals
      decreasing_with simp only [z_okE (v_law_is_int _ o S), z_okE (v_law_is_word _ o S), z_okE (v_is_integer' _ o S), z_okE (v_is_name _ o S), z_okE (v_is_use _ t ht S), z_okE (v_is_way _ t ht S), z_okE (v_is_handing _ t ht S), z_okE (v_are_names _ k h0 S), z_okE (v_is_address _ h0 S), gApp_v, v_addLL, isOne, isWord_non, isWord_str, isWord_lst, isWord_tup, isWord_int, isWord_bl, isWord_dct, isInt, namesB_lst, namesB_tup, namesB_non, namesB_bl, namesB_int, namesB_str, namesB_dct, addrB, Bool.false_and]
      exact alike7 rfl rfl rfl rfl rfl rfl rfl ⟨rfl, rfl⟩
  | int i =>
    decreasing_with simp only [z_okE (v_law_is_int _ o S), z_okE (v_law_is_word _ o S), z_okE (v_is_integer' _ o S), z_okE (v_is_name _ o S), z_okE (v_is_use _ t ht S), z_okE (v_is_way _ t ht S), z_okE (v_is_handing _ t ht S), z_okE (v_are_names _ k h0 S), z_okE (v_is_address _ h0 S), gApp_v, v_addLL, isOne, isWord_non, isWord_str, isWord_lst, isWord_tup, isWord_int, isWord_bl, isWord_dct, isInt, namesB_lst, namesB_tup, namesB_non, namesB_bl, namesB_int, namesB_str, namesB_dct, addrB, Bool.false_and]
    exact alike7 rfl rfl rfl rfl rfl rfl rfl ⟨rfl, rfl⟩
  | dct _ =>
    decreasing_with simp only [z_okE (v_law_is_int _ o S), z_okE (v_law_is_word _ o S), z_okE (v_is_integer' _ o S), z_okE (v_is_name _ o S), z_okE (v_is_use _ t ht S), z_okE (v_is_way _ t ht S), z_okE (v_is_handing _ t ht S), z_okE (v_are_names _ k h0 S), z_okE (v_is_address _ h0 S), gApp_v, v_addLL, isOne, isWord_non, isWord_str, isWord_lst, isWord_tup, isWord_int, isWord_bl, isWord_dct, isInt, namesB_lst, namesB_tup, namesB_non, namesB_bl, namesB_int, namesB_str, namesB_dct, addrB, Bool.false_and]
    exact alike7 rfl rfl rfl rfl rfl rfl rfl ⟨rfl, rfl⟩
  | _ => cases o
end L11
set_option linter.all false
set_option maxRecDepth 100000
set_option maxHeartbeats 1000000
namespace L11
open PySem PySem.Spec PyProof.Rows L2 Zf Kb
theorem tk {S : Store} {b : Nat} {m : Int} (B : Bag S b) (hm : 0 < m) (hm2 : m < 1000000000) {P : W → Store → Prop} (q : ∀ v S', 0 ≤ v → v < m → Kb.Fr b S S' → P (.d (.int v)) S') : OkE (m_law_take [.r b, .d (.int m)] S) P := take' B hm hm2 q
def tWords : List D := [.str "look", .str "put", .str "again", .str "answer", .str "end", .str "fail", .str "leave", .str "shut", .str "none", .str "value", .str "state", .str "told", .str "last"]
def oWords : List D := [.str "A", .str " ", .str "1", .str "_", .str "z", .str "-", .str "{", .str "`"]
theorem tWords_ok : ∀ d ∈ tWords, ∃ x : Str, d = .str x ∧ SO 10 x := by
  intro d hd
  simp only [tWords, List.mem_cons, List.not_mem_nil, or_false] at hd
  rcases hd with h | h | h | h | h | h | h | h | h | h | h | h | h <;> exact ⟨_, h, by decide +kernel, by decide +kernel⟩
theorem oWords_ok : ∀ d ∈ oWords, ∃ x : Str, d = .str x ∧ SO 10 x := by
  intro d hd
  simp only [oWords, List.mem_cons, List.not_mem_nil, or_false] at hd
  rcases hd with h | h | h | h | h | h | h | h <;> exact ⟨_, h, by decide +kernel, by decide +kernel⟩
theorem set_cut {i : Nat} {ma : ME} {b : MS} {env : En} {S : Store} {PS : Fl → En → Store → Prop} (Q : W → Store → Prop) (h1 : OkE (ma env S) Q) (h2 : ∀ w S', Q w S' → (i < env.length ∧ canSet w = true) ∧ OkS (b (env.set i (some w)) S') PS) : OkS (mSeq (mSet i ma) b env S) PS := by
  rw [wp_seq, wp_set]
  exact h1.mono fun w S' q => h2 w S' q
theorem fn_in {k n : Nat} {a : MS} {as : List W} {S : Store} {P : W → Store → Prop} (h1 : as.length = k) (h2 : as.all isArg = true) (h : OkS (a (as.map some ++ List.replicate (n - k) none) S) fun f _ S' => match f with
        | .nx => P (.d .non) S'
        | .ret w => P (unBor w) S'
        | _ => False) : OkE (mFn k n a as S) P := wp_fn.mpr ⟨⟨h1, h2⟩, h⟩
theorem text_ok {b : Nat} {S : Store} (B : Bag S b) {P : W → Store → Prop} (q : ∀ (y : Str) S', SO 40 y → Kb.Fr b S S' → P (.d (.str y)) S') : OkE (m_law_text [.r b] S) P := by
  unfold m_law_text
  refine fn_in rfl rfl ?_
  refine set_cut (fun w S' => w = .d (.lst tWords) ∧ S = S') ?_ ?_
  · decreasing_with simp only [id]
    rfl
  rintro _ _ ⟨rfl, rfl⟩
  refine ⟨⟨show 1 < 5 from by decide, rfl⟩, ?_⟩
  refine set_cut (fun w S' => ∃ y, w = .d (.str y) ∧ SO 10 y ∧ Kb.Fr b S S') ?_ ?_
  · decreasing_with simp only [id]
    refine tk B (by decide) (by decide) fun v S1 v0 v1 f1 => ?_
    decreasing_with simp only [id]
    split
    · refine tk f1.bag (by decide) (by decide) fun w S2 w0 w1 f2 => ?_
      obtain ⟨d, hd, e⟩ := pick (S := S2) (ds := tWords) w0 w1
      obtain ⟨x, rfl, hx⟩ := tWords_ok d hd
      decreasing_with simp only [e]
      exact ⟨hx, f1.trans f2⟩
    · refine tk f1.bag (by decide) (by decide) fun w S2 w0 w1 f2 => ?_
      have h0 : SO 10 (Str.ofString "abcdefghij") := ⟨by decide +kernel, by decide +kernel⟩
      have e := v_slS (S := S2) (x := Str.ofString "abcdefghij") (lo := none) (hi := some w) (Nat.le_trans h0.1 (by decide))
      decreasing_with simp only [e]
      exact ⟨h0.cut _ _, f1.trans f2⟩
  rintro _ S1 ⟨x, rfl, hx, f1⟩
  have hl := hx.1
  decreasing_with simp only [v_lenS (S := S1) (show x.length ≤ cap by unfold cap; omega)]
  refine tk f1.bag (by omega) (by omega) fun v S2 v0 v1 f2 => ?_
  decreasing_with simp only [id]
  refine tk f2.bag (by decide) (by decide) fun w S3 w0 w1 f3 => ?_
  have f := f1.trans (f2.trans f3)
  have e := fun (S : Store) (lo hi : Option Int) => v_slS (S := S) (x := x) (lo := lo) (hi := hi) (by omega)
  decreasing_with simp only [e]
  split
  · refine tk f3.bag (by decide) (by decide) fun u S4 u0 u1 f4 => ?_
    obtain ⟨d, hd, e2⟩ := pick (S := S4) (ds := oWords) u0 u1
    obtain ⟨y, rfl, hy⟩ := oWords_ok d hd
    have c1 := hx.cut none (some v)
    have c2 := hx.cut (some v) none
    have e3 := v_addSS (S := S4) (i := cutS x none (some v)) (j := y) (by have := c1.1; have := hy.1; omega)
    have e4 := v_addSS (S := S4) (i := cutS x none (some v) ++ y) (j := cutS x (some v) none) (by have := (c1.app hy).1; have := c2.1; omega)
    decreasing_with simp only [show gIx S4 (.d (.lst [.str "A", .str " ", .str "1", .str "_", .str "z", .str "-", .str "{", .str "`"])) (.d (.int u)) = _ from e2, e, e3, e4]
    exact q _ _ (((c1.app hy).app c2).le (by decide)) (f.trans f4)
  · split
    · have c1 := hx.cut none (some v)
      have c2 := hx.cut (some (v + 1)) none
      have e4 := v_addSS (S := S3) (i := cutS x none (some v)) (j := cutS x (some (v + 1)) none) (by have := c1.1; have := c2.1; omega)
      decreasing_with simp only [e4]
      exact q _ _ ((c1.app c2).le (by decide)) f
    · exact q _ _ (hx.le (by decide)) f
end L11
set_option linter.all false
set_option maxRecDepth 100000
set_option maxHeartbeats 1000000
namespace L11
open PySem PySem.Spec PyProof.Rows L2 Zf Kb
theorem lcDraw {Qd : D → Prop} {b : Nat} {S : Store} {ma : ME} {ew : En} {i : Nat} {xs : List D} {Q : List D → Store → Prop} (hi : i < ew.length) (hl : xs.length ≤ cap) (B : Bag S b)
    (h : ∀ (x : D) (S1 : Store) (P : W → Store → Prop), Bag S1 b → (∀ (y : D) (S2 : Store), Qd y → Kb.Fr b S1 S2 → P (.d y) S2) → OkE (ma (ew.set i (some (.d x))) S1) P)
    (q : ∀ (ys : List D) (S2 : Store), ys.length = xs.length → (∀ y ∈ ys, Qd y) → Kb.Fr b S S2 → Q ys S2) : OkI (goLc (.nm i) mYes ma ew xs S []) Q := by
  have := lcFr (e := fun d : D => d) (f := fun d : D => d) (R := fun _ y => Qd y) (b := b) (ma := ma) (ew := ew) (i := i) hi (todo := xs) (acc := []) (S := S) (Q := Q) (by simpa using hl) B (fun x _ S1 P B1 q1 => h x S1 P B1 q1)
    (fun ys S2 ha f => by
      rw [List.map_id', List.nil_append]
      refine q ys S2 ha.len (fun y hy => ?_) f
      obtain ⟨_, _, h⟩ := ha.mem y hy
      exact h)
  rw [List.map_id'] at this
  exact this
theorem range_len {n : Nat} : (dRange 0 n).length = n := by
  unfold dRange
  rw [List.length_map, List.length_range]
def sz : Nat → Nat
  | 0 => 500
  | j + 1 => 6 * (sz j + 2) + 4
theorem sz_mono (j : Nat) : 500 ≤ sz j := by
  induction j with
  | zero => exact Nat.le_refl _
  | succ j ih => show 500 ≤ 6 * (sz j + 2) + 4; omega
/-- a drawn thing -/
structure Th (j : Nat) (d : D) : Prop where
  o : ok2 d
  s : Sh (sz j) (j + 1) d
theorem ok2_flat {d : D} (h : ok1 d = true) (hm : mems d = []) : ok2 d := ⟨h, (fun y hy => by rw [hm] at hy; exact nomatch hy), (by rw [hm]; exact Nat.zero_le _)⟩
theorem Th.flat {d : D} {j k e : Nat} (h : ok1 d = true) (hm : mems d = []) (s : Sh k e d) (hk : k ≤ 500) (he : e ≤ 1) : Th j d := ⟨ok2_flat h hm, s.mono (Nat.le_trans hk (sz_mono j)) (by omega)⟩
theorem Th.lst {j : Nat} {xs : List D} (h : ∀ y ∈ xs, Th j y) (hl : xs.length ≤ 6) : Th (j + 1) (.lst xs) :=
  ⟨⟨rfl, fun y hy => (h y hy).o.o, by show xs.length ≤ _; omega⟩, (Sh.lst fun y hy => (h y hy).s).mono (by show _ ≤ 6 * (sz j + 2) + 4; have := Nat.mul_le_mul_right (sz j + 2) hl; omega) (Nat.le_refl _)⟩
theorem Th.tup {j : Nat} {xs : List D} (h : ∀ y ∈ xs, Th j y) (hl : xs.length ≤ 6) : Th (j + 1) (.tup xs) :=
  ⟨⟨rfl, fun y hy => (h y hy).o.o, by show xs.length ≤ _; omega⟩, (Sh.tup fun y hy => (h y hy).s).mono (by show _ ≤ 6 * (sz j + 2) + 4; have := Nat.mul_le_mul_right (sz j + 2) hl; omega) (Nat.le_refl _)⟩
theorem Sh.big {i : Int} (h : i.natAbs.log2 < 1920) (h2 : (toString i : String).length ≤ 60) (h3 : (PyData.int i).shown.length ≤ 60) : Sh 60 0 (.int i) := ⟨rfl, .int i, rfl, decide_eq_true h, Nat.le_refl _, h3⟩
theorem Th.text {j : Nat} {y : Str} (h : SO 40 y) : Th j (.str y) := Th.flat (decide_eq_true (Nat.le_trans h.1 (by decide))) rfl (Sh.str h.1 h.2) (by decide) (by decide)
theorem p50 : Sh 60 0 (.int (10 ^ 50)) := ⟨rfl, .int (10 ^ 50), rfl, by decide +kernel, Nat.le_refl _, by decide +kernel⟩
theorem p40 : Sh 60 0 (.int (10 ^ 40)) := ⟨rfl, .int (10 ^ 40), rfl, by decide +kernel, Nat.le_refl _, by decide +kernel⟩
theorem p64 : Sh 60 0 (.int (2 ^ 64)) := ⟨rfl, .int (2 ^ 64), rfl, by decide +kernel, Nat.le_refl _, by decide +kernel⟩
def sThings : List D := [.non, .bl true, .bl false, .int 0, .int 1, .int 7, .int (-1), .int (10 ^ 50), .int (2 ^ 64)]
theorem sThings_ok {j : Nat} : ∀ d ∈ sThings, Th j d := by
  intro d hd
  simp only [sThings, List.mem_cons, List.not_mem_nil, or_false] at hd
  rcases hd with h | h | h | h | h | h | h | h | h <;> rw [h]
  · exact Th.flat rfl rfl Sh.non (by decide) (by decide)
  · exact Th.flat rfl rfl (Sh.bl _) (by decide) (by decide)
  · exact Th.flat rfl rfl (Sh.bl _) (by decide) (by decide)
  · exact Th.flat rfl rfl (Sh.int (by decide) (by decide)) (by decide) (by decide)
  · exact Th.flat rfl rfl (Sh.int (by decide) (by decide)) (by decide) (by decide)
  · exact Th.flat rfl rfl (Sh.int (by decide) (by decide)) (by decide) (by decide)
  · exact Th.flat rfl rfl (Sh.int (by decide) (by decide)) (by decide) (by decide)
  · exact Th.flat rfl rfl p50 (by decide) (by decide)
  · exact Th.flat rfl rfl p64 (by decide) (by decide)
theorem disp_a {S : Store} {env : En} : mDisp [("a", mD (.int 1))] env S = some (.d (.dct [(.inr "a", .int 1)]), S) := rfl
theorem seqIf {t : MT} {a b : MS} {env : En} {S : Store} {PS : Fl → En → Store → Prop} {k : Bool} (e : t env S = some (k, S)) (h1 : k = true → OkS (a env S) fun f e S' => match f with
    | .nx => OkS (b e S') PS
    | f => PS f e S') (h2 : k = false → OkS (b env S) PS) : OkS (mSeq (mIfS t a mNext) b env S) PS := by
  rw [wp_seq, wp_ifS]
  refine okT_eq e ?_
  cases k with
  | true =>
    rw [if_pos rfl]
    exact h1 rfl
  | false =>
    rw [if_neg Bool.false_ne_true, wp_next]
    exact h2 rfl
theorem thing_ok {b : Nat} : ∀ (n j : Nat) (S : Store) (P : W → Store → Prop), j < n → Bag S b → (∀ (d : D) S', Th j d → Kb.Fr b S S' → P (.d d) S') → OkE (m_law_thing n [.r b, .d (.int j)] S) P
  | n + 1, j, S, P, hj, B, q => by
    unfold m_law_thing
    refine fn_in rfl rfl ?_
    refine set_cut (fun w S' => ∃ v, w = .d (.int v) ∧ 0 ≤ v ∧ v < 8 ∧ Kb.Fr b S S') ?_ ?_
    · decreasing_with simp only [id]
      refine tk B (by decide) (by decide) fun v S1 v0 v1 f1 => ?_
      decreasing_with simp only [id]
      exact ⟨v0, v1, f1⟩
    rintro _ S1 ⟨v, rfl, v0, v1, f1⟩
    refine ⟨⟨show 2 < 4 from by decide, rfl⟩, ?_⟩
    show OkS _ _
    have recd : ∀ (i : Nat) (x : D) (S1 : Store) (P : W → Store → Prop), j = i + 1 → Bag S1 b → (∀ (y : D) (S2 : Store), Th i y → Kb.Fr b S1 S2 → P (.d y) S2) → OkE (mCall (m_law_thing n) (mCons (mVar 0) (mCons (mBin (gInt (fun _ _ => true) fun i j => .int (i - j)) (mVar 1) (mD (.int 1))) mNil)) ([some (.r b), some (.d (.int j)), some (.d (.int v)), none].set 3 (some (.d x))) S1) P := by
      intro i x S2 P2 hi B2 q2
      decreasing_with simp only [id]
      rw [show ((j : Int) - 1) = ((i : Nat) : Int) by omega]
      exact thing_ok n i S2 P2 (by omega) B2 q2
    refine seqIf (k := decide (v = 0) && decide (0 < (j : Int))) ?_ (fun hk => ?_) (fun _ => ?_)
    · refine eqTT ?_
      decreasing_with simp only [id]
      by_cases h : v = 0
      · rw [if_pos h, decide_eq_true h]; rfl
      · rw [if_neg h, decide_eq_false h]; rfl
    · have hj0 : 0 < j := by simp at hk; omega
      obtain ⟨i, rfl⟩ : ∃ i, j = i + 1 := ⟨j - 1, by omega⟩
      decreasing_with simp only [id]
      refine tk f1.bag (by decide) (by decide) fun w S2 w0 w1 f2 => ?_
      decreasing_with simp only [id]
      refine ⟨⟨by omega, by omega⟩, ?_⟩
      refine lcDraw (Qd := Th i) (by exact (show 3 < 4 from by decide)) (by rw [range_len]; unfold cap; omega) f2.bag (fun x S3 P3 B3 q3 => recd i x S3 P3 rfl B3 q3) fun ys S3 hl hy f3 => ?_
      rw [range_len] at hl
      decreasing_with simp only [id]
      exact q _ _ (Th.lst hy (by omega)) (f1.trans (f2.trans f3))
    refine seqIf (k := decide (v = 1) && decide (0 < (j : Int))) ?_ (fun hk => ?_) (fun _ => ?_)
    · refine eqTT ?_
      decreasing_with simp only [id]
      by_cases h : v = 1
      · rw [if_pos h, decide_eq_true h]; rfl
      · rw [if_neg h, decide_eq_false h]; rfl
    · have hj0 : 0 < j := by simp at hk; omega
      obtain ⟨i, rfl⟩ : ∃ i, j = i + 1 := ⟨j - 1, by omega⟩
      decreasing_with simp only [id]
      refine tk f1.bag (by decide) (by decide) fun w S2 w0 w1 f2 => ?_
      decreasing_with simp only [id]
      refine ⟨⟨by omega, by omega⟩, ?_⟩
      refine lcDraw (Qd := Th i) (by exact (show 3 < 4 from by decide)) (by rw [range_len]; unfold cap; omega) f2.bag (fun x S3 P3 B3 q3 => recd i x S3 P3 rfl B3 q3) fun ys S3 hl hy f3 => ?_
      rw [range_len] at hl
      decreasing_with simp only [id]
      exact q _ _ (Th.tup hy (by omega)) (f1.trans (f2.trans f3))
    decreasing_with simp only [show cPow 10 50 = true from by decide, show cPow 2 64 = true from by decide]
    split
    · refine tk f1.bag (by decide) (by decide) fun w S2 w0 w1 f2 => ?_
      obtain ⟨d, hd, e⟩ := pick (S := S2) (ds := sThings) w0 w1
      decreasing_with simp only [show gIx S2 (.d (.lst [.non, .bl true, .bl false, .int 0, .int 1, .int 7, .int (-1), .int (10 ^ (50 : Int).toNat), .int (2 ^ (64 : Int).toNat)])) (.d (.int w)) = some (.d d) from e]
      exact q _ _ (sThings_ok d hd) (f1.trans f2)
    · have text : ∀ S2, Kb.Fr b S S2 → OkE (m_law_text [.r b] S2) (fun w S' => P (unBor w) S') := fun S2 f2 => text_ok f2.bag fun y S3 hy f3 => q _ _ (Th.text hy) (f2.trans f3)
      split
      · refine tk f1.bag (by decide) (by decide) fun w S2 w0 w1 f2 => ?_
        decreasing_with simp only [id]
        split
        · decreasing_with simp only [z_okE disp_a]
          exact q _ _ (Th.flat rfl rfl Sh.dct1 (by decide) (by decide)) (f1.trans f2)
        · exact text S2 (f1.trans f2)
      · exact text S1 f1
end L11
set_option Elab.async false
set_option linter.all false
set_option maxRecDepth 100000
set_option maxHeartbeats 1000000
namespace Kb
open PySem PySem.Spec PyProof.Rows L2 Zf
theorem set_cut {i : Nat} {ma : ME} {b : MS} {env : En} {S : Store} {PS : Fl → En → Store → Prop} (Q : W → Store → Prop) (h1 : OkE (ma env S) Q) (h2 : ∀ w S', Q w S' → (i < env.length ∧ canSet w = true) ∧ OkS (b (env.set i (some w)) S') PS) : OkS (mSeq (mSet i ma) b env S) PS := by
  rw [wp_seq, wp_set]
  exact h1.mono fun w S' q => h2 w S' q
theorem fn_in {k n : Nat} {a : MS} {as : List W} {S : Store} {P : W → Store → Prop} (h1 : as.length = k) (h2 : as.all isArg = true) (h : OkS (a (as.map some ++ List.replicate (n - k) none) S) fun f _ S' => match f with
        | .nx => P (.d .non) S'
        | .ret w => P (unBor w) S'
        | _ => False) : OkE (mFn k n a as S) P := wp_fn.mpr ⟨⟨h1, h2⟩, h⟩
theorem seqIf {t : MT} {a b : MS} {env : En} {S : Store} {PS : Fl → En → Store → Prop} {k : Bool} (e : t env S = some (k, S)) (h1 : k = true → OkS (a env S) fun f e S' => match f with
    | .nx => OkS (b e S') PS
    | f => PS f e S') (h2 : k = false → OkS (b env S) PS) : OkS (mSeq (mIfS t a mNext) b env S) PS := by
  rw [wp_seq, wp_ifS]
  refine okT_eq e ?_
  cases k with
  | true =>
    rw [if_pos rfl]
    exact h1 rfl
  | false =>
    rw [if_neg Bool.false_ne_true, wp_next]
    exact h2 rfl
theorem lcDraw {Qd : D → Prop} {b : Nat} {S : Store} {ma : ME} {ew : En} {i : Nat} {xs : List D} {Q : List D → Store → Prop} (hi : i < ew.length) (hl : xs.length ≤ cap) (B : Bag S b)
    (h : ∀ (x : D) (S1 : Store) (P : W → Store → Prop), Bag S1 b → (∀ (y : D) (S2 : Store), Qd y → Kb.Fr b S1 S2 → P (.d y) S2) → OkE (ma (ew.set i (some (.d x))) S1) P)
    (q : ∀ (ys : List D) (S2 : Store), ys.length = xs.length → (∀ y ∈ ys, Qd y) → Kb.Fr b S S2 → Q ys S2) : OkI (goLc (.nm i) mYes ma ew xs S []) Q := by
  have := lcFr (e := fun d : D => d) (f := fun d : D => d) (R := fun _ y => Qd y) (b := b) (ma := ma) (ew := ew) (i := i) hi (todo := xs) (acc := []) (S := S) (Q := Q) (by simpa using hl) B (fun x _ S1 P B1 q1 => h x S1 P B1 q1)
    (fun ys S2 ha f => by
      rw [List.map_id', List.nil_append]
      refine q ys S2 ha.len (fun y hy => ?_) f
      obtain ⟨_, _, h⟩ := ha.mem y hy
      exact h)
  rw [List.map_id'] at this
  exact this
theorem range_len {n : Nat} : (dRange 0 n).length = n := by
  unfold dRange
  rw [List.length_map, List.length_range]
theorem bind_nm {i : Nat} {env : En} {x : D} (h : i < env.length) : bindT (.nm i) env x = some (env.set i (some (.d x))) := if_pos h
/-- a loop that keeps something, over data, by one name -/
theorem forInv {I : En → Store → Prop} {i : Nat} {body : MS} {P : Fl → En → Store → Prop} : ∀ {xs : List D} {env : En} {S : Store}, I env S →
    (∀ x ∈ xs, ∀ env S, I env S → i < env.length ∧ OkS (body (env.set i (some (.d x))) S) fun f e S' => (f = .nx ∨ f = .cont) ∧ I e S') → (∀ env S, I env S → P .nx env S) → OkS (goFor (.nm i) body xs env S) P
  | [], env, S, h0, _, q => wp_forNil.mpr (q env S h0)
  | x :: xs, env, S, h0, h, q => by
    obtain ⟨hi, hb⟩ := h x List.mem_cons_self env S h0
    refine wp_forCons.mpr ⟨env.set i (some (.d x)), if_pos hi, hb.mono fun f e S' ⟨hf, hI⟩ => ?_⟩
    have := forInv (body := body) (P := P) hI (fun y hy => h y (List.mem_cons_of_mem _ hy)) q
    rcases hf with rfl | rfl <;> exact this
theorem wp_init {c k n : Nat} {a : MS} {as : List W} {S : Store} {P : W → Store → Prop} : OkE (mInit c k n a as S) P ↔ (as.length + 1 = k ∧ as.all isArg = true) ∧ OkS (a (some (.slf c []) :: (as.map some ++ List.replicate (n - k) none)) S) fun f e S' => match f, e with
    | .nx, some (.slf c' fs) :: _ => c' = c ∧ P (.d (.ins c fs)) S'
    | _, _ => False := by
  unfold mInit OkE OkS
  constructor
  · rintro ⟨r, e, h⟩
    split at e
    · rename_i hk
      obtain ⟨⟨f, en, S1⟩, e1, e⟩ := Option.bind_eq_some_iff.mp e
      refine ⟨hk, _, e1, ?_⟩
      dsimp only at e ⊢
      split at e
      · split at e
        · rename_i hc
          cases e
          exact ⟨hc, h⟩
        · cases e
      · cases e
    · cases e
  · rintro ⟨hk, ⟨f, en, S1⟩, e1, h⟩
    rw [if_pos hk, e1]
    simp only [Option.bind_some]
    cases f with
    | nx =>
      rcases en with _ | ⟨_ | w, r⟩
      · exact h.elim
      · exact h.elim
      · cases w with
        | slf c' fs => exact ⟨_, if_pos h.1, h.2⟩
        | _ => exact h.elim
    | _ => exact h.elim
/-- self.f = w -/
def setF1 (c i : Nat) (f : Str) (w : W) (env : En) : Option En := match w, env[i]? with
  | .d x, some (some (.slf c' fs)) => if c' = c ∧ fs.length < 1000 then some (env.set i (some (.slf c (putFD f x fs)))) else none
  | _, _ => none
theorem y_setF {c i : Nat} {f : Str} {ma : ME} {env : En} {S : Store} {PS : Fl → En → Store → Prop} : OkS (mSetF c i f ma env S) PS ↔ OkE (ma env S) fun w S' => OkV (setF1 c i f w env) fun env' => PS .nx env' S' := by
  have e0 : mSetF c i f ma env S = (ma env S).bind fun p => (setF1 c i f p.1 env).map fun env' => (.nx, env', p.2) := by
    unfold mSetF
    cases ma env S with
    | none => rfl
    | some p =>
      obtain ⟨w, S'⟩ := p
      unfold setF1
      simp only [Option.bind_some]
      generalize env[i]? = o
      cases w with
      | d x =>
        rcases o with _ | _ | u
        · rfl
        · rfl
        · cases u with
          | slf c' fs =>
            dsimp only
            split <;> rfl
          | _ => rfl
      | _ => rfl
  rw [e0]
  unfold OkS OkE OkV
  constructor
  · rintro ⟨r, e, h⟩
    obtain ⟨p, e1, e⟩ := Option.bind_eq_some_iff.mp e
    obtain ⟨en, e2, e3⟩ := Option.map_eq_some_iff.mp e
    cases e3
    exact ⟨p, e1, en, e2, h⟩
  · rintro ⟨p, e1, en, e2, h⟩
    exact ⟨_, by rw [e1]; simp only [Option.bind_some]; rw [e2]; rfl, h⟩
theorem y_setFs {c i : Nat} {is : List Str} {ms : MA} {env : En} {S : Store} {PS : Fl → En → Store → Prop} : OkS (mSetFs c i is ms env S) PS ↔ OkA (ms env S) fun ws S' => ws.length ≤ cap ∧ OkV (setAllF c i is ws env) fun env' => PS .nx env' S' := by
  unfold mSetFs OkS OkA OkV
  constructor
  · rintro ⟨r, e, h⟩
    obtain ⟨p, e1, e⟩ := Option.bind_eq_some_iff.mp e
    split at e
    · rename_i hc
      obtain ⟨en, e2, e3⟩ := Option.map_eq_some_iff.mp e
      cases e3
      exact ⟨p, e1, hc, en, e2, h⟩
    · cases e
  · rintro ⟨p, e1, hc, en, e2, h⟩
    exact ⟨_, by rw [e1]; simp only [Option.bind_some]; rw [if_pos hc, e2]; rfl, h⟩
theorem z_setF {c i : Nat} {f : Str} {ma : ME} {env : En} {S : Store} {PS : Fl → En → Store → Prop} {tk : Tk PS} : KS (mSetF c i f ma env S) PS tk ↔ OkE (ma env S) fun w S' => OkV (setF1 c i f w env) fun env' => PS .nx env' S' := y_setF
theorem z_setFs {c i : Nat} {is : List Str} {ms : MA} {env : En} {S : Store} {PS : Fl → En → Store → Prop} {tk : Tk PS} : KS (mSetFs c i is ms env S) PS tk ↔ OkA (ms env S) fun ws S' => ws.length ≤ cap ∧ OkV (setAllF c i is ws env) fun env' => PS .nx env' S' := y_setFs
theorem v_repL {S : Store} {xs : List D} {k : Int} (h : 0 ≤ k ∧ k < 100000 ∧ xs.length * k.toNat ≤ 10000000) : gMulT S (.d (.lst xs)) (.d (.int k)) = some (.d (.lst (List.replicate k.toNat xs).flatten)) := by
  have e : gRepL S (.d (.lst xs)) (.d (.int k)) = some (.d (.lst (List.replicate k.toNat xs).flatten)) := by
    unfold gRepL
    simp only [vL_lst, Option.bind_some, asDs_map]
    exact if_pos h
  show (gMul S _ _).or _ = _
  have e2 : gMul S (.d (.lst xs)) (.d (.int k)) = gRepL S (.d (.lst xs)) (.d (.int k)) := rfl
  rw [e2, e]
  rfl
theorem okE_of {m : Option (W × Store)} {w : W} {S : Store} (h : OkE m fun v T => v = w ∧ S = T) : m = some (w, S) := by
  obtain ⟨⟨a, b⟩, e, h1, h2⟩ := h
  cases h1
  cases h2
  exact e
def bagM : MF := mFn 1 2
    (mRet (mLstO (mCons (mD (.int 0)) (mCons (mD (.int 1234567891)) (mCons (mD (.int 0)) (mCons (mLc (mISeq (mSl (mVar 0) mNoPart (mPart (mD (.int 63))))) (.nm 1) mYes (mCB (g1 gAbs) (mCons (mVar 1) mNil)) [1]) mNil))))))
theorem absIs (x : Int) : 0 ≤ (if x < 0 then -x else x) := by split <;> omega
theorem bag_ok {ns : List Int} {P : W → Store → Prop} (hl : ns.length ≤ 63) (q : ∀ xs : List Int, xs.length ≤ 63 → (∀ x ∈ xs, 0 ≤ x) → P (.own (bagL 0 1234567891 0 xs)) []) : OkE (bagM [.d (.ro (ns.map .int))] []) P := by
  unfold bagM
  rw [wp_fn]
  refine ⟨⟨rfl, rfl⟩, ?_⟩
  rw [wp_ret, wp_lstO, wp_cons, wp_d, wp_cons, wp_d, wp_cons, wp_d, wp_cons, wp_lc, wp_seqI, wp_sl]
  simp only [wp_var, wp_noPart, wp_part, wp_d]
  have hs : gSl [] (.d (.ro (ns.map .int))) none (some 63) = some (.d (.lst ((ns.map .int).take 63))) := by
    show some (W.d (.lst (cutA (ns.map D.int) none (some ((63 : Nat) : Int))))) = _
    unfold cutA
    rw [HT.sIx_nat, HT.sIx_none, List.drop_zero, Nat.sub_zero, List.length_map]
    congr 3
    rw [List.take_of_length_le (by rw [List.length_map]; omega), List.take_of_length_le (by rw [List.length_map]; omega)]
  refine ⟨_, rfl, _, rfl, _, hs, _, .inl rfl, ?_⟩
  rw [← List.map_take]
  refine okI_eq (lcMap (e := D.int) (f := fun x => D.int (if x < 0 then -x else x)) (todo := ns.take 63) (acc := []) (i := 1) (by exact (show 1 < 2 from by decide)) (by rw [List.length_nil, List.length_take]; unfold cap; omega) fun x _ => ?_) ?_
  · refine eqE ?_
    simp only [wp_cb, wp_cons, wp_nil, wp_var]
    exact ⟨_, rfl, _, v_abs, rfl, trivial⟩
  · rw [wp_nil]
    refine ⟨⟨rfl, by exact (show 4 ≤ cap from by decide)⟩, ?_⟩
    have e : ([] ++ (ns.take 63).map fun x => D.int (if x < 0 then -x else x)) = ((ns.take 63).map fun x => if x < 0 then -x else x).map D.int := by
      rw [List.nil_append, List.map_map]
      rfl
    rw [e]
    refine q ((ns.take 63).map fun x => if x < 0 then -x else x) (by rw [List.length_map, List.length_take]; omega) fun x hx => ?_
    obtain ⟨y, _, rfl⟩ := List.mem_map.mp hx
    exact absIs y
theorem bag_at {xs : List Int} (h : xs.length ≤ 63) (h0 : ∀ x ∈ xs, 0 ≤ x) {S : Store} : Bag (S ++ [bagL 0 1234567891 0 xs]) S.length :=
  ⟨0, 1234567891, 0, xs, by simp, by decide, by decide, by decide, by decide, h0, h⟩
theorem bag_at0 {xs : List Int} (h : xs.length ≤ 63) (h0 : ∀ x ∈ xs, 0 ≤ x) : Bag [[.d (.int 0), .d (.int 1234567891), .d (.int 0), .d (.lst (xs.map .int))]] 0 := bag_at (S := []) h h0
end Kb
set_option linter.all false
set_option maxRecDepth 100000
set_option maxHeartbeats 1000000
namespace L11
open PySem PySem.Spec PyProof.Rows L2 Zf Kb
theorem b1 {S : Store} : m_are_given [.d (.lst [.str "a"])] S = some (.d (.bl true), S) := rfl
theorem b2 {S : Store} : m_are_rows 12 [.d (.lst [])] S = some (.d (.bl true), S) := rfl
theorem b3 {S : Store} : m_count [.d (.lst [])] S = some (.d (.int 0), S) := rfl
theorem b4 {S : Store} : m_depth 12 [.d (.lst [])] S = some (.d (.int 0), S) := rfl
theorem b5 {S : Store} : m_names_in [.d (.lst [])] S = some (.d (.lst []), S) := rfl
theorem b6 {S : Store} : m_check_marks [.d (.lst [])] S = some (.d .non, S) := rfl
theorem b7 {S : Store} : m_check_ends [.d (.lst [])] S = some (.d .non, S) := rfl
theorem b8 {S : Store} : m_check_loops [.d (.lst [])] S = some (.d .non, S) := rfl
theorem b9 {S : Store} : m_rows_with_places 12 [.d (.lst []), .d (.tup [])] S = some (.d (.lst []), S) := rfl
theorem b10 {S : Store} {ma : ME} {env : En} {P : List D → Store → Prop} {i : Nat} {tk : Tk P} : KI (goLc (.nm i) mYes ma env [] S []) P tk ↔ P [] S := wp_lcNil
theorem c1 {S : Store} : g1 gSet S [.d (.lst [])] = some (.d (.st [])) := rfl
theorem c2 {S : Store} : g1 gSet S [.d (.lst [.str "a"])] = some (.d (.st ["a"])) := rfl
theorem c3 {S : Store} : gOr S (.d (.st [])) (.d (.st ["a"])) = some (.d (.st ["a"])) := rfl
theorem c4 {S : Store} : g1 gLenS S [.d (.st ["a"])] = some (.d (.int 1)) := rfl
theorem c5 {S : Store} : g1 gSorted S [.d (.lst [.str "a"])] = some (.own [.d (.str "a")]) := rfl
theorem c6 {S : Store} : g1 gDict S [.d (.lst [])] = some (.d (.dct [])) := rfl
theorem body_ok {S : Store} {P : W → Store → Prop} (q : ∀ fs, P (.d (.ins 0 fs)) S) : OkE (m_Body_init [.d (.lst [.str "a"]), .d (.lst [])] S) P := by
  unfold m_Body_init
  rw [wp_init]
  refine ⟨⟨rfl, rfl⟩, ?_⟩
  decreasing_with simp only [z_okE b1, z_okE b2, z_okE b3, z_okE b4, z_okE b5, z_okE b6, z_okE b7, z_okE b8, z_okE b9, b10, c1, c2, c3, c4, c5, c6, z_setF, z_setFs]
  refine ⟨_, rfl, ?_⟩
  decreasing_with simp only [z_okE b9, z_setF, c6]
  refine ⟨_, rfl, ?_⟩
  exact ⟨rfl, q _⟩

def nest : Nat → D → D
  | 0, d => d
  | n + 1, d => nest n (.lst [d])
theorem nest_sh : ∀ (n : Nat) (d : D) (sz dp : Nat), Sh sz dp d → Sh (sz + n * 8) (dp + n) (nest n d)
  | 0, d, sz, dp, h => h
  | n + 1, d, sz, dp, h => (nest_sh n (.lst [d]) (sz + 6) (dp + 1) ((Sh.lst (xs := [d]) fun y hy => by rw [List.mem_singleton.mp hy]; exact h).mono (by simp) (Nat.le_refl _))).mono (by omega) (by omega)
theorem nest_snoc : ∀ (n : Nat) (d : D), nest (n + 1) d = .lst [nest n d]
  | 0, d => rfl
  | n + 1, d => nest_snoc n (.lst [d])
theorem deep_loop {a b : Option W} : ∀ (xs : List D) (d : D) (o : Option W) (r : En) (S : Store) (P : Fl → En → Store → Prop), (∀ o', P .nx (a :: b :: some (.d (nest xs.length d)) :: o' :: r) S) → OkS (goFor (.nm 3) (mSet 2 (mLst (mCons (mVar 2) mNil))) xs (a :: b :: some (.d d) :: o :: r) S) P
  | [], d, o, r, S, P, q => wp_forNil.mpr (q o)
  | x :: xs, d, o, r, S, P, q => by
    refine wp_forCons.mpr ⟨_, bind_nm (by simp), ?_⟩
    decreasing_with simp only [show 2 < r.length + 1 + 1 + 1 + 1 from by omega]
    exact deep_loop xs (.lst [d]) (some (.d x)) r S P q
structure Big (d : D) : Prop where
  o : ok2 d
  s : Sh 600000 60 d
theorem Th.big {d : D} (h : Th 2 d) : Big d := ⟨h.o, h.s.mono (by decide) (by decide)⟩
def aOdd : List D := [.bl true, .int (-1), .non, .str "0", .int (10 ^ 40), .tup [.int 0], .lst [.int 0]]
theorem int_th {i : Int} (h1 : -999999999999 ≤ i) (h2 : i ≤ 999999999999) (j : Nat) : Th j (.int i) := Th.flat rfl rfl (Sh.int h1 h2) (by decide) (by decide)
theorem aOdd_ok : ∀ d ∈ aOdd, Th 1 d := by
  intro d hd
  simp only [aOdd, List.mem_cons, List.not_mem_nil, or_false] at hd
  rcases hd with h | h | h | h | h | h | h <;> rw [h]
  · exact Th.flat rfl rfl (Sh.bl _) (by decide) (by decide)
  · exact int_th (by decide) (by decide) 1
  · exact Th.flat rfl rfl Sh.non (by decide) (by decide)
  · exact Th.text ⟨by decide +kernel, by decide +kernel⟩
  · exact Th.flat rfl rfl p40 (by decide) (by decide)
  · exact Th.tup (fun y hy => by rw [List.mem_singleton.mp hy]; exact int_th (by decide) (by decide) 0) (by decide)
  · exact Th.lst (fun y hy => by rw [List.mem_singleton.mp hy]; exact int_th (by decide) (by decide) 0) (by decide)
theorem Th.tup' {j : Nat} {xs : List D} (h : ∀ y ∈ xs, Th j y) (hl : xs.length ≤ 6) : Th (j + 1) (.tup xs) := Th.tup h hl
theorem tup7 {xs : List D} (h : ∀ y ∈ xs, Th 1 y) (hl : xs.length ≤ 20) : Big (.tup xs) :=
  ⟨⟨rfl, fun y hy => (h y hy).o.o, by show xs.length ≤ _; omega⟩, (Sh.tup fun y hy => (h y hy).s).mono (by have := Nat.mul_le_mul_right (sz 1 + 2) hl; exact Nat.le_trans (Nat.add_le_add_right this 4) (by decide)) (by decide)⟩
theorem lst7 {xs : List D} (h : ∀ y ∈ xs, Th 1 y) (hl : xs.length ≤ 20) : Big (.lst xs) :=
  ⟨⟨rfl, fun y hy => (h y hy).o.o, by show xs.length ≤ _; omega⟩, (Sh.lst fun y hy => (h y hy).s).mono (by have := Nat.mul_le_mul_right (sz 1 + 2) hl; exact Nat.le_trans (Nat.add_le_add_right this 4) (by decide)) (by decide)⟩
theorem address_ok {b : Nat} {S : Store} (B : Bag S b) {P : W → Store → Prop} (q : ∀ (d : D) S', Big d → Kb.Fr b S S' → P (.d d) S') : OkE (m_law_address [.r b] S) P := by
  unfold m_law_address
  decreasing_with simp only [id]
  refine tk B (by decide) (by decide) fun v S1 v0 v1 f1 => ?_
  decreasing_with simp only [id]
  refine ⟨⟨by omega, by omega⟩, ?_⟩
  refine lcDraw (Qd := Th 1) (by exact (show 2 < 5 from by decide)) (by rw [range_len]; unfold cap; omega) f1.bag (fun x S3 P3 B3 q3 => ?_) fun ys S3 hl hy f3 => ?_
  · decreasing_with simp only [id]
    exact tk B3 (by decide) (by decide) fun w S2 w0 w1 f2 => q3 _ _ (int_th (by omega) (by omega) 1) f2
  rw [range_len] at hl
  decreasing_with simp only [id]
  refine tk f3.bag (by omega) (by omega) fun w S4 w0 w1 f4 => ?_
  decreasing_with simp only [show cPow 10 40 = true from by decide]
  refine tk f4.bag (by decide) (by decide) fun u S5 u0 u1 f5 => ?_
  obtain ⟨d, hd, e⟩ := pick (S := S5) (ds := aOdd) u0 u1
  have t1 := v_addTT (S := S5) (xs := cutA ys none (some w)) (ys := [d]) (by have := cutA_len (xs := ys) (lo := none) (hi := some w); simp; omega)
  have t2 := v_addTT (S := S5) (xs := cutA ys none (some w) ++ [d]) (ys := cutA ys (some (w + 1)) none) (by have := cutA_len (xs := ys) (lo := none) (hi := some w); have := cutA_len (xs := ys) (lo := some (w + 1)) (hi := none); simp; omega)
  decreasing_with simp only [show gIx S5 (.d (.lst [.bl true, .int (-1), .non, .str "0", .int (10 ^ (40 : Int).toNat), .tup [.int 0], .lst [.int 0]])) (.d (.int u)) = some (.d d) from e, v_slT, t1, t2]
  refine tk f5.bag (by decide) (by decide) fun z S6 z0 z1 f6 => ?_
  obtain ⟨d', hd', e'⟩ := pick (S := S6) (ds := [.tup ys, .tup ys, .lst ys, .tup (cutA ys none (some w) ++ [d] ++ cutA ys (some (w + 1)) none)]) z0 z1
  decreasing_with simp only [e']
  refine q _ _ ?_ (f1.trans (f3.trans (f4.trans (f5.trans f6))))
  simp only [List.mem_cons, List.not_mem_nil, or_false] at hd'
  have hys : ys.length ≤ 20 := by omega
  rcases hd' with h | h | h | h <;> rw [h]
  · exact tup7 hy hys
  · exact tup7 hy hys
  · exact lst7 hy hys
  · refine tup7 (fun y hy' => ?_) ?_
    · rcases List.mem_append.mp hy' with h | h
      · rcases List.mem_append.mp h with h | h
        · exact hy y (cutA_mem h)
        · rw [List.mem_singleton.mp h]
          exact aOdd_ok d hd
      · exact hy y (cutA_mem h)
    · have := cutA_len (xs := ys) (lo := none) (hi := some w)
      have := cutA_len (xs := ys) (lo := some (w + 1)) (hi := none)
      simp only [List.length_append, List.length_singleton]
      omega
end L11
set_option linter.all false
set_option maxRecDepth 100000
set_option maxHeartbeats 1000000
namespace L11
open PySem PySem.Spec PyProof.Rows L2 Zf Kb
theorem nm_ok {S : Store} {b k : Nat} (B : Bag S b) (hk : k ≤ 12) {P : W → Store → Prop} (q : ∀ (ns : List Str) (S' : Store), ns.length = k → (∀ n ∈ ns, SOk n) → Kb.Fr b S S' → P (.d (.lst (sds ns))) S') : OkE (m_law_names [.r b, .d (.int (k : Int))] S) P := names_ok B hk q
theorem names_big {ns : List Str} (h : ∀ n ∈ ns, SOk n) (hl : ns.length ≤ 100) : Big (.lst (sds ns)) := by
  have hm : ∀ y ∈ sds ns, ok1 y = true ∧ Sh 122 0 y := fun y hy => by
    obtain ⟨n, hn, rfl⟩ := List.mem_map.mp hy
    have := h n hn
    exact ⟨decide_eq_true (Nat.le_trans this.1 (by decide)), Sh.str this.1 this.2⟩
  have e := sds_len ns
  refine ⟨⟨rfl, fun y hy => (hm y hy).1, by show (sds ns).length ≤ _; omega⟩, (Sh.lst fun y hy => (hm y hy).2).mono ?_ (by decide)⟩
  have := Nat.mul_le_mul_right (122 + 2) (show (sds ns).length ≤ 100 by omega)
  omega
def zeros : D := .lst (List.replicate 9000 [D.int 0]).flatten
def manyA : D := .tup (List.replicate 9000 [D.str "a"]).flatten
theorem zeros_big : Big zeros := by
  have hm : ∀ y ∈ (List.replicate 9000 [D.int 0]).flatten, y = D.int 0 := fun y hy => by
    obtain ⟨l, h1, h2⟩ := List.mem_flatten.mp hy
    rw [(List.mem_replicate.mp h1).2] at h2
    exact List.mem_singleton.mp h2
  have e : (List.replicate 9000 [D.int 0]).flatten.length = 9000 := by rw [List.length_flatten, List.map_replicate]; simp
  refine ⟨⟨rfl, fun y hy => by rw [hm y hy]; rfl, by show (List.replicate 9000 [D.int 0]).flatten.length ≤ _; omega⟩, (Sh.lst (sz := 13) (dp := 0) fun y hy => by rw [hm y hy]; exact Sh.int (by decide) (by decide)).mono (by rw [e]; decide) (by decide)⟩
theorem as_big : Big manyA := by
  have hm : ∀ y ∈ (List.replicate 9000 [D.str "a"]).flatten, y = D.str "a" := fun y hy => by
    obtain ⟨l, h1, h2⟩ := List.mem_flatten.mp hy
    rw [(List.mem_replicate.mp h1).2] at h2
    exact List.mem_singleton.mp h2
  have e : (List.replicate 9000 [D.str "a"]).flatten.length = 9000 := by rw [List.length_flatten, List.map_replicate]; simp
  refine ⟨⟨rfl, fun y hy => by rw [hm y hy]; rfl, by show (List.replicate 9000 [D.str "a"]).flatten.length ≤ _; omega⟩, (Sh.tup (sz := 12) (dp := 0) fun y hy => by rw [hm y hy]; exact Sh.str (k := 1) (by decide +kernel) (by decide +kernel)).mono (by rw [e]; decide) (by decide)⟩
theorem deep_big : Big (.lst [nest 19 (.lst [])]) := by
  have := nest_sh 19 (.lst []) 4 1 (Sh.lst (sz := 0) (dp := 0) fun y hy => nomatch hy)
  exact ⟨⟨rfl, fun y hy => by rw [List.mem_singleton.mp hy]; rfl, by decide⟩, (Sh.lst (xs := [nest 19 (.lst [])]) fun y hy => by rw [List.mem_singleton.mp hy]; exact this).mono (by decide) (by decide)⟩
theorem mul_zeros {S : Store} : gMulT S (.d (.lst [.int 0])) (.d (.int 9000)) = some (.d zeros) := v_repL ⟨by decide, by decide, by decide⟩
theorem mul_as {S : Store} : gMulT S (.d (.tup [.str "a"])) (.d (.int 9000)) = some (.d manyA) := by
  have e : gRepT S (.d (.tup [.str "a"])) (.d (.int 9000)) = some (.d manyA) := by
    unfold gRepT
    exact if_pos ⟨by decide, by decide, by decide, by decide⟩
  have e2 : gMul S (.d (.tup [.str "a"])) (.d (.int 9000)) = none := rfl
  show (gMul S _ _).or _ = _
  rw [e2, e]
  rfl
theorem mul_names {S : Store} {ns : List Str} (h : ns.length ≤ 12) : gMulT S (.d (.lst (sds ns))) (.d (.int 2)) = some (.d (.lst (sds (ns ++ ns)))) := by
  rw [v_repL ⟨by decide, by decide, by rw [sds_len]; show _ * 2 ≤ _; omega⟩]
  have : (List.replicate (Int.toNat 2) (sds ns)).flatten = sds (ns ++ ns) := by
    show (List.replicate 2 (sds ns)).flatten = _
    unfold sds
    simp [List.replicate]
  rw [this]
theorem last_eq {S : Store} : gEqA S (.d (.lst [.bl false, .bl false, .bl false, .bl false, .bl false])) (.d (.lst [.bl false, .bl false, .bl false, .bl false, .bl false])) = some (.d (.bl true)) := eqPl rfl (by decide) rfl
theorem mul_false {S : Store} : gMulT S (.d (.lst [.bl false])) (.d (.int 5)) = some (.d (.lst [.bl false, .bl false, .bl false, .bl false, .bl false])) := v_repL ⟨by decide, by decide, by decide⟩
theorem l1 {S : Store} {fs : List (Str × D)} : m_is_integer [.d (.ins 0 fs)] S = some (.d (.bl false), S) := rfl
theorem l2 {S : Store} {fs : List (Str × D)} : m_is_name [.d (.ins 0 fs)] S = some (.d (.bl false), S) := rfl
theorem l3 {S : Store} {fs : List (Str × D)} : m_are_names [.d (.ins 0 fs), .d (.int 3)] S = some (.d (.bl false), S) := rfl
theorem l4 {S : Store} {fs : List (Str × D)} : m_is_address [.d (.ins 0 fs)] S = some (.d (.bl false), S) := rfl
theorem l5 {S : Store} {fs : List (Str × D)} : m_is_way [.d (.lst [.ins 0 fs])] S = some (.d (.bl false), S) := rfl
def upTos : List D := [.int 0, .int 1, .int 2, .int 3, .int 4, .int 6, .int 9]
theorem upTos_ok : ∀ d ∈ upTos, ∃ k : Int, d = .int k := by
  intro d hd
  simp only [upTos, List.mem_cons, List.not_mem_nil, or_false] at hd
  rcases hd with h | h | h | h | h | h | h <;> exact ⟨_, h⟩
theorem law_okE {ns : List Int} (h : ns.length ≤ 63) : ∃ S', m_law [.d (.ro (ns.map .int))] [] = some (.d (.bl true), S') := by
  have key : OkE (m_law [.d (.ro (ns.map .int))] []) fun w _ => w = .d (.bl true) := by
    unfold m_law
    decreasing_with simp only [id]
    refine bag_ok h fun xs hl h0 => ?_
    decreasing_with simp only [bagL]
    have B0 := bag_at0 hl h0
    refine deep_loop _ _ _ _ _ _ fun o' => ?_
    decreasing_with simp only [show (dRange 0 (Int.toNat 20)).length = 20 from rfl]
    rw [nest_snoc 19]
    refine lcDraw (Qd := Big) (by exact (show 3 < 9 from by decide)) (by decide) B0 (fun x S3 P3 B3 q3 => ?_) fun ys S3 hl hy f3 => ?_
    · decreasing_with simp only [id]
      exact thing_ok 12 2 S3 P3 (by decide) B3 fun d S' hd f => q3 d S' hd.big f
    have hl : ys.length = 30 := hl
    decreasing_with simp only [id]
    refine lcDraw (Qd := Big) (by exact (show 3 < 9 from by decide)) (by decide) f3.bag (fun x S3 P3 B3 q3 => ?_) fun zs S4 hl' hz f4 => ?_
    · decreasing_with simp only [id]
      exact address_ok B3 q3
    have hl' : zs.length = 10 := hl'
    decreasing_with simp only [v_addLL (S := S4) (xs := ys) (ys := zs) (by omega), mul_zeros, mul_as]
    refine nm_ok (k := 4) f4.bag (by decide) fun n1 S5 e1 hn1 f5 => ?_
    decreasing_with simp only [id]
    refine nm_ok (k := 3) f5.bag (by decide) fun n2 S6 e2 hn2 f6 => ?_
    decreasing_with simp only [mul_names (S := S6) (ns := n2) (by omega)]
    refine nm_ok (k := 9) f6.bag (by decide) fun n3 S7 e3 hn3 f7 => ?_
    have add := v_addLL (S := S7) (xs := ys ++ zs) (ys := [zeros, manyA, .lst [nest 19 (.lst [])], .lst (sds n1), .lst (sds (n2 ++ n2)), .lst (sds n3)]) (by simp [hl, hl'])
    have big : ∀ d ∈ ys ++ zs ++ [zeros, manyA, .lst [nest 19 (.lst [])], .lst (sds n1), .lst (sds (n2 ++ n2)), .lst (sds n3)], Big d := fun d hd => by
      simp only [List.mem_append, List.mem_cons, List.not_mem_nil, or_false] at hd
      rcases hd with (h | h) | h | h | h | h | h | h
      · exact hy d h
      · exact hz d h
      · rw [h]; exact zeros_big
      · rw [h]; exact as_big
      · rw [h]; exact deep_big
      · rw [h]; exact names_big hn1 (by omega)
      · rw [h]; exact names_big (fun n hn => by rcases List.mem_append.mp hn with h | h <;> exact hn2 n h) (by simp; omega)
      · rw [h]; exact names_big hn3 (by omega)
    revert add big
    generalize ys ++ zs ++ [zeros, manyA, .lst [nest 19 (.lst [])], .lst (sds n1), .lst (sds (n2 ++ n2)), .lst (sds n3)] = things
    intro add big
    decreasing_with simp only [add]
    refine forInv (I := fun env S => ∃ w0 w2 w3 w4 w5 w6 w7, env = [w0, some (.r 0), w2, w3, w4, w5, w6, w7, none] ∧ Bag S 0) ⟨_, _, _, _, _, _, _, rfl, f7.bag⟩ ?_ ?_
    · rintro d hd _ S ⟨w0, w2, w3, w4, w5, w6, w7, rfl, B⟩
      refine ⟨by exact (show 5 < 9 from by decide), ?_⟩
      obtain ⟨x, ex⟩ := repr_ok (S := S) (big d hd).s (by decide) (by decide)
      have ex1 : ∀ S, g1 gReprA S [.d d] = some (.d (.str x)) := fun S => ex
      decreasing_with simp only [ex1]
      refine tk B (by decide) (by decide) fun v S1 v0 v1 f1 => ?_
      obtain ⟨u, hu, eu⟩ := pick (S := S1) (ds := upTos) v0 v1
      obtain ⟨k, rfl⟩ := upTos_ok u hu
      decreasing_with simp only [show gIx S1 (.d (.lst [.int 0, .int 1, .int 2, .int 3, .int 4, .int 6, .int 9])) (.d (.int v)) = some (.d (.int k)) from eu, z_okE (law_right_ok d k (big d hd).o S1), ex1]
      exact ⟨.inl trivial, _, _, _, _, _, _, _, rfl, f1.bag⟩
    · rintro _ S ⟨w0, w2, w3, w4, w5, w6, w7, rfl, B⟩
      decreasing_with simp only [id]
      refine body_ok fun fs => ?_
      decreasing_with simp only [z_okE l1, z_okE l2, z_okE l3, z_okE l4, z_okE l5, mul_false, last_eq]
  obtain ⟨⟨w, S'⟩, e, hw⟩ := key
  dsimp only at hw
  exact ⟨S', by rw [e, hw]⟩
end L11
namespace L11
open PySem PySem.Spec PyProof.Rows L2 Zf
theorem law_true (ns : List Int) (h : ns.length ≤ 63) : ∃ S', m_law [.d (.ro (ns.map .int))] [] = some (.d (.bl true), S') := law_okE h
end L11
set_option maxRecDepth 100000
set_option maxHeartbeats 4000000
open PySem PySem.W PySem.Calls PyProof.Rows
theorem PySem.Challenge.cw_cutoutpieces_k11_words_of_any_value_holds : PySem.Challenge.rw_cutoutpieces_k11_words_of_any_value.Holds := by
  w_on; o_law
  refine HandSHeadRun.head_any (r := (PySem.W.OpenLaw.row PySem.Challenge.rw_cutoutpieces_k11_words_of_any_value)) (q := view (PySem.W.OpenLaw.row PySem.Challenge.rw_cutoutpieces_k11_words_of_any_value).prog [66]) (H := L11.hk) (ob := L11.ob) (M := 12000) (loose := L11.loose) (d := HandSHeadRun.topDef (PySem.W.OpenLaw.row PySem.Challenge.rw_cutoutpieces_k11_words_of_any_value).prog 66) (kwd := []) L11.ob_eq
    (by kernel_rfl) (fun s => by kernel_rfl) L11.run (by kernel_rfl) (by kernel_rfl) (by kernel_rfl) (by rfl) (by first | assumption | decide +kernel) (by decide +kernel) ⟨rfl, rfl, rfl, rfl, rfl, by decide +kernel⟩ ?hw ?hc
  case hw => w_witness2
  case hc =>
    refine Zf.walk_g (l := PySem.Challenge.rw_cutoutpieces_k11_words_of_any_value) (n := 63) (k := L11.law_lv) (px := "_law_script") rfl (by decide) (by kernel_rfl) ⟨rfl, by decide, by decide⟩ ?_
    intro w mg fa h Y ns hmg0
    obtain ⟨K, KX, c⟩ := Y
    have hmg : mg ("law" : PySem.Str) = some (.ref fa) := by
      have e : (HandSHeadRun.topDef (PySem.W.OpenLaw.row PySem.Challenge.rw_cutoutpieces_k11_words_of_any_value).prog 66).name = ("law" : PySem.Str) := by kernel_rfl
      rw [← e]
      exact hmg0
    have sy := Zf.sysB_ok (c.ex 0)
    obtain ⟨fd, D⟩ := c.d.def_ L11.law_ix rfl
    have hd : ∀ base : Heap, K.In base → base.Ns mainGlobals mg → Zf.Hd L11.fa L11.fn L11.ts L11.eb ⟨PySem.Challenge.rw_cutoutpieces_k11_words_of_any_value.prog, w, K, L11.clsOf K, 0⟩ mg base := fun base a b => ⟨a, b, c, sy⟩
    have e := hmg.symm.trans ((hd h KX ns).glo L11.law_fact (x := "law") rfl)
    cases e
    have b := L2.FunD.bindsA (ps := ["_law_script"]) D fun _ _ _ _ _ _ us hl => match us, hl with | [_], _ => rfl
    exact ⟨⟨PySem.Challenge.rw_cutoutpieces_k11_words_of_any_value.prog, w, K, L11.clsOf K, 0⟩, fd, L11.m_law, rfl, rfl, KX, fun s v => b s [v] rfl, L11.law_true, fun base a b => L11.the_law (hd base a b) rfl D⟩
