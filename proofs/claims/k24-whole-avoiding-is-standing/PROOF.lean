import PyProof.Rows.All
import Wide.All
import OpenK.AllK
import Wide.FinOn
import HandS.Base
import HandS.Call
import HandS.List
import HandS.Set
import HandS.SetFor
import HandS.SetTxt0
import HandS.ForMost
import HandS.Conv
import KE.SortKeyHeap
import HandS.Lambda
import HandS.Walk
import HandS.Text
import HandS.Comp
import HandS.Zip
import HandS.Steps
import HandS.Dict
import HandS.EndTab
import PySem.Challenge.RW_lackword_k24_whole_avoiding_is_standing
set_option Elab.async false
set_option linter.all false
set_option maxRecDepth 100000
set_option maxHeartbeats 4000000
/-! the plain law: words as lists of codes -/
namespace Lw
/-- u ++ [c] is missing in T -/
def Miss (T u : List Nat) (c : Nat) : Prop := u <:+: T ∧ ¬ (u ++ [c]) <:+: T ∧ (u ++ [c]).drop 1 <:+: T
theorem inf_trans {a b c : List Nat} (h1 : a <:+: b) (h2 : b <:+: c) : a <:+: c := h1.trans h2
theorem nil_inf (T : List Nat) : ([] : List Nat) <:+: T := List.nil_infix
theorem snoc_of_ne {w : List Nat} (h : w ≠ []) : ∃ u c, w = u ++ [c] := ⟨w.dropLast, w.getLast h, (List.dropLast_concat_getLast h).symm⟩
theorem drop_inf (w : List Nat) (n : Nat) : w.drop n <:+: w := (List.drop_suffix n w).isInfix
theorem take_inf (w : List Nat) (n : Nat) : w.take n <:+: w := (List.take_prefix n w).isInfix
/-- a word that does not stand has a missing word inside -/
theorem miss_in {T K : List Nat} : ∀ (n : Nat) (w : List Nat), w.length ≤ n → (∀ c ∈ w, c ∈ K) → ¬ w <:+: T → ∃ u c, (u ++ [c]) <:+: w ∧ c ∈ K ∧ Miss T u c := by
  intro n
  induction n with
  | zero =>
    intro w hl hk hw
    have e : w = [] := List.length_eq_zero_iff.mp (Nat.le_zero.mp hl)
    subst e
    exact absurd (nil_inf T) hw
  | succ n ih =>
    intro w hl hk hw
    have hne : w ≠ [] := fun e => by
      subst e
      exact hw (nil_inf T)
    obtain ⟨u, c, rfl⟩ := snoc_of_ne hne
    rw [List.length_append, List.length_singleton] at hl
    by_cases h1 : u <:+: T
    · by_cases h2 : (u ++ [c]).drop 1 <:+: T
      · exact ⟨u, c, List.infix_rfl, hk c (List.mem_append_right _ (List.mem_singleton.mpr rfl)), h1, hw, h2⟩
      · obtain ⟨u', c', q1, q2, q3⟩ := ih ((u ++ [c]).drop 1) (by rw [List.length_drop, List.length_append, List.length_singleton]; omega) (fun d hd => hk d (List.mem_of_mem_drop hd)) h2
        exact ⟨u', c', q1.trans (drop_inf _ 1), q2, q3⟩
    · obtain ⟨u', c', q1, q2, q3⟩ := ih u (by omega) (fun d hd => hk d (List.mem_append_left _ hd)) h1
      exact ⟨u', c', q1.trans (List.prefix_append u [c]).isInfix, q2, q3⟩
/-- a word with a missing word inside does not stand -/
theorem miss_out {T u w : List Nat} {c : Nat} (m : Miss T u c) (h : (u ++ [c]) <:+: w) : ¬ w <:+: T := fun q => m.2.1 (h.trans q)
theorem inf_split {o : List Nat} : ∀ {w : List Nat}, o <:+: w → o ≠ w → o <:+: w.dropLast ∨ o <:+: w.drop 1 := by
  intro w h hne
  obtain ⟨s, t, e⟩ := h
  cases s with
  | cons a s =>
    right
    refine ⟨s, t, ?_⟩
    rw [← e]
    rfl
  | nil =>
    left
    have ht : t ≠ [] := fun z => by
      subst z
      rw [List.nil_append, List.append_nil] at e
      exact hne e
    refine ⟨[], t.dropLast, ?_⟩
    rw [← e, List.nil_append, List.dropLast_append_of_ne_nil ht]
/-- no missing word stands in another one -/
theorem miss_apart {T u v : List Nat} {c d : Nat} (m : Miss T u c) (m' : Miss T v d) (h : (v ++ [d]) <:+: (u ++ [c])) : v ++ [d] = u ++ [c] := by
  apply Classical.byContradiction
  intro hne
  rcases inf_split h hne with q | q
  · rw [List.dropLast_concat] at q
    exact m'.2.1 (q.trans m.1)
  · exact m'.2.1 (q.trans m.2.2)
/-- there is a missing word -/
theorem miss_some {T K : List Nat} (hT : ∀ c ∈ T, c ∈ K) {k : Nat} (hk : k ∈ K) : ∃ u c, c ∈ K ∧ Miss T u c := by
  have h : ¬ (T ++ [k]) <:+: T := fun q => by
    have := q.length_le
    rw [List.length_append, List.length_singleton] at this
    omega
  obtain ⟨u, c, _, q2, q3⟩ := miss_in (T := T) (K := K) (T ++ [k]).length (T ++ [k]) (Nat.le_refl _) (fun c hc => by
    rcases List.mem_append.mp hc with z | z
    · exact hT c z
    · rw [List.mem_singleton.mp z]; exact hk) h
  exact ⟨u, c, q2, q3⟩
/-- a stretch, by its places -/
theorem inf_iff_place {w T : List Nat} : w <:+: T ↔ ∃ i, i + w.length ≤ T.length ∧ (T.drop i).take w.length = w := by
  constructor
  · rintro ⟨s, t, rfl⟩
    refine ⟨s.length, ?_, ?_⟩
    · simp only [List.length_append]; omega
    · rw [List.append_assoc, List.drop_left, List.take_left]
  · rintro ⟨i, _, h⟩
    rw [← h]
    exact (take_inf _ _).trans (drop_inf _ _)
/-- each stretch with a letter or more is cut out by two places -/
theorem inf_iff_cut {w T : List Nat} : w <:+: T ↔ w = [] ∨ ∃ i j, i < T.length ∧ i < j ∧ j ≤ T.length ∧ w = (T.drop i).take (j - i) := by
  constructor
  · intro h
    obtain ⟨i, h1, h2⟩ := inf_iff_place.mp h
    cases w with
    | nil => exact .inl rfl
    | cons a r =>
      rw [List.length_cons] at h1
      refine .inr ⟨i, i + (a :: r).length, by omega, by rw [List.length_cons]; omega, by rw [List.length_cons]; omega, ?_⟩
      rw [Nat.add_sub_cancel_left]
      exact h2.symm
  · rintro (rfl | ⟨i, j, _, _, _, rfl⟩)
    · exact nil_inf T
    · exact (take_inf _ _).trans (drop_inf _ _)
/-- strictly rising, distinct -/
theorem rise_of {l : List Nat} (h : l.Pairwise (· ≤ ·)) (d : l.Nodup) : l.Pairwise (· < ·) := by
  induction l with
  | nil => exact List.Pairwise.nil
  | cons x l ih =>
    obtain ⟨h1, h2⟩ := List.pairwise_cons.mp h
    obtain ⟨d1, d2⟩ := List.nodup_cons.mp d
    refine List.pairwise_cons.mpr ⟨fun y hy => ?_, ih h2 d2⟩
    have a := h1 y hy
    have b : x ≠ y := fun z => d1 (z ▸ hy)
    omega
theorem rise_nodup {l : List Nat} (h : l.Pairwise (· < ·)) : l.Nodup := h.imp fun q => Nat.ne_of_lt q
/-- two rising lists with the same members are one -/
theorem rise_unique {l m : List Nat} (h1 : l.Pairwise (· ≤ ·)) (h2 : m.Pairwise (· ≤ ·)) (p : l.Perm m) : l = m :=
  p.eq_of_pairwise (fun a b _ _ x y => Nat.le_antisymm x y) h1 h2
end Lw
/-! set(text) and sorted of that set: signs below 128, all unlike -/
namespace LwS
open PySem PySem.Spec PyProof.Rows L2 PySem.Froz
section
variable {P : Program} {w : World}
theorem tail_ris {ep : Nat} {es : Array (Int × Value)} {t : SetTable} {wd : Bool} (r : Ris t.place.toList) : Ris (tailTx ep es t wd).2.2.place.toList := by
  unfold tailTx
  split
  · exact relayAll_ris t es _
  · exact r
theorem tail_led {ep : Nat} {es : Array (Int × Value)} {t : SetTable} {wd : Bool} : (tailTx ep es t wd).2.2.led = t.led := by
  unfold tailTx
  split
  · exact relayAll_led t es _
  · rfl
theorem plain_ris {t : SetTable} (r : Ris t.place.toList) : Ris (if t.plain = true then { t with plain := false } else t).place.toList := by
  split <;> exact r
theorem plain_led {t : SetTable} : (if t.plain = true then { t with plain := false } else t).led = t.led := by
  split <;> rfl
theorem add_ris {D : SD} {h : Int} {v : Value} (r : Ris D.2.2.place.toList) : Ris (addTx h v D).2.2.place.toList := by
  unfold addTx
  exact tail_ris (plain_ris (layNew_ris D.2.2 D.1 h v r))
theorem add_led {D : SD} {h : Int} {v : Value} : (addTx h v D).2.2.led = D.2.2.led := by
  unfold addTx
  rw [tail_led, plain_led, layNew_led]
/-- the payload behind all adds -/
theorem run_all : ∀ (cs : List Nat) (tk : Tok) (D : SD) (l : List Str), TxOk P w D l → Ris D.2.2.place.toList →
    TxOk P w (runD w cs tk D) ((cs.map sing).reverse ++ l) ∧ Ris (runD w cs tk D).2.2.place.toList ∧ (runD w cs tk D).2.2.led = D.2.2.led
  | [], _, D, l, F, r => ⟨F, r, rfl⟩
  | c :: cs, tk, D, l, F, r => by
    obtain ⟨a, b, d⟩ := run_all cs (tk + 2) (addTx (hashStr w (sing c)) (.str (sing c) tk) D) (sing c :: l) (add_ok tk F) (add_ris r)
    refine ⟨?_, b, d.trans add_led⟩
    rw [List.map_cons, List.reverse_cons, List.append_assoc]
    exact a
end
/-- the set of the texts l at a; l may have any order -/
def SetTx (P : Program) (w : World) (h : Heap) (a : Addr) (l : List Str) : Prop :=
  ∃ D : SD, h.get? a = some (sObj "set" D) ∧ TxOk P w D l ∧ Ris D.2.2.place.toList ∧ (w.params.followText "set-order" = true ∨ D.2.2.led = true)
theorem SetTx.at {P : Program} {w : World} {h h' : Heap} {a : Addr} {l : List Str} (R : SetTx P w h a l) (k : ∀ o, h.get? a = some o → h'.get? a = some o) : SetTx P w h' a l := by
  obtain ⟨D, e, r⟩ := R
  exact ⟨D, k _ e, r⟩
section
variable {P : Program} {w : World} {A : Around} {E : Value → Shared → Prop} {s : Shared}
/-- set(x) -/
theorem call_set_text {x : Str} {u : Tok} {Q : Value → Shared → Prop} (hh : A.handled = none) (ha : x.cps.all (· < 128) = true) (nd : x.cps.toList.Nodup) (hb : x.cps.toList.length < scanBound)
    (h : ∀ (h' : Heap) (tk : Nat), SetTx P w h' s.heap.objs.size (x.cps.toList.map sing).reverse → (∀ b o, s.heap.get? b = some o → h'.get? b = some o) → Q (.ref s.heap.objs.size) { s with heap := h', toks := tk }) :
    wpAny (model P w) A (call (.type "set") [.str x u]) Q E s := by
  obtain ⟨c, tl, mro⟩ := F.called_set.mro
  have made := F.called_set.made
  have sub := F.called_set.sub
  refine wpAny_call (codeAny_of_tree ?_)
  show wpAny _ _ (callAny (.type "set") _) _ _ _
  refine wpAny_pure ⟨Code.quiet_builtin _ (by decide +kernel), codeAny_builtin F.entry_type_call ?_⟩
  rw [Around.under_plain (weight_type_call_type "set" [.str x u] []) rfl]
  have k1 := F.called_set.notType
  have k2 := F.called_set.canCreate
  have k3 := F.typeCall_set_1 (.str x u)
  repeat (any_goals (first | assumption | wp_step))
  refine codeAny_mono (code_set_led1 (.str x u) (E := E) (Q₁ := fun v s₁ => v = .ref s.heap.objs.size ∧ s₁ = { s with heap := s.heap.push (sObj "set" (#[], 0, .fresh 0 0 (!w.params.followText "set-order"))) }) ⟨rfl, rfl⟩) fun r s₁ hr => ?_
  cases r with
  | error e => exact hr
  | ok fl =>
    cases fl with
    | next => exact hr.elim
    | brk => exact hr.elim
    | cont => exact hr.elim
    | ret v =>
      obtain ⟨rfl, rfl⟩ := hr
      have oS : (s.heap.push (sObj "set" (#[], 0, .fresh 0 0 (!w.params.followText "set-order")))).get? s.heap.objs.size = some (sObj "set" (#[], 0, .fresh 0 0 (!w.params.followText "set-order"))) := Heap.get?_push_size _ rfl
      have tS : Shared.TypeIs { s with heap := s.heap.push (sObj "set" (#[], 0, .fresh 0 0 (!w.params.followText "set-order"))) } (.ref s.heap.objs.size) "set" := ⟨_, oS, rfl⟩
      have i1 := F.called_set.init.lookup
      have i2 := F.called_set.init.bind (.ref s.heap.objs.size)
      repeat (any_goals (first | assumption | wp_step))
      refine codeAny_mono (codeAny_call_builtin (R := wants (fun r s₂ => r = .none ∧ ∃ h' tk, s₂ = { s with heap := h', toks := tk } ∧ SetTx P w h' s.heap.objs.size (x.cps.toList.map sing).reverse ∧ (∀ b o, s.heap.get? b = some o → h'.get? b = some o)) E)
        F.called_set.init.plain F.entry_set_init (check_set_init_1 tS ?_)) fun r₂ s₂ hr₂ => ?_
      · have e1 := F.sub_str_set
        have e2 := F.sub_str_frozenset
        have e3 : (Value.type "str" == Value.type "dict") = false := by decide
        unfold Builtin.«set.__init__» noKeywords Builtin.Frozenset.updateFrom
        generalize hPI : pyIter = PI
        wp_walk
        subst hPI
        refine wpAny_pyIter_ascii ha ?_
        refine wpAny_bind (wpAny_runValue ?_)
        have hh3 : A.in1.in1.handled = none := by simp [hh]
        have z1 : (s.heap.push (sObj "set" (#[], 0, .fresh 0 0 (!w.params.followText "set-order")))).objs.size = s.heap.objs.size + 1 := Heap.size_push ..
        have ne : s.heap.objs.size ≠ (s.heap.push (sObj "set" (#[], 0, .fresh 0 0 (!w.params.followText "set-order")))).objs.size := by
          rw [z1]
          exact Nat.ne_of_lt (Nat.lt_succ_self _)
        have oI : ((s.heap.push (sObj "set" (#[], 0, .fresh 0 0 (!w.params.followText "set-order")))).push (itObj x u 0)).get? (s.heap.push (sObj "set" (#[], 0, .fresh 0 0 (!w.params.followText "set-order")))).objs.size = some (itObj x u 0) := Heap.get?_push_size _ rfl
        have oS2 : ((s.heap.push (sObj "set" (#[], 0, .fresh 0 0 (!w.params.followText "set-order")))).push (itObj x u 0)).get? s.heap.objs.size = some (sObj "set" (#[], 0, .fresh 0 0 (!w.params.followText "set-order"))) := Heap.get?_push_of_some _ oS
        refine code_update (T := "set") (x := x) (u := u) (s := { s with heap := (s.heap.push (sObj "set" (#[], 0, .fresh 0 0 (!w.params.followText "set-order")))).push (itObj x u 0) }) ne hh3 x.cps.toList 0 (#[], 0, .fresh 0 0 (!w.params.followText "set-order")) [] rfl oS2 oI (TxOk.nil (by rfl)) (fun _ _ z => nomatch z) nd (by simpa using hb) ?_
        obtain ⟨g1, g2, g3⟩ := run_all (P := P) (w := w) x.cps.toList s.toks (#[], 0, .fresh 0 0 (!w.params.followText "set-order")) [] (TxOk.nil (by rfl)) List.Pairwise.nil
        rw [List.append_nil] at g1
        generalize runD w x.cps.toList s.toks (#[], 0, .fresh 0 0 (!w.params.followText "set-order")) = D at g1 g2 g3 ⊢
        refine wpAny_pure ?_
        show wpAny _ _ (ret Value.none) _ _ _
        refine wpAny_pure ⟨rfl, _, _, rfl, ⟨D, ?_, g1, g2, ?_⟩, fun b o e => ?_⟩
        · refine Heap.get?_push_of_some _ (Heap.get?_push_of_some _ ?_)
          exact PySem.Heap.get?_update_of_ne _ (Ne.symm ne) (get_upd _ oS2 rfl)
        · rw [g3]
          show _ ∨ (!w.params.followText "set-order") = true
          cases w.params.followText "set-order"
          · exact .inr rfl
          · exact .inl rfl
        · have hb0 : b < s.heap.objs.size := Heap.lt_size e
          refine Heap.get?_push_of_some _ (Heap.get?_push_of_some _ ?_)
          refine PySem.Heap.get?_update_of_ne _ (fun z => ?_) (PySem.Heap.get?_update_of_ne _ (fun z => ?_) (Heap.get?_push_of_some _ (Heap.get?_push_of_some _ e)))
          · rw [← z, z1] at hb0
            exact absurd hb0 (Nat.not_lt_of_le (Nat.le_succ _))
          · rw [← z] at hb0
            exact Nat.lt_irrefl _ hb0
      · cases r₂ with
        | error e => exact hr₂
        | ok fl₂ =>
          cases fl₂ with
          | next => exact hr₂.elim
          | brk => exact hr₂.elim
          | cont => exact hr₂.elim
          | ret r =>
            obtain ⟨rfl, h', tk, rfl, g1, g2⟩ := hr₂
            repeat (any_goals (first | assumption | wp_step))
            exact h _ _ g1 g2
end
end LwS
/-! set(text), sorted(set) over the layer -/
namespace LwS
open PySem PySem.Spec PyProof.Rows L2 PySem.Froz
theorem perm_of_nodup {α : Type} [BEq α] [LawfulBEq α] : ∀ (l m : List α), l.Nodup → (∀ x ∈ l, x ∈ m) → m.length = l.length → m.Perm l
  | [], m, _, _, h => by
    have e : m = [] := List.length_eq_zero_iff.mp h
    rw [e]
  | a :: l, m, nd, hs, h => by
    obtain ⟨d1, d2⟩ := List.nodup_cons.mp nd
    have ha : a ∈ m := hs a List.mem_cons_self
    have p1 := List.perm_cons_erase ha
    have h2 := p1.length_eq
    rw [List.length_cons] at h h2
    exact p1.trans ((perm_of_nodup l (m.erase a) d2 (fun x hx => (List.mem_erase_of_ne (fun (z : x = a) => d1 (z ▸ hx))).mpr (hs x (List.mem_cons_of_mem _ hx))) (by omega)).cons a)
theorem sing_inj {a b : Nat} (h : sing a = sing b) : a = b := by
  have e : [a] = [b] := congrArg (fun z : Str => z.cps.toList) h
  exact (List.cons.inj e).1
theorem nodup_sing {cs : List Nat} (h : cs.Nodup) : (cs.map sing).Nodup := by
  refine List.pairwise_map.mpr (h.imp fun {a b} ne e => ne (sing_inj e))
section
variable {P : Program} {w : World}
/-- the values of the payload are texts, and they are l -/
theorem txOk_strs {D : SD} {l : List Str} (F : TxOk P w D l) (nd : l.Nodup) : StrsAre (D.1.toList.map (·.2)) ((D.1.toList.map (·.2)).map strOf) ∧ ((D.1.toList.map (·.2)).map strOf).Perm l := by
  have each : ∀ e ∈ D.1.toList, ∃ k t, e.2 = Value.str k t := fun e he => by
    obtain ⟨⟨k, h1, _⟩, _⟩ := F.el e he
    obtain ⟨t, e1⟩ := Value.isStrOf_shape (x := k) (v := e.2) h1
    exact ⟨k, t, e1⟩
  refine ⟨strsAre_map _ fun v hv => ?_, perm_of_nodup l _ nd (fun k hk => ?_) ?_⟩
  · obtain ⟨e, he, rfl⟩ := List.mem_map.mp hv
    exact each e he
  · obtain ⟨e, he, h1⟩ := (F.mem k).mp hk
    obtain ⟨t, e1⟩ := Value.isStrOf_shape (x := k) (v := e.2) h1
    refine List.mem_map.mpr ⟨e.2, List.mem_map.mpr ⟨e, he, rfl⟩, ?_⟩
    rw [e1]
    rfl
  · rw [List.length_map, List.length_map, Array.length_toList]
    exact F.sz
end
theorem strs_perm {vs us : List Value} {ss : List Str} (h : StrsAre us ss) (p : vs.Perm us) : StrsAre vs (vs.map strOf) ∧ (vs.map strOf).Perm ss := by
  refine ⟨strsAre_map vs fun v hv => h.all v (p.mem_iff.mp hv), ?_⟩
  have q := p.map strOf
  rw [h.strs] at q
  exact q
section
variable {P : Program} {w : World} {A : Around} {E : Value → Shared → Prop} {s : Shared} {a : Addr}
/-- sorted(the set) -/
theorem sorted_setTx {l : List Str} {Q : Value → Shared → Prop} (R : SetTx P w s.heap a l) (hh : A.handled = none) (nd : l.Nodup) (h64 : l.length < 64)
    (hQ : ∀ s' p (out : Array Value) (c : Nat) (ss : List Str), (∀ b o, s.heap.get? b = some o → s'.heap.get? b = some o) → s'.gens = s.gens → s'.os = s.os → s.heap.objs.size ≤ p →
      s'.heap.get? p = some (seqObj "list" out c) → StrsAre out.toList ss → ss.Perm l → sortedS ss = true → Q (.ref p) s') :
    wpAny (model P w) A (call (.builtin "sorted") [.ref a]) Q E s := by
  obtain ⟨D, ho, F, r, hl⟩ := R
  obtain ⟨st1, st2⟩ := txOk_strs F nd
  have sz : D.1.size = l.length := F.sz
  refine Calls.call_function_entry kind_sorted plain_sorted entry_sorted (args_sorted1 _) ?_
  unfold Builtin.«sorted»
  refine wpAny_bind (m := checkCount "sorted" 1 1 _) (wpAny_pure ?_)
  refine wpAny_bind (collect_set (A := A.in1) hh (es := D.1) (ep := D.2.1) (t := D.2.2) ⟨_, ho, rfl, rfl⟩ F.fit (by rw [sz]; unfold scanBound; omega) r hl fun s1 vs k1 hz g1 o1 pm => ?_)
  have hvl : vs.length = l.length := by rw [pm.length_eq, List.length_map, Array.length_toList, sz]
  obtain ⟨v1, v2⟩ := strs_perm st1 pm
  refine wpAny_bind (wpAny_newList ?_ (by rw [hvl, sizeLine_eq]; omega))
  have oL : (s1.heap.push (seqObj "list" vs.toArray 0)).get? s1.heap.objs.size = some (seqObj "list" vs.toArray 0) := Heap.get?_push_size _ rfl
  refine wpAny_bind (wpAny_holding (wpAny_call_entry slot_list_sort ⟨_, oL, rfl⟩ entry_list_sort (list_sort_treeK strKind_oneLt oL v1.keysOf (fun v₁ v₂ rest e => keyKind_strs (by rw [← e]; exact v1)) (by rw [hvl]; exact h64) fun st' hp hs => ⟨_, rfl, ?_⟩) (args_list_sort _)))
  obtain ⟨ss, a1, a2, a3⟩ := sorted_out_str v1 hp hs
  obtain ⟨c, hc⟩ := sortedHeap_at (vs := vs) (out := (arrOf st').map (·.2)) oL
  refine wpAny_pure ⟨_, rfl, hQ _ s1.heap.objs.size _ c ss (fun b u e => ?_) g1 o1 hz hc a1 (a2.trans (v2.trans st2)) a3⟩
  have q := k1 b u e
  have hlt := Heap.lt_size q
  show (sortedHeap (s1.heap.push (seqObj "list" vs.toArray 0)) s1.heap.objs.size vs _).get? b = some u
  rw [sortedHeap_old (Nat.ne_of_lt hlt) (by rw [size_push']; exact Nat.lt_succ_of_lt hlt)]
  exact Heap.get?_push_of_some _ q
end
/-- the set in the layer's heap -/
def SetTxO (P : Program) (w : World) (a : Addr) (l : List Str) : HO := .ext fun h => SetTx P w h a l
section
variable {X : Cx}
theorem setTxO_new {P : Program} {w : World} {H : Hp} {h : Heap} {a : Addr} {l : List Str} (R : SetTx P w h a l) : ObjOk P w H h a (SetTxO P w a l) := by
  obtain ⟨D, e, r⟩ := id R
  exact ⟨R, ⟨_, e⟩, fun h1 h2 p k => p.at k⟩
def rSetText (P : Program) (w : World) : List V → Hp → VK → Prop := fun xs H Q => ∃ x : Str, xs = [.str x] ∧ x.cps.all (· < 128) = true ∧ x.cps.toList.Nodup ∧ x.cps.toList.length < 64 ∧
  ∀ p, H p = none → Q (.ref p) (upd H p (SetTxO P w p (x.cps.toList.map sing).reverse))
theorem cr_setText (hc : X.calm = true) : CallR X (.type "set") (rSetText X.prog X.w) := by
  intro pins s σ H xs us Q I r h
  obtain ⟨x, rfl, h1, h2, h3, q⟩ := h
  obtain ⟨u, rfl, t, rfl⟩ := vals1 r
  refine call_set_text (I.ok.hd hc) h1 h2 (by unfold scanBound; omega) fun h' tk R k => ?_
  exact ⟨.ref _, upd H s.heap.objs.size (SetTxO X.prog X.w s.heap.objs.size (x.cps.toList.map sing).reverse), I.laid (t' := tk) k (Nat.le_refl _) (setTxO_new R), rfl, q _ (I.hok.fresh (Nat.le_refl _))⟩
def rSortedTx (P : Program) (w : World) : List V → Hp → VK → Prop := fun vs H Q => ∃ (a : Addr) (l : List Str), vs = [V.ref a] ∧ H a = some (SetTxO P w a l) ∧ l.Nodup ∧ l.length < 64 ∧
  ∀ (ys : List Str) (p : Addr), ys.Perm l → sortedS ys = true → H p = none → Q (.ref p) (upd H p (.lst (ys.map V.str)))
theorem cr_sortedTx (hc : X.calm = true) : CallR X (.builtin "sorted") (rSortedTx X.prog X.w) := by
  intro pins s σ H vs us Q I r h
  obtain ⟨a, l, rfl, ha, nd, h64, q⟩ := h
  have R : SetTx X.prog X.w s.heap a l := (I.hok a _ ha).1
  rw [Vals.ref1 r]
  refine sorted_setTx R (I.ok.hd hc) nd h64 fun s' p out c ss k g o hp hg hi hs hm => ?_
  have hlen : (ss.map V.str).length ≤ sizeLine := by rw [List.length_map, hs.length_eq, sizeLine_eq]; omega
  have hn : H p = none := I.hok.fresh hp
  have J : Inv X pins σ (upd H p (.lst (ss.map V.str))) { s with heap := s'.heap, gens := s'.gens, drawn := s'.drawn, toks := s'.toks } :=
    I.call (ch := []) (Un.laid k hp hn) (I.hok.laid k hp ⟨hlen, out.toList, c, vals_of_strs hi, hg⟩) (by rw [g]; exact I.bare) (fun _ z => nomatch z)
  have e : s' = { s with heap := s'.heap, gens := s'.gens, drawn := s'.drawn, toks := s'.toks } := by
    cases s'
    cases s
    cases o
    rfl
  rw [e]
  exact ⟨.ref p, _, J, rfl, q ss p hs hm hn⟩
end
end LwS
/-! list(text), text * n; find, slices, by codes -/
namespace LwT
open PySem PySem.Spec PyProof.Rows L2
/-- the text of one sign -/
abbrev sg (c : Nat) : Str := ⟨#[c]⟩
/-- the codes -/
abbrev cd (x : Str) : List Nat := x.cps.toList
theorem cd_len (x : Str) : x.length = (cd x).length := by simp [cd, Str.length]
theorem cd_ext {x y : Str} (h : cd x = cd y) : x = y := Str.ext' (Array.toList_inj.mp h)
theorem cd_add (x y : Str) : cd (x ++ y) = cd x ++ cd y := TL.tl_append x y
theorem cd_sg (c : Nat) : cd (sg c) = [c] := rfl
section
variable {X : Cx}
/-! ### list(text) -/
def rListText : List V → Hp → VK → Prop := fun xs H Q => ∃ x : Str, xs = [.str x] ∧ (cd x).length ≤ 1000 ∧ ∀ p, H p = none → Q (.ref p) (upd H p (.lst (((cd x).map sg).map V.str)))
theorem cr_listText (hc : X.calm = true) : CallR X (.type "list") rListText := by
  intro pins s σ H xs us Q I r h
  obtain ⟨x, rfl, hx, q⟩ := h
  obtain ⟨u, rfl, t, rfl⟩ := vals1 r
  have hs : x.cps.size = (cd x).length := by simp [cd]
  have hl : x.cps.size ≤ sizeLine := by
    rw [hs, sizeLine_eq]
    omega
  refine call_list_str (I.ok.hd hc) x t (hn := hl) fun h' tk acc c' hk hS hacc => ?_
  have el : acc.toList.length = acc.size := by simp
  have ln : (((cd x).map sg).map V.str).length = (cd x).length := by rw [List.length_map, List.length_map]
  refine ⟨.ref _, upd H s.heap.objs.size (.lst (((cd x).map sg).map V.str)), I.laid (t' := tk) hk (Nat.le_refl _) (show ObjOk X.prog X.w _ _ _ (.lst (((cd x).map sg).map V.str)) from ⟨by rw [ln, ← hs]; exact hl, acc.toList, c', ?_, ?_⟩), rfl, q _ (I.hok.fresh (Nat.le_refl _))⟩
  · refine vals_of_at (by rw [ln, el, hacc.1, hs]) fun j v w h1 h2 => ?_
    obtain ⟨c, u, hc1, rfl⟩ := hacc.2 j w (by rw [← Array.getElem?_toList]; exact h2)
    have e1 : (cd x)[j]? = some c := by rw [← hc1, Array.getElem?_toList]
    rw [List.getElem?_map, List.getElem?_map, e1] at h1
    cases h1
    exact ⟨u, rfl⟩
  · rw [Array.toArray_toList]
    exact hS
/-! ### text * n -/
theorem fold_app (a : Array Nat) : ∀ (m : Nat) (b : Array Nat), ((List.replicate m a).foldl (· ++ ·) b).toList = b.toList ++ (List.replicate m a.toList).flatten
  | 0, b => by simp
  | m + 1, b => by
    rw [List.replicate_succ, List.foldl_cons, fold_app a m (b ++ a), List.replicate_succ, List.flatten_cons, Array.toList_append, List.append_assoc]
theorem mul_cd (x : Str) (n : Int) : (∀ c ∈ cd (Txt.mul x n), c ∈ cd x) ∧ (Txt.mul x n).length ≤ x.length * n.toNat + x.length := by
  unfold Txt.mul
  split
  · exact ⟨fun c hc => (by cases hc), Nat.zero_le _⟩
  · split
    · exact ⟨fun c hc => hc, Nat.le_add_left _ _⟩
    · have e := fold_app x.cps n.toNat #[]
      constructor
      · intro c hc
        have hc : c ∈ ((List.replicate n.toNat x.cps).foldl (· ++ ·) #[]).toList := hc
        rw [e] at hc
        have hc2 : c ∈ (List.replicate n.toNat x.cps.toList).flatten := by simpa using hc
        obtain ⟨l, hl, hcl⟩ := List.mem_flatten.mp hc2
        rw [List.eq_of_mem_replicate hl] at hcl
        exact hcl
      · rw [cd_len, cd_len]
        show ((List.replicate n.toNat x.cps).foldl (· ++ ·) #[]).toList.length ≤ _
        rw [e]
        simp [Nat.mul_comm]
theorem op_mul_text : OpR X (binaryOp .Mult) (fun x y H Q => ∃ (z : Str) (n : Int), x = .str z ∧ y = .int n ∧ z.length ≤ 1000 ∧ 0 ≤ n ∧ n ≤ 1000 ∧ Q (.str (Txt.mul z n)) H) := by
  intro pins s σ H x y v u Q I rx ry h
  obtain ⟨z, n, rfl, rfl, h1, h2, h3, q⟩ := h
  obtain ⟨t, rfl⟩ := rx
  obtain ⟨t', rfl⟩ := ry
  exact SB.mul (mulOk_of 1000 1000 h1 (by omega) (by omega) (by decide) (by decide)) fun t' k => ⟨.str _, H, I.tok _, ⟨_, rfl⟩, q⟩
end
/-! ### find -/
theorem sub_cd {x y : Str} {i : Nat} (h : Builtin.Str.subAt x y i = true) : ((cd x).drop i).take (cd y).length = cd y := by
  have e := TL.tl_strSub x i (i + y.length)
  have e2 := congrArg (fun z : Str => z.cps.toList) (PyProof.Rows.strSub_of_subAt h)
  have e3 : ((cd x).drop i).take (i + y.length - i) = cd y := e.symm.trans e2
  rw [Nat.add_sub_cancel_left, cd_len] at e3
  exact e3
/-- where find says a place, the word stands there -/
theorem find_at {x y : Str} (h : 0 ≤ Txt.find x y) : ∃ i : Nat, Txt.find x y = (i : Int) ∧ i + y.length ≤ x.length ∧ ((cd x).drop i).take (cd y).length = cd y := by
  rcases PyProof.Rows.find_whole x y with ⟨e, _⟩ | ⟨i, e, h1, _⟩
  · rw [e] at h
    exact absurd h (by decide)
  · exact ⟨i, e, h1.1, sub_cd h1.2⟩
/-- find says a place just where the word stands -/
theorem find_iff {x y : Str} : 0 ≤ Txt.find x y ↔ cd y <:+: cd x := by
  constructor
  · intro h
    obtain ⟨i, _, h1, h2⟩ := find_at h
    exact Lw.inf_iff_place.mpr ⟨i, by rw [← cd_len, ← cd_len]; exact h1, h2⟩
  · intro h
    obtain ⟨i, h1, h2⟩ := Lw.inf_iff_place.mp h
    rcases PyProof.Rows.find_whole x y with ⟨_, hn⟩ | ⟨i, e, _, _⟩
    · refine absurd ⟨?_, ?_⟩ (hn i)
      · rw [cd_len, cd_len]
        exact h1
      · have z : Builtin.Str.subAt x y i = (((cd x).drop i).take y.length == cd y) := PySem.StrLaws.subAt_eq x y i
        rw [z, cd_len, h2]
        exact beq_self_eq_true _
    · rw [e]
      exact Int.natCast_nonneg _
theorem find_neg {x y : Str} : Txt.find x y < 0 ↔ ¬ cd y <:+: cd x := by
  rw [← find_iff]
  omega
/-! ### slices -/
theorem cut_cd (z : Str) (lo hi : Option Int) : cd (cutS z lo hi) = ((cd z).drop (HT.sIx z.length 0 lo)).take (HT.sIx z.length z.length hi - HT.sIx z.length 0 lo) := rfl
/-- all codes of a slice are the text's -/
theorem cut_mem {z : Str} {lo hi : Option Int} {c : Nat} (h : c ∈ cd (cutS z lo hi)) : c ∈ cd z := by
  rw [cut_cd] at h
  exact List.mem_of_mem_drop (List.mem_of_mem_take h)
theorem cut_nn (z : Str) (i j : Nat) : cd (cutS z (some (i : Int)) (some (j : Int))) = ((cd z).drop (min i z.length)).take (min j z.length - min i z.length) := by
  rw [cut_cd, HT.sIx_nat, HT.sIx_nat]
theorem cut_nx (z : Str) (i : Nat) : cd (cutS z (some (i : Int)) none) = (cd z).drop i := by
  rw [cut_cd, HT.sIx_nat, HT.sIx_none, cd_len]
  by_cases h : i ≤ (cd z).length
  · rw [Nat.min_eq_left h]
    exact List.take_of_length_le (by rw [List.length_drop]; exact Nat.le_refl _)
  · rw [Nat.min_eq_right (by omega), List.drop_of_length_le (Nat.le_refl _), List.drop_of_length_le (by omega), List.take_nil]
/-- z[i:i+n], where a word of n letters stands at i -/
theorem cut_at {z y : Str} {i : Nat} (h1 : i + y.length ≤ z.length) (h2 : ((cd z).drop i).take (cd y).length = cd y) : cutS z (some (i : Int)) (some ((i + y.length : Nat) : Int)) = y := by
  apply cd_ext
  rw [cut_nn, Nat.min_eq_left (show i ≤ z.length by omega), Nat.min_eq_left h1, Nat.add_sub_cancel_left, cd_len]
  exact h2
end LwT
/-! sorted(words, key=lambda word: (len(word), word)), words a list of texts: some arrangement -/
namespace LwK
open PySem PySem.Spec PyProof.Rows L2
abbrev lamArgs (p : Pos) : Arguments := { posonlyargs := [], args := [{ arg := "word", annotation := none, pos := p }], vararg := none, kwonlyargs := [], kw_defaults := [], kwarg := none, defaults := [] }
abbrev lamBody (p1 p2 p3 p4 p5 : Pos) : Expr := .Tuple [.Call (.Name "len" p1) [.Name "word" p2] [] p3, .Name "word" p4] 0 p5
abbrev lamScope : Scope := { kind := .function, names := [(Str.ofString "word", .local), (Str.ofString "len", .globalImplicit)], isGenerator := false, isCoroutine := false, more := [] }
abbrev lenKey (x : Str) : PyData := .tuple [.int x.length, .str x]
section
variable {P : Program} {w : World} {A : Around} {s : Shared} {mg mb : Str → Option Value} {f c' : Addr} {q : Str} {pm ctv : Value} {x : Str} {t : Tok} {p0 p1 p2 p3 p4 p5 : Pos}
/-- one call of the lambda -/
theorem turn (ho : s.heap.get? f = some (PySem.W.kla_obj "<lambda>" q (lamArgs p0) (lamBody p1 p2 p3 p4 p5) lamScope [] pm c' ctv)) (hcd : s.heap.CodeRec (.ref c') q) (hG : s.heap.Ns mainGlobals mg) (hm : mg "len" = none) (hB : s.heap.Ns builtinsNs mb) (hv : mb "len" = some (.builtin "len"))
    (hlim : s.heap.NoLimit) (hx : x.length ≤ sizeLine) (hd : A.depth < recursionLimit) :
    wpAny (model P w) A (call (.ref f) [.str x t]) (PySem.W.KeyPure (lenKey x) s) (fun _ _ => False) s := by
  have hz : (x.length : Int) < 9223372036854775808 := by
    rw [sizeLine_eq] at hx
    omega
  refine wpAny_call (PySem.W.kla_callFunE hd ho rfl rfl rfl rfl hcd ?_)
  refine wpAny_of_eq (a := [(("word" : Str), Value.str x t)]) (by rfl) ?_
  refine wpAny_newFunctionEnv (fun y hy => ?_) (fun y hy => ?_) (fun h1 hns hsb => ?_) rfl
  · rcases List.mem_cons.mp hy with e | hy
    · rw [e]; decide
    · rw [List.mem_singleton.mp hy]; decide
  · rw [List.mem_singleton.mp hy]
    rfl
  · have kp : ∀ b o, s.heap.get? b = some o → h1.get? b = some o := fun b o e => hsb.extBut b o (Nat.ne_of_lt (Heap.lt_size e)) (Heap.get?_push_of_some _ e)
    refine ⟨hlim.keeps kp, ?_⟩
    show codeAny _ _ (.expr (lamBody p1 p2 p3 p4 p5) (PySem.W.envX q lamScope s.heap.objs.size f (.ref c') [])) _ _
    refine PySem.W.kla_codeExpr ?_
    have rd : ∀ {p : Pos} {s2 : Shared} {Q : Value → Shared → Prop} {A' : Around} {E' : Value → Shared → Prop}, s2.heap.Ns s.heap.objs.size (fun y => [(("word" : Str), Value.str x t)].reverse.lookup y) → Q (.str x t) s2 →
        wpAny (model P w) A' (eval (.Name "word" p) (PySem.W.envX q lamScope s.heap.objs.size f (.ref c') [])) Q E' s2 := fun hn hq => wpAny_Name (wpAny_loadName_local rfl rfl hn (by rfl) hq) (by decide)
    refine wpAny_Tuple_spliced (PyProof.Rows.args_cons ?_ rfl)
    refine Call_ (Calls.Name_function_global rfl rfl (Calls.loadGlobal_builtin (hG.keeps kp) hm (hB.keeps kp) hv ?_))
    refine PyProof.Rows.callWith_builtin1 (PyProof.Rows.args_cons (rd hns (PyProof.Rows.args_nil ?_)) rfl) rfl rfl
    refine len_str (by omega) ?_
    refine PyProof.Rows.args_cons (rd hns (PyProof.Rows.args_nil ?_)) rfl
    refine ⟨by show 2 ≤ sizeLine; decide, ?_⟩
    refine ⟨_, _, rfl, fun b o e => Heap.get?_push_of_some _ (kp b o e), ?_⟩
    exact .tuple (Heap.get?_push_size _ rfl) rfl rfl (.cons (as := []) (bs := []) (.int _ _) (.cons (as := []) (bs := []) (.str _ _) .nil))
end
theorem seq_ext {K : PySem.W.Frag} {H H' : Hp} {a : Addr} {xs : List V} (e : LamX.ExtN H H') (h : SqL K H a xs) : SqL K H' a xs := by
  rcases h with (h | ⟨o, h⟩) | h
  · exact .inl (.inl (e _ _ h fun _ z => by cases z))
  · exact .inl (.inr ⟨o, e _ _ h fun _ z => by cases z⟩)
  · exact .inr h
theorem each_strs : ∀ {xs : List Str} {us : List Value}, Vals (xs.map V.str) us → PySem.W.EachIs (fun v x => ∃ t, v = Value.str x t) us xs
  | [], _, .nil => .nil
  | x :: xs, _, .cons r rest => .cons r (each_strs rest)
theorem vals_each : ∀ {ys : List Str} {us : List Value}, PySem.W.EachIs (fun v x => ∃ t, v = Value.str x t) us ys → Vals (ys.map V.str) us
  | _, _, .nil => .nil
  | _, _, .cons r rest => .cons r (vals_each rest)
def tSortLen (K : PySem.W.Frag) (T : List (Addr × Str)) (te : TE) : TE := fun σ H Q => te σ H fun x H1 => ∃ (a : Addr) (xs : List Str), x = .ref a ∧ SqL K H1 a (xs.map V.str) ∧ (∀ y ∈ xs, y.length ≤ sizeLine) ∧ LamX.Tabs T H1 ∧
  ∀ (ys : List Str) (p : Addr) (H2 : Hp), ys.Perm xs → LamX.ExtN H1 H2 → LamX.Tabs T H2 → H2 p = none → Q (.ref p) (upd H2 p (.lst (ys.map V.str)))
section
variable {X : Cx}
theorem pe_sortLen {T : List (Addr × Str)} {c P : Addr} {e : Expr} {te : TE} {p pos kpos lpos p0 p1 p2 p3 p4 p5 : Pos} (hg : Gl X "sorted") (hm : X.mg "sorted" = none) (hml : X.mg "len" = none) (he : PE X e te)
    (TB : LamX.TabB X.base X.mg c P) (hcode : X.env.code = .ref c) (hmT : (P, X.env.qual ++ "<lambda>") ∈ T) (hu : ∀ p ∈ T, p.1 = P → p.2 = X.env.qual ++ "<lambda>") (hr : Room 1 X.A)
    (hs : starEach [e] X.env = (false, eval e X.env) :: starEach [] X.env := by rfl) :
    PE X (.Call (.Name "sorted" p) [e] [⟨some "key", .Lambda (lamArgs p0) (lamBody p1 p2 p3 p4 p5) lamScope lpos, kpos⟩] pos) (tSortLen X.K T te) := by
  refine ⟨fun pins s σ H Q I h => ?_⟩
  refine wpAny_Call_Name_kw (ld_blt I hg hm boot_sorted ?_)
  refine PyProof.Rows.callWith_kw (PyProof.Rows.args_cons (thn (he.run pins s σ H _ I h) fun v s1 ⟨x, H1, I1, r1, q1⟩ => PyProof.Rows.args_nil ?_) hs) (by rw [hs]; rfl) (by rw [hs]; rfl) rfl rfl
  obtain ⟨a, xs, rfl, hq, hlen, hT, q⟩ := q1
  obtain rfl : v = Value.ref a := r1
  show wpAny _ _ (evalAll [do let v ← eval (.Lambda (lamArgs p0) (lamBody p1 p2 p3 p4 p5) lamScope lpos) X.env; standAt pos; pure v]) _ _ _
  refine wpAny_evalAll_cons (wpAny_bind (LamX.lam_make2 I1 TB hcode hmT hu hT rfl (fun y hy e => ?_) fun f c' pm ctv H2 s2 I2 eN T2 hf hfn hfr hco => wpAny_bind (wpAny_standAt (wpAny_pure (wpAny_evalAll_nil ?_)))))
  · rcases List.mem_cons.mp hy with z | hy
    · rw [z] at e; cases e
    · rw [List.mem_singleton.mp hy] at e; cases e
  show wpAny _ _ (call (.builtin "sorted") [.ref a] [(Str.ofString "key", .ref f)]) _ _ _
  obtain ⟨its, rv, hl, hz⟩ := I2.list (seq_ext eN hq)
  rw [List.length_map] at hz
  obtain ⟨⟨oc, vs, tq, e1, e2, e3⟩, _, _⟩ := I2.hok c' _ hco
  obtain ⟨mb, hB, hv⟩ := I2.mod.blt
  have un := hr.un
  have dp := hr.dp
  refine PySem.W.sorted_key_data (b := false) (β := Str) (R := fun v x => ∃ t, v = Value.str x t) (bs := xs) lenKey hl.isList (each_strs rv) (PySem.W.AllAlike.of fun _ _ => by simp [PySem.W.alike, PySem.W.alikeAll, lenKey]) (PySem.W.Sortable.tuples fun _ => ⟨_, _, rfl⟩) hz (fun y _ => ?_)
    (PyProof.Rows.ksk_s1 _ _) (fun _ => PyProof.Rows.ksk_l1 _ _) (fun _ => PyProof.Rows.ksk_t1 _ _) (fun v y ⟨ty, ev⟩ hy h tk kp => ?_) fun out cc h' tk kp hfre hget _ ea => ?_
  · have hdp : (lenKey y).depth = 1 := by simp [lenKey, PyData.depth, PyData.depthAll]
    rw [hdp]
    omega
  · subst ev
    refine turn (s := { s2 with heap := h, toks := tk }) (kp _ _ hf) ⟨c', oc, vs, tq, rfl, kp _ _ e1, e2, e3⟩ ((I2.mod.glob.keeps I2.bk).keeps kp) hml ((hB.keeps I2.bk).keeps kp) ((hv _ (by decide)).trans boot_len) (I2.nolimit.keeps kp) (hlen y hy) ?_
    show X.A.depth < _
    omega
  · have pm := List.mergeSort_perm xs (PySem.W.dataLe false lenKey)
    have rl : Vals ((xs.mergeSort (PySem.W.dataLe false lenKey)).map V.str) out := vals_each ea
    refine ⟨.ref _, upd H2 (s2.heap.objs.size + 1) (.lst ((xs.mergeSort (PySem.W.dataLe false lenKey)).map V.str)), I2.laid (t' := tk) kp (Nat.le_succ _) (show ObjOk X.prog X.w _ _ _ (.lst _) from ⟨?_, out, cc, rl, hget⟩), rfl, q _ _ H2 pm eN T2 (I2.hok.fresh (Nat.le_succ _))⟩
    rw [List.length_map, pm.length_eq]
    exact hz
end
end LwK
/-! the text by places, words over kinds, the law's helpers -/
namespace LwP
open PySem PySem.Spec PyProof.Rows L2 LwT
/-! ### the text -/
def top (i : Nat) : Stmt := PySem.Challenge.pw_lackword_k24_whole_avoiding_is_standing.main.body.getD i (.Pass ⟨0, 0, 0, 0⟩)
abbrev sIsKinds : Stmt := top 6
abbrev sIsWord : Stmt := top 7
abbrev sNeedKinds : Stmt := top 8
abbrev sNeedWord : Stmt := top 9
abbrev sInOrder : Stmt := top 11
abbrev sStretches : Stmt := top 12
abbrev sLacking : Stmt := top 15
abbrev sInside : Stmt := top 16
abbrev sCell : Stmt := top 18
abbrev sMixed : Stmt := top 19
abbrev sKinds : Stmt := top 20
abbrev sLetters : Stmt := top 21
abbrev sText : Stmt := top 22
abbrev sWord : Stmt := top 23
abbrev sShows : Stmt := top 24
abbrev sLaw : Stmt := top 25
/-! ### kinds, words over them -/
/-- K tells kinds -/
structure Kds (K : Str) : Prop where
  rise : (cd K).Pairwise (· < ·)
  one : 1 ≤ (cd K).length
  four : (cd K).length ≤ 4
  az : ∀ c ∈ cd K, 97 ≤ c ∧ c ≤ 122
/-- all letters of T are K's -/
def Over (K T : Str) : Prop := ∀ c ∈ cd T, c ∈ cd K
theorem Over.empty (K : Str) : Over K Str.empty := fun c h => by cases h
theorem Over.add {K a b : Str} (h1 : Over K a) (h2 : Over K b) : Over K (a ++ b) := fun c h => by
  rw [cd_add] at h
  exact (List.mem_append.mp h).elim (h1 c) (h2 c)
theorem Over.cut {K a : Str} {lo hi : Option Int} (h : Over K a) : Over K (cutS a lo hi) := fun c hc => h c (cut_mem hc)
theorem Over.sg {K : Str} {c : Nat} (h : c ∈ cd K) : Over K (sg c) := fun d hd => by
  have e : d = c := List.mem_singleton.mp hd
  rw [e]
  exact h
theorem add_len (a b : Str) : (a ++ b).length = a.length + b.length := by rw [cd_len, cd_add, List.length_append, ← cd_len, ← cd_len]
theorem line_of {n : Nat} (h : n ≤ 100000) : n ≤ sizeLine := by
  rw [sizeLine_eq]
  omega
theorem div_small {j : Int} (h0 : 0 < j) (h1 : j ≤ 1000000000) : ∀ i : Int, CDiv i j := fun _ => ⟨h0, by omega⟩
/-- an item of a text at a rest -/
theorem at_mod {xs : List Nat} (n : Int) (h : 0 < xs.length) : ∃ c, atI xs (n % (xs.length : Int)) = some c ∧ c ∈ xs := by
  have h1 := Int.emod_nonneg n (show ((xs.length : Int)) ≠ 0 by omega)
  have h2 := Int.emod_lt_of_pos n (show (0 : Int) < (xs.length : Int) by omega)
  obtain ⟨j, hj⟩ := Int.eq_ofNat_of_zero_le h1
  have hjl : j < xs.length := by omega
  refine ⟨xs[j], ?_, List.getElem_mem hjl⟩
  rw [hj]
  exact atI_nat (List.getElem?_eq_getElem hjl)
section
variable {P : Program} {w : World} {K : PySem.W.Frag} {mg : Str → Option Value} {base : Heap}
/-! ### _law_cell -/
def spCell (K : PySem.W.Frag) : Sp := fun vs H Q _ => ∃ (a : Addr) (ns : List Int) (k : Int), vs = [.ref a, .int k] ∧ SqL K H a (ns.map V.int) ∧ 0 ≤ k ∧ k ≤ 1000 ∧ ∀ n : Int, Q (.int n) H
theorem scCell : FnScope ["_law_script", "_law_k"] ["_law_script", "_law_k"] (defScope sCell) := ⟨rfl, rfl, rfl, by decide +kernel, rfl, by decide +kernel, by decide +kernel⟩
theorem ok_cell {f : Addr} {fd : FuncData} (F : Fun K "_law_cell" "_law_cell" sCell f fd) (ml : mg "len" = none) : FnOk P w K mg base CX0 1 f fd ["_law_script", "_law_k"] (spCell K) := by
  refine F.ok scCell (fun vs H Q E h => ?_) (fun cdv A outer s H vs Q E hr h => ?_)
  · obtain ⟨a, ns, k, rfl, _⟩ := h
    rfl
  · obtain ⟨a, ns, k, rfl, hS, h0, h1, q⟩ := h
    refine ⟨_, pss_cons (ps_if (pt_cmpR op_lt (pv 1) (pe_callB call_len_seq (by rfl) ml PySem.boot_len (pa_cons (pv 0) pa_nil)) (nomark _))
        (pss_one (ps_ret (pe_ix ix_list (pv 0) (pv 1) (fun _ _ => rfl)))) pss_nil)
      (pss_one (ps_ret (pe_op op_add (pe_op op_mul pe_int (pv 1)) pe_int))), ?_⟩
    refine ⟨_, rfl, _, rfl, a, _, rfl, .inl hS, _, _, rfl, rfl, _, rfl, ite2 (fun e => ?_) (fun e => ?_)⟩
    · have e1 : k < ((ns.map V.int).length : Int) := of_decide_eq_true e
      rw [List.length_map] at e1
      obtain ⟨j, rfl⟩ := Int.eq_ofNat_of_zero_le h0
      have hj : j < ns.length := by omega
      refine ⟨_, rfl, _, rfl, a, _, _, .int ns[j], rfl, rfl, hS, atI_nat ?_, q _⟩
      rw [List.getElem?_map, List.getElem?_eq_getElem hj]
      rfl
    · exact ⟨_, rfl, _, _, rfl, rfl, .inl ⟨by decide, by decide⟩, _, _, rfl, rfl, q _⟩
/-! ### _law_mixed -/
def spMixed : Sp := fun vs H Q _ => ∃ (c k : Int), vs = [.int c, .int k] ∧ 0 ≤ k ∧ k ≤ 1000 ∧ ∀ n : Int, 0 ≤ n → n < 2147483549 → Q (.int n) H
theorem scMixed : FnScope ["_law_cell_here", "_law_k", "_law_number"] ["_law_cell_here", "_law_k"] (defScope sMixed) := ⟨rfl, rfl, rfl, by decide +kernel, rfl, by decide +kernel, by decide +kernel⟩
theorem ok_mixed {f : Addr} {fd : FuncData} (F : Fun K "_law_mixed" "_law_mixed" sMixed f fd) : FnOk P w K mg base CX0 1 f fd ["_law_cell_here", "_law_k"] spMixed := by
  refine F.ok scMixed (fun vs H Q E h => ?_) (fun cdv A outer s H vs Q E hr h => ?_)
  · obtain ⟨c, k, rfl, _⟩ := h
    rfl
  · obtain ⟨c, k, rfl, h0, h1, q⟩ := h
    refine ⟨_, pss_cons (ps_set (i := 2) scMixed.nd rfl (.inl rfl) (pe_op op_mod (pe_op op_add (pe_op op_add (pe_op op_mul (pe_op op_mod (pv 0) pe_int) pe_int) (pe_op op_mul (pv 1) pe_int)) pe_int) pe_int))
      (pss_cons (ps_set (i := 2) scMixed.nd rfl (.inl rfl) (pe_op op_mod (pe_op op_add (pe_op op_add (pe_op op_mul (pe_op op_mod (pe_op op_mul (pv 2) (pv 2)) pe_int) pe_int) (pe_op op_mul (pv 1) pe_int)) pe_int) pe_int))
      (pss_one (ps_ret (pe_op op_mod (pe_op op_mul (pv 2) (pv 2)) pe_int)))), ?_⟩
    have p1 : (0 : Int) < 2147483647 := by decide
    have p2 : (0 : Int) < 2147483629 := by decide
    have p3 : (0 : Int) < 2147483587 := by decide
    have p4 : (0 : Int) < 2147483549 := by decide
    have r4 : ∀ z : Int, 0 ≤ z % 2147483549 ∧ z % 2147483549 < 2147483549 := fun z => ⟨Int.emod_nonneg z (by decide), Int.emod_lt_of_pos z p4⟩
    have r1 : ∀ z : Int, -(2 ^ 64) < z % 2147483647 ∧ z % 2147483647 < 2 ^ 64 := fun z => by
      have a1 := Int.emod_nonneg z (show (2147483647 : Int) ≠ 0 by decide)
      have a2 := Int.emod_lt_of_pos z p1
      omega
    have r3 : ∀ z : Int, -(2 ^ 64) < z % 2147483587 ∧ z % 2147483587 < 2 ^ 64 := fun z => by
      have a1 := Int.emod_nonneg z (show (2147483587 : Int) ≠ 0 by decide)
      have a2 := Int.emod_lt_of_pos z p3
      omega
    refine ⟨_, rfl, _, _, rfl, rfl, p1, _, _, rfl, rfl, .inr ⟨by decide, by decide⟩, _, rfl, _, _, rfl, rfl, .inr ⟨by decide, by decide⟩, _, _, rfl, rfl, _, _, rfl, rfl, _, _, rfl, rfl, p1, ?_⟩
    refine ⟨_, rfl, _, rfl, _, _, rfl, rfl, .inl (r1 _), _, _, rfl, rfl, p2, _, _, rfl, rfl, .inr ⟨by decide, by decide⟩, _, rfl, _, _, rfl, rfl, .inr ⟨by decide, by decide⟩, _, _, rfl, rfl, _, _, rfl, rfl, _, _, rfl, rfl, p3, ?_⟩
    exact ⟨_, rfl, _, rfl, _, _, rfl, rfl, .inl (r3 _), _, _, rfl, rfl, p4, q _ (r4 _).1 (r4 _).2⟩
end
end LwP
/-! _law_kinds, _law_letters -/
namespace LwP
open PySem PySem.Spec PyProof.Rows L2 LwT
/-! ### sorted single signs -/
theorem one_perm {ys : List Str} {fs : List Nat} (p : ys.Perm (fs.map sg)) : ∃ gs : List Nat, ys = gs.map sg ∧ gs.Perm fs := by
  refine ⟨ys.map fun y => (cd y).headD 0, ?_, ?_⟩
  · rw [List.map_map]
    have e : ∀ y ∈ ys, (sg ∘ fun y => (cd y).headD 0) y = y := fun y hy => by
      obtain ⟨c, _, rfl⟩ := List.mem_map.mp (p.mem_iff.mp hy)
      rfl
    rw [List.map_congr_left e, List.map_id']
  · have q := p.map fun y => (cd y).headD 0
    rw [List.map_map] at q
    have e : ∀ c ∈ fs, ((fun y : Str => (cd y).headD 0) ∘ sg) c = c := fun c _ => rfl
    rw [List.map_congr_left e, List.map_id'] at q
    exact q
theorem rising_one : ∀ (l : List Nat) (p : Nat), risingS (sg p) (l.map sg) = true → (p :: l).Pairwise (· ≤ ·)
  | [], p, _ => by simp
  | x :: r, p, h => by
    have h' : (!ltCps [x] [p] && risingS (sg x) (r.map sg)) = true := h
    rw [Bool.and_eq_true] at h'
    have ih := rising_one r x h'.2
    have e : p ≤ x := by
      have a := h'.1
      simp only [ltCps, Bool.and_false, Bool.or_false, Bool.not_eq_true', decide_eq_false_iff_not] at a
      omega
    refine List.pairwise_cons.mpr ⟨fun y hy => ?_, ih⟩
    rcases List.mem_cons.mp hy with z | z
    · rw [z]
      exact e
    · exact Nat.le_trans e (List.rel_of_pairwise_cons ih z)
theorem sorted_one : ∀ (l : List Nat), sortedS (l.map sg) = true → l.Pairwise (· ≤ ·)
  | [], _ => List.Pairwise.nil
  | x :: r, h => rising_one r x h
theorem joinL_nil : ∀ l : List (List Nat), TL.joinL [] l = l.flatten
  | [] => rfl
  | [p] => by simp [TL.joinL]
  | p :: q :: r => by
    show p ++ ([] ++ TL.joinL [] (q :: r)) = _
    rw [List.nil_append, joinL_nil (q :: r)]
    rfl
theorem flat_one : ∀ gs : List Nat, ((gs.map sg).map TL.tl).flatten = gs
  | [] => rfl
  | c :: r => by
    rw [List.map_cons, List.map_cons, List.flatten_cons, flat_one r]
    rfl
theorem erase_of_map {α β : Type} (f : α → β) : ∀ (l : List α) (j : Nat), (l.map f).eraseIdx j = (l.eraseIdx j).map f
  | [], j => by simp
  | a :: r, 0 => by simp
  | a :: r, j + 1 => by
    rw [List.map_cons, List.eraseIdx_cons_succ, erase_of_map f r j, List.eraseIdx_cons_succ, List.map_cons]
theorem cd_join (gs : List Nat) : cd (Txt.join ("" : Str) (gs.map sg)) = gs := by
  rw [TL.join_eq]
  have e := TL.tl_join ("" : Str) (gs.map sg)
  have e0 : TL.tl ("" : Str) = [] := by decide +kernel
  rw [e0, joinL_nil] at e
  exact e.trans (flat_one gs)
abbrev abc : Str := "abcdefghijklmnopqrstuvwxyz"
theorem abc_cd : cd abc = List.range' 97 26 := by decide +kernel
theorem kds_of {fs gs : List Nat} (nd : fs.Nodup) (az : ∀ c ∈ fs, c ∈ cd abc) (h1 : 1 ≤ fs.length) (h4 : fs.length ≤ 4) (p : gs.Perm fs) (s : sortedS (gs.map sg) = true) : Kds (Txt.join ("" : Str) (gs.map sg)) := by
  have e := cd_join gs
  refine ⟨?_, ?_, ?_, fun c hc => ?_⟩
  · rw [e]
    exact Lw.rise_of (sorted_one gs s) (p.nodup_iff.mpr nd)
  · rw [e, p.length_eq]
    exact h1
  · rw [e, p.length_eq]
    exact h4
  · rw [e] at hc
    have q := az c (p.mem_iff.mp hc)
    rw [abc_cd, List.mem_range'_1] at q
    omega
theorem seq_ok {i : Int} {j n : Nat} (e : i = (j : Int)) (h : j < n) : seqIndex? i n = some j := by
  unfold seqIndex?
  have h1 : ¬ (j : Int) < 0 := by omega
  have h2 : (decide (0 ≤ (j : Int)) && decide ((j : Int) < (n : Int))) = true := by
    rw [Bool.and_eq_true, decide_eq_true_eq, decide_eq_true_eq]
    omega
  rw [e]
  simp only [if_neg h1]
  rw [if_pos h2, Int.toNat_natCast]
theorem same_new {H H' : Hp} {p : Addr} {o : HO} (s : Same H H') (h : H p = none) : Same H (upd H' p o) := fun b u e => by
  rw [upd_ne (ne_of_none e h)]
  exact s b u e
section
variable {P : Program} {w : World} {K : PySem.W.Frag} {mg : Str → Option Value} {base : Heap}
def spKinds : Sp := fun vs H Q _ => ∃ c : Int, vs = [.int c] ∧ ∀ (z : Str) (H' : Hp), Kds z → Same H H' → Q (.str z) H'
theorem scKinds : FnScope ["_law_cell_here", "_law_letters_here", "_law_found", "_law_left", "_law_k"] ["_law_cell_here"] (defScope sKinds) := ⟨rfl, rfl, rfl, by decide +kernel, rfl, by decide +kernel, by decide +kernel⟩
theorem ok_kinds {f : Addr} {fd : FuncData} (F : Fun K "_law_kinds" "_law_kinds" sKinds f fd) (mi : mg "list" = none) (mr : mg "range" = none) (ml : mg "len" = none) (ms : mg "sorted" = none) : FnOk P w K mg base CX0 1 f fd ["_law_cell_here"] spKinds := by
  refine F.ok scKinds (fun vs H Q E h => ?_) (fun cdv A outer s H vs Q E hr h => ?_)
  · obtain ⟨c, rfl, _⟩ := h
    rfl
  · obtain ⟨c, rfl, q⟩ := h
    refine ⟨_, pss_cons (ps_set (i := 1) scKinds.nd rfl (.inl rfl) (pe_callTy (cr_listText rfl) (by rfl) mi (by decide +kernel) (pa_cons pe_str pa_nil)))
      (pss_cons (ps_set (i := 2) scKinds.nd rfl (.inl rfl) (pe_lst pa_nil))
      (pss_cons (ps_set (i := 3) scKinds.nd rfl (.inl rfl) (pe_op op_fdiv (pv 0) pe_int))
      (pss_cons (ps_for PassesOwn.never rfl (pi_range1 rfl mr (pa_cons (pe_op op_add pe_int (pe_op op_mod (pv 0) pe_int)) pa_nil)) (pg_name (i := 4) scKinds.nd rfl (.inl rfl))
        (pss_cons (ps_expr (pe_bm PySem.F.plainAttrs_list PySem.F.slot_list_append PySem.F.type_list_append mt_append (pv 2)
            (pa_cons (pe_bm PySem.F.plainAttrs_list PySem.F.slot_list_pop PySem.F.type_list_pop mt_popAt (pv 1) (pa_cons (pe_op op_mod (pv 3) (pe_callB call_len_seq (by rfl) ml PySem.boot_len (pa_cons (pv 1) pa_nil))) pa_nil)) pa_nil)))
          (pss_one (ps_set (i := 3) scKinds.nd rfl (.inl rfl) (pe_op op_fdiv (pv 3) pe_int)))))
      (pss_one (ps_ret (pe_join pe_str (pe_callB cr_sortedS (by rfl) ms (by decide +kernel) (pa_cons (pv 2) pa_nil)))))))), ?_⟩
    have la : (cd abc).length = 26 := by decide +kernel
    refine ⟨abc, rfl, by rw [la]; decide, fun p np => ⟨Nat.zero_le _, fun r nr => ?_⟩⟩
    have npr : p ≠ r := fun e => by
      rw [← e, upd_same] at nr
      cases nr
    have nr0 : H r = none := by
      rw [upd_ne npr.symm] at nr
      exact nr
    have c1 := Int.emod_nonneg c (show (4 : Int) ≠ 0 by decide)
    have c2 := Int.emod_lt_of_pos c (show (0 : Int) < 4 by decide)
    refine ⟨_, rfl, _, _, rfl, rfl, ⟨by decide, by decide⟩, _, rfl, _, _, rfl, rfl, (by decide : (0 : Int) < 4), _, _, rfl, rfl, _, rfl, by omega, by omega, ?_⟩
    refine for_range (lo := 0) (n := (1 + c % 4).toNat) (fun i σ H' => ∃ (cs fs : List Nat) (left : Int) (v4 : Option V), σ = [some (.int c), some (.ref p), some (.ref r), some (.int left), v4] ∧
      H' p = some (.lst ((cs.map sg).map V.str)) ∧ H' r = some (.lst ((fs.map sg).map V.str)) ∧ (fs ++ cs).Perm (cd abc) ∧ fs.length = i ∧ Same H H')
      ⟨cd abc, [], _, none, rfl, by rw [upd_ne npr, upd_same], upd_same, List.Perm.refl _, rfl, same_new (same_new (Same.refl H) np) nr0⟩ ?_ ?_
    · rintro i σ H' hi ⟨cs, fs, left, v4, rfl, hp, hq, pm, hl, sm⟩
      have pl := pm.length_eq
      rw [List.length_append, la] at pl
      have lc : ((cs.map sg).map V.str).length = cs.length := by rw [List.length_map, List.length_map]
      have hc0 : 0 < cs.length := by omega
      have e1 := Int.emod_nonneg left (show ((((cs.map sg).map V.str).length : Nat) : Int) ≠ 0 by rw [lc]; omega)
      have e2 := Int.emod_lt_of_pos left (show (0 : Int) < (((cs.map sg).map V.str).length : Nat) by rw [lc]; omega)
      obtain ⟨j, hj⟩ := Int.eq_ofNat_of_zero_le e1
      have hjl : j < cs.length := by omega
      have hy : ((cs.map sg).map V.str)[j]? = some (.str (sg cs[j])) := by
        rw [List.getElem?_map, List.getElem?_map, List.getElem?_eq_getElem hjl]
        rfl
      refine ⟨_, rfl, .inl ⟨rfl, _, SqL.of hq⟩, _, rfl, .inl ⟨rfl, _, SqL.of hp⟩, _, rfl, _, rfl, p, _, rfl, .inl (SqL.of hp), _, _, rfl, rfl, (by rw [lc]; omega), p, _, _, j, _, rfl, rfl, hp, by omega, by omega, seq_ok hj (by rw [lc]; exact hjl), hy, ?_⟩
      have hq2 : (upd H' p (.lst (((cs.map sg).map V.str).eraseIdx j))) r = some (.lst ((fs.map sg).map V.str)) := by
        rw [upd_ne npr.symm]
        exact hq
      refine ⟨r, _, _, rfl, rfl, hq2, by rw [List.length_map, List.length_map, sizeLine_eq]; omega, ?_⟩
      refine ⟨_, rfl, _, _, rfl, rfl, ⟨by decide, by decide⟩, ?_⟩
      refine ⟨cs.eraseIdx j, fs ++ [cs[j]], _, _, rfl, ?_, ?_, ?_, by rw [List.length_append, List.length_singleton, hl], fun b o e => ?_⟩
      · rw [upd_ne npr, upd_same, erase_of_map, erase_of_map]
      · rw [upd_same, List.map_append, List.map_append]
        rfl
      · rw [List.append_assoc]
        have z : (cs[j] :: cs.eraseIdx j).Perm cs := L2.erase_perm cs j _ (List.getElem?_eq_getElem hjl)
        exact (z.append_left fs).trans pm
      · rw [upd_ne (ne_of_none e nr0), upd_ne (ne_of_none e np)]
        exact sm b o e
    · rintro σ H' ⟨cs, fs, left, v4, rfl, hp, hq, pm, hl, sm⟩
      have ndA : (cd abc).Nodup := by
        rw [abc_cd]
        exact List.nodup_range'
      have ndF : fs.Nodup := (List.nodup_append.mp (pm.nodup_iff.mpr ndA)).1
      have inF : ∀ x ∈ fs, x ∈ cd abc := fun x hx => pm.mem_iff.mp (List.mem_append_left _ hx)
      refine ⟨⟨_, rfl⟩, _, rfl, r, fs.map sg, rfl, SqL.of hq, by rw [List.length_map]; omega, fun ys p2 pys sys n2 => ?_⟩
      obtain ⟨gs, rfl, pg⟩ := one_perm pys
      refine ⟨_, p2, gs.map sg, rfl, rfl, .inl (SqL.of upd_same), ?_, ?_⟩
      · have e : ((gs.map sg).map (·.length)).sum ≤ (gs.map sg).length := by
          rw [List.map_map]
          have : ∀ l : List Nat, (l.map ((fun z : Str => z.length) ∘ sg)).sum = l.length := fun l => by
            induction l with
            | nil => rfl
            | cons a l ih =>
              rw [List.map_cons, List.sum_cons, ih, List.length_cons]
              show 1 + l.length = l.length + 1
              omega
          rw [this, List.length_map]
          exact Nat.le_refl _
        have g := pg.length_eq
        have e0 : ("" : Str).length = 0 := by decide +kernel
        rw [e0]
        rw [List.length_map] at e
        omega
      · exact q _ _ (kds_of ndF inF (by omega) (by omega) pg sys) (same_new sm (sm.free n2))
end
end LwP
/-! _law_letters -/
namespace LwP
open PySem PySem.Spec PyProof.Rows L2 LwT
/-- a def of the program, as it is found and called -/
structure Df (K : PySem.W.Frag) (mg : Str → Option Value) (nm : Str) (st : Stmt) (ps : List Str) (f : Addr) (fd : FuncData) : Prop where
  F : Fun K nm nm st f fd
  g : mg nm = some (.ref f)
  k : PySem.W.keepIn K (.ref f) = true
  b : Binds K fd ps []
theorem Kds.len {K : Str} (h : Kds K) : 1 ≤ K.length ∧ K.length ≤ 4 := by
  rw [cd_len]
  exact ⟨h.one, h.four⟩
/-- a letter of the kinds -/
theorem Kds.at_ {K : Str} (h : Kds K) (n : Int) : ∃ c, atI K.cps.toList (n % (K.length : Int)) = some c ∧ Over K (sg c) := by
  obtain ⟨c, h1, h2⟩ := at_mod (xs := cd K) n h.one
  refine ⟨c, ?_, Over.sg h2⟩
  rw [cd_len]
  exact h1
theorem Kds.pos {K : Str} (h : Kds K) : (0 : Int) < (K.length : Int) := by
  have := h.len
  omega
theorem Kds.line {K : Str} (h : Kds K) : K.length ≤ sizeLine := line_of (by have := h.len; omega)
section
variable {P : Program} {w : World} {K : PySem.W.Frag} {mg : Str → Option Value} {base : Heap}
def spLetters : Sp := fun vs H Q _ => ∃ (c n : Int) (S : Str) (d : Bool), vs = [.int c, .str S, .int n, .bl d] ∧ Kds S ∧ 0 ≤ n ∧ n ≤ 40 ∧ ∀ (z : Str) (H' : Hp), Over S z → z.length ≤ n.toNat → Same H H' → Q (.str z) H'
theorem scLetters : FnScope ["_law_cell_here", "_law_kinds_here", "_law_size", "_law_digits", "_law_found", "_law_left", "_law_k", "_law_number"] ["_law_cell_here", "_law_kinds_here", "_law_size", "_law_digits"] (defScope sLetters) := ⟨rfl, rfl, rfl, by decide +kernel, rfl, by decide +kernel, by decide +kernel⟩
theorem ok_letters {f fM : Addr} {fd fdM : FuncData} (F : Fun K "_law_letters" "_law_letters" sLetters f fd) (M : Df K mg "_law_mixed" sMixed ["_law_cell_here", "_law_k"] fM fdM) (mr : mg "range" = none) (ml : mg "len" = none) :
    FnOk P w K mg base CX0 2 f fd ["_law_cell_here", "_law_kinds_here", "_law_size", "_law_digits"] spLetters := by
  have GM : FnOk P w K mg base CX0 1 fM fdM ["_law_cell_here", "_law_k"] spMixed := ok_mixed M.F
  refine F.ok scLetters (fun vs H Q E h => ?_) (fun cdv A outer s H vs Q E hr h => ?_)
  · obtain ⟨c, n, S, d, rfl, _⟩ := h
    rfl
  · obtain ⟨c, n, S, d, rfl, hK, h0, h40, q⟩ := h
    refine ⟨_, pss_cons (ps_set (i := 4) scLetters.nd rfl (.inl rfl) pe_str)
      (pss_cons (ps_set (i := 5) scLetters.nd rfl (.inl rfl) (pv 0))
      (pss_cons (ps_for PassesOwn.never rfl (pi_range1 rfl mr (pa_cons (pv 2) pa_nil)) (pg_name (i := 6) scLetters.nd rfl (.inl rfl))
        (pss_cons (ps_set (i := 7) scLetters.nd rfl (.inl rfl) (pe_call GM hr rfl M.g M.k M.b .nil pass0 (pa_cons (pv 0) (pa_cons (pe_op op_add pe_int (pv 6)) pa_nil))))
        (pss_cons (ps_if (PW.pt (pw_and (pt_val (pv 3)) (pw_and1 (pt_cmpR op_notIn_seq (pv 5) (pe_tup (pa_cons pe_int (pa_cons (pe_un un_neg pe_int) pa_nil))) (by rfl)))))
          (pss_cons (ps_set (i := 7) scLetters.nd rfl (.inl rfl) (pv 5))
            (pss_one (ps_set (i := 5) scLetters.nd rfl (.inl rfl) (pe_op op_fdiv (pv 5) (pe_callB call_len_str (by rfl) ml PySem.boot_len (pa_cons (pv 1) pa_nil)))))) pss_nil)
        (pss_one (ps_set (i := 4) scLetters.nd rfl (.inl rfl) (pe_op op_add_str (pv 4) (pe_ix ix_str (pv 1) (pe_op op_mod (pv 7) (pe_callB call_len_str (by rfl) ml PySem.boot_len (pa_cons (pv 1) pa_nil))) (fun _ _ => rfl))))))))
      (pss_one (ps_ret (pv 4))))), ?_⟩
    refine ⟨_, rfl, _, rfl, _, rfl, by omega, by omega, ?_⟩
    refine for_range (lo := 0) (n := n.toNat) (fun i σ H' => ∃ (z : Str) (left : Int) (v6 v7 : Option V), σ = [some (.int c), some (.str S), some (.int n), some (.bl d), some (.str z), some (.int left), v6, v7] ∧ Over S z ∧ z.length ≤ i ∧ Same H H')
      ⟨("" : Str), c, none, none, rfl, Over.empty S, Nat.le_refl _, Same.refl H⟩ ?_ ?_
    · rintro i σ H' hi ⟨z, left, v6, v7, rfl, hz, hl, sm⟩
      refine ⟨_, rfl, _, rfl, _, _, rfl, rfl, c, 40 + (0 + (i : Int)), rfl, by omega, by omega, fun num _ _ => ?_⟩
      have e1 : ∀ b : Nat, (z ++ sg b).length = z.length + 1 := fun b => by rw [add_len]; rfl
      have zl : z.length + 1 ≤ sizeLine := line_of (by omega)
      refine ⟨_, rfl, d, rfl, ite2 (fun ed => ?_) (fun ed => ite2 (fun x => by cases x) (fun _ => ?_))⟩
      · refine ⟨_, rfl, _, rfl, by decide, fun p np => ?_⟩
        refine ⟨p, [.int 0, .int (-1)], rfl, .inr (SqT.of upd_same), rfl, rfl, _, rfl, ite2 (fun _ => ?_) (fun _ => ?_)⟩
        · obtain ⟨b, hb, ob⟩ := hK.at_ left
          refine ⟨_, rfl, _, rfl, _, rfl, S, rfl, hK.line, _, _, rfl, rfl, ⟨hK.pos, by have := hK.len; omega⟩, ?_⟩
          refine ⟨_, rfl, _, rfl, _, rfl, _, rfl, S, rfl, hK.line, _, _, rfl, rfl, hK.pos, S, _, b, rfl, rfl, hK.line, hb, z, sg b, rfl, rfl, zl, ?_⟩
          exact ⟨_, _, _, _, rfl, hz.add ob, by rw [e1]; omega, same_new sm (sm.free np)⟩
        · obtain ⟨b, hb, ob⟩ := hK.at_ num
          refine ⟨_, rfl, _, rfl, _, rfl, _, rfl, S, rfl, hK.line, _, _, rfl, rfl, hK.pos, S, _, b, rfl, rfl, hK.line, hb, z, sg b, rfl, rfl, zl, ?_⟩
          exact ⟨_, left, _, _, rfl, hz.add ob, by rw [e1]; omega, same_new sm (sm.free np)⟩
      · obtain ⟨b, hb, ob⟩ := hK.at_ num
        refine ⟨_, rfl, _, rfl, _, rfl, _, rfl, S, rfl, hK.line, _, _, rfl, rfl, hK.pos, S, _, b, rfl, rfl, hK.line, hb, z, sg b, rfl, rfl, zl, ?_⟩
        exact ⟨_, left, _, _, rfl, hz.add ob, by rw [e1]; omega, sm⟩
    · rintro σ H' ⟨z, left, v6, v7, rfl, hz, hl, sm⟩
      exact ⟨_, rfl, q z H' hz hl sm⟩
end
end LwP
/-! _law_text, _law_word -/
namespace LwP
open PySem PySem.Spec PyProof.Rows L2 LwT
theorem cut_on (z : Str) (j : Nat) : cd (cutS z none (some (j : Int))) = (cd z).take j := by
  rw [cut_cd, HT.sIx_nat, HT.sIx_none, List.drop_zero, Nat.sub_zero, cd_len, List.take_eq_take_min (i := j)]
theorem cut_len (z : Str) (lo hi : Option Int) : (cutS z lo hi).length ≤ z.length := by
  rw [cd_len, cut_cd, cd_len z, List.length_take, List.length_drop]
  omega
theorem cut_on_len (z : Str) (j : Nat) : (cutS z none (some (j : Int))).length = min j z.length := by rw [cd_len, cut_on, List.length_take, cd_len z]
theorem cut_nx_len (z : Str) (i : Nat) : (cutS z (some (i : Int)) none).length = z.length - i := by rw [cd_len, cut_nx, List.length_drop, cd_len z]
section
variable {P : Program} {w : World} {K : PySem.W.Frag} {mg : Str → Option Value} {base : Heap}
def spText (K : PySem.W.Frag) : Sp := fun vs H Q _ => ∃ (a : Addr) (ns : List Int) (S : Str), vs = [.ref a, .int 1, .str S] ∧ SqL K H a (ns.map V.int) ∧ Kds S ∧ ∀ (z : Str) (H' : Hp), Over S z → z.length ≤ 40 → Same H H' → Q (.str z) H'
theorem scText : FnScope ["_law_script", "_law_at", "_law_kinds_here", "_law_shape", "_law_size", "_law_text_here", "_law_place", "_law_letter"] ["_law_script", "_law_at", "_law_kinds_here"] (defScope sText) := ⟨rfl, rfl, rfl, by decide +kernel, rfl, by decide +kernel, by decide +kernel⟩
theorem ok_text {f fC fM fL : Addr} {fd fdC fdM fdL : FuncData} (F : Fun K "_law_text" "_law_text" sText f fd) (C : Df K mg "_law_cell" sCell ["_law_script", "_law_k"] fC fdC) (M : Df K mg "_law_mixed" sMixed ["_law_cell_here", "_law_k"] fM fdM)
    (L : Df K mg "_law_letters" sLetters ["_law_cell_here", "_law_kinds_here", "_law_size", "_law_digits"] fL fdL) (mr : mg "range" = none) (ml : mg "len" = none) :
    FnOk P w K mg base CX0 3 f fd ["_law_script", "_law_at", "_law_kinds_here"] (spText K) := by
  have GC : FnOk P w K mg base CX0 1 fC fdC ["_law_script", "_law_k"] (spCell K) := ok_cell C.F ml
  have GM : FnOk P w K mg base CX0 1 fM fdM ["_law_cell_here", "_law_k"] spMixed := ok_mixed M.F
  have GL : FnOk P w K mg base CX0 2 fL fdL ["_law_cell_here", "_law_kinds_here", "_law_size", "_law_digits"] spLetters := ok_letters L.F M mr ml
  refine F.ok scText (fun vs H Q E h => ?_) (fun cdv A outer s H vs Q E hr h => ?_)
  · obtain ⟨a, ns, S, rfl, _⟩ := h
    rfl
  · obtain ⟨a, ns, S, rfl, hS, hK, q⟩ := h
    have hr1 : Room 1 _ := hr.mono (by decide)
    refine ⟨_, pss_cons (ps_set (i := 3) scText.nd rfl (.inl rfl) (pe_call GM hr1 rfl M.g M.k M.b .nil pass0 (pa_cons (pe_call GC hr1 rfl C.g C.k C.b .nil pass0 (pa_cons (pv 0) (pa_cons (pv 1) pa_nil))) (pa_cons pe_int pa_nil))))
      (pss_cons (ps_set (i := 4) scText.nd rfl (.inl rfl) (pe_op op_mod (pv 3) pe_int))
      (pss_cons (ps_if (pt_cmpR op_eq (pe_op op_mod (pe_op op_fdiv (pv 3) pe_int) pe_int) pe_int (nomark _))
        (pss_one (ps_set (i := 4) scText.nd rfl (.inl rfl) (pe_op op_mod (pe_op op_fdiv (pv 3) pe_int) pe_int))) pss_nil)
      (pss_cons (ps_set (i := 5) scText.nd rfl (.inl rfl) (pe_call GL hr rfl L.g L.k L.b .nil pass0 (pa_cons (pe_call GC hr1 rfl C.g C.k C.b .nil pass0 (pa_cons (pv 0) (pa_cons (pe_op op_add (pv 1) pe_int) pa_nil)))
          (pa_cons (pv 2) (pa_cons (pv 4) (pa_cons (pe_cmpR op_eq (pe_op op_mod (pe_op op_fdiv (pv 3) pe_int) pe_int) pe_int (nomark _)) pa_nil))))))
      (pss_cons (ps_if (PW.pt (pw_and (pt_cmpR op_eq (pe_op op_mod (pe_op op_fdiv (pv 3) pe_int) pe_int) pe_int (nomark _)) (pw_and1 (pt_cmpR op_gt (pv 4) pe_int (nomark _)))))
        (pss_cons (ps_set (i := 5) scText.nd rfl (.inl rfl) (pe_slice sl_str (pe_op op_mul_text (pe_slice sl_str (pv 5) po_none (po_some (pe_op op_add pe_int (pe_op op_mod (pe_op op_fdiv (pv 3) pe_int) pe_int)))) (pv 4)) po_none (po_some (pv 4))))
        (pss_cons (ps_set (i := 6) scText.nd rfl (.inl rfl) (pe_op op_mod (pe_op op_fdiv (pv 3) pe_int) (pv 4)))
        (pss_cons (ps_set (i := 7) scText.nd rfl (.inl rfl) (pe_ix ix_str (pv 2) (pe_op op_mod (pe_op op_fdiv (pv 3) pe_int) (pe_callB call_len_str (by rfl) ml PySem.boot_len (pa_cons (pv 2) pa_nil))) (fun _ _ => rfl)))
        (pss_one (ps_set (i := 5) scText.nd rfl (.inl rfl) (pe_op op_add_str (pe_op op_add_str (pe_slice sl_str (pv 5) po_none (po_some (pv 6))) (pv 7)) (pe_slice sl_str (pv 5) (po_some (pe_op op_add (pv 6) pe_int)) po_none)))))))
        pss_nil)
      (pss_one (ps_ret (pv 5))))))), ?_⟩
    refine ⟨_, rfl, _, rfl, a, ns, 1, rfl, hS, by decide, by decide, fun n0 => ⟨n0, 1, rfl, by decide, by decide, fun sh _ _ => ?_⟩⟩
    refine ⟨_, rfl, _, _, rfl, rfl, (by decide : (0 : Int) < 13), ?_⟩
    refine ⟨_, rfl, _, _, rfl, rfl, ⟨by decide, by decide⟩, _, _, rfl, rfl, (by decide : (0 : Int) < 8), rfl, _, rfl, ite2 (fun _ => ⟨_, rfl, _, _, rfl, rfl, ⟨by decide, by decide⟩, _, _, rfl, rfl, (by decide : (0 : Int) < 41), ?_⟩) (fun _ => ?_)⟩
    · have b : 0 ≤ sh / 104 % 41 ∧ sh / 104 % 41 ≤ 40 := by omega
      dsimp only
      generalize sh / 104 % 41 = n at b ⊢
      obtain ⟨b0, b40⟩ := b
      refine ⟨_, rfl, _, rfl, _, _, rfl, rfl, a, ns, 2, rfl, hS, by decide, by decide, fun n1 => ?_⟩
      refine ⟨_, rfl, _, rfl, _, rfl, _, _, rfl, rfl, ⟨by decide, by decide⟩, _, _, rfl, rfl, (by decide : (0 : Int) < 2), rfl, n1, n, S, _, rfl, hK, b0, b40, fun z H1 hz hl sm => ?_⟩
      refine ⟨_, rfl, _, _, rfl, rfl, ⟨by decide, by decide⟩, _, _, rfl, rfl, (by decide : (0 : Int) < 3), rfl, _, rfl, ite2 (fun _ => ⟨_, rfl, _, _, rfl, rfl, _, rfl, ite2 (fun e => ?_) (fun _ => ?_)⟩) (fun _ => ite2 (fun x => by cases x) (fun _ => ?_))⟩
      · have np : 0 < n := of_decide_eq_true e
        obtain ⟨m, rfl⟩ := Int.eq_ofNat_of_zero_le b0
        have zl : z.length ≤ 40 := by omega
        refine ⟨_, rfl, _, rfl, _, _, rfl, rfl, ⟨by decide, by decide⟩, _, _, rfl, rfl, (by decide : (0 : Int) < 6), _, _, rfl, rfl, _, rfl, z, rfl, line_of (by omega), _, rfl, ?_⟩
        generalize hy : cutS z none (some (1 + sh / 30000 % 6)) = y
        have yl : y.length ≤ 40 := by
          have := cut_len z none (some (1 + sh / 30000 % 6))
          rw [hy] at this
          omega
        have yo : Over S y := by
          rw [← hy]
          exact hz.cut
        have ml := mul_cd y (m : Int)
        have tl : (Txt.mul y (m : Int)).length ≤ 100000 := by
          have h1 : y.length * (m : Int).toNat ≤ 40 * 40 := Nat.mul_le_mul yl (by omega)
          omega
        refine ⟨y, (m : Int), rfl, rfl, by omega, b0, by omega, _, rfl, _, rfl, _, rfl, line_of tl, ?_⟩
        generalize ht : cutS (Txt.mul y (m : Int)) none (some (m : Int)) = t
        have tm : t.length ≤ m := by
          rw [← ht, cut_on_len]
          exact Nat.min_le_left _ _
        have to : Over S t := by
          rw [← ht]
          exact Over.cut fun c hc => yo c (ml.1 c hc)
        have g1 := Int.emod_nonneg (sh / 180000) (show (m : Int) ≠ 0 by omega)
        have g2 := Int.emod_lt_of_pos (sh / 180000) np
        obtain ⟨j, hj⟩ := Int.eq_ofNat_of_zero_le g1
        refine ⟨_, rfl, _, _, rfl, rfl, ⟨by decide, by decide⟩, _, rfl, _, _, rfl, rfl, np, ?_⟩
        obtain ⟨b, hb, ob⟩ := hK.at_ (sh / 7200000)
        refine ⟨_, rfl, _, rfl, _, _, rfl, rfl, ⟨by decide, by decide⟩, _, rfl, S, rfl, hK.line, _, _, rfl, rfl, hK.pos, S, _, b, rfl, rfl, hK.line, hb, ?_⟩
        dsimp only
        generalize hp : sh / 180000 % (m : Int) = p at hj g1 g2
        subst hj
        have u1 := cut_on_len t j
        have u2 := cut_nx_len t (j + 1)
        have u3 : ∀ x : Str, (x ++ sg b).length = x.length + 1 := fun x => by rw [add_len]; rfl
        have u4 : (sg b).length = 1 := rfl
        refine ⟨_, rfl, _, rfl, _, rfl, t, rfl, line_of (by omega), _, rfl, cutS t none (some (j : Int)), sg b, rfl, rfl, line_of (by omega), ?_⟩
        refine ⟨_, rfl, _, rfl, _, _, rfl, rfl, _, rfl, t, rfl, line_of (by omega), cutS t none (some (j : Int)) ++ sg b, cutS t (some ((j + 1 : Nat) : Int)) none, rfl, rfl, line_of (by rw [u3]; omega), ?_⟩
        exact ⟨_, rfl, q _ H1 ((to.cut.add ob).add to.cut) (by rw [add_len, u3]; omega) sm⟩
      all_goals exact ⟨_, rfl, q z H1 hz (by omega) sm⟩
    · have b : 0 ≤ sh % 13 ∧ sh % 13 ≤ 40 := by omega
      dsimp only
      generalize sh % 13 = n at b ⊢
      obtain ⟨b0, b40⟩ := b
      refine ⟨_, rfl, _, rfl, _, _, rfl, rfl, a, ns, 2, rfl, hS, by decide, by decide, fun n1 => ?_⟩
      refine ⟨_, rfl, _, rfl, _, rfl, _, _, rfl, rfl, ⟨by decide, by decide⟩, _, _, rfl, rfl, (by decide : (0 : Int) < 2), rfl, n1, n, S, _, rfl, hK, b0, b40, fun z H1 hz hl sm => ?_⟩
      refine ⟨_, rfl, _, _, rfl, rfl, ⟨by decide, by decide⟩, _, _, rfl, rfl, (by decide : (0 : Int) < 3), rfl, _, rfl, ite2 (fun _ => ⟨_, rfl, _, _, rfl, rfl, _, rfl, ite2 (fun e => ?_) (fun _ => ?_)⟩) (fun _ => ite2 (fun x => by cases x) (fun _ => ?_))⟩
      · have np : 0 < n := of_decide_eq_true e
        obtain ⟨m, rfl⟩ := Int.eq_ofNat_of_zero_le b0
        have zl : z.length ≤ 40 := by omega
        refine ⟨_, rfl, _, rfl, _, _, rfl, rfl, ⟨by decide, by decide⟩, _, _, rfl, rfl, (by decide : (0 : Int) < 6), _, _, rfl, rfl, _, rfl, z, rfl, line_of (by omega), _, rfl, ?_⟩
        generalize hy : cutS z none (some (1 + sh / 30000 % 6)) = y
        have yl : y.length ≤ 40 := by
          have := cut_len z none (some (1 + sh / 30000 % 6))
          rw [hy] at this
          omega
        have yo : Over S y := by
          rw [← hy]
          exact hz.cut
        have ml := mul_cd y (m : Int)
        have tl : (Txt.mul y (m : Int)).length ≤ 100000 := by
          have h1 : y.length * (m : Int).toNat ≤ 40 * 40 := Nat.mul_le_mul yl (by omega)
          omega
        refine ⟨y, (m : Int), rfl, rfl, by omega, b0, by omega, _, rfl, _, rfl, _, rfl, line_of tl, ?_⟩
        generalize ht : cutS (Txt.mul y (m : Int)) none (some (m : Int)) = t
        have tm : t.length ≤ m := by
          rw [← ht, cut_on_len]
          exact Nat.min_le_left _ _
        have to : Over S t := by
          rw [← ht]
          exact Over.cut fun c hc => yo c (ml.1 c hc)
        have g1 := Int.emod_nonneg (sh / 180000) (show (m : Int) ≠ 0 by omega)
        have g2 := Int.emod_lt_of_pos (sh / 180000) np
        obtain ⟨j, hj⟩ := Int.eq_ofNat_of_zero_le g1
        refine ⟨_, rfl, _, _, rfl, rfl, ⟨by decide, by decide⟩, _, rfl, _, _, rfl, rfl, np, ?_⟩
        obtain ⟨b, hb, ob⟩ := hK.at_ (sh / 7200000)
        refine ⟨_, rfl, _, rfl, _, _, rfl, rfl, ⟨by decide, by decide⟩, _, rfl, S, rfl, hK.line, _, _, rfl, rfl, hK.pos, S, _, b, rfl, rfl, hK.line, hb, ?_⟩
        dsimp only
        generalize hp : sh / 180000 % (m : Int) = p at hj g1 g2
        subst hj
        have u1 := cut_on_len t j
        have u2 := cut_nx_len t (j + 1)
        have u3 : ∀ x : Str, (x ++ sg b).length = x.length + 1 := fun x => by rw [add_len]; rfl
        have u4 : (sg b).length = 1 := rfl
        refine ⟨_, rfl, _, rfl, _, rfl, t, rfl, line_of (by omega), _, rfl, cutS t none (some (j : Int)), sg b, rfl, rfl, line_of (by omega), ?_⟩
        refine ⟨_, rfl, _, rfl, _, _, rfl, rfl, _, rfl, t, rfl, line_of (by omega), cutS t none (some (j : Int)) ++ sg b, cutS t (some ((j + 1 : Nat) : Int)) none, rfl, rfl, line_of (by rw [u3]; omega), ?_⟩
        exact ⟨_, rfl, q _ H1 ((to.cut.add ob).add to.cut) (by rw [add_len, u3]; omega) sm⟩
      all_goals exact ⟨_, rfl, q z H1 hz (by omega) sm⟩
end
end LwP
/-! _law_word -/
namespace LwP
open PySem PySem.Spec PyProof.Rows L2 LwT
section
variable {P : Program} {w : World} {K : PySem.W.Frag} {mg : Str → Option Value} {base : Heap}
def spWord : Sp := fun vs H Q _ => ∃ (c : Int) (T S : Str), vs = [.int c, .str T, .str S] ∧ Kds S ∧ Over S T ∧ T.length ≤ 40 ∧ ∀ (z : Str) (H' : Hp), Over S z → z.length ≤ 100 → Same H H' → Q (.str z) H'
theorem scWord : FnScope ["_law_cell_here", "_law_text_here", "_law_kinds_here", "_law_way", "_law_start", "_law_piece", "_law_left"] ["_law_cell_here", "_law_text_here", "_law_kinds_here"] (defScope sWord) := ⟨rfl, rfl, rfl, by decide +kernel, rfl, by decide +kernel, by decide +kernel⟩
theorem ok_word {f fM fL : Addr} {fd fdM fdL : FuncData} (F : Fun K "_law_word" "_law_word" sWord f fd) (M : Df K mg "_law_mixed" sMixed ["_law_cell_here", "_law_k"] fM fdM)
    (L : Df K mg "_law_letters" sLetters ["_law_cell_here", "_law_kinds_here", "_law_size", "_law_digits"] fL fdL) (mr : mg "range" = none) (ml : mg "len" = none) :
    FnOk P w K mg base CX0 3 f fd ["_law_cell_here", "_law_text_here", "_law_kinds_here"] spWord := by
  have GL : FnOk P w K mg base CX0 2 fL fdL ["_law_cell_here", "_law_kinds_here", "_law_size", "_law_digits"] spLetters := ok_letters L.F M mr ml
  refine F.ok scWord (fun vs H Q E h => ?_) (fun cdv A outer s H vs Q E hr h => ?_)
  · obtain ⟨c, T, S, rfl, _⟩ := h
    rfl
  · obtain ⟨c, T, S, rfl, hK, hT, hl, q⟩ := h
    refine ⟨_, pss_cons (ps_set (i := 3) scWord.nd rfl (.inl rfl) (pe_op op_mod (pv 0) pe_int))
      (pss_cons (ps_set (i := 4) scWord.nd rfl (.inl rfl) (pe_op op_mod (pe_op op_fdiv (pv 0) pe_int) (pe_op op_add (pe_callB call_len_str (by rfl) ml PySem.boot_len (pa_cons (pv 1) pa_nil)) pe_int)))
      (pss_cons (ps_set (i := 5) scWord.nd rfl (.inl rfl) (pe_slice sl_str (pv 1) (po_some (pv 4)) (po_some (pe_op op_add (pv 4) (pe_op op_mod (pe_op op_fdiv (pv 0) pe_int) pe_int)))))
      (pss_cons (ps_set (i := 6) scWord.nd rfl (.inl rfl) (pe_op op_fdiv (pv 0) pe_int))
      (pss_cons (ps_if (pt_cmpR op_eq (pv 3) pe_int (nomark _)) (pss_one (ps_ret (pv 5))) pss_nil)
      (pss_cons (ps_if (pt_cmpR op_eq (pv 3) pe_int (nomark _)) (pss_one (ps_ret (pe_op op_add_str (pv 5) (pe_call GL hr rfl L.g L.k L.b .nil pass0 (pa_cons (pe_op op_fdiv (pv 6) pe_int) (pa_cons (pv 2) (pa_cons (pe_op op_mod (pv 6) pe_int) (pa_cons pe_bl pa_nil)))))))) pss_nil)
      (pss_cons (ps_if (pt_cmpR op_eq (pv 3) pe_int (nomark _)) (pss_one (ps_ret (pe_call GL hr rfl L.g L.k L.b .nil pass0 (pa_cons (pe_op op_fdiv (pv 6) pe_int) (pa_cons (pv 2) (pa_cons (pe_op op_mod (pv 6) pe_int) (pa_cons pe_bl pa_nil))))))) pss_nil)
      (pss_one (ps_ret (pe_slice sl_str (pe_op op_add_str (pv 5) (pe_slice sl_str (pv 1) (po_some (pe_op op_mod (pv 6) (pe_op op_add (pe_callB call_len_str (by rfl) ml PySem.boot_len (pa_cons (pv 1) pa_nil)) pe_int))) po_none)) po_none (po_some pe_int)))))))))), ?_⟩
    have tl : T.length ≤ sizeLine := line_of (by omega)
    have tp : (0 : Int) < (T.length : Int) + 1 := by omega
    refine ⟨_, rfl, _, _, rfl, rfl, (by decide : (0 : Int) < 4), ?_⟩
    refine ⟨_, rfl, _, _, rfl, rfl, ⟨by decide, by decide⟩, _, rfl, T, rfl, tl, _, _, rfl, rfl, _, _, rfl, rfl, tp, ?_⟩
    refine ⟨_, rfl, _, rfl, _, rfl, _, rfl, _, rfl, _, _, rfl, rfl, ⟨by decide, by decide⟩, _, _, rfl, rfl, (by decide : (0 : Int) < 41), _, _, rfl, rfl, _, rfl, T, rfl, tl, ?_⟩
    dsimp only
    generalize hy : cutS T (some (c / 4 % ((T.length : Int) + 1))) (some (c / 4 % ((T.length : Int) + 1) + c / 164 % 41)) = y
    have yl : y.length ≤ 40 := by
      rw [← hy]
      exact Nat.le_trans (cut_len _ _ _) hl
    have yo : Over S y := by
      rw [← hy]
      exact hT.cut
    refine ⟨_, rfl, _, _, rfl, rfl, ⟨by decide, by decide⟩, ?_⟩
    refine ⟨_, rfl, rfl, _, rfl, ite2 (fun _ => ⟨_, rfl, q y H yo (by omega) (Same.refl H)⟩) (fun _ => ?_)⟩
    refine ⟨_, rfl, rfl, _, rfl, ite2 (fun _ => ?_) (fun _ => ?_)⟩
    · refine ⟨_, rfl, _, rfl, _, _, rfl, rfl, ⟨by decide, by decide⟩, _, rfl, _, rfl, _, _, rfl, rfl, (by decide : (0 : Int) < 5), _, _, S, true, rfl, hK, by omega, by omega, fun z H1 hz zl sm => ?_⟩
      have z4 : z.length ≤ 4 := by omega
      exact ⟨y, z, rfl, rfl, line_of (by omega), q _ H1 (yo.add hz) (by rw [add_len]; omega) sm⟩
    refine ⟨_, rfl, rfl, _, rfl, ite2 (fun _ => ?_) (fun _ => ?_)⟩
    · refine ⟨_, rfl, _, _, rfl, rfl, ⟨by decide, by decide⟩, _, rfl, _, rfl, _, _, rfl, rfl, (by decide : (0 : Int) < 9), _, _, S, true, rfl, hK, by omega, by omega, fun z H1 hz zl sm => ?_⟩
      exact q _ H1 hz (by omega) sm
    refine ⟨_, rfl, _, rfl, _, rfl, _, rfl, T, rfl, tl, _, _, rfl, rfl, _, _, rfl, rfl, tp, _, rfl, T, rfl, tl, ?_⟩
    dsimp only
    generalize hx : cutS T (some (c / 6724 % ((T.length : Int) + 1))) none = x
    have xl : x.length ≤ 40 := by
      rw [← hx]
      exact Nat.le_trans (cut_len _ _ _) hl
    have xo : Over S x := by
      rw [← hx]
      exact hT.cut
    have al : (y ++ x).length ≤ 80 := by
      rw [add_len]
      omega
    refine ⟨y, x, rfl, rfl, line_of (by omega), _, rfl, y ++ x, rfl, line_of (by omega), q _ H (yo.add xo).cut (Nat.le_trans (cut_len _ _ _) (by omega)) (Same.refl H)⟩
end
end LwP
/-! rows of missing words; _law_shows -/
namespace LwP
open PySem PySem.Spec PyProof.Rows L2 LwT
/-- a row of the program's list: a missing word, the places of its two shorter words -/
structure Row (S T x : Str) (a b : Int) : Prop where
  ex : ∃ (y : Str) (c : Nat), x = y ++ sg c ∧ c ∈ cd S ∧ Lw.Miss (cd T) (cd y) c ∧ a = Txt.find T y ∧ b = Txt.find T (cutS x (some 1) none)
abbrev RowT := Addr × Str × Int × Int
/-- the list at r holds the rows L -/
structure Rows (S T : Str) (H : Hp) (r : Addr) (L : List RowT) : Prop where
  at_ : H r = some (.lst (L.map fun t => V.ref t.1))
  row : ∀ t ∈ L, H t.1 = some (.tup [.str t.2.1, .int t.2.2.1, .int t.2.2.2]) ∧ Row S T t.2.1 t.2.2.1 t.2.2.2
theorem cut_last (y : Str) (c : Nat) : cutS (y ++ sg c) none (some (-1)) = y := by
  apply cd_ext
  have e : (y ++ sg c).length = y.length + 1 := by rw [add_len]; rfl
  have e2 : HT.sIx (y ++ sg c).length (y ++ sg c).length (some (-1)) = y.length := by
    show (if (-1 : Int) < 0 then ((-1 : Int) + ((y ++ sg c).length : Int)).toNat else min (-1 : Int).toNat (y ++ sg c).length) = y.length
    rw [if_pos (by decide), e]
    omega
  rw [cut_cd, e2, HT.sIx_none, List.drop_zero, Nat.sub_zero, cd_add, cd_len, List.take_left]
theorem cut_tail (x : Str) : cd (cutS x (some 1) none) = (cd x).drop 1 := cut_nx x 1
theorem cut_find {T y : Str} {n : Int} (h : cd y <:+: cd T) (hn : n = (y.length : Int)) : cutS T (some (Txt.find T y)) (some (Txt.find T y + n)) = y := by
  obtain ⟨i, e, h1, h2⟩ := find_at (find_iff.mpr h)
  rw [e, hn]
  exact cut_at h1 h2
theorem Row.len {S T x : Str} {a b : Int} (h : Row S T x a b) : 1 ≤ x.length ∧ x.length ≤ T.length + 1 := by
  obtain ⟨y, c, rfl, _, m, _⟩ := h.ex
  have e : (y ++ sg c).length = y.length + 1 := by rw [add_len]; rfl
  have := m.1.length_le
  rw [← cd_len, ← cd_len] at this
  omega
theorem Row.cuts {S T x : Str} {a b : Int} (h : Row S T x a b) : cutS T (some a) (some (a + (x.length : Int) - 1)) = cutS x none (some (-1)) ∧ cutS T (some b) (some (b + (x.length : Int) - 1)) = cutS x (some 1) none := by
  obtain ⟨y, c, rfl, _, m, rfl, rfl⟩ := h.ex
  have e : (y ++ sg c).length = y.length + 1 := by rw [add_len]; rfl
  have e2 : (cutS (y ++ sg c) (some 1) none).length = y.length := by rw [cd_len, cut_tail, List.length_drop, ← cd_len, e, Nat.add_sub_cancel]
  have i2 : cd (cutS (y ++ sg c) (some 1) none) <:+: cd T := by
    rw [cut_tail, cd_add]
    exact m.2.2
  rw [cut_last]
  refine ⟨?_, ?_⟩
  · rw [show Txt.find T y + ((y ++ sg c).length : Int) - 1 = Txt.find T y + (y.length : Int) by rw [e]; omega]
    exact cut_find m.1 rfl
  · rw [Int.add_sub_assoc]
    exact cut_find i2 (by rw [e, e2]; omega)
section
variable {P : Program} {w : World} {K : PySem.W.Frag} {mg : Str → Option Value} {base : Heap}
def spShows (K : PySem.W.Frag) : Sp := fun vs H Q _ => ∃ (S T W : Str) (r f : Addr) (L : List RowT) (t : RowT), vs = [.str T, .ref r, .str W, .ref f] ∧ Rows S T H r L ∧ t ∈ L ∧ SqT K H f [.str t.2.1, .int (Txt.find W t.2.1)] ∧ cd t.2.1 <:+: cd W ∧
  W.length ≤ 100 ∧ T.length ≤ 40 ∧ Q (.bl true) H
theorem scShows : FnScope ["_law_text_here", "_law_rows", "_law_word_here", "_law_found", "_law_missing", "_law_place", "_law_name", "_law_one", "_law_other"] ["_law_text_here", "_law_rows", "_law_word_here", "_law_found"] (defScope sShows) := ⟨rfl, rfl, rfl, by decide +kernel, rfl, by decide +kernel, by decide +kernel⟩
theorem ok_shows {f : Addr} {fd : FuncData} (F : Fun K "_law_shows" "_law_shows" sShows f fd) (ml : mg "len" = none) :
    FnOk P w K mg base CX0 1 f fd ["_law_text_here", "_law_rows", "_law_word_here", "_law_found"] (spShows K) := by
  refine F.ok scShows (fun vs H Q E h => ?_) (fun cdv A outer s H vs Q E hr h => ?_)
  · obtain ⟨S, T, W, r, g, L, t, rfl, _⟩ := h
    rfl
  · obtain ⟨S, T, W, r, g, L, t, rfl, hR, ht, hg, hi, hW, hT, q⟩ := h
    refine ⟨_, pss_cons (ps_asg (pv 3) (pg_tup rfl (pgs_cons (pg_name (i := 4) scShows.nd rfl (.inl rfl)) (pgs_cons (pg_name (i := 5) scShows.nd rfl (.inl rfl)) pgs_nil))))
      (pss_cons (ps_if (PW.pt (pw_or (pt_cmpR op_ne (pe_slice sl_str (pv 2) (po_some (pv 5)) (po_some (pe_op op_add (pv 5) (pe_callB call_len_str (by rfl) ml PySem.boot_len (pa_cons (pv 4) pa_nil))))) (pv 4) (nomark _))
          (pw_or1 (pt_cmpR op_ge (pe_bm PySem.F.plainAttrs_str PySem.F.slot_str_find PySem.F.type_str_find mt_find (pv 0) (pa_cons (pv 4) pa_nil)) pe_int (nomark _)))))
        (pss_one (ps_ret pe_bl)) pss_nil)
      (pss_cons (ps_for PassesOwn.never rfl (pi_list (pv 1)) (pg_tup rfl (pgs_cons (pg_name (i := 6) scShows.nd rfl (.inl rfl)) (pgs_cons (pg_name (i := 7) scShows.nd rfl (.inl rfl)) (pgs_cons (pg_name (i := 8) scShows.nd rfl (.inl rfl)) pgs_nil))))
        (pss_one (ps_if (pt_cmpR op_eq (pv 6) (pv 4) (nomark _))
          (pss_one (ps_ret (pe_and (pe_cmpR op_eq (pe_slice sl_str (pv 0) (po_some (pv 7)) (po_some (pe_op op_sub (pe_op op_add (pv 7) (pe_callB call_len_str (by rfl) ml PySem.boot_len (pa_cons (pv 6) pa_nil))) pe_int))) (pe_slice sl_str (pv 6) po_none (po_some (pe_un un_neg pe_int))) (nomark _))
            (pe_one (pe_cmpR op_eq (pe_slice sl_str (pv 0) (po_some (pv 8)) (po_some (pe_op op_sub (pe_op op_add (pv 8) (pe_callB call_len_str (by rfl) ml PySem.boot_len (pa_cons (pv 6) pa_nil))) pe_int))) (pe_slice sl_str (pv 6) (po_some pe_int) po_none) (nomark _)))))) pss_nil)))
      (pss_one (ps_ret pe_bl)))), ?_⟩
    have hrow := (hR.row t ht).2
    have wl : W.length ≤ sizeLine := line_of (by omega)
    have tl : T.length ≤ sizeLine := line_of (by omega)
    have ml1 : t.2.1.length ≤ sizeLine := line_of (by have := hrow.len; omega)
    have e1 : cutS W (some (Txt.find W t.2.1)) (some (Txt.find W t.2.1 + (t.2.1.length : Int))) = t.2.1 := cut_find hi rfl
    have e2 : ¬ (0 : Int) ≤ Txt.find T t.2.1 := fun h => by
      obtain ⟨y, c, e, _, m, _⟩ := hrow.ex
      have z := find_iff.mp h
      rw [e, cd_add] at z
      exact m.2.1 z
    refine ⟨_, rfl, g, _, rfl, hg, rfl, _, _, rfl, _, _, rfl, rfl, ?_⟩
    refine ⟨_, rfl, _, rfl, _, rfl, _, rfl, _, rfl, _, rfl, ml1, _, _, rfl, rfl, _, rfl, W, rfl, wl, _, rfl, rfl, _, rfl, ?_⟩
    dsimp only
    rw [e1, decide_eq_true (rfl : V.str t.2.1 = V.str t.2.1)]
    refine ite2 (fun x => by cases x) (fun _ => ⟨_, rfl, rfl, _, rfl, T, t.2.1, rfl, rfl, _, _, rfl, rfl, _, rfl, ite2 (fun x => absurd (of_decide_eq_true x) e2) (fun _ => ?_)⟩)
    refine ⟨_, rfl, r, rfl, ⟨_, SqL.of hR.at_⟩, for_list (K := K) (a := r) (xs := L.map fun t => V.ref t.1) (fun i σ H' => H' = H ∧ (∀ u ∈ L.take i, u.2.1 ≠ t.2.1) ∧ ∃ v6 v7 v8 : Option V, σ = [some (.str T), some (.ref r), some (.str W), some (.ref g), some (.str t.2.1), some (.int (Txt.find W t.2.1)), v6, v7, v8])
      ⟨rfl, fun u hu => (by cases hu), _, _, _, rfl⟩ (fun i σ H' _ hp => by rw [hp.1]; exact SqL.of hR.at_) ?_ ?_⟩
    · rintro i x σ H' hx ⟨rfl, hn, v6, v7, v8, rfl⟩
      rw [List.getElem?_map] at hx
      obtain ⟨u, hu, rfl⟩ := Option.map_eq_some_iff.mp hx
      have um : u ∈ L := List.mem_of_getElem? hu
      obtain ⟨h1, h2⟩ := hR.row u um
      refine ⟨u.1, _, rfl, SqT.of h1, rfl, _, _, rfl, _, _, rfl, _, _, rfl, rfl, ?_⟩
      refine ⟨_, rfl, _, rfl, rfl, _, rfl, ite2 (fun _ => ?_) (fun ne => ?_)⟩
      · have ul : u.2.1.length ≤ sizeLine := line_of (by have := h2.len; omega)
        obtain ⟨c1, c2⟩ := h2.cuts
        refine ⟨_, rfl, _, rfl, _, rfl, _, rfl, _, rfl, _, rfl, ul, _, _, rfl, rfl, _, _, rfl, rfl, _, rfl, T, rfl, tl, _, rfl, _, rfl, _, rfl, _, rfl, ul, rfl, ?_⟩
        dsimp only
        rw [c1]
        refine ⟨_, rfl, ite2 (fun _ => ?_) (fun x => absurd (decide_eq_true rfl) x)⟩
        refine ⟨_, rfl, _, rfl, _, rfl, _, rfl, _, rfl, _, rfl, ul, _, _, rfl, rfl, _, _, rfl, rfl, _, rfl, T, rfl, tl, _, rfl, _, rfl, _, rfl, ul, rfl, ?_⟩
        rw [c2]
        rw [decide_eq_true (rfl : V.str (cutS u.2.1 (some 1) none) = V.str (cutS u.2.1 (some 1) none))]
        exact q
      · refine ⟨rfl, fun z hz => ?_, _, _, _, rfl⟩
        rw [List.take_add_one, hu] at hz
        rcases List.mem_append.mp hz with a | a
        · exact hn z a
        · rw [Option.toList_some, List.mem_singleton] at a
          rw [a]
          exact fun e => ne (decide_eq_true (by rw [e]))
    · rintro σ H' ⟨rfl, hn, _⟩
      rw [List.length_map, List.take_length] at hn
      exact absurd rfl (hn t ht)
end
end LwP
/-! inside -/
namespace LwP
open PySem PySem.Spec PyProof.Rows L2 LwT
section
variable {P : Program} {w : World} {K : PySem.W.Frag} {mg : Str → Option Value} {base : Heap}
def spInside (K : PySem.W.Frag) : Sp := fun vs H Q _ => ∃ (a : Addr) (xs : List Str) (W : Str), vs = [.ref a, .str W] ∧ SqL K H a (xs.map V.str) ∧ (∀ m ∈ xs, m.length ≤ 1000) ∧ W.length ≤ 1000 ∧
  (∀ H', (∀ m ∈ xs, ¬ cd m <:+: cd W) → Same H H' → Q .non H') ∧ ∀ (m : Str) (f : Addr) (H' : Hp), m ∈ xs → cd m <:+: cd W → Same H H' → H' f = some (.tup [.str m, .int (Txt.find W m)]) → Q (.ref f) H'
theorem scInside : FnScope ["words", "word", "found", "least", "missing", "place", "end"] ["words", "word"] (defScope sInside) := ⟨rfl, rfl, rfl, by decide +kernel, rfl, by decide +kernel, by decide +kernel⟩
/-- what inside has found so far -/
def Fnd (xs : List Str) (W : Str) (H : Hp) (i : Nat) (v : V) : Prop := (v = .non ∧ ∀ m ∈ xs.take i, ¬ cd m <:+: cd W) ∨ ∃ (f : Addr) (m : Str), v = .ref f ∧ m ∈ xs ∧ cd m <:+: cd W ∧ H f = some (.tup [.str m, .int (Txt.find W m)])
theorem ok_inside {f : Addr} {fd : FuncData} (F : Fun K "inside" "inside" sInside f fd) (ml : mg "len" = none) : FnOk P w K mg base CX0 1 f fd ["words", "word"] (spInside K) := by
  refine F.ok scInside (fun vs H Q E h => ?_) (fun cdv A outer s H vs Q E hr h => ?_)
  · obtain ⟨a, xs, W, rfl, _⟩ := h
    rfl
  · obtain ⟨a, xs, W, rfl, hS, hx, hW, q1, q2⟩ := h
    refine ⟨_, pss_cons (ps_set (i := 2) scInside.nd rfl (.inl rfl) pe_non)
      (pss_cons (ps_set (i := 3) scInside.nd rfl (.inl rfl) (pe_tup (pa_cons pe_int (pa_cons pe_int pa_nil))))
      (pss_cons (ps_for PassesOwn.never rfl (pi_list (pv 0)) (pg_name (i := 4) scInside.nd rfl (.inl rfl))
        (pss_cons (ps_set (i := 5) scInside.nd rfl (.inl rfl) (pe_bm PySem.F.plainAttrs_str PySem.F.slot_str_find PySem.F.type_str_find mt_find (pv 1) (pa_cons (pv 4) pa_nil)))
        (pss_one (ps_if (pt_cmpR op_ge (pv 5) pe_int (nomark _))
          (pss_cons (ps_set (i := 6) scInside.nd rfl (.inl rfl) (pe_tup (pa_cons (pe_op op_add (pv 5) (pe_callB call_len_str (by rfl) ml PySem.boot_len (pa_cons (pv 4) pa_nil))) (pa_cons (pe_callB call_len_str (by rfl) ml PySem.boot_len (pa_cons (pv 4) pa_nil)) pa_nil))))
          (pss_one (ps_if (PW.pt (pw_or (pt_cmpR op_isN (pv 2) pe_non (nomark _)) (pw_or1 (pt_cmpR (op_ltT hr.units0) (pv 6) (pv 3) (nomark _)))))
            (pss_cons (ps_set (i := 2) scInside.nd rfl (.inl rfl) (pe_tup (pa_cons (pv 4) (pa_cons (pv 5) pa_nil))))
            (pss_one (ps_set (i := 3) scInside.nd rfl (.inl rfl) (pv 6)))) pss_nil))) pss_nil))))
      (pss_one (ps_ret (pv 2))))), ?_⟩
    have two : (2 : Nat) ≤ sizeLine := line_of (by decide)
    have wl : W.length ≤ sizeLine := line_of (by omega)
    refine ⟨by decide, fun lp nlp => ?_⟩
    have tle : ∀ {i : Nat} {m : Str}, m ∈ xs.take i → m ∈ xs := fun h => List.mem_of_mem_take h
    refine ⟨_, rfl, a, rfl, ⟨_, (same_new (Same.refl H) nlp).seq hS⟩, for_list (K := K) (a := a) (xs := xs.map V.str) (fun i σ H' => Same H H' ∧ ∃ (fv : V) (e1 e2 : Int) (l : Addr) (v4 v5 v6 : Option V), σ = [some (.ref a), some (.str W), some fv, some (.ref l), v4, v5, v6] ∧
        H' l = some (.tup [.int e1, .int e2]) ∧ Fnd xs W H' i fv)
      ⟨same_new (Same.refl H) nlp, .non, 0, 0, lp, none, none, none, rfl, upd_same, .inl ⟨rfl, fun m h => by cases h⟩⟩ (fun i σ H' _ hp => hp.1.seq hS) ?_ ?_⟩
    · rintro i x σ H' hxi ⟨sm, fv, e1, e2, l, v4, v5, v6, rfl, hl, hf⟩
      rw [List.getElem?_map] at hxi
      obtain ⟨m, hm, rfl⟩ := Option.map_eq_some_iff.mp hxi
      have mm : m ∈ xs := List.mem_of_getElem? hm
      have mle : m.length ≤ sizeLine := line_of (by have := hx m mm; omega)
      have tk : xs.take (i + 1) = xs.take i ++ [m] := by rw [List.take_add_one, hm]; rfl
      refine ⟨_, rfl, rfl, _, rfl, W, m, rfl, rfl, ?_⟩
      refine ⟨_, rfl, _, _, rfl, rfl, _, rfl, ite2 (fun e => ?_) (fun e => ?_)⟩
      · have pin : cd m <:+: cd W := find_iff.mp (of_decide_eq_true e)
        refine ⟨_, rfl, _, rfl, m, rfl, mle, _, _, rfl, rfl, _, rfl, m, rfl, mle, two, fun p np => ?_⟩
        have s1 := same_new (o := .tup [V.int (Txt.find W m + (m.length : Int)), V.int m.length]) sm (sm.free np)
        have hl1 : upd H' p (.tup [V.int (Txt.find W m + (m.length : Int)), V.int m.length]) l = some (.tup [.int e1, .int e2]) := by rw [upd_ne (ne_of_none hl np)]; exact hl
        refine ⟨_, rfl, rfl, _, rfl, ite2 (fun e => ?_) (fun e => ?_)⟩
        · refine ⟨_, rfl, _, rfl, two, fun g ng => ⟨_, rfl, same_new s1 (s1.free ng), .ref g, Txt.find W m + (m.length : Int), (m.length : Int), p, _, _, _, rfl, ?_, .inr ⟨g, m, rfl, mm, pin, upd_same⟩⟩⟩
          rw [upd_ne (ne_of_none upd_same ng)]
          exact upd_same
        · have hf1 : ∃ (f : Addr) (m : Str), fv = .ref f ∧ m ∈ xs ∧ cd m <:+: cd W ∧ H' f = some (.tup [.str m, .int (Txt.find W m)]) := hf.resolve_left fun h => e (decide_eq_true h.1)
          refine ⟨_, rfl, _, rfl, p, l, [_, _], [_, _], rfl, rfl, SqT.of upd_same, SqT.of hl1, _, rfl, ite2 (fun _ => ?_) (fun _ => ?_)⟩
          · refine ⟨_, rfl, _, rfl, two, fun g ng => ⟨_, rfl, same_new s1 (s1.free ng), .ref g, Txt.find W m + (m.length : Int), (m.length : Int), p, _, _, _, rfl, ?_, .inr ⟨g, m, rfl, mm, pin, upd_same⟩⟩⟩
            rw [upd_ne (ne_of_none upd_same ng)]
            exact upd_same
          · obtain ⟨g, m1, rfl, h1, h2, h3⟩ := hf1
            exact ⟨s1, .ref g, e1, e2, l, _, _, _, rfl, hl1, .inr ⟨g, m1, rfl, h1, h2, by rw [upd_ne (ne_of_none h3 np)]; exact h3⟩⟩
      · refine ⟨sm, fv, e1, e2, l, _, _, _, rfl, hl, ?_⟩
        rcases hf with ⟨rfl, h⟩ | h
        · refine .inl ⟨rfl, fun z hz => ?_⟩
          rw [tk] at hz
          rcases List.mem_append.mp hz with h1 | h1
          · exact h z h1
          · rw [List.mem_singleton.mp h1]
            exact fun h2 => e (decide_eq_true (find_iff.mpr h2))
        · exact .inr h
    · rintro σ H' ⟨sm, fv, e1, e2, l, v4, v5, v6, rfl, hl, hf⟩
      refine ⟨_, rfl, ?_⟩
      rcases hf with ⟨rfl, h⟩ | ⟨f, m, rfl, mm, hi, hf⟩
      · refine q1 H' (fun m hm => h m ?_) sm
        rw [List.length_map, List.take_length]
        exact hm
      · exact q2 m f H' mm hi sm hf
end
end LwP
/-! is_kinds, is_word, need_kinds, need_word -/
namespace LwP
open PySem PySem.Spec PyProof.Rows L2 LwT
/-! ### a list of single signs as data -/
def sgD (l : List Nat) : List PyData := l.map fun c => PyData.str (sg c)
theorem sgD_lay : ∀ l : List Nat, (∀ c ∈ l, c < 1114112) → PyData.canLayAll0 (sgD l) = true
  | [], _ => by simp [sgD, PyData.canLayAll0]
  | c :: l, h => by
    have h1 : (PyData.str (sg c)).canLay0 = true := by
      have := h c (List.mem_cons_self ..)
      simp [PyData.canLay0, sg, PyData.strOk, this]
    have ih := sgD_lay l fun d hd => h d (List.mem_cons_of_mem _ hd)
    show PyData.canLayAll0 (PyData.str (sg c) :: sgD l) = true
    rw [PyData.canLayAll0, h1, ih]
    rfl
theorem sgD_depth : ∀ l : List Nat, PyData.depthAll (sgD l) = 0
  | [] => by simp [sgD, PyData.depthAll]
  | c :: l => by
    have ih := sgD_depth l
    show PyData.depthAll (PyData.str (sg c) :: sgD l) = 0
    simp only [PyData.depthAll, PyData.depth, ih]
    rfl
theorem sgD_shaped {l : List Nat} (h : ∀ c ∈ l, c < 1114112) : SeqAt.shaped (.list (sgD l)) = true := by
  have h2 : PyData.depth (.list (sgD l)) ≤ 64 := by
    simp only [PyData.depth, sgD_depth]
    omega
  show (PyData.canLay0 (.list (sgD l)) && decide (PyData.depth (.list (sgD l)) ≤ 64)) = true
  rw [Bool.and_eq_true]
  exact ⟨by simp only [PyData.canLay0]; exact sgD_lay l h, decide_eq_true h2⟩
theorem sgD_dp {K : PySem.W.Frag} {H : Hp} : ∀ l : List Nat, DpAll K H ((l.map sg).map V.str) (sgD l)
  | [] => .nil
  | c :: l => .cons (.str _) (sgD_dp l)
theorem replicate_all (n : Nat) : (List.replicate n true).all id = true := by
  rw [List.all_eq_true]
  intro x hx
  exact (List.mem_replicate.mp hx).2
theorem rep_snoc (n : Nat) : (List.replicate n true).map V.bl ++ [V.bl true] = (List.replicate (n + 1) true).map V.bl := by
  rw [List.replicate_succ', List.map_append]
  rfl
theorem Same_put {H H2 : Hp} {a : Addr} {o : HO} (s : Same H H2) (n : H2 a = none) : Same H (upd H2 a o) := same_new s (s.free n)
section
variable {P : Program} {w : World} {K : PySem.W.Frag} {mg : Str → Option Value} {base : Heap}
def spIsKinds : Sp := fun vs H Q _ => ∃ S : Str, vs = [.str S] ∧ Kds S ∧ ∀ H', Same H H' → Q (.bl true) H'
theorem scIsKinds : FnScope ["thing", "letter"] ["thing"] (defScope sIsKinds) := ⟨rfl, rfl, rfl, by decide +kernel, rfl, by decide +kernel, by decide +kernel⟩
theorem ok_isKinds {f : Addr} {fd : FuncData} {tk : Tok} (F : Fun K "is_kinds" "is_kinds" sIsKinds f fd) (mi : mg "isinstance" = none) (mt : mg "str" = none) (ml : mg "len" = none) (mk : mg "MOST_KINDS" = some (.int 4 tk)) (ma : mg "all" = none) (mq : mg "list" = none) (ms : mg "sorted" = none) (me : mg "set" = none) :
    FnOk P w K mg base CX0 1 f fd ["thing"] spIsKinds := by
  refine F.ok scIsKinds (fun vs H Q E h => ?_) (fun cdv A outer s H vs Q E hr h => ?_)
  · obtain ⟨S, rfl, _⟩ := h
    rfl
  · obtain ⟨S, rfl, hK, q⟩ := h
    refine ⟨_, pss_cons (ps_if (PW.pt (pw_or (pt_not (pt_val (pe_callB RZ.call_isTy (by rfl) mi (by decide +kernel) (pa_cons (pv 0) (pa_cons (pe_bltn (v := .ty "str") (by rfl) mt (by decide +kernel) rfl) pa_nil)))))
          (pw_or (pt_cmpR op_lt (pe_callB call_len_str (by rfl) ml PySem.boot_len (pa_cons (pv 0) pa_nil)) pe_int (nomark _))
            (pw_or1 (pt_cmpR op_gt (pe_callB call_len_str (by rfl) ml PySem.boot_len (pa_cons (pv 0) pa_nil)) (pe_glob (v := .int 4) (by rfl) mk ⟨tk, rfl⟩) (nomark _))))))
        (pss_one (ps_ret pe_bl)) pss_nil)
      (pss_cons (ps_if (pt_not (pt_val (pe_callB (cr_all rfl) (by rfl) ma (by decide +kernel) (pa_cons (pe_lc (own := [("letter", 1)]) (g := gName 1) (tt := tYes) rfl scIsKinds.nd (pi_str (pv 0)) (blkOk_by (N := ["thing", "letter"]) (sc := defScope sIsKinds) (by decide +kernel))
            (fun _ _ _ _ _ => pg_name (i := 1) scIsKinds.nd rfl (.inl rfl)) (fun _ _ _ _ _ => pts_nil) (fun _ _ _ _ _ => pe_cmpR op_inS (pv 1) pe_str (by rfl))) pa_nil))))
        (pss_one (ps_ret pe_bl)) pss_nil)
      (pss_one (ps_ret (pe_cmpR (op_eqD hr.units) (pe_callTy (cr_listText rfl) (by rfl) mq (by decide +kernel) (pa_cons (pv 0) pa_nil))
        (pe_callB (LwS.cr_sortedTx rfl) (by rfl) ms (by decide +kernel) (pa_cons (pe_callTy (LwS.cr_setText rfl) (by rfl) me (by decide +kernel) (pa_cons (pv 0) pa_nil)) pa_nil)) (by rfl))))), ?_⟩
    have hl := hK.len
    refine ⟨_, rfl, .str S, "str", rfl, .str S, true, rfl, ite2 (fun x => by cases x) (fun _ => ?_)⟩
    refine ⟨_, rfl, S, rfl, hK.line, _, _, rfl, rfl, _, rfl, ite2 (fun e => absurd (of_decide_eq_true e) (by omega)) (fun _ => ?_)⟩
    refine ⟨_, rfl, S, rfl, hK.line, _, _, rfl, rfl, _, rfl, ite2 (fun e => absurd (of_decide_eq_true e) (by omega)) (fun _ => ?_)⟩
    refine ⟨_, rfl, S, rfl, fun D nD => lc_it walk_str (fun i H' => H' D = some (.lst ((List.replicate i true).map V.bl)) ∧ Same H H') ⟨upd_same, same_new (Same.refl H) nD⟩ (fun _ _ _ _ => trivial) ?_ ?_⟩
    · rintro i x H1 H2 hi ⟨hD, sm⟩ ⟨rfl, c, hc, rfl⟩
      have cm : c ∈ cd S := Array.mem_toList_iff.mpr (Array.mem_of_getElem? hc)
      have ca : c ∈ (("abcdefghijklmnopqrstuvwxyz" : Str)).cps.toList := by
        have z := hK.az c cm
        show c ∈ cd abc
        rw [abc_cd, List.mem_range'_1]
        omega
      refine ⟨rfl, _, rfl, c, _, rfl, rfl, _, hD, ?_, ?_⟩
      · have i4 : i < 4 := by
          have : i < S.length := hi
          omega
        rw [List.length_map, List.length_replicate, sizeLine_eq]
        omega
      · refine ⟨?_, ?_⟩
        · rw [decide_eq_true ca, rep_snoc]
          exact upd_same
        · exact same_new sm nD
    · rintro H1 ⟨hD, sm⟩
      refine ⟨D, _, rfl, SqL.of hD, _, rfl, ite2 (fun x => ?_) (fun _ => ?_)⟩
      · rw [replicate_all] at x
        cases x
      have nd := Lw.rise_nodup hK.rise
      have c4 := hK.four
      have a8 : S.cps.all (· < 128) = true := by
        rw [Array.all_eq_true_iff_forall_mem]
        intro c hc
        have := hK.az c (Array.mem_toList_iff.mpr hc)
        exact decide_eq_true (by omega)
      refine ⟨_, rfl, S, rfl, by omega, fun p np => ?_⟩
      refine ⟨_, rfl, S, rfl, a8, nd, by show (cd S).length < 64; omega, fun r nr => ?_⟩
      refine ⟨r, _, rfl, upd_same, ?_, ?_, fun ys g pys sys ng => ?_⟩
      · exact (List.reverse_perm _).nodup_iff.mpr (LwS.nodup_sing nd)
      · rw [List.length_reverse, List.length_map]
        show (cd S).length < 64
        omega
      · obtain ⟨gs, rfl, pg⟩ := one_perm (fs := cd S) (pys.trans (List.reverse_perm _))
        have eg : gs = cd S := Lw.rise_unique (sorted_one gs sys) (hK.rise.imp fun h => Nat.le_of_lt h) pg
        subst eg
        have hc : ∀ c ∈ cd S, c < 1114112 := fun c hc => by have := hK.az c hc; omega
        refine ⟨.list (sgD (cd S)), .list (sgD (cd S)), .lst (SqL.of ?_) (sgD_dp _), .lst (SqL.of upd_same) (sgD_dp _), sgD_shaped hc, sgD_shaped hc, ?_⟩
        · exact Eq.trans (upd_ne (ne_of_none (Eq.trans (upd_ne (ne_of_none upd_same nr)) upd_same) ng)) (Eq.trans (upd_ne (ne_of_none upd_same nr)) upd_same)
        · rw [SeqAt.eqv_refl _ (SeqAt.canLay_of_shaped (sgD_shaped hc))]
          refine q _ ?_
          have f1 : ∀ {H2 : Hp} {a : Addr} {o : HO}, Same H H2 → H2 a = none → Same H (upd H2 a o) := fun s n => same_new s (s.free n)
          exact f1 (f1 (f1 sm np) nr) ng
end
end LwP
/-! is_word, need_kinds, need_word -/
namespace LwP
open PySem PySem.Spec PyProof.Rows L2 LwT
section
variable {P : Program} {w : World} {K : PySem.W.Frag} {mg : Str → Option Value} {base : Heap}
def spIsWord : Sp := fun vs H Q _ => ∃ (T S : Str) (n : Int), vs = [.str T, .str S, .int n] ∧ (T.length : Int) ≤ n ∧ T.length ≤ 1000 ∧ Over S T ∧ ∀ H', Same H H' → Q (.bl true) H'
theorem scIsWord : FnScope ["thing", "kinds", "most", "letter"] ["thing", "kinds", "most"] (defScope sIsWord) := ⟨rfl, rfl, rfl, by decide +kernel, rfl, by decide +kernel, by decide +kernel⟩
theorem ok_isWord {f : Addr} {fd : FuncData} (F : Fun K "is_word" "is_word" sIsWord f fd) (mi : mg "isinstance" = none) (mt : mg "str" = none) (ml : mg "len" = none) (ma : mg "all" = none) :
    FnOk P w K mg base CX0 1 f fd ["thing", "kinds", "most"] spIsWord := by
  refine F.ok scIsWord (fun vs H Q E h => ?_) (fun cdv A outer s H vs Q E hr h => ?_)
  · obtain ⟨T, S, n, rfl, _⟩ := h
    rfl
  · obtain ⟨T, S, n, rfl, hn, hl, hT, q⟩ := h
    refine ⟨_, pss_cons (ps_if (PW.pt (pw_or (pt_not (pt_val (pe_callB RZ.call_isTy (by rfl) mi (by decide +kernel) (pa_cons (pv 0) (pa_cons (pe_bltn (v := .ty "str") (by rfl) mt (by decide +kernel) rfl) pa_nil)))))
            (pw_or1 (pt_cmpR op_gt (pe_callB call_len_str (by rfl) ml PySem.boot_len (pa_cons (pv 0) pa_nil)) (pv 2) (nomark _)))))
        (pss_one (ps_ret pe_bl)) pss_nil)
      (pss_one (ps_ret (pe_callB (cr_all rfl) (by rfl) ma (by decide +kernel) (pa_cons (pe_lc (own := [("letter", 3)]) (g := gName 3) (tt := tYes) rfl scIsWord.nd (pi_str (pv 0)) (blkOk_by (N := ["thing", "kinds", "most", "letter"]) (sc := defScope sIsWord) (by decide +kernel))
            (fun _ _ _ _ _ => pg_name (i := 3) scIsWord.nd rfl (.inl rfl)) (fun _ _ _ _ _ => pts_nil) (fun _ _ _ _ _ => pe_cmpR op_inS (pv 3) (pv 1) (by rfl))) pa_nil)))), ?_⟩
    have tl : T.length ≤ sizeLine := line_of (by omega)
    refine ⟨_, rfl, .str T, "str", rfl, .str T, true, rfl, ite2 (fun x => by cases x) (fun _ => ?_)⟩
    refine ⟨_, rfl, T, rfl, tl, _, rfl, _, _, rfl, rfl, _, rfl, ite2 (fun e => absurd (of_decide_eq_true e) (by omega)) (fun _ => ?_)⟩
    refine ⟨_, rfl, T, rfl, fun D nD => lc_it walk_str (fun i H' => H' D = some (.lst ((List.replicate i true).map V.bl)) ∧ Same H H') ⟨upd_same, same_new (Same.refl H) nD⟩ (fun _ _ _ _ => trivial) ?_ ?_⟩
    · rintro i x H1 H2 hi ⟨hD, sm⟩ ⟨rfl, c, hc, rfl⟩
      have cm : c ∈ cd T := Array.mem_toList_iff.mpr (Array.mem_of_getElem? hc)
      have ca : c ∈ S.cps.toList := hT c cm
      refine ⟨rfl, _, rfl, _, rfl, c, _, rfl, rfl, _, hD, ?_, ?_⟩
      · have i4 : i < 1000 := by
          have : i < T.length := hi
          omega
        rw [List.length_map, List.length_replicate, sizeLine_eq]
        omega
      · refine ⟨?_, ?_⟩
        · rw [decide_eq_true ca, rep_snoc]
          exact upd_same
        · exact same_new sm nD
    · rintro H1 ⟨hD, sm⟩
      refine ⟨D, _, rfl, SqL.of hD, ?_⟩
      rw [replicate_all]
      exact q H1 sm
/-! ### the two that raise -/
def spNeedKinds : Sp := fun vs H Q _ => ∃ S : Str, vs = [.str S] ∧ Kds S ∧ ∀ H', Same H H' → Q .non H'
theorem scNeedKinds : FnScope ["thing"] ["thing"] (defScope sNeedKinds) := ⟨rfl, rfl, rfl, by decide +kernel, rfl, by decide +kernel, by decide +kernel⟩
theorem ok_needKinds {f fI : Addr} {fd fdI : FuncData} (F : Fun K "need_kinds" "need_kinds" sNeedKinds f fd) (D : Df K mg "is_kinds" sIsKinds ["thing"] fI fdI) (G : FnOk P w K mg base CX0 1 fI fdI ["thing"] spIsKinds) :
    FnOk P w K mg base CX0 2 f fd ["thing"] spNeedKinds := by
  refine F.ok scNeedKinds (fun vs H Q E h => ?_) (fun cdv A outer s H vs Q E hr h => ?_)
  · obtain ⟨S, rfl, _⟩ := h
    rfl
  · obtain ⟨S, rfl, hK, q⟩ := h
    refine ⟨_, pss_one (ps_if (pt_not (pt_val (pe_call G hr rfl D.g D.k D.b .nil pass0 (pa_cons (pv 0) pa_nil)))) pss_never pss_nil), ?_⟩
    exact ⟨_, rfl, S, rfl, hK, fun H' sm => ⟨_, rfl, ite2 (fun x => by cases x) (fun _ => q H' sm)⟩⟩
def spNeedWord : Sp := fun vs H Q _ => ∃ (T S : Str) (n : Int), vs = [.str T, .str S, .int n] ∧ (T.length : Int) ≤ n ∧ T.length ≤ 1000 ∧ Over S T ∧ ∀ H', Same H H' → Q .non H'
theorem scNeedWord : FnScope ["thing", "kinds", "most"] ["thing", "kinds", "most"] (defScope sNeedWord) := ⟨rfl, rfl, rfl, by decide +kernel, rfl, by decide +kernel, by decide +kernel⟩
theorem ok_needWord {f fI : Addr} {fd fdI : FuncData} (F : Fun K "need_word" "need_word" sNeedWord f fd) (D : Df K mg "is_word" sIsWord ["thing", "kinds", "most"] fI fdI) (G : FnOk P w K mg base CX0 1 fI fdI ["thing", "kinds", "most"] spIsWord) :
    FnOk P w K mg base CX0 2 f fd ["thing", "kinds", "most"] spNeedWord := by
  refine F.ok scNeedWord (fun vs H Q E h => ?_) (fun cdv A outer s H vs Q E hr h => ?_)
  · obtain ⟨T, S, n, rfl, _⟩ := h
    rfl
  · obtain ⟨T, S, n, rfl, hn, hl, hT, q⟩ := h
    refine ⟨_, pss_one (ps_if (pt_not (pt_val (pe_call G hr rfl D.g D.k D.b .nil pass0 (pa_cons (pv 0) (pa_cons (pv 1) (pa_cons (pv 2) pa_nil)))))) pss_never pss_nil), ?_⟩
    exact ⟨_, rfl, _, rfl, _, rfl, T, S, n, rfl, hn, hl, hT, fun H' sm => ⟨_, rfl, ite2 (fun x => by cases x) (fun _ => q H' sm)⟩⟩
end
end LwP
/-! dicts from texts whose values are a function of the key; the stretches of a text -/
namespace LwP
open PySem PySem.Spec PyProof.Rows L2 LwT
/-- the entry of y -/
def kg (g : Str → V) (y : Str) : Key × V := (Sum.inr y, g y)
/-- y once more -/
def ins (ys : List Str) (y : Str) : List Str := if y ∈ ys then ys else ys ++ [y]
theorem mem_ins {ys : List Str} {x y : Str} : x ∈ ins ys y ↔ x ∈ ys ∨ x = y := by
  unfold ins
  by_cases h : y ∈ ys
  · rw [if_pos h]
    exact ⟨.inl, fun e => e.elim id fun e => e ▸ h⟩
  · rw [if_neg h, List.mem_append, List.mem_singleton]
theorem len_ins (ys : List Str) (y : Str) : (ins ys y).length ≤ ys.length + 1 := by
  unfold ins
  by_cases h : y ∈ ys
  · rw [if_pos h]
    omega
  · rw [if_neg h, List.length_append, List.length_singleton]
    exact Nat.le_refl _
theorem any_kg (g : Str → V) (y : Str) : ∀ ys : List Str, ((ys.map (kg g)).any fun kv => decide (kv.1 = Sum.inr y)) = decide (y ∈ ys)
  | [] => by simp
  | x :: ys => by
    rw [List.map_cons, List.any_cons, any_kg g y ys, Bool.eq_iff_iff]
    simp only [Bool.or_eq_true, decide_eq_true_eq, List.mem_cons]
    refine or_congr ⟨fun h => ?_, fun h => ?_⟩ Iff.rfl
    · have h : (Sum.inr x : Key) = Sum.inr y := h
      exact (Sum.inr.inj h).symm
    · show (Sum.inr x : Key) = Sum.inr y
      rw [h]
theorem put_kg (g : Str → V) (ys : List Str) (y : Str) : putK (ys.map (kg g)) (Sum.inr y) (g y) = (ins ys y).map (kg g) := by
  unfold putK ins
  rw [any_kg]
  by_cases h : y ∈ ys
  · rw [if_pos (decide_eq_true h), if_pos h, List.map_map]
    refine List.map_congr_left fun x _ => ?_
    show (if (Sum.inr x : Key) = Sum.inr y then ((Sum.inr x : Key), g y) else (Sum.inr x, g x)) = (Sum.inr x, g x)
    by_cases e : (Sum.inr x : Key) = Sum.inr y
    · rw [if_pos e, Sum.inr.inj e]
    · rw [if_neg e]
  · rw [if_neg (by rw [decide_eq_false h]; exact Bool.false_ne_true), if_neg h, List.map_append]
    rfl
theorem val_kg (g : Str → V) (y : Str) : ∀ ys : List Str, valV (ys.map (kg g)) (Sum.inr y) = if y ∈ ys then some (g y) else none
  | [] => by simp [valV]
  | x :: ys => by
    rw [List.map_cons]
    by_cases e : x = y
    · rw [e, valV_pos (by rfl), if_pos (List.mem_cons_self ..)]
      rfl
    · rw [valV_neg (show ¬ (kg g x).1 = Sum.inr y from fun z => e (Sum.inr.inj z)), val_kg g y ys]
      by_cases m : y ∈ ys
      · rw [if_pos m, if_pos (List.mem_cons_of_mem _ m)]
      · rw [if_neg m, if_neg (fun z => (List.mem_cons.mp z).elim (fun z => e z.symm) m)]
theorem keys_kg (g : Str → V) (ys : List Str) : (ys.map (kg g)).map (fun kv => kV kv.1) = ys.map V.str := by
  rw [List.map_map]
  exact List.map_congr_left fun x _ => rfl
theorem getD_kg {g : Str → V} {ys : List Str} {y : Str} : (valV (ys.map (kg g)) (Sum.inr y)).isSome = decide (y ∈ ys) := by
  rw [val_kg]
  by_cases m : y ∈ ys
  · rw [if_pos m, decide_eq_true m]
    rfl
  · rw [if_neg m, decide_eq_false m]
    rfl
/-- ys holds stretches of T only, the empty one, those that begin below i, those that begin at i and end before j -/
structure Stk (T : Str) (ys : List Str) (i j : Nat) : Prop where
  sub : ∀ y ∈ ys, cd y <:+: cd T
  nil : ("" : Str) ∈ ys
  low : ∀ a b, a < i → a < b → b ≤ T.length → cutS T (some (a : Int)) (some (b : Int)) ∈ ys
  cur : ∀ b, i < b → b < j → b ≤ T.length → cutS T (some (i : Int)) (some (b : Int)) ∈ ys
theorem nil_cd : cd ("" : Str) = [] := by decide +kernel
theorem Stk.start (T : Str) : Stk T [("" : Str)] 0 0 :=
  ⟨fun y h => by rw [List.mem_singleton.mp h, nil_cd]; exact List.nil_infix, List.mem_singleton.mpr rfl, fun a b h => by omega, fun b h1 h2 => by omega⟩
theorem cut_inf (T : Str) (a b : Nat) : cd (cutS T (some (a : Int)) (some (b : Int))) <:+: cd T := by
  rw [cut_nn]
  exact (Lw.take_inf _ _).trans (Lw.drop_inf _ _)
theorem Stk.put {T : Str} {ys : List Str} {i j : Nat} (s : Stk T ys i j) : Stk T (ins ys (cutS T (some (i : Int)) (some (j : Int)))) i (j + 1) := by
  refine ⟨fun y h => ?_, mem_ins.mpr (.inl s.nil), fun a b h1 h2 h3 => mem_ins.mpr (.inl (s.low a b h1 h2 h3)), fun b h1 h2 h3 => ?_⟩
  · rcases mem_ins.mp h with h | h
    · exact s.sub y h
    · rw [h]
      exact cut_inf T i j
  · by_cases e : b = j
    · rw [e]
      exact mem_ins.mpr (.inr rfl)
    · exact mem_ins.mpr (.inl (s.cur b h1 (by omega) h3))
theorem Stk.begin {T : Str} {ys : List Str} {i j : Nat} (s : Stk T ys i j) : Stk T ys i (i + 1) := ⟨s.sub, s.nil, s.low, fun b h1 h2 => by omega⟩
theorem Stk.next {T : Str} {ys : List Str} {i j : Nat} (s : Stk T ys i j) (h : T.length < j) : Stk T ys (i + 1) 0 :=
  ⟨s.sub, s.nil, fun a b h1 h2 h3 => if e : a = i then by rw [e]; exact s.cur b (by omega) (by omega) h3 else s.low a b (by omega) h2 h3, fun b h1 h2 => by omega⟩
theorem Stk.all {T : Str} {ys : List Str} {i j : Nat} (s : Stk T ys i j) (h : T.length ≤ i) (y : Str) : y ∈ ys ↔ cd y <:+: cd T := by
  refine ⟨s.sub y, fun q => ?_⟩
  rcases Lw.inf_iff_cut.mp q with e | ⟨a, b, h1, h2, h3, e⟩
  · have : y = ("" : Str) := cd_ext (by rw [e, nil_cd])
    rw [this]
    exact s.nil
  · rw [← cd_len] at h1 h3
    have : y = cutS T (some (a : Int)) (some (b : Int)) := cd_ext (by rw [e, cut_nn, Nat.min_eq_left (show a ≤ T.length by omega), Nat.min_eq_left h3])
    rw [this]
    exact s.low a b (by omega) h2 h3
end LwP
/-! in_order, stretches -/
namespace LwP
open PySem PySem.Spec PyProof.Rows L2 LwT
/-- a def whose code object is the one at c -/
structure FunC (K : PySem.W.Frag) (x q : Str) (st : Stmt) (c f : Addr) (fd : FuncData) : Prop where
  ex : ∃ (oc : Value) (od : Option Addr) (kV doc pm : Value) (an : Option Addr) (ct : Value) (osl : Array (Option Value)),
    fd = PySem.W.fnOf x q (defArgs st) (defBody st) (defScope st) .none kV doc pm an (.ref c) ct ∧ K.lookup f = some ⟨oc, od, .func fd, osl⟩ ∧ PySem.W.codeIn K (.ref c) q = true
/-- the table that the lambda of in_order writes in -/
abbrev TT1 (P : Addr) : List (Addr × Str) := [(P, (("in_order" : Str) ++ ".<locals>.") ++ "<lambda>")]
section
variable {P : Program} {w : World} {K : PySem.W.Frag} {mg : Str → Option Value} {base : Heap}
def spInOrder (K : PySem.W.Frag) (t : Addr) : Sp := fun vs H Q _ => ∃ (a : Addr) (xs : List Str), vs = [.ref a] ∧ SqL K H a (xs.map V.str) ∧ (∀ y ∈ xs, y.length ≤ sizeLine) ∧ LamX.Tabs (TT1 t) H ∧
  ∀ (ys : List Str) (p : Addr) (H2 : Hp), ys.Perm xs → LamX.ExtN H H2 → LamX.Tabs (TT1 t) H2 → H2 p = none → Q (.ref p) (upd H2 p (.lst (ys.map V.str)))
theorem scInOrder : FnScope ["words"] ["words"] (defScope sInOrder) := ⟨rfl, rfl, rfl, by decide +kernel, rfl, by decide +kernel, by decide +kernel⟩
theorem ok_inOrder {f c t : Addr} {fd : FuncData} (F : FunC K "in_order" "in_order" sInOrder c f fd) (TB : LamX.TabB base mg c t) (ms : mg "sorted" = none) (ml : mg "len" = none) : FnOk P w K mg base CX0 2 f fd ["words"] (spInOrder K t) := by
  obtain ⟨oc, od, kV, doc, pm, an, ct, osl, rfl, lk, hcd⟩ := F.ex
  refine fn_of lk hcd scInOrder (fun vs H Q E h => ?_) fun A outer s H vs Q E hr h => ?_
  · obtain ⟨a, xs, rfl, _⟩ := h
    rfl
  · obtain ⟨a, xs, rfl, hS, hl, hT, q⟩ := h
    have hB : PSs (cxOf CX0 P w K mg base ["words"] "in_order" (defScope sInOrder) f (.ref c) A outer s H E).nox (defBody sInOrder) _ :=
      pss_one (ps_ret (LwK.pe_sortLen (T := TT1 t) (c := c) (P := t) (by rfl) ms ml (pv 0) TB rfl (List.mem_cons_self ..) (fun p hp _ => by rw [List.mem_singleton.mp hp] <;> rfl) hr))
    refine ⟨_, hB.nox, ?_⟩
    exact ⟨_, rfl, a, xs, rfl, hS, hl, hT, q⟩
/-! ### stretches -/
theorem FunC.fun_ {x q : Str} {st : Stmt} {c f : Addr} {fd : FuncData} (F : FunC K x q st c f fd) (k : PySem.W.keepIn K (.ref f) = true) : Fun K x q st f fd := by
  obtain ⟨oc, od, kV, doc, pm, an, ct, osl, e, lk, hcd⟩ := F.ex
  exact ⟨⟨oc, od, kV, doc, pm, an, .ref c, ct, osl, e, lk, hcd⟩, k⟩
abbrev tr : Str → V := fun _ => .bl true
def spStretches (t : Addr) : Sp := fun vs H Q _ => ∃ T : Str, vs = [.str T] ∧ T.length ≤ 40 ∧ LamX.Tabs (TT1 t) H ∧
  ∀ (ys : List Str) (p : Addr) (H2 : Hp), (∀ y, y ∈ ys ↔ cd y <:+: cd T) → ys.length ≤ 2000 → LamX.ExtN H H2 → LamX.Tabs (TT1 t) H2 → H2 p = none → Q (.ref p) (upd H2 p (.lst (ys.map V.str)))
theorem scStretches : FnScope ["text", "found", "start", "end"] ["text"] (defScope sStretches) := ⟨rfl, rfl, rfl, by decide +kernel, rfl, by decide +kernel, by decide +kernel⟩
theorem ok_stretches {f fI t : Addr} {fd fdI : FuncData} (F : Fun K "stretches" "stretches" sStretches f fd) (D : Df K mg "in_order" sInOrder ["words"] fI fdI) (G : FnOk P w K mg base CX0 2 fI fdI ["words"] (spInOrder K t))
    (mr : mg "range" = none) (ml : mg "len" = none) (mq : mg "list" = none) : FnOk P w K mg base CX0 3 f fd ["text"] (spStretches t) := by
  refine F.ok scStretches (fun vs H Q E h => ?_) (fun cdv A outer s H vs Q E hr h => ?_)
  · obtain ⟨T, rfl, _⟩ := h
    rfl
  · obtain ⟨T, rfl, hl, hT, q⟩ := h
    refine ⟨_, pss_cons (ps_set (i := 1) scStretches.nd rfl (.inl rfl) (pe_disp (pps_cons pe_str pe_bl pps_nil) rfl rfl (by simp) (by decide)))
      (pss_cons (ps_for PassesOwn.never rfl (pi_range1 rfl mr (pa_cons (pe_callB call_len_str (by rfl) ml PySem.boot_len (pa_cons (pv 0) pa_nil)) pa_nil)) (pg_name (i := 2) scStretches.nd rfl (.inl rfl))
        (pss_one (ps_for PassesOwn.never rfl (pi_range2 rfl mr (pa_cons (pe_op op_add (pv 2) pe_int) (pa_cons (pe_op op_add (pe_callB call_len_str (by rfl) ml PySem.boot_len (pa_cons (pv 0) pa_nil)) pe_int) pa_nil))) (pg_name (i := 3) scStretches.nd rfl (.inl rfl))
          (pss_one (ps_dput (hu_of hr) (pv 1) (pe_slice sl_str (pv 0) (po_some (pv 2)) (po_some (pv 3))) pe_bl rfl)))))
      (pss_one (ps_ret (pe_call G hr rfl D.g D.k D.b .nil pass0 (pa_cons (pe_callTy (call_list_dK rfl) (by rfl) mq (by decide +kernel) (pa_cons (pv 1) pa_nil)) pa_nil))))), ?_⟩
    have tl : T.length ≤ sizeLine := line_of (by omega)
    refine fun d nd => ⟨upd_same, [(Sum.inr "", V.bl true)], rfl, by decide, ?_⟩
    refine ⟨_, rfl, T, rfl, tl, _, rfl, by omega, by omega, ?_⟩
    refine for_range (lo := 0) (n := T.length) (fun i σ H' => ∃ (ys : List Str) (v2 v3 : Option V), σ = [some (.str T), some (.ref d), v2, v3] ∧ H' d = some (.dK (ys.map (kg tr))) ∧ Stk T ys i 0 ∧ ys.length ≤ 1 + 41 * i ∧ Same H H')
      ⟨[("" : Str)], none, none, rfl, upd_same, Stk.start T, Nat.le_refl _, same_new (same_new (Same.refl H) nd) nd⟩ ?_ ?_
    · rintro i σ H1 hi ⟨ys, v2, v3, rfl, hd, sk, yl, sm⟩
      refine ⟨_, rfl, _, _, rfl, rfl, _, rfl, T, rfl, tl, _, _, rfl, rfl, _, _, rfl, ⟨by omega, by omega, by omega, by omega⟩, ?_⟩
      refine for_range (lo := 0 + (i : Int) + 1) (n := ((T.length : Int) + 1 - (0 + (i : Int) + 1)).toNat) (fun k σ H' => ∃ (ys : List Str) (v3 : Option V), σ = [some (.str T), some (.ref d), some (.int (0 + (i : Int))), v3] ∧ H' d = some (.dK (ys.map (kg tr))) ∧ Stk T ys i (i + 1 + k) ∧ ys.length ≤ 1 + 41 * i + k ∧ Same H H')
        ⟨ys, v3, rfl, hd, sk.begin, by omega, sm⟩ ?_ ?_
      · rintro k σ H2 hk ⟨ys, v3, rfl, hd, sk, yl, sm⟩
        have e1 : 0 + (i : Int) = ((i : Nat) : Int) := by omega
        have e2 : 0 + (i : Int) + 1 + (k : Int) = ((i + 1 + k : Nat) : Int) := by omega
        have ec : cutS T (some (0 + (i : Int))) (some (0 + (i : Int) + 1 + (k : Int))) = cutS T (some (i : Int)) (some ((i + 1 + k : Nat) : Int)) := by rw [e2, e1]
        have hn : (ys.map (kg tr)).length < sizeLine := by
          rw [List.length_map, sizeLine_eq]
          omega
        refine ⟨_, rfl, _, rfl, _, rfl, _, rfl, _, rfl, _, rfl, T, rfl, tl, d, _, rfl, DPut.k (k := Sum.inr _) hd hn, ?_⟩
        refine ⟨ins ys (cutS T (some (i : Int)) (some ((i + 1 + k : Nat) : Int))), _, rfl, ?_, sk.put, Nat.le_trans (len_ins _ _) (by omega), ?_⟩
        · rw [upd_same, ec]
          exact congrArg (fun z => some (HO.dK z)) (put_kg tr ys _)
        · exact fun b o e => by
            rw [upd_ne (ne_of_none e nd)]
            exact sm b o e
      · rintro σ H2 ⟨ys, v3, rfl, hd, sk, yl, sm⟩
        exact ⟨ys, _, v3, rfl, hd, sk.next (by omega), by omega, sm⟩
    · rintro σ H1 ⟨ys, v2, v3, rfl, hd, sk, yl, sm⟩
      refine ⟨_, rfl, d, _, rfl, hd, fun r nr => ?_⟩
      rw [keys_kg]
      have s2 : Same H (upd H1 r (.lst (ys.map V.str))) := Same_put sm nr
      refine ⟨r, ys, rfl, SqL.of upd_same, fun y hy => ?_, hT.ext s2, fun zs p H2 pm ex tb np => ?_⟩
      · have := (sk.sub y hy).length_le
        rw [← cd_len, ← cd_len] at this
        exact line_of (by omega)
      · refine q zs p H2 (fun y => pm.mem_iff.trans (sk.all (Nat.le_refl _) y)) (by rw [pm.length_eq]; omega) ((LamX.ExtN.of s2).trans ex) tb np
end
end LwP
/-! lacking -/
namespace LwP
open PySem PySem.Spec PyProof.Rows L2 LwT
/-- all but what stands at r stays -/
def Keep (r : Addr) (A B : Hp) : Prop := ∀ b o, b ≠ r → A b = some o → B b = some o
theorem Keep.refl (r : Addr) (A : Hp) : Keep r A A := fun _ _ _ h => h
theorem Keep.at_ {r : Addr} {A B : Hp} {o : HO} (k : Keep r A B) : Keep r A (upd B r o) := fun b u n e => by
  rw [upd_ne n]
  exact k b u n e
theorem Keep.new {r p : Addr} {A B : Hp} {o : HO} (k : Keep r A B) (n : B p = none) : Keep r A (upd B p o) := fun b u h e => by
  rw [upd_ne (ne_of_none (k b u h e) n)]
  exact k b u h e
theorem Keep.trans {r : Addr} {A B C : Hp} (k : Keep r A B) (l : Keep r B C) : Keep r A C := fun b o n e => l b o n (k b o n e)
theorem Keep.ext {r : Addr} {H A B : Hp} (k : Keep r A B) (e : LamX.ExtN H A) (h : ∀ o, H r = some o → ∃ ps, o = .tbl ps) : LamX.ExtN H B := fun b o hb ht => by
  refine k b o (fun z => ?_) (e b o hb ht)
  obtain ⟨ps, w⟩ := h o (by rw [← z]; exact hb)
  exact ht ps w
theorem extn_free {H A : Hp} {r : Addr} (e : LamX.ExtN H A) (n : A r = none) : ∀ o, H r = some o → ∃ ps, o = .tbl ps := fun o h => by
  apply Classical.byContradiction
  intro z
  have := e r o h (fun ps w => z ⟨ps, w⟩)
  rw [n] at this
  cases this
theorem Keep.tabs {r : Addr} {A B : Hp} {T : List (Addr × Str)} {o : HO} (k : Keep r A B) (h : LamX.Tabs T A) (hr : A r = some o) (h1 : ∀ ps, o ≠ .tbl ps) (h2 : ∀ c q, o ≠ LamX.CodeO c q) : LamX.Tabs T B := fun p hp => by
  obtain ⟨ps, e1, e2, e3⟩ := h p hp
  refine ⟨ps, k _ _ (fun z => h1 ps ?_) e1, e2, fun pos cv hc => ?_⟩
  · rw [z, hr] at e1
    exact Option.some.inj e1
  · obtain ⟨c, a, b⟩ := e3 pos cv hc
    refine ⟨c, a, k _ _ (fun z => h2 c p.2 ?_) b⟩
    rw [z, hr] at b
    rw [z]
    exact Option.some.inj b
theorem lst_ne_code {xs : List V} : (∀ ps, HO.lst xs ≠ .tbl ps) ∧ ∀ c q, HO.lst xs ≠ LamX.CodeO c q := by
  refine ⟨fun ps z => (by cases z), fun c q z => ?_⟩
  unfold LamX.CodeO at z
  cases z
theorem dk_ne_code {xs : List (Key × V)} : (∀ ps, HO.dK xs ≠ .tbl ps) ∧ ∀ c q, HO.dK xs ≠ LamX.CodeO c q := by
  refine ⟨fun ps z => (by cases z), fun c q z => ?_⟩
  unfold LamX.CodeO at z
  cases z
/-- the place where a text stands -/
abbrev pl (T : Str) : Str → V := fun y => .int (Txt.find T y)
/-- the rows tell all missing words x·c, x among xs -/
def Cov (T : Str) (xs : List Str) (cs : List Nat) (L : List RowT) : Prop := ∀ x ∈ xs, ∀ c ∈ cs, Lw.Miss (cd T) (cd x) c → ∃ u ∈ L, u.2.1 = x ++ sg c
theorem Cov.nil (T : Str) (cs : List Nat) (L : List RowT) : Cov T [] cs L := fun x h => by cases h
theorem Cov.nil2 (T : Str) (xs : List Str) (L : List RowT) : Cov T xs [] L := fun x _ c h => by cases h
theorem Cov.mono {T : Str} {xs : List Str} {cs : List Nat} {L L' : List RowT} (h : Cov T xs cs L) (s : ∀ u ∈ L, u ∈ L') : Cov T xs cs L' := fun x hx c hc m => by
  obtain ⟨u, a, b⟩ := h x hx c hc m
  exact ⟨u, s u a, b⟩
theorem Cov.snoc1 {T x : Str} {cs : List Nat} {c : Nat} {L : List RowT} (h : Cov T [x] cs L) (n : Lw.Miss (cd T) (cd x) c → ∃ u ∈ L, u.2.1 = x ++ sg c) : Cov T [x] (cs ++ [c]) L := fun y hy d hd m => by
  rcases List.mem_append.mp hd with z | z
  · exact h y hy d z m
  · rw [List.mem_singleton.mp z, List.mem_singleton.mp hy] at m ⊢
    exact n m
theorem Cov.snoc2 {T x : Str} {xs : List Str} {cs : List Nat} {L : List RowT} (h : Cov T xs cs L) (n : Cov T [x] cs L) : Cov T (xs ++ [x]) cs L := fun y hy d hd m => by
  rcases List.mem_append.mp hy with z | z
  · exact h y z d hd m
  · exact n y z d hd m
theorem Rows.snoc {S T x : Str} {H : Hp} {r p : Addr} {L : List RowT} {a b : Int} (h : Rows S T H r L) (n : H p = none) (w : Row S T x a b) :
    Rows S T (upd (upd H p (.tup [.str x, .int a, .int b])) r (.lst ((L.map fun t => V.ref t.1) ++ [.ref p]))) r (L ++ [(p, x, a, b)]) := by
  have npr : p ≠ r := fun e => by
    rw [e, h.at_] at n
    cases n
  refine ⟨?_, fun t ht => ?_⟩
  · rw [upd_same, List.map_append]
    rfl
  · rcases List.mem_append.mp ht with z | z
    · obtain ⟨e1, e2⟩ := h.row t z
      refine ⟨?_, e2⟩
      have n1 : t.1 ≠ r := fun e => by
        rw [e, h.at_] at e1
        cases e1
      rw [upd_ne n1, upd_ne (ne_of_none e1 n)]
      exact e1
    · rw [List.mem_singleton.mp z]
      refine ⟨?_, w⟩
      show upd (upd H p _) r _ p = _
      rw [upd_ne npr, upd_same]
section
variable {P : Program} {w : World} {K : PySem.W.Frag} {mg : Str → Option Value} {base : Heap}
def spLacking (t : Addr) : Sp := fun vs H Q _ => ∃ T S : Str, vs = [.str T, .str S] ∧ Kds S ∧ Over S T ∧ T.length ≤ 40 ∧ LamX.Tabs (TT1 t) H ∧
  ∀ (L : List RowT) (r : Addr) (H' : Hp), Rows S T H' r L → (∀ x c, c ∈ cd S → Lw.Miss (cd T) (cd x) c → ∃ u ∈ L, u.2.1 = x ++ sg c) → L.length ≤ 10000 → LamX.ExtN H H' → LamX.Tabs (TT1 t) H' → Q (.ref r) H'
theorem scLacking : FnScope ["text", "kinds", "known", "word", "found", "letter", "longer"] ["text", "kinds"] (defScope sLacking) := ⟨rfl, rfl, rfl, by decide +kernel, rfl, by decide +kernel, by decide +kernel⟩
theorem ok_lacking {f fK fW fS t : Addr} {fd fdK fdW fdS : FuncData} {tk : Tok} (F : Fun K "lacking" "lacking" sLacking f fd) (DK : Df K mg "need_kinds" sNeedKinds ["thing"] fK fdK) (DW : Df K mg "need_word" sNeedWord ["thing", "kinds", "most"] fW fdW) (DS : Df K mg "stretches" sStretches ["text"] fS fdS)
    (GK : FnOk P w K mg base CX0 2 fK fdK ["thing"] spNeedKinds) (GW : FnOk P w K mg base CX0 2 fW fdW ["thing", "kinds", "most"] spNeedWord) (GS : FnOk P w K mg base CX0 3 fS fdS ["text"] (spStretches t)) (mk : mg "MOST_LETTERS" = some (.int 40 tk)) :
    FnOk P w K mg base CX0 4 f fd ["text", "kinds"] (spLacking t) := by
  refine F.ok scLacking (fun vs H Q E h => ?_) (fun cdv A outer s H vs Q E hr h => ?_)
  · obtain ⟨T, S, rfl, _⟩ := h
    rfl
  · obtain ⟨T, S, rfl, hK, hO, hl, hT, q⟩ := h
    have hr2 : Room 2 _ := hr.mono (by decide)
    have hu := hu_of hr
    refine ⟨_, pss_cons (ps_expr (pe_call GK hr2 rfl DK.g DK.k DK.b .nil pass0 (pa_cons (pv 1) pa_nil)))
      (pss_cons (ps_expr (pe_call GW hr2 rfl DW.g DW.k DW.b .nil pass0 (pa_cons (pv 0) (pa_cons (pv 1) (pa_cons (pe_glob (v := .int 40) (by rfl) mk ⟨tk, rfl⟩) pa_nil)))))
      (pss_cons (ps_set (i := 2) scLacking.nd rfl (.inl rfl) pe_dnewK)
      (pss_cons (ps_for PassesOwn.never rfl (pi_list (pe_call GS hr rfl DS.g DS.k DS.b .nil pass0 (pa_cons (pv 0) pa_nil))) (pg_name (i := 3) scLacking.nd rfl (.inl rfl))
        (pss_one (ps_dput hu (pv 2) (pv 3) (pe_bm PySem.F.plainAttrs_str PySem.F.slot_str_find PySem.F.type_str_find mt_find (pv 0) (pa_cons (pv 3) pa_nil)) rfl)))
      (pss_cons (ps_set (i := 4) scLacking.nd rfl (.inl rfl) (pe_lst pa_nil))
      (pss_cons (ps_for PassesOwn.never rfl (pi_list (pe_call GS hr rfl DS.g DS.k DS.b .nil pass0 (pa_cons (pv 0) pa_nil))) (pg_name (i := 3) scLacking.nd rfl (.inl rfl))
        (pss_one (ps_for PassesOwn.never rfl (pi_str (pv 1)) (pg_name (i := 5) scLacking.nd rfl (.inl rfl))
          (pss_cons (ps_set (i := 6) scLacking.nd rfl (.inl rfl) (pe_op op_add_str (pv 3) (pv 5)))
          (pss_one (ps_if (PW.pt (pw_and (pt_cmp (pc_dnotin hu (pv 6) (pv 2))) (pw_and1 (pt_cmp (pc_din hu (pe_slice sl_str (pv 6) (po_some pe_int) po_none) (pv 2))))))
            (pss_one (ps_expr (pe_bm PySem.F.plainAttrs_list PySem.F.slot_list_append PySem.F.type_list_append mt_append (pv 4)
              (pa_cons (pe_tup (pa_cons (pv 6) (pa_cons (pe_dget hu (pv 2) (pv 3) (fun _ _ => rfl)) (pa_cons (pe_dget hu (pv 2) (pe_slice sl_str (pv 6) (po_some pe_int) po_none) (fun _ _ => rfl)) pa_nil)))) pa_nil)))) pss_nil))))))
      (pss_one (ps_ret (pv 4)))))))), ?_⟩
    have tl : T.length ≤ sizeLine := line_of (by omega)
    refine ⟨_, rfl, S, rfl, hK, fun H1 sm1 => ?_⟩
    refine ⟨_, rfl, _, rfl, T, S, 40, rfl, by omega, by omega, hO, fun H2 sm2 => ?_⟩
    have s2 : Same H H2 := sm1.trans sm2
    refine fun d nd => ⟨_, rfl, T, rfl, hl, (hT.ext s2).ext (same_new (Same.refl H2) nd), fun ws p H4 hws wl ex4 tb4 np => ?_⟩
    have hd4 : H4 d = some (.dK []) := ex4 d _ upd_same (fun ps z => by cases z)
    have hdp : d ≠ p := ne_of_none hd4 np
    have e3 : LamX.ExtN H H4 := ((LamX.ExtN.of s2).trans (LamX.ExtN.of (same_new (Same.refl H2) nd))).trans ex4
    have ndH : ∀ o, H d = some o → ∃ ps, o = .tbl ps := fun o h => by
      rw [s2 d o h] at nd
      cases nd
    have up : ∀ b o, H4 b = some o → upd H4 p (.lst (ws.map V.str)) b = some o := fun b o e => by
      rw [upd_ne (ne_of_none e np)]
      exact e
    have hwr : ∀ y ∈ ws, y.length ≤ T.length := fun y hy => by
      have := ((hws y).mp hy).length_le
      rw [← cd_len, ← cd_len] at this
      exact this
    refine ⟨p, rfl, ⟨_, SqL.of upd_same⟩, for_list (K := K) (a := p) (xs := ws.map V.str) (fun i σ H' => ∃ (ks : List Str) (v3 v4 v5 v6 : Option V), σ = [some (.str T), some (.str S), some (.ref d), v3, v4, v5, v6] ∧ Keep d (upd H4 p (.lst (ws.map V.str))) H' ∧
        H' d = some (.dK (ks.map (kg (pl T)))) ∧ (∀ y, y ∈ ks ↔ y ∈ ws.take i) ∧ ks.length ≤ i)
      ⟨[], none, none, none, none, rfl, Keep.refl _ _, up d _ hd4, fun y => by simp, Nat.le_refl _⟩ (fun i σ H' _ hp => ?_) ?_ ?_⟩
    · obtain ⟨_, _, _, _, _, _, kp, _⟩ := hp
      exact SqL.of (kp p _ hdp.symm upd_same)
    · rintro i x σ H5 hx ⟨ks, v3, v4, v5, v6, rfl, kp, hd, hk, hkl⟩
      rw [List.getElem?_map] at hx
      obtain ⟨y, hy, rfl⟩ := Option.map_eq_some_iff.mp hx
      have hil : i < ws.length := (List.getElem?_eq_some_iff.mp hy).1
      have hn : (ks.map (kg (pl T))).length < sizeLine := by
        rw [List.length_map, sizeLine_eq]
        omega
      refine ⟨_, rfl, rfl, _, rfl, T, y, rfl, rfl, _, rfl, _, rfl, d, _, rfl, DPut.k (k := Sum.inr y) hd hn, ?_⟩
      refine ⟨ins ks y, _, _, _, _, rfl, kp.at_, ?_, fun z => ?_, Nat.le_trans (len_ins _ _) (by omega)⟩
      · rw [upd_same]
        exact congrArg (fun z => some (HO.dK z)) (put_kg (pl T) ks y)
      · rw [mem_ins, hk, List.take_add_one, hy, List.mem_append]
        simp
    · rintro σ H5 ⟨ks, v3, v4, v5, v6, rfl, kp, hd, hk, hkl⟩
      rw [List.length_map, List.take_length] at hk
      have hks : ∀ y, y ∈ ks ↔ cd y <:+: cd T := fun y => (hk y).trans (hws y)
      have e5 : LamX.ExtN H H5 := kp.ext (e3.trans (LamX.ExtN.of up)) ndH
      have tb5 : LamX.Tabs (TT1 t) H5 := kp.tabs (tb4.ext up) (up d _ hd4) dk_ne_code.1 dk_ne_code.2
      refine ⟨Nat.zero_le _, fun r nr => ?_⟩
      have up5 : ∀ b o, H5 b = some o → upd H5 r (.lst []) b = some o := fun b o e => by
        rw [upd_ne (ne_of_none e nr)]
        exact e
      refine ⟨_, rfl, T, rfl, hl, tb5.ext up5, fun ws2 p2 H6 hws2 wl2 ex6 tb6 np2 => ?_⟩
      have hr6 : H6 r = some (.lst []) := ex6 r _ upd_same (fun ps z => by cases z)
      have hd6 : H6 d = some (.dK (ks.map (kg (pl T)))) := ex6 d _ (up5 d _ hd) (fun ps z => by cases z)
      have hrp : r ≠ p2 := ne_of_none hr6 np2
      have hdr : d ≠ r := fun e => by
        rw [e, hr6] at hd6
        cases hd6
      have e6 : LamX.ExtN H H6 := (e5.trans (LamX.ExtN.of up5)).trans ex6
      have nrH := extn_free e5 nr
      have up6 : ∀ b o, H6 b = some o → upd H6 p2 (.lst (ws2.map V.str)) b = some o := fun b o e => by
        rw [upd_ne (ne_of_none e np2)]
        exact e
      refine ⟨p2, rfl, ⟨_, SqL.of upd_same⟩, for_list (K := K) (a := p2) (xs := ws2.map V.str) (fun i σ H' => ∃ (L : List RowT) (v3 v5 v6 : Option V), σ = [some (.str T), some (.str S), some (.ref d), v3, some (.ref r), v5, v6] ∧ Keep r (upd H6 p2 (.lst (ws2.map V.str))) H' ∧
          Rows S T H' r L ∧ Cov T (ws2.take i) (cd S) L ∧ L.length ≤ 4 * i)
        ⟨[], _, _, _, rfl, Keep.refl _ _, ⟨up6 r _ hr6, fun t h => by cases h⟩, Cov.nil _ _ _, Nat.le_refl _⟩ (fun i σ H' _ hp => ?_) ?_ ?_⟩
      · obtain ⟨_, _, _, _, _, kp, _⟩ := hp
        exact SqL.of (kp p2 _ hrp.symm upd_same)
      · rintro i x σ H7 hx ⟨L, v3, v5, v6, rfl, kp, hR, cv, hL⟩
        rw [List.getElem?_map] at hx
        obtain ⟨y, hy, rfl⟩ := Option.map_eq_some_iff.mp hx
        have hil : i < ws2.length := (List.getElem?_eq_some_iff.mp hy).1
        have hyT : cd y <:+: cd T := (hws2 y).mp (List.mem_of_getElem? hy)
        have yl : y.length ≤ 40 := by
          have := hyT.length_le
          rw [← cd_len, ← cd_len] at this
          omega
        have tk : ws2.take (i + 1) = ws2.take i ++ [y] := by rw [List.take_add_one, hy]; rfl
        have sl := hK.len
        refine ⟨_, rfl, S, rfl, for_it walk_str (fun j σ H' => ∃ (L : List RowT) (v5 v6 : Option V), σ = [some (.str T), some (.str S), some (.ref d), some (.str y), some (.ref r), v5, v6] ∧ Keep r (upd H6 p2 (.lst (ws2.map V.str))) H' ∧
            Rows S T H' r L ∧ Cov T (ws2.take i) (cd S) L ∧ Cov T [y] ((cd S).take j) L ∧ L.length ≤ 4 * i + j)
          ⟨L, _, _, rfl, kp, hR, cv, Cov.nil2 _ _ _, hL⟩ (fun _ _ _ _ _ => trivial) ?_ ?_⟩
        · rintro j x σ H8 H9 hj ⟨L, v5, v6, rfl, kp, hR, cv, cy, hL⟩ ⟨rfl, c, hc, rfl⟩
          have cS : c ∈ cd S := Array.mem_toList_iff.mpr (Array.mem_of_getElem? hc)
          have hc' : (cd S)[j]? = some c := by
            rw [← hc]
            exact Array.getElem?_toList
          have tk : (cd S).take (j + 1) = (cd S).take j ++ [c] := by rw [List.take_add_one, hc']; rfl
          have e1 : (y ++ sg c).length = y.length + 1 := by rw [add_len]; rfl
          have hj4 : j < 4 := by
            have : j < S.length := hj
            omega
          have hd8 : H9 d = some (.dK (ks.map (kg (pl T)))) := kp d _ hdr (up6 d _ hd6)
          have ll : (y ++ sg c).length ≤ sizeLine := line_of (by omega)
          have e4 : (sg c).length = 1 := rfl
          have got : ∀ z : Str, z ∈ ks → DGet H9 d (.str z) (some (pl T z)) := fun z hz => by
            have g := DGet.k (k := Sum.inr z) hd8
            rw [val_kg, if_pos hz] at g
            exact g
          have keep : ¬ Lw.Miss (cd T) (cd y) c → ∃ (L' : List RowT) (w5 w6 : Option V), [some (V.str T), some (V.str S), some (V.ref d), some (V.str y), some (V.ref r), some (V.str (sg c)), some (V.str (y ++ sg c))] = [some (V.str T), some (V.str S), some (V.ref d), some (V.str y), some (V.ref r), w5, w6] ∧ Keep r (upd H6 p2 (.lst (ws2.map V.str))) H9 ∧
              Rows S T H9 r L' ∧ Cov T (ws2.take i) (cd S) L' ∧ Cov T [y] ((cd S).take (j + 1)) L' ∧ L'.length ≤ 4 * i + (j + 1) := fun n => ⟨L, _, _, rfl, kp, hR, cv, by rw [tk]; exact cy.snoc1 fun m => absurd m n, by omega⟩
          have t1 : cd (cutS (y ++ sg c) (some 1) none) = (cd y ++ [c]).drop 1 := by rw [cut_tail, cd_add]
          refine ⟨_, rfl, _, rfl, y, sg c, rfl, rfl, line_of (by omega), ?_⟩
          refine ⟨_, rfl, _, rfl, d, _, rfl, DGet.k (k := Sum.inr (y ++ sg c)) hd8, _, rfl, ite2 (fun h1 => ?_) (fun h1 => ite2 (fun x => by cases x) (fun _ => ?_))⟩
          · rw [getD_kg] at h1
            have n1 : ¬ (cd y ++ [c]) <:+: cd T := fun z => by
              have : y ++ sg c ∈ ks := (hks _).mpr (by rw [cd_add]; exact z)
              rw [decide_eq_true this] at h1
              cases h1
            refine ⟨_, rfl, _, rfl, _, rfl, ll, _, rfl, d, _, rfl, DGet.k (k := Sum.inr (cutS (y ++ sg c) (some 1) none)) hd8, _, rfl, ite2 (fun h2 => ?_) (fun h2 => ?_)⟩
            · rw [getD_kg] at h2
              have m2 : cutS (y ++ sg c) (some 1) none ∈ ks := of_decide_eq_true h2
              have i2 := (hks _).mp m2
              have miss : Lw.Miss (cd T) (cd y) c := ⟨hyT, n1, by rw [← t1]; exact i2⟩
              have my : y ∈ ks := (hks y).mpr hyT
              refine ⟨_, rfl, .inl ⟨rfl, _, SqL.of hR.at_⟩, _, rfl, _, rfl, _, rfl, d, _, rfl, got y my, _, rfl, _, rfl, _, rfl, _, rfl, ll, d, _, rfl, got _ m2, (line_of (by decide) : 3 ≤ sizeLine), fun u nu => ?_⟩
              have hr9 := hR.at_
              have nur : u ≠ r := fun e => by
                rw [e, hr9] at nu
                cases nu
              refine ⟨r, _, _, rfl, rfl, by rw [upd_ne nur.symm]; exact hr9, by rw [List.length_map, sizeLine_eq]; omega, ?_⟩
              refine ⟨L ++ [(u, y ++ sg c, Txt.find T y, Txt.find T (cutS (y ++ sg c) (some 1) none))], _, _, rfl, (kp.new nu).at_, hR.snoc nu ⟨y, c, rfl, cS, miss, rfl, rfl⟩, cv.mono fun a ha => List.mem_append_left _ ha, ?_, ?_⟩
              · rw [tk]
                exact (cy.mono fun a ha => List.mem_append_left _ ha).snoc1 fun _ => ⟨_, List.mem_append_right _ (List.mem_singleton.mpr rfl), rfl⟩
              · rw [List.length_append, List.length_singleton]
                omega
            · rw [getD_kg] at h2
              refine keep fun m => h2 (decide_eq_true ((hks _).mpr ?_))
              rw [t1]
              exact m.2.2
          · rw [getD_kg] at h1
            refine keep fun m => h1 ?_
            rw [decide_eq_false (show ¬ y ++ sg c ∈ ks from fun z => m.2.1 (by rw [← cd_sg c, ← cd_add]; exact (hks _).mp z))]
            rfl
        · rintro σ H8 ⟨L, v5, v6, rfl, kp, hR, cv, cy, hL⟩
          refine ⟨L, _, _, _, rfl, kp, hR, ?_, ?_⟩
          · rw [tk]
            refine cv.snoc2 ?_
            have : (cd S).take S.cps.size = cd S := List.take_length
            rw [this] at cy
            exact cy
          · have : S.cps.size ≤ 4 := sl.2
            omega
      · rintro σ H7 ⟨L, v3, v5, v6, rfl, kp, hR, cv, hL⟩
        rw [List.length_map] at hL
        rw [List.length_map, List.take_length] at cv
        refine ⟨_, rfl, q L r H7 hR (fun x c hc m => cv x ((hws2 x).mpr m.1) c hc m) (by omega) (kp.ext (e6.trans (LamX.ExtN.of up6)) nrH) (kp.tabs (tb6.ext up6) (up6 r _ hr6) lst_ne_code.1 lst_ne_code.2)⟩
end
end LwP
/-! what the list of rows tells, in plain words -/
namespace LwP
open PySem PySem.Spec PyProof.Rows L2 LwT
/-- the text of these codes -/
def wd (l : List Nat) : Str := ⟨l.toArray⟩
theorem cd_wd (l : List Nat) : cd (wd l) = l := by simp [cd, wd]
abbrev nm (L : List RowT) : List Str := L.map fun t => t.2.1
/-- the list of rows is sound and whole -/
structure Whole (S T : Str) (L : List RowT) : Prop where
  kds : Kds S
  over : Over S T
  sound : ∀ t ∈ L, Row S T t.2.1 t.2.2.1 t.2.2.2
  whole : ∀ x c, c ∈ cd S → Lw.Miss (cd T) (cd x) c → ∃ u ∈ L, u.2.1 = x ++ sg c
variable {S T : Str} {L : List RowT}
theorem Whole.miss (h : Whole S T L) {y : Str} (hy : y ∈ nm L) : ∃ (u : List Nat) (c : Nat), cd y = u ++ [c] ∧ Lw.Miss (cd T) u c := by
  obtain ⟨t, ht, rfl⟩ := List.mem_map.mp hy
  obtain ⟨x, c, e, _, m, _⟩ := (h.sound t ht).ex
  refine ⟨cd x, c, ?_, m⟩
  show cd t.2.1 = _
  rw [e, cd_add] <;> rfl
theorem Whole.len (h : Whole S T L) {y : Str} (hy : y ∈ nm L) : y.length ≤ T.length + 1 := by
  obtain ⟨t, ht, rfl⟩ := List.mem_map.mp hy
  exact (h.sound t ht).len.2
theorem Whole.apart (h : Whole S T L) {y z : Str} (hy : y ∈ nm L) (hz : z ∈ nm L) (i : cd y <:+: cd z) : y = z := by
  obtain ⟨u, c, e1, m1⟩ := h.miss hy
  obtain ⟨v, d, e2, m2⟩ := h.miss hz
  apply cd_ext
  rw [e1, e2]
  rw [e1, e2] at i
  exact Lw.miss_apart m2 m1 i
theorem Whole.out (h : Whole S T L) {y z : Str} (hy : y ∈ nm L) (i : cd y <:+: cd z) : ¬ cd z <:+: cd T := by
  obtain ⟨u, c, e1, m1⟩ := h.miss hy
  rw [e1] at i
  exact Lw.miss_out m1 i
theorem Whole.named (h : Whole S T L) {u : List Nat} {c : Nat} (hc : c ∈ cd S) (m : Lw.Miss (cd T) u c) : ∃ y ∈ nm L, cd y = u ++ [c] := by
  obtain ⟨t, ht, e⟩ := h.whole (wd u) c hc (by rw [cd_wd]; exact m)
  refine ⟨t.2.1, List.mem_map.mpr ⟨t, ht, rfl⟩, ?_⟩
  rw [e, cd_add, cd_wd] <;> rfl
theorem Whole.inn (h : Whole S T L) {z : Str} (o : Over S z) (n : ∀ y ∈ nm L, ¬ cd y <:+: cd z) : cd z <:+: cd T := by
  apply Classical.byContradiction
  intro q
  obtain ⟨u, c, i, hc, m⟩ := Lw.miss_in (K := cd S) (cd z).length (cd z) (Nat.le_refl _) o q
  obtain ⟨y, hy, e⟩ := h.named hc m
  exact n y hy (by rw [e]; exact i)
theorem Whole.some_ (h : Whole S T L) : 0 < (nm L).length := by
  have h1 := h.kds.one
  obtain ⟨u, c, hc, m⟩ := Lw.miss_some (T := cd T) (K := cd S) h.over (List.getElem_mem (show 0 < (cd S).length from h1))
  obtain ⟨y, hy, _⟩ := h.named hc m
  exact List.length_pos_of_mem hy
end LwP
/-! the law -/
namespace LwP
open PySem PySem.Spec PyProof.Rows L2 LwT
theorem ne_same {b c : Bool} (h : b = c) : ¬ (!decide (V.bl b = V.bl c)) = true := fun x => by
  rw [decide_eq_true (congrArg V.bl h)] at x
  cases x
theorem non_not : ¬ (!decide (V.non = V.non)) = true := fun x => by
  rw [decide_eq_true rfl] at x
  cases x
theorem at_modG {α : Type} {xs : List α} (n : Int) (h : 0 < xs.length) : ∃ c, atI xs (n % (xs.length : Int)) = some c ∧ c ∈ xs := by
  have h1 := Int.emod_nonneg n (show ((xs.length : Int)) ≠ 0 by omega)
  have h2 := Int.emod_lt_of_pos n (show (0 : Int) < (xs.length : Int) by omega)
  obtain ⟨j, hj⟩ := Int.eq_ofNat_of_zero_le h1
  have hjl : j < xs.length := by omega
  refine ⟨xs[j], ?_, List.getElem_mem hjl⟩
  rw [hj]
  exact atI_nat (List.getElem?_eq_getElem hjl)
theorem Rows.same {S T : Str} {H H' : Hp} {r : Addr} {L : List RowT} (h : Rows S T H r L) (s : Same H H') : Rows S T H' r L := ⟨s _ _ h.at_, fun t ht => ⟨s _ _ (h.row t ht).1, (h.row t ht).2⟩⟩
/-- the words but one -/
abbrev but (one : Str) (xs : List Str) : List Str := xs.filter fun y => !decide (V.str y = V.str one)
theorem but_snoc (one y : Str) (xs : List Str) : but one (xs ++ [y]) = but one xs ++ (if (!decide (V.str y = V.str one)) = true then [y] else []) := by
  unfold but
  rw [List.filter_append]
  by_cases h : (!decide (V.str y = V.str one)) = true
  · rw [if_pos h, List.filter_cons, if_pos h]
    rfl
  · rw [if_neg h, List.filter_cons, if_neg h]
    rfl
section
variable {P : Program} {w : World} {K : PySem.W.Frag} {mg : Str → Option Value} {base : Heap}
def spLaw (K : PySem.W.Frag) (t : Addr) : Sp := fun vs H Q _ => ∃ (a : Addr) (ns : List Int), vs = [.ref a] ∧ SqL K H a (ns.map V.int) ∧ ns.length ≤ 63 ∧ H t = some (.tbl #[]) ∧ ∀ H', Q (.bl true) H'
abbrev NL : List Str := ["_law_script", "_law_kinds_here", "_law_text_here", "_law_rows", "_law_words", "_law_cell_here", "_law_word_here", "_law_found", "_law_one", "_law_row", "_law_other"]
theorem scLaw : FnScope NL ["_law_script"] (defScope sLaw) := ⟨rfl, rfl, rfl, by decide +kernel, rfl, by decide +kernel, by decide +kernel⟩
theorem ok_law {f fC fK fT fL fW fI fS t : Addr} {fd fdC fdK fdT fdL fdW fdI fdS : FuncData} (F : Fun K "law" "law" sLaw f fd) (DC : Df K mg "_law_cell" sCell ["_law_script", "_law_k"] fC fdC) (DK : Df K mg "_law_kinds" sKinds ["_law_cell_here"] fK fdK)
    (DT : Df K mg "_law_text" sText ["_law_script", "_law_at", "_law_kinds_here"] fT fdT) (DL : Df K mg "lacking" sLacking ["text", "kinds"] fL fdL) (DW : Df K mg "_law_word" sWord ["_law_cell_here", "_law_text_here", "_law_kinds_here"] fW fdW)
    (DI : Df K mg "inside" sInside ["words", "word"] fI fdI) (DS : Df K mg "_law_shows" sShows ["_law_text_here", "_law_rows", "_law_word_here", "_law_found"] fS fdS)
    (GC : FnOk P w K mg base CX0 1 fC fdC ["_law_script", "_law_k"] (spCell K)) (GK : FnOk P w K mg base CX0 1 fK fdK ["_law_cell_here"] spKinds) (GT : FnOk P w K mg base CX0 3 fT fdT ["_law_script", "_law_at", "_law_kinds_here"] (spText K))
    (GL : FnOk P w K mg base CX0 4 fL fdL ["text", "kinds"] (spLacking t)) (GW : FnOk P w K mg base CX0 3 fW fdW ["_law_cell_here", "_law_text_here", "_law_kinds_here"] spWord) (GI : FnOk P w K mg base CX0 1 fI fdI ["words", "word"] (spInside K))
    (GS : FnOk P w K mg base CX0 1 fS fdS ["_law_text_here", "_law_rows", "_law_word_here", "_law_found"] (spShows K)) (ml : mg "len" = none) : FnOk P w K mg base CX0 5 f fd ["_law_script"] (spLaw K t) := by
  refine F.ok scLaw (fun vs H Q E h => ?_) (fun cdv A outer s H vs Q E hr h => ?_)
  · obtain ⟨a, ns, rfl, _⟩ := h
    rfl
  · obtain ⟨a, ns, rfl, hS, hl, ht, q⟩ := h
    have hr1 : Room 1 _ := hr.mono (by decide)
    have hr3 : Room 3 _ := hr.mono (by decide)
    refine ⟨_, pss_cons (ps_set (i := 1) scLaw.nd rfl (.inl rfl) (pe_call GK hr1 rfl DK.g DK.k DK.b .nil pass0 (pa_cons (pe_call GC hr1 rfl DC.g DC.k DC.b .nil pass0 (pa_cons (pv 0) (pa_cons pe_int pa_nil))) pa_nil)))
      (pss_cons (ps_set (i := 2) scLaw.nd rfl (.inl rfl) (pe_call GT hr3 rfl DT.g DT.k DT.b .nil pass0 (pa_cons (pv 0) (pa_cons pe_int (pa_cons (pv 1) pa_nil)))))
      (pss_cons (ps_set (i := 3) scLaw.nd rfl (.inl rfl) (pe_call GL hr rfl DL.g DL.k DL.b .nil pass0 (pa_cons (pv 2) (pa_cons (pv 1) pa_nil))))
      (pss_cons (ps_setLc (i := 4) (own := [("_law_row", 9)]) (g := gName 9) (tt := tYes) (te := tOp (rIxT K) (tVar 9) (tC (.int 0))) rfl scLaw.nd rfl rfl (sw_true rfl rfl rfl (by decide +kernel)) (pi_list (pv 3)) (blkOk_by (N := NL) (sc := defScope sLaw) (by decide +kernel))
          (fun _ _ _ _ _ => pg_name (i := 9) scLaw.nd rfl (.inl rfl)) (fun _ _ _ _ _ => pts_nil) (fun _ _ _ _ _ => pe_ix (r := rIxT K) ix_tup (pv 9) pe_int (fun _ _ => rfl)))
      (pss_cons (ps_for PassesOwn.never rfl (pi_list (pe_op op_cat (pe_slice sl_list (pv 0) (po_some pe_int) (po_some pe_int)) (pe_lst (pa_cons pe_int pa_nil)))) (pg_name (i := 5) scLaw.nd rfl (.inl rfl))
        (pss_cons (ps_set (i := 6) scLaw.nd rfl (.inl rfl) (pe_call GW hr3 rfl DW.g DW.k DW.b .nil pass0 (pa_cons (pv 5) (pa_cons (pv 2) (pa_cons (pv 1) pa_nil)))))
        (pss_cons (ps_set (i := 7) scLaw.nd rfl (.inl rfl) (pe_call GI hr1 rfl DI.g DI.k DI.b .nil pass0 (pa_cons (pv 4) (pa_cons (pv 6) pa_nil))))
        (pss_cons (ps_if (pt_cmpR op_ne (pe_cmpR op_isN (pv 7) pe_non (nomark _)) (pe_cmpR op_ge (pe_bm PySem.F.plainAttrs_str PySem.F.slot_str_find PySem.F.type_str_find mt_find (pv 2) (pa_cons (pv 6) pa_nil)) pe_int (nomark _)) (by rfl))
          (pss_one (ps_ret pe_bl)) pss_nil)
        (pss_cons (ps_if (PW.pt (pw_and (pt_cmpR op_notN1 (pv 7) pe_non (by rfl)) (pw_and1 (pt_not (pt_val (pe_call GS hr1 rfl DS.g DS.k DS.b .nil pass0 (pa_cons (pv 2) (pa_cons (pv 3) (pa_cons (pv 6) (pa_cons (pv 7) pa_nil)))))))))) (pss_one (ps_ret pe_bl)) pss_nil)
        (pss_cons (ps_set (i := 8) scLaw.nd rfl (.inr rfl) (pe_ix ix_list (pv 4) (pe_op op_mod (pe_op op_fdiv (pv 5) pe_int) (pe_callB call_len_seq (by rfl) ml PySem.boot_len (pa_cons (pv 4) pa_nil))) (fun _ _ => rfl)))
        (pss_one (ps_if (pt_cmpR op_notN1 (pe_call GI hr1 rfl DI.g DI.k DI.b .nil pass0 (pa_cons (pe_lc (own := [("_law_other", 10)]) (g := gName 10) (tt := _) rfl scLaw.nd (pi_list (pv 4)) (blkOk_by (N := NL) (sc := defScope sLaw) (by decide +kernel))
            (fun _ _ _ _ _ => pg_name (i := 10) scLaw.nd rfl (.inl rfl)) (fun _ _ _ _ _ => pts_one (pt_cmpR op_ne (pv 10) (pv 8) (by rfl))) (fun _ _ _ _ _ => pv 10)) (pa_cons (pv 8) pa_nil))) pe_non (by rfl))
          (pss_one (ps_ret pe_bl)) pss_nil))))))))
      (pss_one (ps_ret pe_bl)))))), ?_⟩
    refine ⟨_, rfl, a, ns, 0, rfl, hS, by decide, by decide, fun n0 => ⟨n0, rfl, fun S H1 hK sm1 => ?_⟩⟩
    refine ⟨_, rfl, _, rfl, a, ns, S, rfl, sm1.seq hS, hK, fun T H2 hT tl sm2 => ?_⟩
    have s2 : Same H H2 := sm1.trans sm2
    have tb : LamX.Tabs (TT1 t) H2 := fun p hp => by
      rw [List.mem_singleton.mp hp]
      exact LamX.TabS.nil (s2 t _ ht)
    refine ⟨_, rfl, _, rfl, T, S, rfl, hK, hT, tl, tb, fun L r H3 hR cov hL ex tb3 => ?_⟩
    have hS3 : SqL K H3 a (ns.map V.int) := LwK.seq_ext ((LamX.ExtN.of s2).trans ex) hS
    refine ⟨_, rfl, r, rfl, ⟨_, SqL.of hR.at_⟩, fun D nD => lc_list (K := K) (a := r) (xs := L.map fun t => V.ref t.1) (fun i H' => H' D = some (.lst (((L.map fun t => t.2.1).take i).map V.str)) ∧ Same H3 H') ⟨upd_same, same_new (Same.refl H3) nD⟩ (fun i H' _ hp => hp.2.seq (SqL.of hR.at_)) ?_ ?_⟩
    · rintro i x H4 hx ⟨hD, sm⟩
      rw [List.getElem?_map] at hx
      obtain ⟨u, hu, rfl⟩ := Option.map_eq_some_iff.mp hx
      have um : u ∈ L := List.mem_of_getElem? hu
      obtain ⟨e1, _⟩ := hR.row u um
      refine ⟨rfl, _, rfl, u.1, _, 0, .str u.2.1, rfl, rfl, SqT.of (sm _ _ e1), rfl, _, hD, ?_, ?_, ?_⟩
      · rw [List.length_map, List.length_take, sizeLine_eq]
        have : min i (L.map fun t => t.2.1).length ≤ L.length := by
          rw [List.length_map]
          exact Nat.min_le_right _ _
        omega
      · rw [upd_same, List.take_add_one, List.getElem?_map, hu, List.map_append]
        rfl
      · exact same_new sm nD
    · rintro H4 ⟨hD, sm4⟩
      rw [List.length_map, List.take_of_length_le (by rw [List.length_map]; exact Nat.le_refl _)] at hD
      have hW : Whole S T L := ⟨hK, hT, fun u hu => (hR.row u hu).2, cov⟩
      have wpos := hW.some_
      have wsm : ∀ y ∈ nm L, y.length ≤ 1000 := fun y hy => by
        have := hW.len hy
        omega
      have c1 : (cutV (ns.map V.int) (some 3) (some 60)).length ≤ 63 := by
        have := cutV_length (ns.map V.int) (some 3) (some 60)
        rw [List.length_map] at this
        omega
      refine ⟨_, rfl, _, rfl, _, rfl, a, _, rfl, sm4.seq hS3, fun p1 n1 => ⟨line_of (by decide), fun p2 n2 => ?_⟩⟩
      have m12 : p1 ≠ p2 := ne_of_none upd_same n2
      refine ⟨p1, p2, _, _, rfl, rfl, by rw [upd_ne m12, upd_same], upd_same, line_of (by rw [List.length_singleton]; omega), fun p3 n3 => ?_⟩
      have s5 := Same_put (o := .lst (cutV (ns.map V.int) (some 3) (some 60) ++ [V.int 29])) (Same_put (o := .lst [V.int 29]) (Same_put (o := .lst (cutV (ns.map V.int) (some 3) (some 60))) (Same.refl H4) n1) n2) n3
      have hx5 := upd_same (H := upd (upd H4 p1 (.lst (cutV (ns.map V.int) (some 3) (some 60)))) p2 (.lst [V.int 29])) (a := p3) (o := .lst (cutV (ns.map V.int) (some 3) (some 60) ++ [V.int 29]))
      have isI : ∀ x ∈ cutV (ns.map V.int) (some 3) (some 60) ++ [V.int 29], ∃ z, x = V.int z := fun x hx => by
        rcases List.mem_append.mp hx with z | z
        · obtain ⟨n, _, e⟩ := List.mem_map.mp (List.mem_of_mem_drop (List.mem_of_mem_take z))
          exact ⟨n, e.symm⟩
        · exact ⟨29, List.mem_singleton.mp z⟩
      refine ⟨p3, rfl, ⟨_, SqL.of hx5⟩, for_list (K := K) (a := p3) (xs := cutV (ns.map V.int) (some 3) (some 60) ++ [V.int 29]) (fun i σ H' => ∃ v5 v6 v7 v8 v9 v10 : Option V, σ = [some (.ref a), some (.str S), some (.str T), some (.ref r), some (.ref D), v5, v6, v7, v8, v9, v10] ∧ Same (upd (upd (upd H4 p1 (.lst (cutV (ns.map V.int) (some 3) (some 60)))) p2 (.lst [V.int 29])) p3 (.lst (cutV (ns.map V.int) (some 3) (some 60) ++ [V.int 29]))) H')
        ⟨_, _, _, _, _, _, rfl, Same.refl _⟩ (fun i σ H' _ hp => ?_) ?_ ?_⟩
      · obtain ⟨_, _, _, _, _, _, _, sm⟩ := hp
        exact sm.seq (SqL.of hx5)
      · rintro i x σ H6 hx ⟨v5, v6, v7, v8, v9, v10, rfl, sm6⟩
        obtain ⟨c, rfl⟩ := isI x (List.mem_of_getElem? hx)
        have up : ∀ {H' : Hp} (s : Same H6 H') {b : Addr} {o : HO}, H4 b = some o → H' b = some o := fun s _ _ e => s _ _ (sm6 _ _ (s5 _ _ e))
        refine ⟨_, rfl, _, rfl, _, rfl, c, T, S, rfl, hK, hT, tl, fun z H7 hz zl sm7 => ?_⟩
        refine ⟨_, rfl, _, rfl, D, nm L, z, rfl, SqL.of (up sm7 hD), wsm, by omega, fun H8 none_ sm8 => ?_, fun m g H8 hm inz sm8 hg => ?_⟩
        · have inT := hW.inn hz none_
          refine ⟨_, rfl, rfl, _, rfl, rfl, _, rfl, T, z, rfl, rfl, _, _, rfl, rfl, rfl, _, rfl, ite2 (fun x => absurd x (ne_same ?_)) (fun _ => ?_)⟩
          · rw [decide_eq_true (rfl : V.non = V.non), decide_eq_true (find_iff.mpr inT)]
          refine ⟨_, rfl, rfl, _, rfl, ite2 (fun x => absurd x non_not) (fun _ => ite2 (fun x => by cases x) (fun _ => ?_))⟩
          have hD8 : H8 D = some (.lst ((nm L).map V.str)) := up (sm7.trans sm8) hD
          obtain ⟨o, ho, om⟩ := at_modG (xs := (nm L).map V.str) (c / 3) (by rw [List.length_map]; exact wpos)
          obtain ⟨one, onem, rfl⟩ := List.mem_map.mp om
          have lpos : (0 : Int) < (((nm L).map V.str).length : Int) := by
            rw [List.length_map]
            omega
          refine ⟨_, rfl, _, rfl, _, _, rfl, rfl, ⟨by decide, by decide⟩, _, rfl, D, _, rfl, .inl (SqL.of hD8), _, _, rfl, rfl, lpos, D, _, _, _, rfl, rfl, SqL.of hD8, ho, ?_⟩
          refine ⟨_, rfl, D, rfl, ⟨_, SqL.of hD8⟩, fun D2 n2 => lc_list (K := K) (a := D) (xs := (nm L).map V.str) (fun i H' => H' D2 = some (.lst ((but one ((nm L).take i)).map V.str)) ∧ Same H8 H') ⟨upd_same, same_new (Same.refl H8) n2⟩ (fun i H' _ hp => hp.2.seq (SqL.of hD8)) ?_ ?_⟩
          · rintro j x H9 hx ⟨hD2, sm⟩
            rw [List.getElem?_map] at hx
            obtain ⟨y, hy, rfl⟩ := Option.map_eq_some_iff.mp hx
            have tk : (nm L).take (j + 1) = (nm L).take j ++ [y] := by
              rw [List.take_add_one, hy]
              rfl
            refine ⟨rfl, _, rfl, _, rfl, rfl, _, rfl, ite2 (fun e => ⟨_, rfl, _, hD2, ?_, ?_, same_new sm n2⟩) (fun e => ⟨?_, sm⟩)⟩
            · have f1 : (but one ((nm L).take j)).length ≤ ((nm L).take j).length := List.length_filter_le _ _
              have f2 : ((nm L).take j).length ≤ (nm L).length := by
                rw [List.length_take]
                exact Nat.min_le_right _ _
              have f3 : (nm L).length = L.length := List.length_map ..
              rw [List.length_map, sizeLine_eq]
              omega
            · rw [upd_same, tk, but_snoc, if_pos e, List.map_append] <;> rfl
            · rw [tk, but_snoc, if_neg e, List.append_nil]
              exact hD2
          · rintro H9 ⟨hD2, sm9⟩
            rw [List.length_map, List.take_length] at hD2
            have sub : ∀ y ∈ but one (nm L), y ∈ nm L ∧ y ≠ one := fun y hy => by
              obtain ⟨a1, a2⟩ := List.mem_filter.mp hy
              refine ⟨a1, fun e => ?_⟩
              rw [decide_eq_true (congrArg V.str e)] at a2
              cases a2
            refine ⟨_, rfl, D2, but one (nm L), one, rfl, SqL.of hD2, fun y hy => wsm y (sub y hy).1, wsm one onem, fun H10 _ sm10 => ?_, fun y g2 H10 hy iy _ _ => ?_⟩
            · refine ⟨rfl, _, rfl, ite2 (fun x => absurd x non_not) (fun _ => ?_)⟩
              exact ⟨_, _, _, _, _, _, rfl, ((sm6.trans (sm7.trans sm8)).trans sm9).trans sm10⟩
            · exact absurd (hW.apart (sub y hy).1 onem iy) (sub y hy).2
        · obtain ⟨u, hu, rfl⟩ := List.mem_map.mp hm
          have notT := hW.out hm inz
          refine ⟨_, rfl, rfl, _, rfl, rfl, _, rfl, T, z, rfl, rfl, _, _, rfl, rfl, rfl, _, rfl, ite2 (fun x => absurd x (ne_same ?_)) (fun _ => ?_)⟩
          · rw [decide_eq_false (show ¬ V.ref g = V.non from fun e => by cases e), decide_eq_false (fun e => notT (find_iff.mp e))]
          refine ⟨_, rfl, rfl, _, rfl, ite2 (fun _ => ?_) (fun x => absurd (show (!decide (V.ref g = V.non)) = true by rw [decide_eq_false (show ¬ V.ref g = V.non from fun e => by cases e)]; rfl) x)⟩
          refine ⟨_, rfl, _, rfl, _, rfl, _, rfl, S, T, z, r, g, L, u, rfl, hR.same (sm4.trans (s5.trans (sm6.trans (sm7.trans sm8)))), hu, SqT.of hg, inz, zl, tl, _, rfl, ite2 (fun x => by cases x) (fun _ => ?_)⟩
          have hD8 : H8 D = some (.lst ((nm L).map V.str)) := up (sm7.trans sm8) hD
          obtain ⟨o, ho, om⟩ := at_modG (xs := (nm L).map V.str) (c / 3) (by rw [List.length_map]; exact wpos)
          obtain ⟨one, onem, rfl⟩ := List.mem_map.mp om
          have lpos : (0 : Int) < (((nm L).map V.str).length : Int) := by
            rw [List.length_map]
            omega
          refine ⟨_, rfl, _, rfl, _, _, rfl, rfl, ⟨by decide, by decide⟩, _, rfl, D, _, rfl, .inl (SqL.of hD8), _, _, rfl, rfl, lpos, D, _, _, _, rfl, rfl, SqL.of hD8, ho, ?_⟩
          refine ⟨_, rfl, D, rfl, ⟨_, SqL.of hD8⟩, fun D2 n2 => lc_list (K := K) (a := D) (xs := (nm L).map V.str) (fun i H' => H' D2 = some (.lst ((but one ((nm L).take i)).map V.str)) ∧ Same H8 H') ⟨upd_same, same_new (Same.refl H8) n2⟩ (fun i H' _ hp => hp.2.seq (SqL.of hD8)) ?_ ?_⟩
          · rintro j x H9 hx ⟨hD2, sm⟩
            rw [List.getElem?_map] at hx
            obtain ⟨y, hy, rfl⟩ := Option.map_eq_some_iff.mp hx
            have tk : (nm L).take (j + 1) = (nm L).take j ++ [y] := by
              rw [List.take_add_one, hy]
              rfl
            refine ⟨rfl, _, rfl, _, rfl, rfl, _, rfl, ite2 (fun e => ⟨_, rfl, _, hD2, ?_, ?_, same_new sm n2⟩) (fun e => ⟨?_, sm⟩)⟩
            · have f1 : (but one ((nm L).take j)).length ≤ ((nm L).take j).length := List.length_filter_le _ _
              have f2 : ((nm L).take j).length ≤ (nm L).length := by
                rw [List.length_take]
                exact Nat.min_le_right _ _
              have f3 : (nm L).length = L.length := List.length_map ..
              rw [List.length_map, sizeLine_eq]
              omega
            · rw [upd_same, tk, but_snoc, if_pos e, List.map_append] <;> rfl
            · rw [tk, but_snoc, if_neg e, List.append_nil]
              exact hD2
          · rintro H9 ⟨hD2, sm9⟩
            rw [List.length_map, List.take_length] at hD2
            have sub : ∀ y ∈ but one (nm L), y ∈ nm L ∧ y ≠ one := fun y hy => by
              obtain ⟨a1, a2⟩ := List.mem_filter.mp hy
              refine ⟨a1, fun e => ?_⟩
              rw [decide_eq_true (congrArg V.str e)] at a2
              cases a2
            refine ⟨_, rfl, D2, but one (nm L), one, rfl, SqL.of hD2, fun y hy => wsm y (sub y hy).1, wsm one onem, fun H10 _ sm10 => ?_, fun y g2 H10 hy iy _ _ => ?_⟩
            · refine ⟨rfl, _, rfl, ite2 (fun x => absurd x non_not) (fun _ => ?_)⟩
              exact ⟨_, _, _, _, _, _, rfl, ((sm6.trans (sm7.trans sm8)).trans sm9).trans sm10⟩
            · exact absurd (hW.apart (sub y hy).1 onem iy) (sub y hy).2
      · rintro σ H6 ⟨v5, v6, v7, v8, v9, v10, rfl, sm6⟩
        exact q H6
end
end LwP
/-! what the top has written; the end -/
namespace LwP
open PySem PySem.Spec PyProof.Rows L2 LwT
theorem Df.mk_ {K : PySem.W.Frag} {h : Heap} {mg : Str → Option Value} {x : Str} {st : Stmt} {ps : List Str} {f : Addr} {fd : FuncData} (X : K.In h) (G : h.Ns mainGlobals mg) (F : Fun K x x st f fd) (a : PySem.W.nsIn K mainGlobals x = some (some (.ref f))) (b : Binds K fd ps []) : Df K mg x st ps f fd :=
  ⟨F, PySem.W.mg_of X G a, F.kp, b⟩
theorem all_mk {l : PySem.W.OpenLaw} {w : World} {K : PySem.W.Frag} {h : Heap} {mg : Str → Option Value} {fa c t : Addr} (X : K.In h) (G : h.Ns mainGlobals mg) (hfa : mg "law" = some (.ref fa)) (ht : h.get? t = some (PySem.W.tabObj #[]))
    {f0 f1 f2 f3 f4 f5 f6 f7 f8 f9 f10 f11 f12 f13 f14 f15 : Addr} {od0 an0 od1 an1 od2 an2 od3 an3 od4 an4 od5 an5 od6 an6 od7 an7 od8 an8 od9 an9 od10 an10 od11 an11 od12 an12 od13 an13 od14 an14 od15 an15 : Option Addr} {sl0 sl1 sl2 sl3 sl4 sl5 sl6 sl7 sl8 sl9 sl10 sl11 sl12 sl13 sl14 sl15 : Array (Option Value)}
    {oc0 kV0 dc0 pm0 ct0 cd0 oc1 kV1 dc1 pm1 ct1 cd1 oc2 kV2 dc2 pm2 ct2 cd2 oc3 kV3 dc3 pm3 ct3 cd3 oc4 kV4 dc4 pm4 ct4 oc5 kV5 dc5 pm5 ct5 cd5 oc6 kV6 dc6 pm6 ct6 cd6 oc7 kV7 dc7 pm7 ct7 cd7 oc8 kV8 dc8 pm8 ct8 cd8 oc9 kV9 dc9 pm9 ct9 cd9 oc10 kV10 dc10 pm10 ct10 cd10 oc11 kV11 dc11 pm11 ct11 cd11 oc12 kV12 dc12 pm12 ct12 cd12 oc13 kV13 dc13 pm13 ct13 cd13 oc14 kV14 dc14 pm14 ct14 cd14 oc15 kV15 dc15 pm15 ct15 cd15 : Value} {tk1 tk2 : Tok}
    (a0 : PySem.W.nsIn K mainGlobals "is_kinds" = some (some (.ref f0))) (l0 : K.lookup f0 = some ⟨oc0, od0, .func (PySem.W.fnOf "is_kinds" "is_kinds" (defArgs sIsKinds) (defBody sIsKinds) (defScope sIsKinds) .none kV0 dc0 pm0 an0 cd0 ct0), sl0⟩) (c0 : PySem.W.codeIn K cd0 "is_kinds" = true) (k0 : PySem.W.keepIn K (.ref f0) = true)
    (a1 : PySem.W.nsIn K mainGlobals "is_word" = some (some (.ref f1))) (l1 : K.lookup f1 = some ⟨oc1, od1, .func (PySem.W.fnOf "is_word" "is_word" (defArgs sIsWord) (defBody sIsWord) (defScope sIsWord) .none kV1 dc1 pm1 an1 cd1 ct1), sl1⟩) (c1 : PySem.W.codeIn K cd1 "is_word" = true) (k1 : PySem.W.keepIn K (.ref f1) = true)
    (a2 : PySem.W.nsIn K mainGlobals "need_kinds" = some (some (.ref f2))) (l2 : K.lookup f2 = some ⟨oc2, od2, .func (PySem.W.fnOf "need_kinds" "need_kinds" (defArgs sNeedKinds) (defBody sNeedKinds) (defScope sNeedKinds) .none kV2 dc2 pm2 an2 cd2 ct2), sl2⟩) (c2 : PySem.W.codeIn K cd2 "need_kinds" = true) (k2 : PySem.W.keepIn K (.ref f2) = true)
    (a3 : PySem.W.nsIn K mainGlobals "need_word" = some (some (.ref f3))) (l3 : K.lookup f3 = some ⟨oc3, od3, .func (PySem.W.fnOf "need_word" "need_word" (defArgs sNeedWord) (defBody sNeedWord) (defScope sNeedWord) .none kV3 dc3 pm3 an3 cd3 ct3), sl3⟩) (c3 : PySem.W.codeIn K cd3 "need_word" = true) (k3 : PySem.W.keepIn K (.ref f3) = true)
    (a4 : PySem.W.nsIn K mainGlobals "in_order" = some (some (.ref f4))) (l4 : K.lookup f4 = some ⟨oc4, od4, .func (PySem.W.fnOf "in_order" "in_order" (defArgs sInOrder) (defBody sInOrder) (defScope sInOrder) .none kV4 dc4 pm4 an4 (.ref c) ct4), sl4⟩) (c4 : PySem.W.codeIn K (.ref c) "in_order" = true) (k4 : PySem.W.keepIn K (.ref f4) = true)
    (a5 : PySem.W.nsIn K mainGlobals "stretches" = some (some (.ref f5))) (l5 : K.lookup f5 = some ⟨oc5, od5, .func (PySem.W.fnOf "stretches" "stretches" (defArgs sStretches) (defBody sStretches) (defScope sStretches) .none kV5 dc5 pm5 an5 cd5 ct5), sl5⟩) (c5 : PySem.W.codeIn K cd5 "stretches" = true) (k5 : PySem.W.keepIn K (.ref f5) = true)
    (a6 : PySem.W.nsIn K mainGlobals "lacking" = some (some (.ref f6))) (l6 : K.lookup f6 = some ⟨oc6, od6, .func (PySem.W.fnOf "lacking" "lacking" (defArgs sLacking) (defBody sLacking) (defScope sLacking) .none kV6 dc6 pm6 an6 cd6 ct6), sl6⟩) (c6 : PySem.W.codeIn K cd6 "lacking" = true) (k6 : PySem.W.keepIn K (.ref f6) = true)
    (a7 : PySem.W.nsIn K mainGlobals "inside" = some (some (.ref f7))) (l7 : K.lookup f7 = some ⟨oc7, od7, .func (PySem.W.fnOf "inside" "inside" (defArgs sInside) (defBody sInside) (defScope sInside) .none kV7 dc7 pm7 an7 cd7 ct7), sl7⟩) (c7 : PySem.W.codeIn K cd7 "inside" = true) (k7 : PySem.W.keepIn K (.ref f7) = true)
    (a8 : PySem.W.nsIn K mainGlobals "_law_cell" = some (some (.ref f8))) (l8 : K.lookup f8 = some ⟨oc8, od8, .func (PySem.W.fnOf "_law_cell" "_law_cell" (defArgs sCell) (defBody sCell) (defScope sCell) .none kV8 dc8 pm8 an8 cd8 ct8), sl8⟩) (c8 : PySem.W.codeIn K cd8 "_law_cell" = true) (k8 : PySem.W.keepIn K (.ref f8) = true)
    (a9 : PySem.W.nsIn K mainGlobals "_law_mixed" = some (some (.ref f9))) (l9 : K.lookup f9 = some ⟨oc9, od9, .func (PySem.W.fnOf "_law_mixed" "_law_mixed" (defArgs sMixed) (defBody sMixed) (defScope sMixed) .none kV9 dc9 pm9 an9 cd9 ct9), sl9⟩) (c9 : PySem.W.codeIn K cd9 "_law_mixed" = true) (k9 : PySem.W.keepIn K (.ref f9) = true)
    (a10 : PySem.W.nsIn K mainGlobals "_law_kinds" = some (some (.ref f10))) (l10 : K.lookup f10 = some ⟨oc10, od10, .func (PySem.W.fnOf "_law_kinds" "_law_kinds" (defArgs sKinds) (defBody sKinds) (defScope sKinds) .none kV10 dc10 pm10 an10 cd10 ct10), sl10⟩) (c10 : PySem.W.codeIn K cd10 "_law_kinds" = true) (k10 : PySem.W.keepIn K (.ref f10) = true)
    (a11 : PySem.W.nsIn K mainGlobals "_law_letters" = some (some (.ref f11))) (l11 : K.lookup f11 = some ⟨oc11, od11, .func (PySem.W.fnOf "_law_letters" "_law_letters" (defArgs sLetters) (defBody sLetters) (defScope sLetters) .none kV11 dc11 pm11 an11 cd11 ct11), sl11⟩) (c11 : PySem.W.codeIn K cd11 "_law_letters" = true) (k11 : PySem.W.keepIn K (.ref f11) = true)
    (a12 : PySem.W.nsIn K mainGlobals "_law_text" = some (some (.ref f12))) (l12 : K.lookup f12 = some ⟨oc12, od12, .func (PySem.W.fnOf "_law_text" "_law_text" (defArgs sText) (defBody sText) (defScope sText) .none kV12 dc12 pm12 an12 cd12 ct12), sl12⟩) (c12 : PySem.W.codeIn K cd12 "_law_text" = true) (k12 : PySem.W.keepIn K (.ref f12) = true)
    (a13 : PySem.W.nsIn K mainGlobals "_law_word" = some (some (.ref f13))) (l13 : K.lookup f13 = some ⟨oc13, od13, .func (PySem.W.fnOf "_law_word" "_law_word" (defArgs sWord) (defBody sWord) (defScope sWord) .none kV13 dc13 pm13 an13 cd13 ct13), sl13⟩) (c13 : PySem.W.codeIn K cd13 "_law_word" = true) (k13 : PySem.W.keepIn K (.ref f13) = true)
    (a14 : PySem.W.nsIn K mainGlobals "_law_shows" = some (some (.ref f14))) (l14 : K.lookup f14 = some ⟨oc14, od14, .func (PySem.W.fnOf "_law_shows" "_law_shows" (defArgs sShows) (defBody sShows) (defScope sShows) .none kV14 dc14 pm14 an14 cd14 ct14), sl14⟩) (c14 : PySem.W.codeIn K cd14 "_law_shows" = true) (k14 : PySem.W.keepIn K (.ref f14) = true)
    (a15 : PySem.W.nsIn K mainGlobals "law" = some (some (.ref f15))) (l15 : K.lookup f15 = some ⟨oc15, od15, .func (PySem.W.fnOf "law" "law" (defArgs sLaw) (defBody sLaw) (defScope sLaw) .none kV15 dc15 pm15 an15 cd15 ct15), sl15⟩) (c15 : PySem.W.codeIn K cd15 "law" = true) (k15 : PySem.W.keepIn K (.ref f15) = true)
    (z0 : PySem.W.nsIn K mainGlobals "list" = some none)
    (z1 : PySem.W.nsIn K mainGlobals "range" = some none)
    (z2 : PySem.W.nsIn K mainGlobals "len" = some none)
    (z3 : PySem.W.nsIn K mainGlobals "sorted" = some none)
    (z4 : PySem.W.nsIn K mainGlobals "isinstance" = some none)
    (z5 : PySem.W.nsIn K mainGlobals "str" = some none)
    (z6 : PySem.W.nsIn K mainGlobals "all" = some none)
    (z7 : PySem.W.nsIn K mainGlobals "set" = some none)
    (m1 : PySem.W.nsIn K mainGlobals "MOST_KINDS" = some (some (.int 4 tk1))) (m2 : PySem.W.nsIn K mainGlobals "MOST_LETTERS" = some (some (.int 40 tk2)))
    (hd : PySem.W.codeHdIn K c t = true) (nt : K.lookup t = none) :
    LamX.LawAtS l w K CX0 5 63 "_law_script" mg fa h := by
  have e := hfa.symm.trans (PySem.W.mg_of X G a15)
  cases e
  have g0 := PySem.W.mg_none_of X G z0
  have g1 := PySem.W.mg_none_of X G z1
  have g2 := PySem.W.mg_none_of X G z2
  have g3 := PySem.W.mg_none_of X G z3
  have g4 := PySem.W.mg_none_of X G z4
  have g5 := PySem.W.mg_none_of X G z5
  have g6 := PySem.W.mg_none_of X G z6
  have g7 := PySem.W.mg_none_of X G z7
  have q1 := PySem.W.mg_of X G m1
  have q2 := PySem.W.mg_of X G m2
  have F0 := fun_mk (st := sIsKinds) l0 c0 k0
  have D0 := Df.mk_ (ps := ["thing"]) X G F0 a0 (F0.binds fun _ _ _ _ _ _ us hl => match us, hl with | [_], _ => rfl)
  have F1 := fun_mk (st := sIsWord) l1 c1 k1
  have D1 := Df.mk_ (ps := ["thing", "kinds", "most"]) X G F1 a1 (F1.binds fun _ _ _ _ _ _ us hl => match us, hl with | [_, _, _], _ => rfl)
  have F2 := fun_mk (st := sNeedKinds) l2 c2 k2
  have D2 := Df.mk_ (ps := ["thing"]) X G F2 a2 (F2.binds fun _ _ _ _ _ _ us hl => match us, hl with | [_], _ => rfl)
  have F3 := fun_mk (st := sNeedWord) l3 c3 k3
  have D3 := Df.mk_ (ps := ["thing", "kinds", "most"]) X G F3 a3 (F3.binds fun _ _ _ _ _ _ us hl => match us, hl with | [_, _, _], _ => rfl)
  have F4 := fun_mk (st := sInOrder) l4 c4 k4
  have D4 := Df.mk_ (ps := ["words"]) X G F4 a4 (F4.binds fun _ _ _ _ _ _ us hl => match us, hl with | [_], _ => rfl)
  have F5 := fun_mk (st := sStretches) l5 c5 k5
  have D5 := Df.mk_ (ps := ["text"]) X G F5 a5 (F5.binds fun _ _ _ _ _ _ us hl => match us, hl with | [_], _ => rfl)
  have F6 := fun_mk (st := sLacking) l6 c6 k6
  have D6 := Df.mk_ (ps := ["text", "kinds"]) X G F6 a6 (F6.binds fun _ _ _ _ _ _ us hl => match us, hl with | [_, _], _ => rfl)
  have F7 := fun_mk (st := sInside) l7 c7 k7
  have D7 := Df.mk_ (ps := ["words", "word"]) X G F7 a7 (F7.binds fun _ _ _ _ _ _ us hl => match us, hl with | [_, _], _ => rfl)
  have F8 := fun_mk (st := sCell) l8 c8 k8
  have D8 := Df.mk_ (ps := ["_law_script", "_law_k"]) X G F8 a8 (F8.binds fun _ _ _ _ _ _ us hl => match us, hl with | [_, _], _ => rfl)
  have F9 := fun_mk (st := sMixed) l9 c9 k9
  have D9 := Df.mk_ (ps := ["_law_cell_here", "_law_k"]) X G F9 a9 (F9.binds fun _ _ _ _ _ _ us hl => match us, hl with | [_, _], _ => rfl)
  have F10 := fun_mk (st := sKinds) l10 c10 k10
  have D10 := Df.mk_ (ps := ["_law_cell_here"]) X G F10 a10 (F10.binds fun _ _ _ _ _ _ us hl => match us, hl with | [_], _ => rfl)
  have F11 := fun_mk (st := sLetters) l11 c11 k11
  have D11 := Df.mk_ (ps := ["_law_cell_here", "_law_kinds_here", "_law_size", "_law_digits"]) X G F11 a11 (F11.binds fun _ _ _ _ _ _ us hl => match us, hl with | [_, _, _, _], _ => rfl)
  have F12 := fun_mk (st := sText) l12 c12 k12
  have D12 := Df.mk_ (ps := ["_law_script", "_law_at", "_law_kinds_here"]) X G F12 a12 (F12.binds fun _ _ _ _ _ _ us hl => match us, hl with | [_, _, _], _ => rfl)
  have F13 := fun_mk (st := sWord) l13 c13 k13
  have D13 := Df.mk_ (ps := ["_law_cell_here", "_law_text_here", "_law_kinds_here"]) X G F13 a13 (F13.binds fun _ _ _ _ _ _ us hl => match us, hl with | [_, _, _], _ => rfl)
  have F14 := fun_mk (st := sShows) l14 c14 k14
  have D14 := Df.mk_ (ps := ["_law_text_here", "_law_rows", "_law_word_here", "_law_found"]) X G F14 a14 (F14.binds fun _ _ _ _ _ _ us hl => match us, hl with | [_, _, _, _], _ => rfl)
  have F15 := fun_mk (st := sLaw) l15 c15 k15
  have D15 := Df.mk_ (ps := ["_law_script"]) X G F15 a15 (F15.binds fun _ _ _ _ _ _ us hl => match us, hl with | [_], _ => rfl)
  have FO : FunC K "in_order" "in_order" sInOrder c f4 _ := ⟨⟨_, _, _, _, _, _, _, _, rfl, l4, c4⟩⟩
  refine ⟨PySem.W.fnOf "law" "law" (defArgs sLaw) (defBody sLaw) (defScope sLaw) .none kV15 dc15 pm15 an15 cd15 ct15, [(c, t)], spLaw K t, fun p hp => ?_, fun p hp => ?_, fun p hp => ?_, fun s u => .of_eq rfl, fun H a ns hl _ hT hS => ?_, fun base hB hG TB => ?_⟩
  · rw [List.mem_singleton.mp hp]
    exact ht
  · rw [List.mem_singleton.mp hp]
    exact nt
  · rw [List.mem_singleton.mp hp]
    exact PySem.W.codeHd_of_K X hd
  · exact ⟨a, ns, rfl, hS, hl, hT (c, t) (List.mem_singleton.mpr rfl), fun _ => rfl⟩
  · have TB1 := TB (c, t) (List.mem_singleton.mpr rfl)
    have G0 := ok_isKinds (P := l.prog) (w := w) (base := base) F0 g4 g5 g2 q1 g6 g0 g3 g7
    have G1 := ok_isWord (P := l.prog) (w := w) (base := base) F1 g4 g5 g2 g6
    have G2 := ok_needKinds F2 D0 G0
    have G3 := ok_needWord F3 D1 G1
    have G4 := ok_inOrder (P := l.prog) (w := w) FO TB1 g3 g2
    have G5 := ok_stretches F5 D4 G4 g1 g2 g0
    have G6 := ok_lacking F6 D2 D3 D5 G2 G3 G5 q2
    have G7 := ok_inside (P := l.prog) (w := w) (base := base) F7 g2
    have G8 := ok_cell (P := l.prog) (w := w) (base := base) F8 g2
    have G9 := ok_kinds (P := l.prog) (w := w) (base := base) F10 g0 g1 g2 g3
    have G10 := ok_text (P := l.prog) (w := w) (base := base) F12 D8 D9 D11 g1 g2
    have G11 := ok_word (P := l.prog) (w := w) (base := base) F13 D9 D11 g1 g2
    have G12 := ok_shows (P := l.prog) (w := w) (base := base) F14 g2
    exact ok_law F15 D8 D10 D12 D6 D13 D7 D14 G8 G9 G10 G6 G11 G7 G12 g2
end LwP
open PySem PySem.W PyProof.Rows in
set_option maxRecDepth 100000 in
set_option maxHeartbeats 0 in
theorem PySem.Challenge.cw_lackword_k24_whole_avoiding_is_standing_holds : PySem.Challenge.rw_lackword_k24_whole_avoiding_is_standing.Holds := by
  w_on; o_law; k_head; (case hw => w_witness2)
  k_fill
  refine LamX.walk_ofTs (l := PySem.Challenge.rw_lackword_k24_whole_avoiding_is_standing) (n := 63) (k := 5) (x := "_law_script") (CX := fun _ => L2.CX0) rfl (by decide) rfl ⟨rfl, by decide, by decide⟩ (fun w h Y => PySem.W.km_in_of Y) ?F (fun _ _ _ _ _ z => z)
  case F =>
    intro w mg fa h Y KX G hmg
    refine' LwP.all_mk KX G hmg (PySem.W.km_tabs_of Y _ (List.mem_cons_self ..)) ?a0 ?l0 ?c0 ?k0 ?a1 ?l1 ?c1 ?k1 ?a2 ?l2 ?c2 ?k2 ?a3 ?l3 ?c3 ?k3 ?a4 ?l4 ?c4 ?k4 ?a5 ?l5 ?c5 ?k5 ?a6 ?l6 ?c6 ?k6 ?a7 ?l7 ?c7 ?k7 ?a8 ?l8 ?c8 ?k8 ?a9 ?l9 ?c9 ?k9 ?a10 ?l10 ?c10 ?k10 ?a11 ?l11 ?c11 ?k11 ?a12 ?l12 ?c12 ?k12 ?a13 ?l13 ?c13 ?k13 ?a14 ?l14 ?c14 ?k14 ?a15 ?l15 ?c15 ?k15 ?z0 ?z1 ?z2 ?z3 ?z4 ?z5 ?z6 ?z7 ?m1 ?m2 ?hd ?nt
    (case a0 => k_is)
    (case l0 => k_is)
    (case c0 => k_is)
    (case k0 => k_is)
    (case a1 => k_is)
    (case l1 => k_is)
    (case c1 => k_is)
    (case k1 => k_is)
    (case a2 => k_is)
    (case l2 => k_is)
    (case c2 => k_is)
    (case k2 => k_is)
    (case a3 => k_is)
    (case l3 => k_is)
    (case c3 => k_is)
    (case k3 => k_is)
    (case a4 => k_is)
    (case l4 => k_is)
    (case c4 => k_is)
    (case k4 => k_is)
    (case a5 => k_is)
    (case l5 => k_is)
    (case c5 => k_is)
    (case k5 => k_is)
    (case a6 => k_is)
    (case l6 => k_is)
    (case c6 => k_is)
    (case k6 => k_is)
    (case a7 => k_is)
    (case l7 => k_is)
    (case c7 => k_is)
    (case k7 => k_is)
    (case a8 => k_is)
    (case l8 => k_is)
    (case c8 => k_is)
    (case k8 => k_is)
    (case a9 => k_is)
    (case l9 => k_is)
    (case c9 => k_is)
    (case k9 => k_is)
    (case a10 => k_is)
    (case l10 => k_is)
    (case c10 => k_is)
    (case k10 => k_is)
    (case a11 => k_is)
    (case l11 => k_is)
    (case c11 => k_is)
    (case k11 => k_is)
    (case a12 => k_is)
    (case l12 => k_is)
    (case c12 => k_is)
    (case k12 => k_is)
    (case a13 => k_is)
    (case l13 => k_is)
    (case c13 => k_is)
    (case k13 => k_is)
    (case a14 => k_is)
    (case l14 => k_is)
    (case c14 => k_is)
    (case k14 => k_is)
    (case a15 => k_is)
    (case l15 => k_is)
    (case c15 => k_is)
    (case k15 => k_is)
    (case z0 => k_is)
    (case z1 => k_is)
    (case z2 => k_is)
    (case z3 => k_is)
    (case z4 => k_is)
    (case z5 => k_is)
    (case z6 => k_is)
    (case z7 => k_is)
    (case m1 => k_is)
    (case m2 => k_is)
    (case hd => kernel_rfl)
    (case nt => kernel_rfl)
