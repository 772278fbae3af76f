import PyProof.Rows.All
import Wide.All
import OpenK.AllK
import Wide.FinOn
import HandS.SetTxt0
import HandS.Set
import HandS.More
import HandS.TupSets
import HandS.SetFor
import HandS.Zip
import HandS.ExcInit
import HandS.Nested
import HandS.Words
import KE.KExcSuper
import HandS.ForMost
import HandS.ForExc
import HandS.CallSlots
import HandS.TryMany
import HandS.Walk
import HandS.IsInst
import HandS.DictComp
import HandS.Wide
import HandS.SortKw
import HandS.Deep
import HandS.Steps
import HandS.Conv
import HandS.TupLen
import HandS.Style
import HandS.Star
import HandS.ExcField
import HandS.Defaults
import KE.KDictList
import HandS.ForDict
import PySem.Challenge.RW_beforeclose_k90_refused_books_and_shares
set_option Elab.async false
set_option linter.all false
set_option maxRecDepth 100000
/-! DnS: set(list of texts), sorted(set of texts). -/
namespace DnS
open PySem PySem.Spec PyProof.Rows PySem.Froz
open L2 (Ris layNew_ris layNew_led relayAll_ris relayAll_led SetAt collect_set)

section
variable {P : Program} {w : World} {A : Around} {E : Value → Shared → Prop} {s : Shared}

/-- a text that the set has: nothing is laid -/
theorem met_x {a : Addr} {T : String} {D : SD} {l : List Str} {k : Str} {u : Tok} {Q : Bool → Shared → Prop} (ho : s.heap.get? a = some (sObj T D)) (F : TxOk P w D l) (hk : k ∈ l) (hb : l.length < scanBound) (h : Q false s) :
    wpAny (model P w) A (setAddHashed a (.str k u) (hashStr w k)) Q E s := by
  obtain ⟨es, ep, t⟩ := D
  have fit : t.fits es.size = true := F.fit
  have el : ElemsOf (strKind P w) es.toList := F.el
  have hsz : es.size < scanBound := Nat.lt_of_le_of_lt (Nat.le_of_eq F.sz) hb
  obtain ⟨j, hj⟩ : ∃ j, List.findIdx? (fun e => (strKind P w).is k e.2) es.toList = some j := by
    cases q : List.findIdx? (fun e => (strKind P w).is k e.2) es.toList with
    | some j => exact ⟨j, rfl⟩
    | none =>
      obtain ⟨e, he, hke⟩ := (F.mem k).mp hk
      have := List.findIdx?_eq_none_iff.mp q e he
      rw [hke] at this; cases this
  unfold setAddHashed setAddHashedIn
  refine wpAny_holding (wpAny_bind (wpAny_setState_of ho rfl fit ?_))
  dsimp only
  rw [byScan_of (x := Value.str k u) rfl hsz el, if_pos rfl]
  unfold setAddByScan
  refine wpAny_bind (wpAny_bind (wpAny_rule (wpAny_bind (wpAny_setScan_of (k := k) (is_str k u) ho rfl fit el ?_))))
  rw [hj]
  exact wpAny_pure (wpAny_pure h)

/-- the set of the texts l at a, that can be walked -/
def SetTx (P : Program) (w : World) (h : Heap) (a : Addr) (l : List Str) : Prop :=
  ∃ D, h.get? a = some (sObj "set" D) ∧ TxOk P w D l ∧ l.Nodup ∧ Ris D.2.2.place.toList ∧ (w.params.followText "set-order" = true ∨ D.2.2.led = true)
theorem SetTx.at {h h' : Heap} {a : Addr} {l : List Str} (R : SetTx P w h a l) (k : ∀ o, h.get? a = some o → h'.get? a = some o) : SetTx P w h' a l :=
  let ⟨D, h1, h2⟩ := R
  ⟨D, k _ h1, h2⟩
theorem tail_walk {ep : Nat} {es1 : Array (Int × Value)} {t2 : SetTable} {b : Bool} (r : Ris t2.place.toList) : Ris (tailTx ep es1 t2 b).2.2.place.toList ∧ (tailTx ep es1 t2 b).2.2.led = t2.led := by
  unfold tailTx
  split
  · exact ⟨relayAll_ris _ _ _, relayAll_led _ _ _⟩
  · exact ⟨r, rfl⟩
theorem add_walk {D : SD} {v : Value} {n : Int} (r : Ris D.2.2.place.toList) : Ris (addTx n v D).2.2.place.toList ∧ (addTx n v D).2.2.led = D.2.2.led := by
  have h1 := layNew_ris D.2.2 D.1 n v r
  have h2 := layNew_led D.2.2 D.1 n v
  unfold addTx
  split
  · obtain ⟨a, b⟩ := tail_walk (ep := D.2.1) (es1 := (layNew D.2.2 D.1 n v).1) (t2 := { (layNew D.2.2 D.1 n v).2.1 with plain := false }) (b := (layNew D.2.2 D.1 n v).2.2.1) h1
    exact ⟨a, b.trans h2⟩
  · obtain ⟨a, b⟩ := tail_walk (ep := D.2.1) (es1 := (layNew D.2.2 D.1 n v).1) (t2 := (layNew D.2.2 D.1 n v).2.1) (b := (layNew D.2.2 D.1 n v).2.2.1) h1
    exact ⟨a, b.trans h2⟩
/-- one text more -/
theorem SetTx.add {a : Addr} {l : List Str} {k : Str} {u : Tok} {Q : Bool → Shared → Prop} (R : SetTx P w s.heap a l) (hb : l.length + 1 < scanBound)
    (h : ∀ h' l' b, Heap.SameBut a s.heap h' → SetTx P w h' a l' → (∀ x, x ∈ l' ↔ x ∈ l ∨ x = k) → l'.length ≤ l.length + 1 → Q b { s with heap := h' }) :
    wpAny (model P w) A (setAddHashed a (.str k u) (hashStr w k)) Q E s := by
  obtain ⟨D, ho, F, nd, ri, le⟩ := R
  by_cases hk : k ∈ l
  · exact met_x ho F hk (Nat.lt_of_succ_lt hb) (h s.heap l _ (Heap.SameBut.refl a s.heap) ⟨D, ho, F, nd, ri, le⟩ (fun x => ⟨.inl, fun z => z.elim id fun e => e ▸ hk⟩) (Nat.le_succ _))
  · obtain ⟨r2, l2⟩ := add_walk (v := .str k u) (n := hashStr w k) ri
    have g : (s.heap.update a (fun _ => sObj "set" (addTx (hashStr w k) (.str k u) D))).get? a = some (sObj "set" (addTx (hashStr w k) (.str k u) D)) := get_upd _ ho rfl
    exact add_x ho F hk hb (h _ (k :: l) _ (Heap.SameBut.update s.heap a _) ⟨_, g, add_ok u F, List.nodup_cons.mpr ⟨hk, nd⟩, r2, le.imp id fun z => l2.trans z⟩ (fun x => by rw [List.mem_cons]; exact Or.comm) (Nat.le_refl _))
/-- the loop over some texts -/
theorem loop_strs {R : Result → Shared → Prop} {I : Addr} {fp wr : List Addr} {G : Array GenState → Array GenState → Prop} {n : Nat} {Pv : Nat → Value → Prop} {St : Nat → Shared → Prop} (W : WalksS P w A.in1 I fp wr G n Pv St) {S : Addr} (hSf : S ∉ fp) {ns : List Str} (hn : n = ns.length) (hb : ns.length + 1 < scanBound)
    (hval : ∀ i v, Pv i v → ∃ k t, ns[i]? = some k ∧ v = .str k t) : ∀ (m i : Nat) (s : Shared) (l : List Str), i + m = n → St i s → SetTx P w s.heap S l → (∀ x, x ∈ l ↔ x ∈ ns.take i) → l.length ≤ i →
    (∀ s' l', Moved (S :: wr) G s s' → SetTx P w s'.heap S l' → (∀ x, x ∈ l' ↔ x ∈ ns) → l'.length ≤ n → R (.ok (.ret .none)) s') → codeAny (model P w) A (.builtin "set.update.loop" ⟨[.ref S, .ref I], []⟩) R s
  | 0, i, s, l, hm, st, hS, hl, hz, k => by
    obtain rfl : i = n := hm
    refine codeAny_builtin PyProof.Rows.F.entry_set_update_loop (by
      rw [Around.under_plainId PyProof.Rows.F.plain_set_update_loop _]
      show wpAny _ A.in1 (pyNext (.ref I) >>= _) _ _ s
      refine wpAny_bind (W.done s _ _ st fun s' mv => ?_)
      show wpAny _ A.in1 (ret Value.none) _ _ s'
      refine wpAny_pure (k s' l (mv.mono fun b hb => List.mem_cons_of_mem _ hb) (hS.at fun o e => mv.heap S o (fun h => hSf (W.sub _ h)) e) (fun x => ?_) hz)
      rw [hl, List.take_of_length_le (Nat.le_of_eq hn.symm)])
  | m + 1, i, s, l, hm, st, hS, hl, hz, k => by
    have hlt : i < n := by omega
    refine codeAny_builtin PyProof.Rows.F.entry_set_update_loop (by
      rw [Around.under_plainId PyProof.Rows.F.plain_set_update_loop _]
      show wpAny _ A.in1 (pyNext (.ref I) >>= _) _ _ s
      refine wpAny_bind (W.item i s _ _ hlt st fun v s' hP st' mv => ?_)
      obtain ⟨z, t, hz', rfl⟩ := hval i v hP
      have hS' := hS.at fun o e => mv.heap S o (fun h => hSf (W.sub _ h)) e
      show wpAny _ A.in1 (holding [Value.str z t] (setAdd S (.str z t)) >>= _) _ _ s'
      unfold setAdd
      refine wpAny_bind (wpAny_holding (wpAny_holding (wpAny_bind ((strKind P w).pyHash (k := z) (is_str _ _) ?_))))
      refine SetTx.add (s := { s' with toks := s'.toks + 1 }) hS' (by omega) fun h' l' b sb hS2 hl2 hz2 => ?_
      have st2 : St (i + 1) { s' with heap := h', toks := s'.toks + 1 } := W.frame _ s' _ _ st' (Nat.le_succ _) fun b hb o e => (sb.2 b fun q => hSf (q ▸ hb)).trans e
      refine wpAny_pure ⟨plainId_quiet PyProof.Rows.F.plain_set_update_loop _, loop_strs W hSf hn hb hval m (i + 1) _ l' (by omega) st2 hS2 (fun x => ?_) (by omega) fun s2 l2 mv2 hS3 h3 h4 => ?_⟩
      · rw [hl2, hl, List.take_add_one, hz']; simp
      · refine k s2 l2 (Moved.trans W.gtrans ((mv.mono fun b hb => List.mem_cons_of_mem _ hb).then_heap (Nat.le_succ _) fun b o hb e => ?_) mv2) hS3 h3 h4
        exact (sb.2 b fun q => hb (q ▸ List.mem_cons_self)).trans e)
abbrev newS (w : World) : Obj := { cls := .type "set", dict := none, data := .set #[] 0 (.fresh 0 0 (!w.params.followText "set-order")) }
theorem new_tx {h : Heap} {a : Addr} (e : h.get? a = some (newS w)) : SetTx P w h a [] := by
  refine ⟨(#[], 0, .fresh 0 0 (!w.params.followText "set-order")), e, TxOk.nil rfl, List.nodup_nil, List.Pairwise.nil, ?_⟩
  show _ ∨ (!w.params.followText "set-order") = true
  cases w.params.followText "set-order" <;> simp
/-- what set(l) leaves -/
def MadeS (P : Program) (w : World) (s : Shared) (ns : List Str) (s2 : Shared) : Prop := ∃ h' tk l, s2 = { s with heap := h', toks := tk } ∧ SetTx P w h' s.heap.objs.size l ∧ (∀ x, x ∈ l ↔ x ∈ ns) ∧ l.length ≤ ns.length ∧ ∀ b o, s.heap.get? b = some o → h'.get? b = some o
theorem str_at {vs : List Value} {ns : List Str} (h : StrsAre vs ns) : ∀ (i : Nat) (v : Value), vs[i]? = some v → ∃ k t, ns[i]? = some k ∧ v = .str k t := by
  induction h with
  | nil => intro i v e; simp at e
  | cons n t r ih =>
    intro i v e
    cases i with
    | zero => simp at e; exact ⟨_, _, rfl, e.symm⟩
    | succ i => simpa using ih i v (by simpa using e)
/-- the new set takes the texts of a list -/
theorem init_strs {l : Addr} {items : Array Value} {ns : List Str} (hh : A.handled = none) (hl : s.heap.IsList l items) (hi : StrsAre items.toList ns) (hb : ns.length + 1 < scanBound) :
    wpAny (model P w) A.in1.in1 (Builtin.«set.__init__» ⟨[.ref s.heap.objs.size, .ref l], []⟩) (fun fin s2 => fin = .done (.ret .none) ∧ MadeS P w s ns s2) E { s with heap := s.heap.push (newS w) } := by
  obtain ⟨ol, hol, hcl, nl, hdl⟩ := hl
  obtain ⟨oc, od, oda, osl⟩ := ol
  simp only at hcl hdl
  subst hcl
  subst hdl
  have hz : items.size = ns.length := by have := hi.length; rwa [Array.length_toList] at this
  have hlt : l < s.heap.objs.size := Heap.lt_size hol
  have g2 : (s.heap.push (newS w)).get? l = some { cls := .type "list", dict := od, data := .seq items nl, slots := osl } := Heap.get?_push_of_some _ hol
  have i2 : (s.heap.push (newS w)).IsList l items := ⟨_, g2, rfl, nl, rfl⟩
  have q1 := F.sub_list_set
  have q2 := F.sub_list_frozenset
  have q3 : (Value.type "list" == Value.type "dict") = false := by decide
  unfold Builtin.«set.__init__» noKeywords Builtin.Frozenset.updateFrom
  generalize hPI : pyIter = PI
  wp_walk
  subst hPI
  refine wpAny_pyIter_list i2 (wpAny_bind (wpAny_runValue ?_))
  have nI : l ≠ (s.heap.push (newS w)).objs.size := by rw [Heap.size_push]; exact Nat.ne_of_lt (Nat.lt_succ_of_lt hlt)
  have nS : s.heap.objs.size ∉ [(s.heap.push (newS w)).objs.size, l] := fun z => by
    rcases List.mem_cons.mp z with z | z
    · rw [Heap.size_push] at z; exact Nat.ne_of_lt (Nat.lt_succ_self _) z
    · exact Nat.ne_of_gt hlt (List.mem_singleton.mp z)
  have h3 : A.in1.in1.in1.handled = none := by simp [hh]
  refine loop_strs (Walks.list h3 _ l nI items).toS nS hz hb (fun i v hv => str_at hi i v (by rw [Array.getElem?_toList]; exact hv)) items.size 0 _ [] (Nat.zero_add _) ⟨⟨_, Heap.get?_push_size _ rfl, rfl, rfl⟩, i2.push _⟩
    (new_tx (Heap.get?_push_of_some _ (Heap.get?_push_size _ rfl))) (fun x => by simp) (Nat.zero_le _) fun s' l' mv hS hl hle => ?_
  obtain ⟨h', g', d', tk', os'⟩ := s'
  obtain rfl : g' = s.gens := mv.gens
  obtain rfl : d' = s.drawn := mv.drawn
  obtain rfl : os' = s.os := mv.os
  show wpAny _ _ _ _ _ _
  refine wpAny_pure ?_
  show wpAny _ _ (ret Value.none) _ _ _
  refine wpAny_pure ⟨rfl, h', tk', l', rfl, hS, hl, by rw [← hz]; exact hle, fun b o e => mv.heap b o (fun z => ?_) (Heap.get?_push_of_some _ (Heap.get?_push_of_some _ e))⟩
  have hb := Heap.lt_size e
  rcases List.mem_cons.mp z with z | z
  · exact Nat.ne_of_lt hb z
  · have z := List.mem_singleton.mp z
    rw [Heap.size_push] at z
    exact Nat.ne_of_lt (Nat.lt_succ_of_lt hb) z
/-- set(l) -/
theorem call_strs {l : Addr} {items : Array Value} {ns : List Str} {Q : Value → Shared → Prop} (hh : A.handled = none) (hl : s.heap.IsList l items) (hi : StrsAre items.toList ns) (hb : ns.length + 1 < scanBound)
    (h : ∀ s2, MadeS P w s ns s2 → Q (.ref s.heap.objs.size) s2) : wpAny (model P w) A (call (.type "set") [.ref l]) Q E s := by
  obtain ⟨c, tl, hmro⟩ := F.called_set.mro
  have x1 := F.called_set.made
  have x2 := F.called_set.sub
  have x3 := F.called_set.notType
  have x4 := F.called_set.canCreate
  have x5 := F.typeCall_set_1 (.ref l)
  refine wpAny_call (codeAny_of_tree (by
    show wpAny _ _ (callAny (.type "set") _) _ _ _
    refine wpAny_pure ⟨Code.quiet_builtin _ (by decide +kernel), codeAny_builtin F.entry_type_call (by
      rw [Around.under_plain (weight_type_call_type "set" [.ref l] []) rfl]
      repeat (any_goals (first | assumption | wp_step))
      refine codeAny_mono (L2.code_set_led1 (.ref l) (E := E) (Q₁ := fun v s1 => v = .ref s.heap.objs.size ∧ s1 = { s with heap := s.heap.push (newS w) }) ⟨rfl, rfl⟩) fun r s1 hr => ?_
      cases r with
      | error e => exact hr
      | ok fl =>
        cases fl with
        | ret v =>
          obtain ⟨rfl, rfl⟩ := hr
          have ty : Shared.TypeIs { s with heap := s.heap.push (newS w) } (.ref s.heap.objs.size) "set" := ⟨_, Heap.get?_push_size _ rfl, rfl⟩
          have y1 := F.called_set.init.lookup
          have y2 := F.called_set.init.bind (.ref s.heap.objs.size)
          repeat (any_goals (first | assumption | wp_step))
          refine codeAny_mono (codeAny_call_builtin (R := wants (fun r s2 => r = .none ∧ MadeS P w s ns s2) E) F.called_set.init.plain F.entry_set_init (check_set_init_1 ty ?_)) fun r2 s2 hr2 => ?_
          · refine wpAny_mono (init_strs (P := P) (w := w) hh hl hi hb) (fun fin s2 m => ?_) fun _ _ z => z
            obtain ⟨rfl, m⟩ := m
            exact ⟨rfl, m⟩
          · cases r2 with
            | error e => exact hr2
            | ok fl =>
              cases fl with
              | ret r =>
                obtain ⟨rfl, m⟩ := hr2
                repeat (any_goals (first | assumption | wp_step))
                exact h _ m
              | _ => exact hr2.elim
        | _ => exact hr.elim)⟩))
theorem perm_of {α : Type} [DecidableEq α] : ∀ (l m : List α), l.Nodup → (∀ x ∈ l, x ∈ m) → m.length ≤ l.length → l.Perm m
  | [], m, _, _, h => by rw [List.eq_nil_of_length_eq_zero (Nat.le_zero.mp h)]
  | x :: l, m, nd, sb, h => by
    obtain ⟨n1, n2⟩ := List.nodup_cons.mp nd
    have hx := sb x List.mem_cons_self
    have hl := List.length_erase_of_mem hx
    have := perm_of l (m.erase x) n2 (fun y hy => (List.mem_erase_of_ne fun e : y = x => n1 (e ▸ hy)).mpr (sb y (List.mem_cons_of_mem _ hy))) (by rw [hl]; simp at h; omega)
    exact (this.cons x).trans (List.perm_cons_erase hx).symm
def txt : Value → Str
  | .str x _ => x
  | _ => Str.empty
theorem TxOk.strs {D : SD} {l : List Str} (F : TxOk P w D l) {vs : List Value} (hp : vs.Perm (D.1.toList.map (·.2))) : StrsAre vs (vs.map txt) := by
  have all : ∀ v ∈ vs, ∃ k t, v = Value.str k t := fun v hv => by
    obtain ⟨e, he, rfl⟩ := List.mem_map.mp (hp.mem_iff.mp hv)
    obtain ⟨k, hk, _⟩ := (F.el e he).1
    obtain ⟨t, ht⟩ := Value.isStrOf_shape (x := k) (v := e.2) hk
    exact ⟨k, t, ht⟩
  clear hp
  induction vs with
  | nil => exact .nil
  | cons v r ih =>
    obtain ⟨k, t, rfl⟩ := all v List.mem_cons_self
    exact .cons k t (ih fun u hu => all u (List.mem_cons_of_mem _ hu))
theorem TxOk.perm2 {D : SD} {l : List Str} (F : TxOk P w D l) (nd : l.Nodup) {vs : List Value} (hp : vs.Perm (D.1.toList.map (·.2))) : (vs.map txt).Perm l := by
  refine (perm_of l _ nd (fun x hx => ?_) ?_).symm
  · obtain ⟨e, he, hk⟩ := (F.mem x).mp hx
    obtain ⟨t, ht⟩ := Value.isStrOf_shape (x := x) (v := e.2) hk
    exact List.mem_map.mpr ⟨e.2, hp.mem_iff.mpr (List.mem_map.mpr ⟨e, he, rfl⟩), by rw [ht]; rfl⟩
  · rw [List.length_map, hp.length_eq, List.length_map, Array.length_toList]
    exact Nat.le_of_eq F.sz
/-- sorted(set) -/
theorem sorted_tx {a : Addr} {l : List Str} {Q : Value → Shared → Prop} (R : SetTx P w s.heap a l) (hh : A.handled = none) (h64 : l.length < 64)
    (hQ : ∀ s' p (out : Array Value) (c : Nat) (ns : List Str), (∀ b o, s.heap.get? b = some o → s'.heap.get? b = some o) → s'.gens = s.gens → s'.os = s.os → s.heap.objs.size ≤ p →
      s'.heap.get? p = some (seqObj "list" out c) → StrsAre out.toList ns → ns.Perm l → sortedS ns = true → Q (.ref p) s') : wpAny (model P w) A (call (.builtin "sorted") [.ref a]) Q E s := by
  obtain ⟨D, ho, F, nd, ri, le⟩ := R
  have hsz : D.1.size < scanBound := by have := F.sz; unfold scanBound; omega
  refine Calls.call_function_entry kind_sorted plain_sorted entry_sorted (args_sorted1 _) (by
    unfold Builtin.«sorted»
    refine wpAny_bind (m := checkCount "sorted" 1 1 _) (wpAny_pure (wpAny_bind (collect_set (A := A.in1) hh ⟨_, ho, rfl, rfl⟩ F.fit hsz ri le fun s1 vs k1 hz g1 o1 pm => ?_)))
    have hl : vs.length < 64 := by rw [pm.length_eq, List.length_map, Array.length_toList, F.sz]; exact h64
    have hS := TxOk.strs F pm
    have hP := TxOk.perm2 F nd pm
    refine wpAny_bind (wpAny_newList ?_ (by rw [sizeLine_eq]; omega))
    have hoL : (s1.heap.push (seqObj "list" vs.toArray 0)).get? s1.heap.objs.size = some (seqObj "list" vs.toArray 0) := Heap.get?_push_size _ rfl
    refine wpAny_bind (wpAny_holding (wpAny_call_entry slot_list_sort ⟨_, hoL, rfl⟩ entry_list_sort
      (list_sort_treeK strKind_oneLt hoL hS.keysOf (fun v₁ v₂ rest e => keyKind_strs (by rw [← e]; exact hS)) hl fun st' hp hs => ⟨_, rfl, ?_⟩) (args_list_sort _)))
    obtain ⟨ys, y1, y2, y3⟩ := sorted_out_str hS hp hs
    obtain ⟨c, hc⟩ := sortedHeap_at (vs := vs) (out := (arrOf st').map (·.2)) hoL
    refine wpAny_pure ⟨_, rfl, hQ _ s1.heap.objs.size _ c ys (fun b u e => ?_) g1 o1 hz hc y1 (y2.trans hP) y3⟩
    have q := k1 b u e
    have hlt := Heap.lt_size q
    show (sortedHeap (s1.heap.push (seqObj "list" vs.toArray 0)) s1.heap.objs.size vs _).get? b = some u
    rw [sortedHeap_old (Nat.ne_of_lt hlt) (by rw [size_push']; exact Nat.lt_succ_of_lt hlt)]
    exact Heap.get?_push_of_some _ q)
end
end DnS

set_option Elab.async false
set_option linter.all false
set_option maxRecDepth 100000
set_option maxHeartbeats 1000000
/-! DnZ: zip of a list or a tuple with a list or a tuple. -/
namespace DnZ
open PySem PySem.Spec PyProof.Rows
section
variable {prog : Program} {w : World} {A : Around} {E : Value → Shared → Prop} {s : Shared}
/-- a list (false) or a tuple (true) -/
def Src : Bool → Heap → Addr → Array Value → Prop
  | true, h, l, xs => h.IsTuple l xs
  | false, h, l, xs => h.IsList l xs
def Cur : Bool → Heap → Addr → Addr → Nat → Prop
  | true, h, i, l, k => h.IsTupleIter i l k
  | false, h, i, l, k => h.IsListIter i l k
def curObj (t : Bool) (l : Addr) : Obj := { cls := .type (if t then "tuple_iterator" else "list_iterator"), data := .fields #[.ref l, .int 0 0] }
variable {t u : Bool}
theorem Src.ext {h h' : Heap} {a b : Addr} {xs : Array Value} (x : Src t h a xs) (e : Heap.ExtBut b h h') (n : a ≠ b) : Src t h' a xs := by
  cases t
  · exact Heap.IsList.extBut x e n
  · exact Heap.IsTuple.extBut x e n
theorem Src.push {h : Heap} {a : Addr} {xs : Array Value} (x : Src t h a xs) (o : Obj) : Src t (h.push o) a xs := by
  cases t
  · exact Heap.IsList.push x o
  · exact Heap.IsTuple.push x o
theorem Src.lt {h : Heap} {a : Addr} {xs : Array Value} (x : Src t h a xs) : a < h.objs.size := by
  cases t
  · obtain ⟨o, ho, _⟩ := x; exact Heap.lt_size ho
  · obtain ⟨o, ho, _⟩ := x; exact Heap.lt_size ho
theorem Cur.ext {h h' : Heap} {a b l : Addr} {k : Nat} (x : Cur t h a l k) (e : Heap.ExtBut b h h') (n : a ≠ b) : Cur t h' a l k := by
  cases t
  · exact Heap.IsListIter.extBut x e n
  · exact Heap.IsTupleIter.extBut x e n
theorem Cur.at {h h' : Heap} {a l : Addr} {k : Nat} (x : Cur t h a l k) (e : ∀ o, h.get? a = some o → h'.get? a = some o) : Cur t h' a l k := by
  cases t
  · exact Heap.IsListIter.at x e
  · exact Heap.IsTupleIter.at x e
theorem Cur.ob {h : Heap} {a l : Addr} {k : Nat} (x : Cur t h a l k) : ∃ o, h.get? a = some o ∧ ∃ vs, o.data = .fields vs := by
  cases t
  · obtain ⟨o, ho, _, d⟩ := x; exact ⟨o, ho, _, d⟩
  · obtain ⟨o, ho, _, d⟩ := x; exact ⟨o, ho, _, d⟩
theorem cur_new {h : Heap} {a l : Addr} (e : h.get? a = some (curObj t l)) : Cur t h a l 0 := by
  cases t
  · exact ⟨_, e, rfl, rfl⟩
  · exact ⟨_, e, rfl, rfl⟩
theorem iter_src {l : Addr} {xs : Array Value} {Q : Value → Shared → Prop} (x : Src t s.heap l xs) (h : Q (.ref s.heap.objs.size) { s with heap := s.heap.push (curObj t l) }) : wpAny (model prog w) A (pyIter (.ref l)) Q E s := by
  cases t
  · exact wpAny_pyIter_list x h
  · exact wpAny_pyIter_tuple x h
theorem step_it {it l : Addr} {k : Nat} {xs : Array Value} {v : Value} {Q : Value → Shared → Prop} (c : Cur t s.heap it l k) (x : Src t s.heap l xs) (e : xs[k]? = some v)
    (h : ∀ h', Cur t h' it l (k + 1) → Heap.SameBut it s.heap h' → Q v { s with heap := h' }) : wpAny (model prog w) A (Builtin.SmallTypes.nextOf (.ref it)) Q E s := by
  cases t
  · exact wpAny_nextOf_list_item c x e h
  · exact RZ.nextOf_tuple_item c x e h
theorem step_end {it l : Addr} {k : Nat} {xs : Array Value} {Q : Value → Shared → Prop} (hh : A.handled = none) (c : Cur t s.heap it l k) (x : Src t s.heap l xs) (e : xs[k]? = none)
    (h : ∀ h' e, Heap.ExtBut it s.heap h' → (∃ o, h'.get? e = some o ∧ o.cls = .type "StopIteration") → E (.ref e) { s with heap := h' }) : wpAny (model prog w) A (Builtin.SmallTypes.nextOf (.ref it)) Q E s := by
  cases t
  · exact wpAny_nextOf_list_end hh c x e h
  · exact RZ.nextOf_tuple_end hh c x e h
/-- a zip, its sources, its pair, the two cursors -/
structure ZipAt (t u : Bool) (h : Heap) (f : Value) (z TI TO i1 i2 l1 l2 : Addr) (k : Nat) : Prop where
  z : IsZip h z TI TO f
  ti : IsPair h TI (.ref i1) (.ref i2)
  to : ∃ a b, IsPair h TO a b
  c1 : Cur t h i1 l1 k
  c2 : Cur u h i2 l2 k
abbrev Kept (h h' : Heap) (bs : List Addr) : Prop := ∀ c o, c ∉ bs → h.get? c = some o → h'.get? c = some o
section
variable {z TI TO i1 i2 l1 l2 : Addr} {k : Nat} {xs ys : Array Value}
theorem zip_item {x y : Value} {Q : Value → Shared → Prop} (D : ZipApart z TI TO i1 i2 l1 l2) (Z : ZipAt t u s.heap .none z TI TO i1 i2 l1 l2 k) (s1 : Src t s.heap l1 xs) (s2 : Src u s.heap l2 ys) (hx : xs[k]? = some x) (hy : ys[k]? = some y)
    (h : ∀ h', ZipAt t u h' (rawInt s.heap.objs.size) z TI TO i1 i2 l1 l2 (k + 1) → IsPair h' s.heap.objs.size x y → Kept s.heap h' [z, TO, i1, i2] → Q (.ref s.heap.objs.size) { s with heap := h' }) :
    wpAny (model prog w) A (Builtin.«zip.__next__» ⟨[.ref z], []⟩) (fun fin s' => ∃ v, fin = .done (.ret v) ∧ Q v s') E s := by
  obtain ⟨hz, hI, ⟨a, b, hO⟩, c1, c2⟩ := Z
  show wpAny _ _ (field (.ref z) 2 >>= _) _ _ _
  refine wpAny_bind (wpAny_field hz rfl (x := .bool false) rfl (by
    show wpAny _ _ (field (.ref z) 3 >>= _) _ _ _
    refine wpAny_bind (wpAny_field hz rfl (x := .ref TI) rfl (wpAny_bind (wpAny_seqItems hI rfl (by
      show wpAny _ _ (Builtin.SmallTypes.ownedTupleIsFree (.ref z) >>= _) _ _ _
      unfold Builtin.SmallTypes.ownedTupleIsFree
      refine wpAny_bind (wpAny_bind (wpAny_field hz rfl (x := .none) rfl (wpAny_pure ?_)))
      simp only [if_true]
      refine wpAny_bind (wpAny_rule (wpAny_bind (wpAny_field hz rfl (x := .ref TO) rfl (wpAny_bind (wpAny_setField_rec hz (by simp) fun g1 z1 k1 => ?_)))))
      have z1 : IsZip g1 z TI TO .ellipsis := z1
      simp only [List.zipIdx_cons, List.zipIdx_nil, List.forIn_cons, List.forIn_nil]
      refine wpAny_bind (wpAny_bind (wpAny_bind (wpAny_onRaise (by
        show wpAny _ _ (Builtin.SmallTypes.nextOf (.ref i1) >>= _) _ _ _
        refine wpAny_bind (step_it (c1.ext k1.extBut D.i1z) (s1.ext k1.extBut D.l1z) hx fun g2 c1' k2 => wpAny_pure ?_)
        have hO2 : IsPair g2 TO a b := k2.extBut _ _ D.TOi1 (k1.extBut _ _ D.TOz hO)
        refine wpAny_bind (wpAny_seqItems hO2 rfl (wpAny_bind (wpAny_updateSeq_pair hO2 fun g3 hO3 k3 => wpAny_bind (wpAny_letGo (wpAny_pure ?_)))))
        have hO3 : IsPair g3 TO x b := hO3
        refine wpAny_bind (wpAny_bind (wpAny_onRaise (by
          show wpAny _ _ (Builtin.SmallTypes.nextOf (.ref i2) >>= _) _ _ _
          refine wpAny_bind (step_it (((c2.ext k1.extBut D.i2z).ext k2.extBut D.i12.symm).ext k3.extBut D.TOi2.symm) (((s2.ext k1.extBut D.l2z).ext k2.extBut D.l2i1).ext k3.extBut D.l2TO) hy fun g4 c2' k4 => wpAny_pure ?_)
          have hO4 : IsPair g4 TO x b := k4.extBut _ _ D.TOi2 hO3
          refine wpAny_bind (wpAny_seqItems hO4 rfl (wpAny_bind (wpAny_updateSeq_pair hO4 fun g5 hO5 k5 => wpAny_bind (wpAny_letGo (wpAny_pure (wpAny_pure ?_))))))
          have hO5 : IsPair g5 TO x y := hO5
          have e5 : g5.objs.size = s.heap.objs.size := by rw [k5.1, k4.1, k3.1, k2.1, k1.1]
          have z5 : IsZip g5 z TI TO .ellipsis := k5.extBut _ _ D.TOz.symm (k4.extBut _ _ D.i2z.symm (k3.extBut _ _ D.TOz.symm (k2.extBut _ _ D.i1z.symm z1)))
          have old : Kept s.heap g5 [z, TO, i1, i2] := fun c o hc e => by
            simp only [List.mem_cons, List.not_mem_nil, or_false, not_or] at hc
            obtain ⟨n1, n2, n3, n4⟩ := hc
            exact k5.extBut _ _ n2 (k4.extBut _ _ n4 (k3.extBut _ _ n2 (k2.extBut _ _ n3 (k1.extBut _ _ n1 e))))
          have c15 := ((c1'.ext k3.extBut D.TOi1.symm).ext k4.extBut D.i12).ext k5.extBut D.TOi1.symm
          have c25 := c2'.ext k5.extBut D.TOi2.symm
          refine wpAny_bind (wpAny_seqItems hO5 rfl (wpAny_bind (wpAny_newTuple (by
            show wpAny _ _ (Builtin.SmallTypes.ownedTupleHandOut (.ref z) (.ref g5.objs.size) >>= _) _ _ _
            unfold Builtin.SmallTypes.ownedTupleHandOut
            have z6 : IsZip (g5.push { cls := .type "tuple", data := .seq #[x, y] }) z TI TO .ellipsis := Heap.get?_push_of_some _ z5
            refine wpAny_bind (wpAny_bind (wpAny_setField_rec z6 (by simp) fun g7 z7 k7 => ?_))
            have z7 : IsZip g7 z TI TO (rawInt g5.objs.size) := z7
            refine wpAny_setField_rec z7 (by simp) fun g8 z8 k8 => wpAny_pure ⟨_, rfl, ?_⟩
            have z8 : IsZip g8 z TI TO (rawInt g5.objs.size) := z8
            have up : ∀ c o, c ≠ z → (g5.push { cls := .type "tuple", data := .seq #[x, y] }).get? c = some o → g8.get? c = some o := fun c o n e => k8.extBut _ _ n (k7.extBut _ _ n e)
            have up5 : ∀ c o, c ≠ z → g5.get? c = some o → g8.get? c = some o := fun c o n e => up c o n (Heap.get?_push_of_some _ e)
            have pr : IsPair g8 g5.objs.size x y := up _ _ (Nat.ne_of_gt (Heap.lt_size z5)) (Heap.get?_push_size _ rfl)
            rw [e5] at z8 pr
            show Q (.ref g5.objs.size) _
            rw [e5]
            refine h g8 ⟨z8, up5 _ _ D.TIz (old _ _ (by simp [D.TIz, D.TITO, D.TIi1, D.TIi2]) hI), ⟨x, y, up5 _ _ D.TOz hO5⟩, c15.at fun o e => up5 _ o D.i1z e, c25.at fun o e => up5 _ o D.i2z e⟩ pr fun c o hc e => up5 c o (fun q => hc (by simp [q])) (old c o hc e))))))))))))))))))
theorem zip_stop {Q : Fin → Shared → Prop} (hh : A.handled = none) (D : ZipApart z TI TO i1 i2 l1 l2) (Z : ZipAt t u s.heap .none z TI TO i1 i2 l1 l2 k) (s1 : Src t s.heap l1 xs) (s2 : Src u s.heap l2 ys) (hend : xs[k]? = none ∨ ys[k]? = none)
    (h : ∀ h' e, Kept s.heap h' [z, TO, i1, i2] → (∃ o, h'.get? e = some o ∧ o.cls = .type "StopIteration") → E (.ref e) { s with heap := h' }) : wpAny (model prog w) A (Builtin.«zip.__next__» ⟨[.ref z], []⟩) Q E s := by
  obtain ⟨hz, hI, ⟨a, b, hO⟩, c1, c2⟩ := Z
  have nz : ∀ {g : Heap} {e : Addr}, IsZip g z TI TO .ellipsis → (∃ o, g.get? e = some o ∧ o.cls = .type "StopIteration") → e ≠ z := fun {g e} hg ⟨o, ho, hc⟩ x => by
    subst x; rw [hg] at ho; cases ho; simp at hc
  show wpAny _ _ (field (.ref z) 2 >>= _) _ _ _
  refine wpAny_bind (wpAny_field hz rfl (x := .bool false) rfl (by
    show wpAny _ _ (field (.ref z) 3 >>= _) _ _ _
    refine wpAny_bind (wpAny_field hz rfl (x := .ref TI) rfl (wpAny_bind (wpAny_seqItems hI rfl (by
      show wpAny _ _ (Builtin.SmallTypes.ownedTupleIsFree (.ref z) >>= _) _ _ _
      unfold Builtin.SmallTypes.ownedTupleIsFree
      refine wpAny_bind (wpAny_bind (wpAny_field hz rfl (x := .none) rfl (wpAny_pure ?_)))
      simp only [if_true]
      refine wpAny_bind (wpAny_rule (wpAny_bind (wpAny_field hz rfl (x := .ref TO) rfl (wpAny_bind (wpAny_setField_rec hz (by simp) fun g1 z1 k1 => ?_)))))
      have z1 : IsZip g1 z TI TO .ellipsis := z1
      simp only [List.zipIdx_cons, List.zipIdx_nil, List.forIn_cons, List.forIn_nil]
      refine wpAny_bind (wpAny_bind (wpAny_bind (wpAny_onRaise (by
        show wpAny _ _ (Builtin.SmallTypes.nextOf (.ref i1) >>= _) _ _ _
        cases hx : xs[k]? with
        | none =>
          refine wpAny_bind (step_end hh (c1.ext k1.extBut D.i1z) (s1.ext k1.extBut D.l1z) hx fun g2 e k2 he => ?_)
          have z2 : IsZip g2 z TI TO .ellipsis := k2 _ _ D.i1z.symm z1
          refine wpAny_setField_rec z2 (by simp) fun g3 _ k3 => h g3 e (fun c o hc q => ?_) (let ⟨o, ho, hc⟩ := he; ⟨o, k3.extBut _ _ (nz z2 he) ho, hc⟩)
          simp only [List.mem_cons, List.not_mem_nil, or_false, not_or] at hc
          exact k3.extBut _ _ hc.1 (k2 _ _ hc.2.2.1 (k1.extBut _ _ hc.1 q))
        | some x =>
          have hy : ys[k]? = none := hend.resolve_left (by rw [hx]; simp)
          refine wpAny_bind (step_it (c1.ext k1.extBut D.i1z) (s1.ext k1.extBut D.l1z) hx fun g2 c1' k2 => wpAny_pure ?_)
          have hO2 : IsPair g2 TO a b := k2.extBut _ _ D.TOi1 (k1.extBut _ _ D.TOz hO)
          refine wpAny_bind (wpAny_seqItems hO2 rfl (wpAny_bind (wpAny_updateSeq_pair hO2 fun g3 hO3 k3 => wpAny_bind (wpAny_letGo (wpAny_pure ?_)))))
          refine wpAny_bind (wpAny_bind (wpAny_onRaise (by
            show wpAny _ _ (Builtin.SmallTypes.nextOf (.ref i2) >>= _) _ _ _
            refine wpAny_bind (step_end hh (((c2.ext k1.extBut D.i2z).ext k2.extBut D.i12.symm).ext k3.extBut D.TOi2.symm) (((s2.ext k1.extBut D.l2z).ext k2.extBut D.l2i1).ext k3.extBut D.l2TO) hy fun g4 e k4 he => ?_)
            have z4 : IsZip g4 z TI TO .ellipsis := k4 _ _ D.i2z.symm (k3.extBut _ _ D.TOz.symm (k2.extBut _ _ D.i1z.symm z1))
            refine wpAny_setField_rec z4 (by simp) fun g5 _ k5 => h g5 e (fun c o hc q => ?_) (let ⟨o, ho, hc⟩ := he; ⟨o, k5.extBut _ _ (nz z4 he) ho, hc⟩)
            simp only [List.mem_cons, List.not_mem_nil, or_false, not_or] at hc
            exact k5.extBut _ _ hc.1 (k4 _ _ hc.2.2.2 (k3.extBut _ _ hc.2.1 (k2.extBut _ _ hc.2.2.1 (k1.extBut _ _ hc.1 q)))))))))))))))))
theorem zipNext_item {x y : Value} {Q : Option Value → Shared → Prop} (D : ZipApart z TI TO i1 i2 l1 l2) (Z : ZipAt t u s.heap .none z TI TO i1 i2 l1 l2 k) (s1 : Src t s.heap l1 xs) (s2 : Src u s.heap l2 ys) (hx : xs[k]? = some x) (hy : ys[k]? = some y)
    (h : ∀ h', ZipAt t u h' (rawInt s.heap.objs.size) z TI TO i1 i2 l1 l2 (k + 1) → IsPair h' s.heap.objs.size x y → Kept s.heap h' [z, TO, i1, i2] → Q (some (.ref s.heap.objs.size)) { s with heap := h' }) :
    wpAny (model prog w) A (pyNext (.ref z)) Q E s := by
  have ty : s.TypeIs (.ref z) "zip" := ⟨_, Z.z, rfl⟩
  unfold pyNext
  exact wpAny_bind (wpAny_attempt (wpAny_callSpecial?_slot (name := Str.ofString "__next__") ty F.slot_zip_next (wpAny_call_entry F.slot_zip_next ty F.entry_zip_next (zip_item D Z s1 s2 hx hy fun h' a b c => wpAny_pure (h h' a b c)) (F.args_zip_next_1 _))))
theorem zipNext_stop {Q : Option Value → Shared → Prop} (hh : A.handled = none) (D : ZipApart z TI TO i1 i2 l1 l2) (Z : ZipAt t u s.heap .none z TI TO i1 i2 l1 l2 k) (s1 : Src t s.heap l1 xs) (s2 : Src u s.heap l2 ys) (hend : xs[k]? = none ∨ ys[k]? = none)
    (h : ∀ h', Kept s.heap h' [z, TO, i1, i2] → Q none { s with heap := h' }) : wpAny (model prog w) A (pyNext (.ref z)) Q E s := by
  have ty : s.TypeIs (.ref z) "zip" := ⟨_, Z.z, rfl⟩
  unfold pyNext
  refine wpAny_bind (wpAny_attempt (wpAny_callSpecial?_slot (name := Str.ofString "__next__") ty F.slot_zip_next (wpAny_call_entry F.slot_zip_next ty F.entry_zip_next (zip_stop hh D Z s1 s2 hend fun h' e kp he => ?_) (F.args_zip_next_1 _))))
  obtain ⟨o, ho, hc⟩ := he
  exact wpAny_bind (wpAny_isInstance (T := "StopIteration") (b := true) ⟨o, ho, hc⟩ isSubtype_stop (wpAny_pure (h _ kp)))
end
/-- the heap behind zip(l1, l2) -/
def made2 (t u : Bool) (h : Heap) (l1 l2 : Addr) : Heap := (h.push (curObj t l1)).push (curObj u l2)
def made3 (t u : Bool) (h : Heap) (l1 l2 : Addr) : Heap := (made2 t u h l1 l2).push { cls := .type "tuple", data := .seq #[.ref h.objs.size, .ref (h.push (curObj t l1)).objs.size] }
def made4 (t u : Bool) (h : Heap) (l1 l2 : Addr) : Heap := (made3 t u h l1 l2).push { cls := .type "tuple", data := .seq #[.none, .none] }
def made (t u : Bool) (h : Heap) (l1 l2 : Addr) : Heap := (made4 t u h l1 l2).push { cls := .type "zip", data := .fields #[.none, .bool false, .bool false, .ref (made2 t u h l1 l2).objs.size, .ref (made3 t u h l1 l2).objs.size] }
theorem meets_zip (t u : Bool) (l1 l2 : Addr) (xs ys : Array Value) : Meets (Builtin.«zip.__new__» ⟨[.type "zip", .ref l1, .ref l2], []⟩) (fun _ R s => Src t s.heap l1 xs ∧ Src u s.heap l2 ys ∧ R (.ok (.ret (.ref (made4 t u s.heap l1 l2).objs.size))) { s with heap := made t u s.heap l1 l2 }) :=
  .of_wp fun prog w A R s h => by
    obtain ⟨hp, g, d, tk, os⟩ := s
    obtain ⟨x1, x2, h⟩ := h
    have sub := sub_zip
    have y1 : Src t (Shared.heap ⟨hp, g, d, tk, os⟩) l1 xs := x1
    have y2 : Src u (Shared.heap ⟨hp.push (curObj t l1), g, d, tk, os⟩) l2 ys := x2.push _
    wp_walk using iter_src y1, iter_src y2
    exact ⟨_, rfl, h⟩
section
variable {prog : Program} {w : World} {A : Around} {E : Value → Shared → Prop} {s : Shared} {t u : Bool}
theorem call_zip {l1 l2 : Addr} {xs ys : Array Value} {Q : Value → Shared → Prop} (x1 : Src t s.heap l1 xs) (x2 : Src u s.heap l2 ys)
    (h : ∀ h', ZipAt t u h' .none (s.heap.objs.size + 4) (s.heap.objs.size + 2) (s.heap.objs.size + 3) s.heap.objs.size (s.heap.objs.size + 1) l1 l2 0 → Kept s.heap h' [] → Q (.ref (s.heap.objs.size + 4)) { s with heap := h' }) :
    wpAny (model prog w) A (call (.type "zip") [.ref l1, .ref l2]) Q E s := by
  refine callType_new F.called_zip (by decide) (F.typeCall_zip_2 _ _) (F.newCall_zip_2 _ _) (fun obj => F.args_object_init_3 obj _ _) F.entry_zip_new (meets_zip t u l1 l2 xs ys) ⟨x1, x2, ?_⟩
  have e1 : (s.heap.push (curObj t l1)).objs.size = s.heap.objs.size + 1 := Heap.size_push ..
  have e2 : (made2 t u s.heap l1 l2).objs.size = s.heap.objs.size + 2 := by unfold made2; rw [Heap.size_push, e1]
  have e3 : (made3 t u s.heap l1 l2).objs.size = s.heap.objs.size + 3 := by unfold made3; rw [Heap.size_push, e2]
  have e4 : (made4 t u s.heap l1 l2).objs.size = s.heap.objs.size + 4 := by unfold made4; rw [Heap.size_push, e3]
  have pz : (made t u s.heap l1 l2).get? (made4 t u s.heap l1 l2).objs.size = some { cls := .type "zip", data := .fields #[.none, .bool false, .bool false, .ref (made2 t u s.heap l1 l2).objs.size, .ref (made3 t u s.heap l1 l2).objs.size] } := Heap.get?_push_size _ rfl
  have pO : (made t u s.heap l1 l2).get? (made3 t u s.heap l1 l2).objs.size = some { cls := .type "tuple", data := .seq #[.none, .none] } := Heap.get?_push_of_some _ (Heap.get?_push_size _ rfl)
  have pI : (made t u s.heap l1 l2).get? (made2 t u s.heap l1 l2).objs.size = some { cls := .type "tuple", data := .seq #[.ref s.heap.objs.size, .ref (s.heap.push (curObj t l1)).objs.size] } := Heap.get?_push_of_some _ (Heap.get?_push_of_some _ (Heap.get?_push_size _ rfl))
  have p2 : (made t u s.heap l1 l2).get? (s.heap.push (curObj t l1)).objs.size = some (curObj u l2) := Heap.get?_push_of_some _ (Heap.get?_push_of_some _ (Heap.get?_push_of_some _ (Heap.get?_push_size _ rfl)))
  have p1 : (made t u s.heap l1 l2).get? s.heap.objs.size = some (curObj t l1) := Heap.get?_push_of_some _ (Heap.get?_push_of_some _ (Heap.get?_push_of_some _ (Heap.get?_push_of_some _ (Heap.get?_push_size _ rfl))))
  rw [e2, e3, e4] at pz
  rw [e3] at pO
  rw [e1, e2] at pI
  rw [e1] at p2
  show _ ∧ _
  rw [e4]
  exact ⟨⟨_, pz, rfl⟩, h _ ⟨pz, pI, ⟨_, _, pO⟩, cur_new p1, cur_new p2⟩ fun c o _ e => Heap.get?_push_of_some _ (Heap.get?_push_of_some _ (Heap.get?_push_of_some _ (Heap.get?_push_of_some _ (Heap.get?_push_of_some _ e))))⟩
end
end
end DnZ
namespace Dn
open PySem PySem.Spec L2 DnZ
open PyProof.Rows hiding St
def SqB (K : PySem.W.Frag) : Bool → Hp → Addr → List V → Prop
  | true, H, a, xs => SqT K H a xs
  | false, H, a, xs => SqL K H a xs
theorem sqB_inv {X : Cx} {pins : List (Addr × Obj)} {σ : St} {H : Hp} {s : Shared} (I : Inv X pins σ H s) {t : Bool} {a : Addr} {xs : List V} (h : SqB X.K t H a xs) : ∃ its : List Value, Vals xs its ∧ Src t s.heap a its.toArray ∧ xs.length ≤ sizeLine := by
  cases t
  · obtain ⟨its, r, p, hz⟩ := I.list h
    exact ⟨its, r, p.isList, hz⟩
  · exact I.tuple h
theorem sqB_inj {X : Cx} {pins : List (Addr × Obj)} {σ : St} {H : Hp} {s : Shared} (I : Inv X pins σ H s) {t : Bool} {a : Addr} {xs ys : List V} (h : SqB X.K t H a xs) (h' : SqB X.K t H a ys) : xs = ys := by
  cases t
  · exact I.list_inj h h'
  · exact I.tuple_inj h h'
/-- two rows side by side, each item in a new pair -/
def ItzB (K : PySem.W.Frag) (t u : Bool) (a b : Addr) : It :=
  ⟨fun i H => ∃ xs ys x y, SqB K t H a xs ∧ SqB K u H b ys ∧ xs[i]? = some x ∧ ys[i]? = some y,
    fun i H v H' => ∃ T x y, v = .ref T ∧ H T = none ∧ H' = upd H T (.tup [x, y]) ∧ (∀ xs, SqB K t H a xs → xs[i]? = some x) ∧ ∀ ys, SqB K u H b ys → ys[i]? = some y,
    fun i H => ∃ xs ys, SqB K t H a xs ∧ SqB K u H b ys ∧ (xs.length ≤ i ∨ ys.length ≤ i)⟩
theorem turn_zipB {P : Program} {w : World} {K : PySem.W.Frag} {elts : List Expr} {kk : Nat} {tpos : Pos} {t u : Bool} {a b z TI TO i1 i2 : Addr} (D : ZipApart z TI TO i1 i2 a b) :
    Turn P w K (.Tuple elts kk tpos) (ItzB K t u a b) [z, TI, TO, i1, i2] z (fun i h => ZipAt t u h .none z TI TO i1 i2 a b i) where
  mem := List.mem_cons_self
  obj := fun i h Z c hc => by
    obtain ⟨p, q, hO⟩ := Z.to
    simp only [List.mem_cons, List.not_mem_nil, or_false] at hc
    rcases hc with rfl | rfl | rfl | rfl | rfl
    · exact ⟨_, Z.z, fun v q => nomatch q⟩
    · exact ⟨_, Z.ti, fun v q => nomatch q⟩
    · exact ⟨_, hO, fun v q => nomatch q⟩
    · obtain ⟨o, ho, vs, d⟩ := Z.c1.ob
      exact ⟨o, ho, fun v q => by rw [d] at q; cases q⟩
    · obtain ⟨o, ho, vs, d⟩ := Z.c2.ob
      exact ⟨o, ho, fun v q => by rw [d] at q; cases q⟩
  keep := fun i h h' Z k => by
    obtain ⟨p, q, hO⟩ := Z.to
    exact ⟨k z (by simp) _ Z.z, k TI (by simp) _ Z.ti, ⟨p, q, k TO (by simp) _ hO⟩, Z.c1.at fun o q => k i1 (by simp) o q, Z.c2.at fun o q => k i2 (by simp) o q⟩
  item := by
    intro X hP hw hK hc i pins s σ H E I hf Z hg
    subst hP hw hK
    obtain ⟨xs, ys, x, y, q1, q2, hx, hy⟩ := hg
    obtain ⟨us, r1, p1, _⟩ := sqB_inv I q1
    obtain ⟨vs, r2, p2, _⟩ := sqB_inv I q2
    obtain ⟨m, hm, rm⟩ := r1.get hx
    obtain ⟨n, hn, rn⟩ := r2.get hy
    have zl : z < s.heap.objs.size := Heap.lt_size Z.z
    refine zipNext_item D Z p1 p2 (x := m) (y := n) (by simpa using hm) (by simpa using hn) fun h' Z' pr kp => ⟨_, rfl, wpAny_letOwnedTupleGo_zip (s := { s with heap := h' }) Z'.z fun h2 z2 sb => ?_⟩
    have pr2 : h2.get? s.heap.objs.size = some { cls := .type "tuple", data := .seq #[m, n] } := (sb.2 _ (Nat.ne_of_gt zl)).trans pr
    have old : ∀ c o, c ∉ [z, TI, TO, i1, i2] → s.heap.get? c = some o → h2.get? c = some o := fun c o hc e => by
      simp only [List.mem_cons, List.not_mem_nil, or_false, not_or] at hc
      exact (sb.2 c hc.1).trans (kp c o (by simp [hc]) e)
    have ok : ObjOk X.prog X.w (upd H s.heap.objs.size (.tup [x, y])) h2 s.heap.objs.size (.tup [x, y]) := ⟨show 2 ≤ sizeLine by decide, [m, n], .cons rm (.cons rn .nil), ⟨_, pr2, rfl, _, rfl⟩⟩
    have J := I.turnedNew (t' := s.toks) (ch := [z, TI, TO, i1, i2]) old hf (Nat.le_refl _) ok
    obtain ⟨e1, e2, hO⟩ := Z'.to
    refine ⟨.ref s.heap.objs.size, _, J, rfl, ⟨_, x, y, rfl, I.hok.fresh (Nat.le_refl _), rfl, fun l hl => by rw [sqB_inj I hl q1]; exact hx, fun l hl => by rw [sqB_inj I hl q2]; exact hy⟩,
      ⟨z2, (sb.2 _ D.TIz).trans Z'.ti, ⟨e1, e2, (sb.2 _ D.TOz).trans hO⟩, Z'.c1.at fun o q => (sb.2 _ D.i1z).trans q, Z'.c2.at fun o q => (sb.2 _ D.i2z).trans q⟩, fun c hc => ?_⟩
    have lt : c < s.heap.objs.size := by
      simp only [List.mem_cons, List.not_mem_nil, or_false] at hc
      obtain ⟨g1, g2, hO⟩ := Z.to
      rcases hc with rfl | rfl | rfl | rfl | rfl
      · exact zl
      · exact Heap.lt_size Z.ti
      · exact Heap.lt_size hO
      · obtain ⟨_, e, _⟩ := Z.c1.ob; exact Heap.lt_size e
      · obtain ⟨_, e, _⟩ := Z.c2.ob; exact Heap.lt_size e
    rw [upd_ne (Nat.ne_of_lt lt)]
    exact (hf c hc).1
  done := by
    intro X hP hw hK hc i pins s σ H E I hf Z hg
    subst hP hw hK
    obtain ⟨xs, ys, q1, q2, hend⟩ := hg
    obtain ⟨us, r1, p1, _⟩ := sqB_inv I q1
    obtain ⟨vs, r2, p2, _⟩ := sqB_inv I q2
    have l1 := r1.length
    have l2 := r2.length
    refine zipNext_stop (I.ok.hd hc) D Z p1 p2 (hend.imp (fun q => by simp; omega) fun q => by simp; omega) fun h' kp => ⟨rfl, I.turnedL (t' := s.toks) (ch := [z, TI, TO, i1, i2]) (fun c o hb e => kp c o (fun q => hb ?_) e) hf⟩
    simp only [List.mem_cons, List.not_mem_nil, or_false] at q ⊢
    rcases q with rfl | rfl | rfl | rfl <;> simp
  self := fun A i s Q E Z h => wpAny_pyIter_zip Z.z h
def iZipB (K : PySem.W.Frag) (ta : TA) : TI := fun σ H R => ta σ H fun vs H1 => ∃ a b xs ys t u, vs = [.ref a, .ref b] ∧ SqB K t H1 a xs ∧ SqB K u H1 b ys ∧ R (ItzB K t u a b) H1
theorem pi_zipB {X : Cx} {e e2 : Expr} {ta : TA} {p pos tpos : Pos} {elts : List Expr} {kk : Nat} (hg : Gl X "zip") (hm : X.mg "zip" = none) (ha : PA X [e, e2] ta)
    (hs : starEach [e, e2] X.env = (false, eval e X.env) :: starEach [e2] X.env := by rfl) (hpl : (backTo pos (starEach [e2] X.env)).any (·.1) = false := by rfl) :
    PI X (.Tuple elts kk tpos) (.Call (.Name "zip" p) [e, e2] [] pos) (iZipB X.K ta) := by
  refine ⟨fun pins s σ H R I h => Call_ (ld_blt I hg hm PyProof.Rows.boot_zip (PyProof.Rows.callWith_type1 (thn (ha.run pos pins s σ H _ I h) fun us s1 ⟨vs, H1, I1, r, q⟩ => ?_) hs hpl))⟩
  obtain ⟨a, b, xs, ys, t, u, rfl, q1, q2, q⟩ := q
  cases r with
  | cons ra r =>
    cases r with
    | cons rb r =>
      cases r
      obtain rfl : _ = Value.ref a := ra
      obtain rfl : _ = Value.ref b := rb
      obtain ⟨us, r1, p1, _⟩ := sqB_inv I1 q1
      obtain ⟨vs, r2, p2, _⟩ := sqB_inv I1 q2
      refine DnZ.call_zip p1 p2 fun h' Z kp => wpAny_pyIter_zip Z.z ?_
      exact ⟨s1.heap.objs.size + 4, [s1.heap.objs.size + 4, s1.heap.objs.size + 2, s1.heap.objs.size + 3, s1.heap.objs.size, s1.heap.objs.size + 1], _, _, H1, rfl, I1.kept (t' := s1.toks) fun c o e => kp c o (by simp) e, turn_zipB (PySem.W.ktu_apart s1.heap.objs.size a b p1.lt p2.lt), Z, fun c hc => (by
        have le : s1.heap.objs.size ≤ c := by
          simp only [List.mem_cons, List.not_mem_nil, or_false] at hc
          rcases hc with rfl | rfl | rfl | rfl | rfl
          · exact Nat.le_add_right _ _
          · exact Nat.le_add_right _ _
          · exact Nat.le_add_right _ _
          · exact Nat.le_refl _
          · exact Nat.le_add_right _ _
        exact I1.fpOk le (I1.hok.fresh le)), q⟩
end Dn

set_option Elab.async false
set_option linter.all false
set_option maxRecDepth 100000
set_option maxHeartbeats 2000000
/-! DnX: an own exception class over ValueError whose __init__ says super().__init__(text), then stores a field. -/
namespace Dn
open PySem PySem.Spec L2
open PyProof.Rows hiding St
open PySem.W (kxs_mw ks_superObj ks_superIn)

/-- the promise of an exception's __init__ that stores one field -/
def spXI (C : Addr) (f : Str) : Sp := fun vs H Q _ => ∃ (p : Addr) (y : V), vs = [.ref p, y] ∧ H p = some (exo p C none) ∧ ∀ dx, H dx = none → dx ≠ p → Q .non (upd (upd H dx (exd dx [(f, y)])) p (exo p C (some dx)))
section
variable {prog : Program} {w : World} {A : Around} {E : Value → Shared → Prop} {s : Shared}
/-- the bound ValueError.__init__ called -/
theorem call_mw {K : PySem.W.Frag} {u e t C : Addr} {rest : List Value} {Q : Value → Shared → Prop} (T : OexC K C) (X : K.In s.heap) (hu : s.heap.get? u = some (kxs_mw "ValueError.__init__" e)) (he : s.heap.get? e = some (PySem.W.excObj C t none .none)) (hz : rest.length ≤ sizeLine)
    (h : ∀ h' t', (∀ b o, b ≠ e → s.heap.get? b = some o → h'.get? b = some o) → h'.get? e = some (PySem.W.excObj C t' none .none) → Q .none { s with heap := h' }) : wpAny (model prog w) A (call (.ref u) rest) Q E s := by
  obtain ⟨nm, q, N, bs, bm, sn, sub, ab, col, dd, k0, k1, k2, k3, k5, hC, _⟩ := T.cls
  obtain ⟨hh, g, d, tk, os⟩ := s
  refine wpAny_call (codeAny_of_tree (by
    show wpAny _ A.in1 (callAny (.ref u) ⟨rest, []⟩) _ _ _
    simp only [callAny]
    refine wpAny_bind (wpAny_load hu (by
      simp only [kxs_mw, show (Value.type "method-wrapper" == Value.type "method" || Value.type "method-wrapper" == Value.type "builtin_function_or_method" || Value.type "method-wrapper" == Value.type "method-wrapper") = true by decide, if_true]
      refine PySem.W.KFB.if_so (by decide) (wpAny_bind (PySem.W.check_bound_init F.excBase_ValueError.toExcCallFacts (X _ _ hC) he rfl (wpAny_bind (wpAny_pure (wpAny_pure ⟨plainId_quiet F.excBase_ValueError.init.plain _, codeAny_builtin F.excBase_ValueError.initEntry ?_⟩)))))
      exact PySem.W.exc_init_tree (cls := .ref C) (t0 := t) (dv := none) (c2 := .none) (c3 := .none) (b4 := .bool false) he hz fun h' k e' _ => h h' _ k e'))))
end
/-- what is written of the class C's __init__ at f -/
structure SupF (P : Program) (K : PySem.W.Frag) (qual : Str) (st : Stmt) (C f : Addr) (fd : FuncData) : Prop where
  ex : ∃ (oc : Value) (od : Option Addr) (kV doc pm : Value) (an : Option Addr) (cda cc : Addr) (ct : Value) (osl : Array (Option Value)),
    fd = PySem.W.ksFn "__init__" qual (defArgs st) (defBody st) (defScope st) .none kV doc pm an (.ref cda) ct cc ∧ K.lookup f = some ⟨oc, od, .func fd, osl⟩ ∧ PySem.W.codeIn K (.ref cda) qual = true ∧
    (∃ ccl cdd vs ccs file tf, K.lookup cda = some ⟨ccl, cdd, .fields vs, ccs⟩ ∧ vs[2]? = some (.str file tf) ∧ ((P.main.file : Str) == file) = true) ∧ ∃ cl cld csl, K.lookup cc = some ⟨cl, cld, .cell (some (.ref C)), csl⟩
  sup : ks_superIn K C C "__init__" = some (some (.builtin "ValueError.__init__"))
  sub : PySem.W.subIn K (.ref C) (.type "ValueError") = some true
  own : PySem.W.mroIn K C (.ref C) = some true
  op : PySem.W.nsIn K cStatics "thirdparty.any" = some none
  top : (P.main.scope.names.lookup ("super" : Str)).isSome = false
/-- the words of its text -/
structure SupT (st : Stmt) (prm fld msg : Str) : Prop where
  body : ∃ p0 p1 p2 j p3 p4 p5 p6 p7 p8 p9, defBody st = [.Expr (.Call (.Attribute (.Call (.Name "super" p0) [] [] p1) "__init__" p2) [.Constant (.str msg) j p3] [] p4) p5, .Assign [.Attribute (.Name "self" p6) fld p7] (.Name prm p8) p9] ∧
    ∀ env : Env, ∃ pl : Sem Bool, eval (.Call (.Attribute (.Call (.Name "super" p0) [] [] p1) "__init__" p2) [.Constant (.str msg) j p3] [] p4) env = (do
      let ov ← attributeBase (.Call (.Name "super" p0) [] [] p1) "__init__" env (eval (.Call (.Name "super" p0) [] [] p1) env)
      standAt p2.atName
      let (f, first) ← holding [ov] (getMethod ov "__init__" pl)
      callWith p4 f first (backTo p4 (starEach [.Constant (.str msg) j p3] env)) [])
  args : ∃ ar, ((defArgs st).posonlyargs ++ (defArgs st).args).head? = some ar ∧ ar.arg = "self"
  sc : NdefX.NScope ["self", prm, "__class__"] ["self", prm] ["__class__"] (defScope st)
  sup : (defScope st).names.lookup ("super" : Str) = some .globalImplicit
  d1 : (prm == ("__debug__" : Str)) = false
  d2 : (prm == ("__classdict__" : Str)) = false
theorem super_ok {P : Program} {w : World} {K : PySem.W.Frag} {mg : Str → Option Value} {base : Heap} {qual prm fld msg : Str} {st : Stmt} {C f : Addr} {fd : FuncData} {k : Nat} (T : OexC K C) (G : SupF P K qual st C f fd) (S : SupT st prm fld msg) (hno : PySem.W.findIn K (.ref C) fld = some none)
    (hmg : mg "super" = none) : FnOk P w K mg base (L2.CX P w) (k + 1) f fd ["self", prm] (spXI C fld) := by
  obtain ⟨oc, od, kV, doc, pm, an, cda, cc, ct, osl, rfl, lk, hcd, ⟨ccl, cdd, vs2, ccs, file, tf, hcode, hvs, hfile⟩, cl, cld, csl, hcell⟩ := G.ex
  obtain ⟨p0, p1, p2, j, p3, p4, p5, p6, p7, p8, p9, hbody, hev⟩ := S.body
  obtain ⟨ar, har, hself⟩ := S.args
  refine ⟨fun vs H Q E q => by obtain ⟨_, _, rfl, _⟩ := q; rfl, fun A outer s H args us vs Q E hr e0 hb r hsp => ?_⟩
  obtain ⟨p, y, rfl, hp, kont⟩ := hsp
  have KX : K.In s.heap := e0.mod.kin.keeps fun b o e => (e0.bs b o e).1
  have lim : s.heap.NoLimit := e0.mod.nolimit.keeps fun b o e => (e0.bs b o e).1
  cases r with
  | @cons _ u1 _ ur ra rr =>
  cases rr with
  | @cons _ u2 _ ur2 rb rr =>
  cases rr
  obtain rfl : u1 = Value.ref p := ra
  refine PySem.ks_codeAny_call_defAt hr.depth (KX _ _ lk) rfl lim (PySem.W.codeRec_of KX hcd) rfl hb S.sc.nocell (fun z hz => S.sc.par _ (List.of_mem_zip hz).1) (fun h1 hns kp => ?_) S.sc.co S.sc.gen S.sc.kind
  -- the frame as a state
  have cb := e0.bs cc _ (e0.mod.kin _ _ hcell)
  have hcl : ∀ y c, ([("__class__", cc)] : List (Str × Addr)).lookup y = some c → c = cc := fun y c z => by
    simp only [List.lookup] at z
    split at z
    · cases z; rfl
    · cases z
  have hcl1 : ∀ y c, ([("__class__", cc)] : List (Str × Addr)).lookup y = some c → y = "__class__" := fun y c z => by
    simp only [List.lookup] at z
    split at z
    · rename_i h; exact beq_iff_eq.mp h
    · cases z
  have CA : NdefX.CellsAt [("__class__", cc)] ["__class__"] [some (.ref C)] s.heap H := by
    refine ⟨rfl, fun y c z => ?_, fun x y c h1 h2 => (hcl1 x c h1).trans (hcl1 y c h2).symm, fun i y hi => ?_⟩
    · rw [hcl y c z]; exact ⟨cb.2, _, _, cb.1, rfl⟩
    · match i, hi with
      | 0, hi =>
        cases hi
        refine ⟨cc, rfl, fun v hv => ?_⟩
        cases hv
        exact ⟨.ref C, rfl, _, cb.1, rfl⟩
  have I0 := NdefX.inv_startN (CX := L2.CX P w) (f := f) (F := ⟨"__init__", qual, defArgs st, defBody st, defScope st, [("__class__", cc)], cda⟩) (E := E) (tk := s.toks + ((["self", prm] : List Str).zip [Value.ref p, u2]).length) (vs := [.ref p, y]) S.sc hr.hd e0 rfl (.cons (show RelV (.ref p) (.ref p) from rfl) (.cons rb .nil)) CA hns kp
  have K1 : K.In h1 := fun a o e => kp a o (KX a o e)
  obtain ⟨nm, q, Nn, bs, bm, sn, sub, ab, col, dd, k0, k1, k2, k3, k5, hC, hbm⟩ := id T.cls
  have hcd2 : PySem.W.clsIn K C = some { name := nm, bases := bs, mro := .ref C :: bm, ns := Nn, qualname := q, hasDict := true, slotNames := sn, subclasses := sub, abstract := ab, collection := col, hasDel := false } := by unfold PySem.W.clsIn; rw [hC] <;> rfl
  obtain ⟨t1, hx⟩ := exo_at I0.hok hp
  have IA : PySem.W.InstAt h1 p { cls := .ref C, dict := none, data := .fields #[.ref t1, .none, .none, .none, .bool false, .none] } C none := ⟨hx, rfl, rfl, trivial⟩
  have nd := S.sc.nd
  have hself2 : ((["self", prm] : List Str).zip [Value.ref p, u2]).reverse.lookup ("self" : Str) = some (Value.ref p) := NdefX.zip_look (i := 0) (by
    have := nd; simp only [List.nodup_cons, List.mem_cons, not_or] at this ⊢; simp [this]) rfl rfl
  have hks : (defScope st).names.lookup ("self" : Str) = some .local := S.sc.par _ (by simp)
  have hkc : (defScope st).names.lookup ("__class__" : Str) = some .free := S.sc.frk _ (by simp)
  have fin : ∀ {σ' : St} {H' : Hp} {s' : Shared}, Inv (NdefX.ncx (L2.CX P w) P w K mg base (["self", prm, "__class__"] : List Str) ⟨"__init__", qual, defArgs st, defBody st, defScope st, [("__class__", cc)], cda⟩ f A outer s H E) [] σ' H' s' → Q .non H' → CE outer P w H s Q .none s' :=
    fun {σ' H' s'} J q => ⟨.non, H', J.os, J.bare, J.base, J.hok, rfl, q⟩
  show PySem.wpAt _ _ (.func (defBody st) _) (execs (defBody st) _) _ _ _
  rw [hbody]
  obtain ⟨pl, hev⟩ := hev (NdefX.envF ⟨"__init__", qual, defArgs st, defBody st, defScope st, [("__class__", cc)], cda⟩ f s.heap.objs.size)
  have hint : interactive (NdefX.envF ⟨"__init__", qual, defArgs st, defBody st, defScope st, [("__class__", cc)], cda⟩ f s.heap.objs.size) = false := by
    unfold interactive
    rw [show (NdefX.envF ⟨"__init__", qual, defArgs st, defBody st, defScope st, [("__class__", cc)], cda⟩ f s.heap.objs.size).scope.kind = .function from S.sc.kind]
    rfl
  refine PySem.ks_wpAt_execs_cons (PySem.ks_wpAt_Expr_any (PySem.ks_wpAt_MethodCall (PySem.ks_wpAt_super_base S.sup hkc (by decide) rfl (K1 _ _ lk) rfl har rfl (K1 _ _ hcode) rfl hvs hfile G.top ?_) hev) hint)
  obtain ⟨mb, b1, b2⟩ := I0.mod.blt
  refine PySem.W.ks_loadName_global S.sc.kind S.sup (Calls.loadGlobal_builtin (I0.mod.glob.keeps I0.bk) hmg (b1.keeps I0.bk) ((b2 "super" (by decide)).trans (by decide +kernel)) ⟨rfl, ?_⟩)
  refine wpAny_loadName_free S.sc.kind hkc rfl ⟨_, kp _ _ cb.1, rfl⟩ ?_
  rw [hself]
  refine wpAny_loadName_local S.sc.kind hks hns hself2 (PySem.ks_wpAny_isType_cls (K1 _ _ hC) rfl ⟨rfl, ?_⟩)
  refine PySem.ks_wpAny_call_super (K1 _ _ hC) rfl hx rfl (fun c e => by cases e) (PySem.W.looks_mroIn K1 G.own) fun h2 hso kp2 => ?_
  -- the method, bound
  have K2 : K.In h2 := fun a o e => kp2 a o (K1 a o e)
  have IA2 : PySem.W.InstAt h2 p { cls := .ref C, dict := none, data := .fields #[.ref t1, .none, .none, .none, .bool false, .none] } C none := ⟨kp2 _ _ hx, rfl, rfl, trivial⟩
  have hsup := G.sup
  unfold ks_superIn at hsup
  rw [hcd2] at hsup
  refine PySem.W.kxs_getMethod PySem.W.kxs_ValueError hso (PySem.W.looks_opaque K2 G.op) (l₀ := .ref C :: bm) (fun A Q E s k q => wpAny_bind ((PySem.W.looks_clsIn K2 hcd2) A _ E s k (wpAny_pure q))) rfl K2 hsup (IA2.type.andThen (PySem.W.looks_subIn K2 G.sub)) (PySem.W.ks_ne K2 IA2 hcd2) (by decide) ?_
  have K3 : K.In (h2.push (kxs_mw "ValueError.__init__" p)) := fun a o e => Heap.get?_push_of_some _ (K2 a o e)
  refine PySem.W.kxs_callWith (i := "ValueError.__init__") (x := p) (by rfl) (Calls.evalArgs_plain (Calls.spliced_cons (Calls.Constant_str (pos := p3) (k := j) (Calls.spliced_nil ⟨Heap.get?_push_size _ rfl, ?_⟩))))
  refine call_mw (t := t1) T K3 (Heap.get?_push_size _ rfl) (Heap.get?_push_of_some _ (kp2 _ _ hx)) (show 1 ≤ sizeLine by decide) fun h4 t4 kp4 hx4 => ?_
  -- back to a state
  have I4 : Inv (NdefX.ncx (L2.CX P w) P w K mg base (["self", prm, "__class__"] : List Str) ⟨"__init__", qual, defArgs st, defBody st, defScope st, [("__class__", cc)], cda⟩ f A outer s H E) [] (NdefX.startF (["self", prm, "__class__"] : List Str) [.ref p, y] [some (.ref C)]) H { s with heap := h4, toks := s.toks + ((["self", prm] : List Str).zip [Value.ref p, u2]).length + 1 + 1 } := by
    have J := I0.write (t' := s.toks + ((["self", prm] : List Str).zip [Value.ref p, u2]).length + 1 + 1) (x := p) (e := p) (o := exo p C none) (h' := h4) (by rw [hp]; exact True.intro) (.inl rfl) (fun b o hb e => kp4 b o hb (Heap.get?_push_of_some _ (kp2 b o e))) ⟨_, hx4⟩ (exo_ok hx4)
    have e : upd H p (exo p C none) = H := by
      funext b
      by_cases hb : b = p
      · rw [hb, upd_same, hp]
      · rw [upd_ne hb]
    rwa [e] at J
  have ev1 : PE (NdefX.ncx (L2.CX P w) P w K mg base (["self", prm, "__class__"] : List Str) ⟨"__init__", qual, defArgs st, defBody st, defScope st, [("__class__", cc)], cda⟩ f A outer s H E) (.Name prm p8) (tVar 1) := pe_var rfl (.inl (S.sc.par _ (by simp))) S.d1 S.d2
  have ev0 : PE (NdefX.ncx (L2.CX P w) P w K mg base (["self", prm, "__class__"] : List Str) ⟨"__init__", qual, defArgs st, defBody st, defScope st, [("__class__", cc)], cda⟩ f A outer s H E) (.Name "self" p6) (tVar 0) := pe_var rfl (.inl hks) (by decide) (by decide)
  refine PySem.ks_wpAt_execs_cons (PySem.ks_wpAt_Assign_Attr (wpAt_of_wpAny ?_))
  refine wpAny_mono (ev1.run [] _ _ _ (fun v H' => v = y ∧ H' = H) I4 ⟨y, rfl, rfl, rfl⟩) (fun v s5 h5 => ?_) fun e s' he => he
  obtain ⟨y5, H5, I5, r5, rfl, rfl⟩ := h5
  refine wpAny_mono (ev0.run [] _ _ _ (fun v H' => v = .ref p ∧ H' = H5) I5 ⟨.ref p, rfl, rfl, rfl⟩) (fun v2 s6 h6 => ?_) fun e s' he => he
  obtain ⟨y6, H6, I6, r6, rfl, rfl⟩ := h6
  obtain rfl : v2 = Value.ref p := r6
  refine ost_new T I6 hp hno r5 fun dx s7 nd nx I7 => ?_
  show PySem.wpAt _ _ _ (execs [] _) _ _ s7
  rw [execs_nil]
  exact wpAt_of_wpAny (wpAny_pure (fin I7 (kont dx nd nx)))
end Dn

set_option Elab.async false
set_option linter.all false
set_option maxRecDepth 100000
/-! Dn1: plain data over the hand layer: data D, owned trees T, the readings tD, tDT, tDA, tDS. -/
namespace Dn
open PySem PySem.Spec L2
open PyProof.Rows hiding St

/-- plain data: what stands still -/
inductive D where
  | non | bl (b : Bool) | int (i : Int) | str (x : Str)
  | lst (xs : List D) | tup (xs : List D) | scr (ns : List Int) | kt (xs : List V)
  | dk (kvs : List (Key × D)) | dt (kvs : List (List Key × D))

/-- an exception: its class by name, its fields -/
structure Ex where
  cls : Str
  fs : List (Str × D)

mutual
def Rep (K : PySem.W.Frag) (Z : Hp) : D → V → Prop
  | .non, v => v = .non
  | .bl b, v => v = .bl b
  | .int i, v => v = .int i
  | .str x, v => v = .str x
  | .lst ds, v => ∃ a vs, v = .ref a ∧ Z a = some (.lst vs) ∧ Reps K Z ds vs
  | .scr ns, v => ∃ a, v = .ref a ∧ SqL K Z a (ns.map V.int)
  | .tup ds, v => ∃ a vs, v = .ref a ∧ Z a = some (.tup vs) ∧ Reps K Z ds vs
  | .kt vs, v => ∃ a, v = .ref a ∧ SqT K Z a vs
  | .dk kvs, v => ∃ a ws, v = .ref a ∧ Z a = some (.dK ws) ∧ RepK K Z kvs ws
  | .dt kvs, v => ∃ a ws, v = .ref a ∧ Z a = some (.dT ws) ∧ RepKT K Z kvs ws
def Reps (K : PySem.W.Frag) (Z : Hp) : List D → List V → Prop
  | [], vs => vs = []
  | d :: ds, vs => ∃ v r, vs = v :: r ∧ Rep K Z d v ∧ Reps K Z ds r
def RepK (K : PySem.W.Frag) (Z : Hp) : List (Key × D) → List (Key × V) → Prop
  | [], ws => ws = []
  | (k, d) :: r, ws => ∃ v s, ws = (k, v) :: s ∧ Rep K Z d v ∧ RepK K Z r s
def RepKT (K : PySem.W.Frag) (Z : Hp) : List (List Key × D) → List (List Key × V) → Prop
  | [], ws => ws = []
  | (k, d) :: r, ws => ∃ v s, ws = (k, v) :: s ∧ Rep K Z d v ∧ RepKT K Z r s
end

/-- Z' knows what Z knows -/
def Zle (Z Z' : Hp) : Prop := ∀ a o, Z a = some o → Z' a = some o
theorem Zle.refl (Z : Hp) : Zle Z Z := fun _ _ h => h
theorem Zle.trans {Z Z1 Z2 : Hp} (a : Zle Z Z1) (b : Zle Z1 Z2) : Zle Z Z2 := fun c o h => b c o (a c o h)
theorem Zle.sqL {K : PySem.W.Frag} {Z Z' : Hp} {a : Addr} {xs : List V} (e : Zle Z Z') (h : SqL K Z a xs) : SqL K Z' a xs := Same.seq e h
theorem Zle.sqT {K : PySem.W.Frag} {Z Z' : Hp} {a : Addr} {xs : List V} (e : Zle Z Z') (h : SqT K Z a xs) : SqT K Z' a xs := by
  rcases h with (h | ⟨o, h⟩) | h
  · exact .inl (.inl (e _ _ h))
  · exact .inl (.inr ⟨o, e _ _ h⟩)
  · exact .inr h

mutual
theorem Rep.mono {K : PySem.W.Frag} {Z Z' : Hp} (e : Zle Z Z') : ∀ (d : D) (v : V), Rep K Z d v → Rep K Z' d v
  | .non, v => fun h => h
  | .bl b, v => fun h => h
  | .int i, v => fun h => h
  | .str x, v => fun h => h
  | .lst ds, v => fun h => by
    obtain ⟨a, vs, h1, h2, h3⟩ := h
    exact ⟨a, vs, h1, e _ _ h2, Reps.mono e ds vs h3⟩
  | .scr ns, v => fun h => by
    obtain ⟨a, h1, h2⟩ := h
    exact ⟨a, h1, e.sqL h2⟩
  | .tup ds, v => fun h => by
    obtain ⟨a, vs, h1, h2, h3⟩ := h
    exact ⟨a, vs, h1, e _ _ h2, Reps.mono e ds vs h3⟩
  | .kt vs, v => fun h => by
    obtain ⟨a, h1, h2⟩ := h
    exact ⟨a, h1, e.sqT h2⟩
  | .dk kvs, v => fun h => by
    obtain ⟨a, vs, h1, h2, h3⟩ := h
    exact ⟨a, vs, h1, e _ _ h2, RepK.mono e kvs vs h3⟩
  | .dt kvs, v => fun h => by
    obtain ⟨a, vs, h1, h2, h3⟩ := h
    exact ⟨a, vs, h1, e _ _ h2, RepKT.mono e kvs vs h3⟩
theorem Reps.mono {K : PySem.W.Frag} {Z Z' : Hp} (e : Zle Z Z') : ∀ (ds : List D) (vs : List V), Reps K Z ds vs → Reps K Z' ds vs
  | [], vs => fun h => h
  | d :: ds, vs => fun h => by
    obtain ⟨v, r, h1, h2, h3⟩ := h
    exact ⟨v, r, h1, Rep.mono e d v h2, Reps.mono e ds r h3⟩
theorem RepK.mono {K : PySem.W.Frag} {Z Z' : Hp} (e : Zle Z Z') : ∀ (ds : List (Key × D)) (vs : List (Key × V)), RepK K Z ds vs → RepK K Z' ds vs
  | [], vs => fun h => h
  | (k, d) :: ds, vs => fun h => by
    obtain ⟨v, r, h1, h2, h3⟩ := h
    exact ⟨v, r, h1, Rep.mono e d v h2, RepK.mono e ds r h3⟩
theorem RepKT.mono {K : PySem.W.Frag} {Z Z' : Hp} (e : Zle Z Z') : ∀ (ds : List (List Key × D)) (vs : List (List Key × V)), RepKT K Z ds vs → RepKT K Z' ds vs
  | [], vs => fun h => h
  | (k, d) :: ds, vs => fun h => by
    obtain ⟨v, r, h1, h2, h3⟩ := h
    exact ⟨v, r, h1, Rep.mono e d v h2, RepKT.mono e ds r h3⟩
end

/-- owned: what one name alone holds, or data -/
inductive T where
  | fz (d : D) | ol (ds : List D) | od (kvs : List (Key × D)) | odt (kvs : List (List Key × D))
def T.d : T → D
  | .fz d => d | .ol ds => .lst ds | .od kvs => .dk kvs | .odt kvs => .dt kvs

def IsDc : HO → Prop
  | .dK _ => True | .dT _ => True | _ => False
/-- Z is a part of H that stands still (a dict may be locked) -/
def ZOk (Z H : Hp) : Prop := ∀ a o, Z a = some o → H a = some o ∨ (IsDc o ∧ ∃ ob, H a = some (.frz ob o))
theorem ZOk.lst {Z H : Hp} (h : ZOk Z H) {a : Addr} {xs : List V} (e : Z a = some (.lst xs)) : H a = some (.lst xs) := by
  rcases h a _ e with h | ⟨m, _⟩
  · exact h
  · exact m.elim
theorem ZOk.tup {Z H : Hp} (h : ZOk Z H) {a : Addr} {xs : List V} (e : Z a = some (.tup xs)) : H a = some (.tup xs) := by
  rcases h a _ e with h | ⟨m, _⟩
  · exact h
  · exact m.elim
theorem ZOk.some {Z H : Hp} (h : ZOk Z H) {a : Addr} {o : HO} (e : Z a = some o) : H a ≠ none := by
  rcases h a o e with h | ⟨_, ob, h⟩ <;> rw [h] <;> simp
theorem ZOk.none {Z H : Hp} (h : ZOk Z H) {a : Addr} (e : H a = none) : Z a = none := by
  cases q : Z a with
  | none => rfl
  | some o => exact absurd e (h.some q)
theorem ZOk.rd {Z H : Hp} (h : ZOk Z H) {a : Addr} {o : HO} (r : Rd Z a o) : Rd H a o := by
  rcases r with r | ⟨ob, r⟩
  · rcases h a o r with h | ⟨_, ob, h⟩
    · exact .inl h
    · exact .inr ⟨ob, h⟩
  · rcases h a _ r with h | ⟨m, _⟩
    · exact .inr ⟨ob, h⟩
    · exact m.elim
theorem ZOk.sqL {K : PySem.W.Frag} {Z H : Hp} {a : Addr} {xs : List V} (e : ZOk Z H) (h : SqL K Z a xs) : SqL K H a xs := by
  rcases h with h | h
  · exact .inl (e.rd h)
  · exact .inr h
theorem ZOk.sqT {K : PySem.W.Frag} {Z H : Hp} {a : Addr} {xs : List V} (e : ZOk Z H) (h : SqT K Z a xs) : SqT K H a xs := by
  rcases h with h | h
  · exact .inl (e.rd h)
  · exact .inr h

def RepT (K : PySem.W.Frag) (H Z : Hp) : T → V → List Addr → Prop
  | .fz d, v, fp => fp = [] ∧ Rep K Z d v
  | .ol ds, v, fp => ∃ a vs, v = .ref a ∧ fp = [a] ∧ H a = some (.lst vs) ∧ Z a = none ∧ Reps K Z ds vs
  | .od kvs, v, fp => ∃ a ws, v = .ref a ∧ fp = [a] ∧ H a = some (.dK ws) ∧ Z a = none ∧ RepK K Z kvs ws
  | .odt kvs, v, fp => ∃ a ws, v = .ref a ∧ fp = [a] ∧ H a = some (.dT ws) ∧ Z a = none ∧ RepKT K Z kvs ws

/-- from (H, Z) to (H', Z'): only what lies in A may have changed, new things may have come -/
structure Step (A : Addr → Prop) (H Z H' Z' : Hp) : Prop where
  zle : Zle Z Z'
  keep : ∀ a, ¬ A a → H a ≠ none → H' a = H a ∧ (Z a = none → (∀ xs, H a ≠ some (.tup xs)) → Z' a = none)
  live : ∀ a, H a ≠ none → H' a ≠ none
abbrev NoA : Addr → Prop := fun _ => False
theorem Step.refl {A : Addr → Prop} {H Z : Hp} : Step A H Z H Z := ⟨.refl _, fun _ _ _ => ⟨rfl, fun h _ => h⟩, fun _ h => h⟩
theorem Step.trans {A A1 : Addr → Prop} {H Z H1 Z1 H2 Z2 : Hp} (s : Step A H Z H1 Z1) (t : Step A1 H1 Z1 H2 Z2) (n : ∀ a, A1 a → A a ∨ H a = none) : Step A H Z H2 Z2 := by
  refine ⟨s.zle.trans t.zle, fun a ha hn => ?_, fun a h => t.live a (s.live a h)⟩
  obtain ⟨e1, e2⟩ := s.keep a ha hn
  have h1 : ¬ A1 a := fun z => (n a z).elim ha hn
  obtain ⟨e3, e4⟩ := t.keep a h1 (s.live a hn)
  exact ⟨e3.trans e1, fun z h => e4 (e2 z h) (fun xs => by rw [e1]; exact h xs)⟩
theorem Step.mono {A A' : Addr → Prop} {H Z H1 Z1 : Hp} (s : Step A H Z H1 Z1) (h : ∀ a, A a → A' a) : Step A' H Z H1 Z1 :=
  ⟨s.zle, fun a ha hn => s.keep a (fun z => ha (h a z)) hn, s.live⟩

theorem RepT.keep {K : PySem.W.Frag} {H Z H' Z' : Hp} {A : Addr → Prop} (s : Step A H Z H' Z') : ∀ {t : T} {v : V} {fp : List Addr}, RepT K H Z t v fp → (∀ a ∈ fp, ¬ A a) → RepT K H' Z' t v fp
  | .fz d, v, fp, h, _ => ⟨h.1, Rep.mono s.zle d v h.2⟩
  | .ol ds, v, fp, h, hn => by
    obtain ⟨a, vs, h1, rfl, h3, h4, h5⟩ := h
    obtain ⟨k1, k2⟩ := s.keep a (hn a (by simp)) (by rw [h3]; simp)
    exact ⟨a, vs, h1, rfl, k1.trans h3, k2 h4 (by rw [h3]; simp), Reps.mono s.zle _ _ h5⟩
  | .od ds, v, fp, h, hn => by
    obtain ⟨a, vs, h1, rfl, h3, h4, h5⟩ := h
    obtain ⟨k1, k2⟩ := s.keep a (hn a (by simp)) (by rw [h3]; simp)
    exact ⟨a, vs, h1, rfl, k1.trans h3, k2 h4 (by rw [h3]; simp), RepK.mono s.zle _ _ h5⟩
  | .odt ds, v, fp, h, hn => by
    obtain ⟨a, vs, h1, rfl, h3, h4, h5⟩ := h
    obtain ⟨k1, k2⟩ := s.keep a (hn a (by simp)) (by rw [h3]; simp)
    exact ⟨a, vs, h1, rfl, k1.trans h3, k2 h4 (by rw [h3]; simp), RepKT.mono s.zle _ _ h5⟩
theorem RepT.live {K : PySem.W.Frag} {H Z : Hp} : ∀ {t : T} {v : V} {fp : List Addr}, RepT K H Z t v fp → ∀ a ∈ fp, H a ≠ none ∧ Z a = none
  | .fz d, v, fp, h, a, ha => by rw [h.1] at ha; simp at ha
  | .ol ds, v, fp, h, b, hb => by
    obtain ⟨a, vs, h1, rfl, h3, h4, h5⟩ := h
    rw [List.mem_singleton.mp hb, h3]; exact ⟨by simp, h4⟩
  | .od ds, v, fp, h, b, hb => by
    obtain ⟨a, vs, h1, rfl, h3, h4, h5⟩ := h
    rw [List.mem_singleton.mp hb, h3]; exact ⟨by simp, h4⟩
  | .odt ds, v, fp, h, b, hb => by
    obtain ⟨a, vs, h1, rfl, h3, h4, h5⟩ := h
    rw [List.mem_singleton.mp hb, h3]; exact ⟨by simp, h4⟩

/-- an address is laid down into Z -/
def zput (Z : Hp) (a : Addr) (o : HO) : Hp := upd Z a o
theorem zle_put {Z : Hp} {a : Addr} {o : HO} (h : Z a = none) : Zle Z (upd Z a o) := fun b u e => by
  rw [upd_ne (ne_of_none e h)]; exact e
theorem zok_put {Z H : Hp} {a : Addr} {o : HO} (h : ZOk Z H) (e : H a = some o) : ZOk (upd Z a o) H := fun b u q => by
  by_cases hb : b = a
  · subst hb; rw [upd_same] at q; cases q; exact .inl e
  · rw [upd_ne hb] at q; exact h b u q
theorem step_put {Z H : Hp} {a : Addr} {o : HO} {A : Addr → Prop} (h : Z a = none) (ha : A a) : Step A H Z H (upd Z a o) :=
  ⟨zle_put h, fun b hb _ => ⟨rfl, fun hz _ => by rw [upd_ne fun (z : b = a) => hb (by rw [z]; exact ha)]; exact hz⟩, fun _ h => h⟩
/-- a tuple that is tracked is known from now on -/
theorem step_tup {Z H : Hp} {a : Addr} {xs : List V} {A : Addr → Prop} (h : Z a = none) (e : H a = some (.tup xs)) : Step A H Z H (upd Z a (.tup xs)) :=
  ⟨zle_put h, fun b _ _ => ⟨rfl, fun hz hn => by rw [upd_ne fun z => hn xs (by rw [z]; exact e)]; exact hz⟩, fun _ h => h⟩
/-- what was owned is let stand still -/
theorem RepT.freeze {K : PySem.W.Frag} {H Z : Hp} (z : ZOk Z H) : ∀ {t : T} {v : V} {fp : List Addr}, RepT K H Z t v fp → ∃ Z', Rep K Z' t.d v ∧ ZOk Z' H ∧ Step (fun a => a ∈ fp) H Z H Z'
  | .fz d, v, fp, h => ⟨Z, h.2, z, .refl⟩
  | .ol ds, v, fp, h => by
    obtain ⟨a, vs, rfl, rfl, h3, h4, h5⟩ := h
    exact ⟨upd Z a (.lst vs), ⟨a, vs, rfl, upd_same, Reps.mono (zle_put h4) _ _ h5⟩, zok_put z h3, step_put h4 (by simp)⟩
  | .od ds, v, fp, h => by
    obtain ⟨a, vs, rfl, rfl, h3, h4, h5⟩ := h
    exact ⟨upd Z a (.dK vs), ⟨a, vs, rfl, upd_same, RepK.mono (zle_put h4) _ _ h5⟩, zok_put z h3, step_put h4 (by simp)⟩
  | .odt ds, v, fp, h => by
    obtain ⟨a, vs, rfl, rfl, h3, h4, h5⟩ := h
    exact ⟨upd Z a (.dT vs), ⟨a, vs, rfl, upd_same, RepKT.mono (zle_put h4) _ _ h5⟩, zok_put z h3, step_put h4 (by simp)⟩

/-! ### environments -/
abbrev Env := List (Option T)
abbrev Fp := Nat → List Addr
def FpA (fp : Fp) : Addr → Prop := fun a => ∃ i, a ∈ fp i
structure EnvOk (K : PySem.W.Frag) (ρ : Env) (σ : St) (H Z : Hp) (fp : Fp) : Prop where
  zok : ZOk Z H
  len : ρ.length = σ.length
  at_ : ∀ i t, ρ[i]? = some (some t) → ∃ v, σ[i]? = some (some v) ∧ RepT K H Z t v (fp i)
  emp : ∀ i, (∀ t, ρ[i]? ≠ some (some t)) → fp i = []
  dis : ∀ i j a, i ≠ j → a ∈ fp i → a ∉ fp j
theorem EnvOk.live {K : PySem.W.Frag} {ρ : Env} {σ : St} {H Z : Hp} {fp : Fp} (E : EnvOk K ρ σ H Z fp) {a : Addr} (h : FpA fp a) : H a ≠ none ∧ Z a = none := by
  obtain ⟨i, hi⟩ := h
  by_cases c : ∃ t, ρ[i]? = some (some t)
  · obtain ⟨t, ht⟩ := c
    obtain ⟨v, _, r⟩ := E.at_ i t ht
    exact r.live a hi
  · rw [E.emp i fun t z => c ⟨t, z⟩] at hi; simp at hi
theorem EnvOk.keep {K : PySem.W.Frag} {ρ : Env} {σ : St} {H Z H' Z' : Hp} {fp : Fp} {A : Addr → Prop} (E : EnvOk K ρ σ H Z fp) (s : Step A H Z H' Z') (n : ∀ a, FpA fp a → ¬ A a) (z : ZOk Z' H') : EnvOk K ρ σ H' Z' fp := by
  refine ⟨z, E.len, fun i t h => ?_, E.emp, E.dis⟩
  obtain ⟨v, h1, h2⟩ := E.at_ i t h
  exact ⟨v, h1, h2.keep s fun a ha => n a ⟨i, ha⟩⟩
def fset (fp : Fp) (i : Nat) (l : List Addr) : Fp := fun j => if j = i then l else fp j
theorem fset_same {fp : Fp} {i : Nat} {l : List Addr} : fset fp i l i = l := by unfold fset; rw [if_pos rfl]
theorem fset_ne {fp : Fp} {i j : Nat} {l : List Addr} (h : j ≠ i) : fset fp i l j = fp j := by unfold fset; rw [if_neg h]
theorem fset_A {fp : Fp} {i : Nat} {l : List Addr} {a : Addr} (h : FpA (fset fp i l) a) : a ∈ l ∨ FpA fp a := by
  obtain ⟨j, hj⟩ := h
  by_cases e : j = i
  · subst e; rw [fset_same] at hj; exact .inl hj
  · rw [fset_ne e] at hj; exact .inr ⟨j, hj⟩
/-- a slot gets another thing -/
theorem EnvOk.set {K : PySem.W.Frag} {ρ : Env} {σ : St} {H Z : Hp} {fp : Fp} (E : EnvOk K ρ σ H Z fp) {i : Nat} {t : T} {v : V} {l : List Addr} (r : RepT K H Z t v l) (d : ∀ a ∈ l, ∀ j, j ≠ i → a ∉ fp j) (hi : i < ρ.length) :
    EnvOk K (ρ.set i (some t)) (σ.set i (some v)) H Z (fset fp i l) := by
  have hi' : i < σ.length := by rw [← E.len]; exact hi
  refine ⟨E.zok, by simp [E.len], fun j u h => ?_, fun j h => ?_, fun j k a hjk hj hk => ?_⟩
  · by_cases e : j = i
    · subst e
      rw [List.getElem?_set_self hi] at h
      cases h
      exact ⟨v, by rw [List.getElem?_set_self hi'], by rw [fset_same]; exact r⟩
    · rw [List.getElem?_set_ne (Ne.symm e)] at h
      obtain ⟨w, h1, h2⟩ := E.at_ j u h
      exact ⟨w, by rw [List.getElem?_set_ne (Ne.symm e)]; exact h1, by rw [fset_ne e]; exact h2⟩
  · by_cases e : j = i
    · subst e
      exact absurd (by rw [List.getElem?_set_self hi]) (h t)
    · rw [fset_ne e]
      exact E.emp j fun u z => h u (by rw [List.getElem?_set_ne (Ne.symm e)]; exact z)
  · by_cases e : j = i
    · subst e
      rw [fset_same] at hj
      rw [fset_ne (Ne.symm hjk)] at hk
      exact d a hj k (Ne.symm hjk) hk
    · rw [fset_ne e] at hj
      by_cases e' : k = i
      · subst e'
        rw [fset_same] at hk
        exact d a hk j e hj
      · rw [fset_ne e'] at hk
        exact E.dis j k a hjk hj hk
/-- the same slot's value, another way to hold it -/
theorem EnvOk.set' {K : PySem.W.Frag} {ρ : Env} {σ : St} {H Z : Hp} {fp : Fp} (E : EnvOk K ρ σ H Z fp) {i : Nat} {t : T} {v : V} {l : List Addr} (hσ : σ[i]? = some (some v)) (r : RepT K H Z t v l) (d : ∀ a ∈ l, ∀ j, j ≠ i → a ∉ fp j) :
    EnvOk K (ρ.set i (some t)) σ H Z (fset fp i l) := by
  have hl : i < σ.length := (List.getElem?_eq_some_iff.mp hσ).1
  have e := E.set r d (by rw [E.len]; exact hl)
  have : σ.set i (some v) = σ := by
    apply List.ext_getElem?
    intro j
    by_cases hj : j = i
    · subst hj; rw [List.getElem?_set_self hl, hσ]
    · rw [List.getElem?_set_ne (Ne.symm hj)]
  rwa [this] at e
/-- a slot is forgotten -/
theorem EnvOk.drop {K : PySem.W.Frag} {ρ : Env} {σ : St} {H Z : Hp} {fp : Fp} (E : EnvOk K ρ σ H Z fp) (i : Nat) : EnvOk K (ρ.set i none) σ H Z (fset fp i []) := by
  refine ⟨E.zok, by simp [E.len], fun j u h => ?_, fun j h => ?_, fun j k a hjk hj hk => ?_⟩
  · by_cases e : j = i
    · subst e
      by_cases hi : j < ρ.length
      · rw [List.getElem?_set_self hi] at h; cases h
      · rw [List.getElem?_eq_none (by simpa using hi)] at h; cases h
    · rw [List.getElem?_set_ne (Ne.symm e)] at h
      rw [fset_ne e]
      exact E.at_ j u h
  · by_cases e : j = i
    · subst e; rw [fset_same]
    · rw [fset_ne e]
      exact E.emp j fun u z => h u (by rw [List.getElem?_set_ne (Ne.symm e)]; exact z)
  · have sub : ∀ j, a ∈ fset fp i [] j → a ∈ fp j := fun j h => by
      by_cases e : j = i
      · subst e; rw [fset_same] at h; simp at h
      · rw [fset_ne e] at h; exact h
    exact E.dis j k a hjk (sub j hj) (sub k hk)

/-! ### outcomes -/
inductive R (β α : Type) where
  | ok (a : α) (b : β) | ex (x : Ex) (b : β) | no
def R.bind {β α γ : Type} (r : R β α) (f : α → β → R β γ) : R β γ := match r with
  | .ok a b => f a b
  | .ex x b => .ex x b
  | .no => .no
abbrev M (α : Type) := Env → R Env α
/-- an exception lies at cls, d -/
def ExOk (mg : Str → Option Value) (K : PySem.W.Frag) (Z : Hp) (x : Ex) (cls : Value) (d : Option Addr) : Prop :=
  ∃ C, mg x.cls = some (.ref C) ∧ cls = .ref C ∧ ∃ a fs, d = some a ∧ Z a = some (.xd fs) ∧ fs.map (·.1) = x.fs.map (·.1) ∧ Reps K Z (x.fs.map (·.2)) (fs.map (·.2))

/-- the wanted end: A may change -/
structure Bk (K : PySem.W.Frag) (A : Addr → Prop) (σ : St) (H Z : Hp) (ρ' : Env) (σ' : St) (H' Z' : Hp) (fp' : Fp) : Prop where
  env : EnvOk K ρ' σ' H' Z' fp'
  step : Step A H Z H' Z'
  new : ∀ a, FpA fp' a → A a ∨ H a = none
def OutE (X : Cx) (A : Addr → Prop) (σ : St) (H Z : Hp) (r : R Env T) (Q : VK) (W : WX) : Prop := match r with
  | .ok t ρ' => ∀ v H' Z' fp' fr, Bk X.K A σ H Z ρ' σ H' Z' fp' → RepT X.K H' Z' t v fr → (∀ a ∈ fr, ¬ FpA fp' a) → (∀ a ∈ fr, A a ∨ H a = none) → Q v H'
  | .ex x ρ' => ∀ cls d H' Z' fp', Bk X.K A σ H Z ρ' σ H' Z' fp' → ExOk X.mg X.K Z' x cls d → W cls d σ H'
  | .no => False
def OutT (X : Cx) (A : Addr → Prop) (σ : St) (H Z : Hp) (r : R Env Bool) (Q : Bool → Hp → Prop) (W : WX) : Prop := match r with
  | .ok b ρ' => ∀ H' Z' fp', Bk X.K A σ H Z ρ' σ H' Z' fp' → Q b H'
  | .ex x ρ' => ∀ cls d H' Z' fp', Bk X.K A σ H Z ρ' σ H' Z' fp' → ExOk X.mg X.K Z' x cls d → W cls d σ H'
  | .no => False
def OutA (X : Cx) (A : Addr → Prop) (σ : St) (H Z : Hp) (r : R Env (List D)) (Q : List V → Hp → Prop) (W : WX) : Prop := match r with
  | .ok ds ρ' => ∀ vs H' Z' fp', Bk X.K A σ H Z ρ' σ H' Z' fp' → Reps X.K Z' ds vs → Q vs H'
  | .ex x ρ' => ∀ cls d H' Z' fp', Bk X.K A σ H Z ρ' σ H' Z' fp' → ExOk X.mg X.K Z' x cls d → W cls d σ H'
  | .no => False
inductive Fl where
  | nx | rt (t : T) | bk | ct
/-- the slots that are never stored to -/
def PinOk (pin : List Nat) (σ σ' : St) : Prop := ∀ i ∈ pin, σ'[i]? = σ[i]?
theorem PinOk.refl {pin : List Nat} {σ : St} : PinOk pin σ σ := fun _ _ => rfl
theorem PinOk.trans {pin : List Nat} {σ σ1 σ2 : St} (a : PinOk pin σ σ1) (b : PinOk pin σ1 σ2) : PinOk pin σ σ2 := fun i h => (b i h).trans (a i h)
def OutS (X : Cx) (pin : List Nat) (A : Addr → Prop) (σ : St) (H Z : Hp) (r : R Env Fl) (D : Ends) (W : WX) : Prop := match r with
  | .ok .nx ρ' => ∀ σ' H' Z' fp', Bk X.K A σ H Z ρ' σ' H' Z' fp' → PinOk pin σ σ' → D.nx σ' H'
  | .ok .bk ρ' => ∀ σ' H' Z' fp', Bk X.K A σ H Z ρ' σ' H' Z' fp' → PinOk pin σ σ' → D.bk σ' H'
  | .ok .ct ρ' => ∀ σ' H' Z' fp', Bk X.K A σ H Z ρ' σ' H' Z' fp' → PinOk pin σ σ' → D.ct σ' H'
  | .ok (.rt t) ρ' => ∀ v σ' H' Z' fp' fr, Bk X.K A σ H Z ρ' σ' H' Z' fp' → PinOk pin σ σ' → RepT X.K H' Z' t v fr → (∀ a ∈ fr, ¬ FpA fp' a) → (∀ a ∈ fr, A a ∨ H a = none) → D.rt v H'
  | .ex x ρ' => ∀ cls d σ' H' Z' fp', Bk X.K A σ H Z ρ' σ' H' Z' fp' → PinOk pin σ σ' → ExOk X.mg X.K Z' x cls d → W cls d σ' H'
  | .no => False
theorem Bk.first {K : PySem.W.Frag} {A A1 : Addr → Prop} {σ σ1 : St} {H Z H1 Z1 : Hp} {ρ' : Env} {σ' : St} {H' Z' : Hp} {fp' : Fp} (s : Step A H Z H1 Z1) (n : ∀ a, A1 a → A a ∨ H a = none) (b : Bk K A1 σ1 H1 Z1 ρ' σ' H' Z' fp') : Bk K A σ H Z ρ' σ' H' Z' fp' := by
  refine ⟨b.env, s.trans b.step n, fun a ha => ?_⟩
  rcases b.new a ha with z | z
  · exact n a z
  · exact .inr (by
      cases q : H a with
      | none => rfl
      | some o => exact absurd z (s.live a (by rw [q]; simp)))
theorem new_first {A A1 : Addr → Prop} {H Z H1 Z1 : Hp} (s : Step A H Z H1 Z1) (n : ∀ a, A1 a → A a ∨ H a = none) {a : Addr} (h : A1 a ∨ H1 a = none) : A a ∨ H a = none := by
  rcases h with z | z
  · exact n a z
  · exact .inr (by
      cases q : H a with
      | none => rfl
      | some o => exact absurd z (s.live a (by rw [q]; simp)))
section
variable {X : Cx} {A A1 : Addr → Prop} {σ : St} {H Z H1 Z1 : Hp} {W : WX}
theorem OutE.first {r : R Env T} {Q : VK} (o : OutE X A σ H Z r Q W) (s : Step A H Z H1 Z1) (n : ∀ a, A1 a → A a ∨ H a = none) : OutE X A1 σ H1 Z1 r Q W := by
  cases r with
  | ok t ρ' => exact fun v H' Z' fp' fr b rt dj nw => o v H' Z' fp' fr (b.first s n) rt dj fun a ha => new_first s n (nw a ha)
  | ex x ρ' => exact fun cls d H' Z' fp' b e => o cls d H' Z' fp' (b.first s n) e
  | no => exact o
theorem OutT.first {r : R Env Bool} {Q : Bool → Hp → Prop} (o : OutT X A σ H Z r Q W) (s : Step A H Z H1 Z1) (n : ∀ a, A1 a → A a ∨ H a = none) : OutT X A1 σ H1 Z1 r Q W := by
  cases r with
  | ok t ρ' => exact fun H' Z' fp' b => o H' Z' fp' (b.first s n)
  | ex x ρ' => exact fun cls d H' Z' fp' b e => o cls d H' Z' fp' (b.first s n) e
  | no => exact o
theorem OutA.first {r : R Env (List D)} {Q : List V → Hp → Prop} (o : OutA X A σ H Z r Q W) (s : Step A H Z H1 Z1) (n : ∀ a, A1 a → A a ∨ H a = none) : OutA X A1 σ H1 Z1 r Q W := by
  cases r with
  | ok t ρ' => exact fun v H' Z' fp' b rt => o v H' Z' fp' (b.first s n) rt
  | ex x ρ' => exact fun cls d H' Z' fp' b e => o cls d H' Z' fp' (b.first s n) e
  | no => exact o
theorem OutS.first {σ1 : St} {pin : List Nat} {r : R Env Fl} {D : Ends} (o : OutS X pin A σ H Z r D W) (s : Step A H Z H1 Z1) (n : ∀ a, A1 a → A a ∨ H a = none) (p : PinOk pin σ σ1) : OutS X pin A1 σ1 H1 Z1 r D W := by
  cases r with
  | ok f ρ' =>
    cases f with
    | nx => exact fun σ' H' Z' fp' b q => o σ' H' Z' fp' (b.first s n) (p.trans q)
    | bk => exact fun σ' H' Z' fp' b q => o σ' H' Z' fp' (b.first s n) (p.trans q)
    | ct => exact fun σ' H' Z' fp' b q => o σ' H' Z' fp' (b.first s n) (p.trans q)
    | rt t => exact fun v σ' H' Z' fp' fr b q rt dj nw => o v σ' H' Z' fp' fr (b.first s n) (p.trans q) rt dj fun a ha => new_first s n (nw a ha)
  | ex x ρ' => exact fun cls d σ' H' Z' fp' b q e => o cls d σ' H' Z' fp' (b.first s n) (p.trans q) e
  | no => exact o
end

/-! ### the readings, the judgements -/
def tD (X : Cx) (m : M T) : TE := fun σ H Q => ∃ ρ fp Z W, EnvOk X.K ρ σ H Z fp ∧ Takes X W ∧ OutE X (FpA fp) σ H Z (m ρ) Q W
def tDT (X : Cx) (m : M Bool) : TT := fun σ H Q => ∃ ρ fp Z W, EnvOk X.K ρ σ H Z fp ∧ Takes X W ∧ OutT X (FpA fp) σ H Z (m ρ) Q W
def tDA (X : Cx) (m : M (List D)) : TA := fun σ H Q => ∃ ρ fp Z W, EnvOk X.K ρ σ H Z fp ∧ Takes X W ∧ OutA X (FpA fp) σ H Z (m ρ) Q W
def tDS (X : Cx) (pin : List Nat) (m : M Fl) : TS := fun D σ H => ∃ ρ fp Z W, EnvOk X.K ρ σ H Z fp ∧ Takes X W ∧ OutS X pin (FpA fp) σ H Z (m ρ) D W
abbrev DE (X : Cx) (e : Expr) (m : M T) : Prop := PE X e (tD X m)
abbrev DT (X : Cx) (e : Expr) (m : M Bool) : Prop := PT X e (tDT X m)
abbrev DA (X : Cx) (es : List Expr) (m : M (List D)) : Prop := PA X es (tDA X m)
abbrev DS (X : Cx) (pin : List Nat) (st : Stmt) (m : M Fl) : Prop := PS X st (tDS X pin m)
abbrev DSs (X : Cx) (pin : List Nat) (st : List Stmt) (m : M Fl) : Prop := PSs X st (tDS X pin m)
section
variable {X : Cx} {e : Expr} {es : List Expr} {st : Stmt} {sts : List Stmt}
theorem PE.weak {t t' : TE} (h : PE X e t) (w : ∀ σ H Q, t' σ H Q → t σ H Q) : PE X e t' := ⟨fun pins s σ H Q I q => h.run pins s σ H Q I (w σ H Q q)⟩
theorem PT.weak {t t' : TT} (h : PT X e t) (w : ∀ σ H Q, t' σ H Q → t σ H Q) : PT X e t' := ⟨fun pins s σ H Q I q => h.run pins s σ H Q I (w σ H Q q)⟩
theorem PW.weak {t t' : TT} (h : PW X e t) (w : ∀ σ H Q, t' σ H Q → t σ H Q) : PW X e t' := ⟨fun wh pins s σ H Q I q => h.run wh pins s σ H Q I (w σ H Q q)⟩
theorem PA.weak {t t' : TA} (h : PA X es t) (w : ∀ σ H Q, t' σ H Q → t σ H Q) : PA X es t' := ⟨fun pos pins s σ H Q I q => h.run pos pins s σ H Q I (w σ H Q q)⟩
theorem PS.weak {t t' : TS} (h : PS X st t) (w : ∀ D σ H, t' D σ H → t D σ H) : PS X st t' := ⟨fun pins s σ H D I q => h.run pins s σ H D I (w D σ H q)⟩
theorem PSs.weak {t t' : TS} (h : PSs X sts t) (w : ∀ D σ H, t' D σ H → t D σ H) : PSs X sts t' := ⟨fun pins s σ H D I q => h.run pins s σ H D I (w D σ H q)⟩
end
end Dn

set_option Elab.async false
set_option linter.all false
set_option maxRecDepth 100000
/-! Dn2: expressions. -/
namespace Dn
open PySem PySem.Spec L2
open PyProof.Rows hiding St

theorem Bk.refl {K : PySem.W.Frag} {ρ : Env} {σ : St} {H Z : Hp} {fp : Fp} (E : EnvOk K ρ σ H Z fp) : Bk K (FpA fp) σ H Z ρ σ H Z fp := ⟨E, .refl, fun _ h => .inl h⟩
theorem Bk.then {K : PySem.W.Frag} {A : Addr → Prop} {σ : St} {H Z H1 Z1 H2 Z2 : Hp} {ρ1 ρ2 : Env} {σ1 σ2 : St} {fp1 fp2 : Fp} (b : Bk K A σ H Z ρ1 σ1 H1 Z1 fp1) (c : Bk K (FpA fp1) σ1 H1 Z1 ρ2 σ2 H2 Z2 fp2) : Bk K A σ H Z ρ2 σ2 H2 Z2 fp2 :=
  c.first b.step b.new
/-- nothing old is changed -/
theorem Bk.pure {K : PySem.W.Frag} {A : Addr → Prop} {σ σ1 : St} {H Z H1 Z1 H2 Z2 : Hp} {ρ1 : Env} {fp1 : Fp} (b : Bk K A σ H Z ρ1 σ1 H1 Z1 fp1) (s : Step NoA H1 Z1 H2 Z2) (z : ZOk Z2 H2) : Bk K A σ H Z ρ1 σ1 H2 Z2 fp1 :=
  ⟨b.env.keep s (fun _ _ h => h) z, b.step.trans s (fun _ h => h.elim), b.new⟩
theorem Bk.new' {K : PySem.W.Frag} {A : Addr → Prop} {σ σ1 : St} {H Z H1 Z1 : Hp} {ρ1 : Env} {fp1 : Fp} (b : Bk K A σ H Z ρ1 σ1 H1 Z1 fp1) {a : Addr} (h : FpA fp1 a ∨ H1 a = none) : A a ∨ H a = none :=
  new_first b.step b.new h
theorem EnvOk.freeze {K : PySem.W.Frag} {ρ : Env} {σ : St} {H Z : Hp} {fp : Fp} (E : EnvOk K ρ σ H Z fp) {i : Nat} {t : T} (h : ρ[i]? = some (some t)) :
    ∃ v Z', σ[i]? = some (some v) ∧ Rep K Z' t.d v ∧ Bk K (FpA fp) σ H Z (ρ.set i (some (.fz t.d))) σ H Z' (fset fp i []) := by
  obtain ⟨v, hv, r⟩ := E.at_ i t h
  obtain ⟨Z', r', z', s⟩ := r.freeze E.zok
  have E1 := (E.drop i).keep s (fun a ha hin => ?_) z'
  · have E2 := E1.set' (i := i) (t := .fz t.d) (l := []) hv ⟨rfl, r'⟩ (by simp)
    rw [List.set_set] at E2
    have e : fset (fset fp i []) i [] = fset fp i [] := by
      funext j; unfold fset; split <;> rfl
    rw [e] at E2
    refine ⟨v, Z', hv, r', E2, s.mono fun a ha => ⟨i, ha⟩, fun a ha => ?_⟩
    rcases fset_A ha with z | z
    · simp at z
    · exact .inl z
  · obtain ⟨j, hj⟩ := ha
    by_cases e : j = i
    · subst e; rw [fset_same] at hj; simp at hj
    · rw [fset_ne e] at hj
      exact E.dis j i a e hj hin

/-! ### names, constants -/
def mVar (i : Nat) : M T := fun ρ => match ρ[i]? with
  | some (some t) => .ok (.fz t.d) (ρ.set i (some (.fz t.d)))
  | _ => .no
/-- the last use of a name -/
def mMove (i : Nat) : M T := fun ρ => match ρ[i]? with
  | some (some t) => .ok t (ρ.set i none)
  | _ => .no
def mC (d : D) : M T := fun ρ => .ok (.fz d) ρ
section
variable {X : Cx}
theorem de_var' {i : Nat} {e : Expr} (h : PE X e (tVar i)) : DE X e (mVar i) := PE.weak h fun σ H Q q => by
  obtain ⟨ρ, fp, Z, W, E, tk, o⟩ := q
  unfold mVar at o
  cases h : ρ[i]? with
  | none => rw [h] at o; exact o.elim
  | some u =>
    cases u with
    | none => rw [h] at o; exact o.elim
    | some t =>
      rw [h] at o
      obtain ⟨v, Z', hv, r, b⟩ := E.freeze h
      exact ⟨v, hv, o v H Z' _ [] b ⟨rfl, r⟩ (by simp) (by simp)⟩
theorem de_move' {i : Nat} {e : Expr} (h : PE X e (tVar i)) : DE X e (mMove i) := PE.weak h fun σ H Q q => by
  obtain ⟨ρ, fp, Z, W, E, tk, o⟩ := q
  unfold mMove at o
  cases h : ρ[i]? with
  | none => rw [h] at o; exact o.elim
  | some u =>
    cases u with
    | none => rw [h] at o; exact o.elim
    | some t =>
      rw [h] at o
      obtain ⟨v, hv, r⟩ := E.at_ i t h
      refine ⟨v, hv, o v H Z (fset fp i []) (fp i) ⟨E.drop i, .refl, fun a ha => ?_⟩ r (fun a ha hn => ?_) fun a ha => .inl ⟨i, ha⟩⟩
      · rcases fset_A ha with z | z
        · simp at z
        · exact .inl z
      · obtain ⟨j, hj⟩ := hn
        by_cases e : j = i
        · subst e; rw [fset_same] at hj; simp at hj
        · rw [fset_ne e] at hj; exact E.dis j i a e hj ha
theorem de_const' {e : Expr} {v : V} {d : D} (h : PE X e (tC v)) (r : ∀ Z, Rep X.K Z d v) : DE X e (mC d) := PE.weak h fun σ H Q q => by
  obtain ⟨ρ, fp, Z, W, E, tk, o⟩ := q
  exact o v H Z fp [] (Bk.refl E) ⟨rfl, r Z⟩ (by simp) (by simp)
theorem de_int {i j pos} : DE X (.Constant (.int i) j pos) (mC (.int i)) := de_const' pe_int fun _ => rfl
theorem de_bl {b j pos} : DE X (.Constant (.bool b) j pos) (mC (.bl b)) := de_const' pe_bl fun _ => rfl
theorem de_non {j pos} : DE X (.Constant .none j pos) (mC .non) := de_const' pe_non fun _ => rfl
theorem de_str {x j pos} : DE X (.Constant (.str x) j pos) (mC (.str x)) := de_const' pe_str fun _ => rfl
end

/-! ### operands that are only read -/
inductive Op where
  | tmp (m : M T) | var (i : Nat)
def tO (X : Cx) : Op → TE
  | .tmp m => tD X m
  | .var i => tVar i
def tOs (X : Cx) : List Op → TA
  | [] => tNil
  | o :: os => tCons (tO X o) (tOs X os)
abbrev DO (X : Cx) (e : Expr) (o : Op) : Prop := PE X e (tO X o)
inductive DOs (X : Cx) : List Expr → List Op → Prop
  | nil : DOs X [] []
  | cons {e : Expr} {es : List Expr} {o : Op} {os : List Op} (h : DO X e o) (t : DOs X es os) (hs : starEach (e :: es) X.env = (false, eval e X.env) :: starEach es X.env := by rfl) : DOs X (e :: es) (o :: os)
theorem DOs.pa {X : Cx} : ∀ {es : List Expr} {os : List Op}, DOs X es os → PA X es (tOs X os)
  | _, _, .nil => pa_nil
  | _, _, .cons h t hs => pa_cons h t.pa hs
/-- evaluated: a thing, or nothing where a name is looked up later -/
def Op.ev : Op → M (Option T)
  | .tmp m => fun ρ => (m ρ).bind fun t ρ' => .ok (some t) ρ'
  | .var i => fun ρ => match ρ[i]? with
    | some (some _) => .ok none ρ
    | _ => .no
def evs : List Op → M (List (Option T))
  | [] => fun ρ => .ok [] ρ
  | o :: os => fun ρ => (o.ev ρ).bind fun t ρ1 => (evs os ρ1).bind fun ts ρ2 => .ok (t :: ts) ρ2
def Op.res (ρ : Env) : Op → Option T → Option D
  | .tmp _, some t => some t.d
  | .tmp _, none => none
  | .var i, _ => match ρ[i]? with
    | some (some t) => some t.d
    | _ => none
def resAll (ρ : Env) : List Op → List (Option T) → Option (List D)
  | o :: os, t :: ts => (o.res ρ t).bind fun d => (resAll ρ os ts).map fun ds => d :: ds
  | [], [] => some []
  | _, _ => none
def mOps (f : List D → Option T) (os : List Op) : M T := fun ρ => (evs os ρ).bind fun ts ρ' => match resAll ρ' os ts with
  | some ds => (match f ds with
    | some t => .ok t ρ'
    | none => .no)
  | none => .no
/-- v is read as d -/
def RdD (K : PySem.W.Frag) (H Z : Hp) (d : D) (v : V) : Prop := ∃ t fr, RepT K H Z t v fr ∧ t.d = d
inductive OpsRd (X : Cx) (σ : St) (H Z : Hp) (fp : Fp) : List Op → List (Option T) → List V → Prop
  | nil : OpsRd X σ H Z fp [] [] []
  | tmp {m : M T} {t : T} {v : V} {fr : List Addr} {os ts vs} (r : RepT X.K H Z t v fr) (dj : ∀ a ∈ fr, ¬ FpA fp a) (k : OpsRd X σ H Z fp os ts vs) : OpsRd X σ H Z fp (.tmp m :: os) (some t :: ts) (v :: vs)
  | var {i : Nat} {t : Option T} {v : V} {os ts vs} (h : σ[i]? = some (some v)) (k : OpsRd X σ H Z fp os ts vs) : OpsRd X σ H Z fp (.var i :: os) (t :: ts) (v :: vs)
inductive RdDs (K : PySem.W.Frag) (H Z : Hp) : List D → List V → Prop
  | nil : RdDs K H Z [] []
  | cons {d v ds vs} (h : RdD K H Z d v) (t : RdDs K H Z ds vs) : RdDs K H Z (d :: ds) (v :: vs)
theorem OpsRd.res {X : Cx} {σ : St} {H Z : Hp} {fp : Fp} {ρ : Env} (E : EnvOk X.K ρ σ H Z fp) : ∀ {os : List Op} {ts : List (Option T)} {vs : List V}, OpsRd X σ H Z fp os ts vs → ∀ {ds : List D}, resAll ρ os ts = some ds → RdDs X.K H Z ds vs
  | _, _, _, .nil, ds, h => by
    simp only [resAll, Option.some.injEq] at h
    subst h; exact .nil
  | _, _, _, .tmp (t := t) r dj k, ds, h => by
    simp only [resAll, Op.res, Option.bind_some] at h
    cases q : resAll ρ _ _ with
    | none => rw [q] at h; cases h
    | some ds' =>
      rw [q] at h
      simp only [Option.map_some, Option.some.injEq] at h
      subst h
      exact .cons ⟨t, _, r, rfl⟩ (OpsRd.res E k q)
  | _, _, _, .var (i := i) (v := v) hv k, ds, h => by
    simp only [resAll, Op.res] at h
    cases e : ρ[i]? with
    | none => rw [e] at h; cases h
    | some u =>
      cases u with
      | none => rw [e] at h; cases h
      | some t =>
        rw [e] at h
        simp only [Option.bind_some] at h
        cases q : resAll ρ _ _ with
        | none => rw [q] at h; cases h
        | some ds' =>
          rw [q] at h
          simp only [Option.map_some, Option.some.injEq] at h
          subst h
          obtain ⟨w, h1, h2⟩ := E.at_ i t e
          rw [h1] at hv
          cases hv
          exact .cons ⟨t, _, h2, rfl⟩ (OpsRd.res E k q)
def OutL (X : Cx) (os : List Op) (A : Addr → Prop) (σ : St) (H Z : Hp) (r : R Env (List (Option T))) (Q : List V → Hp → Prop) (W : WX) : Prop := match r with
  | .ok ts ρ' => ∀ vs H' Z' fp', Bk X.K A σ H Z ρ' σ H' Z' fp' → OpsRd X σ H' Z' fp' os ts vs → Q vs H'
  | .ex x ρ' => ∀ cls d H' Z' fp', Bk X.K A σ H Z ρ' σ H' Z' fp' → ExOk X.mg X.K Z' x cls d → W cls d σ H'
  | .no => False
theorem ops_run {X : Cx} {σ : St} {W : WX} (tk : Takes X W) : ∀ (os : List Op) (ρ : Env) (H Z : Hp) (fp : Fp) (Q : List V → Hp → Prop), EnvOk X.K ρ σ H Z fp → OutL X os (FpA fp) σ H Z (evs os ρ) Q W → tOs X os σ H Q
  | [], ρ, H, Z, fp, Q, E, o => o [] H Z fp (Bk.refl E) .nil
  | .var i :: os, ρ, H, Z, fp, Q, E, o => by
    cases h : ρ[i]? with
    | none =>
      have e0 : evs (.var i :: os) ρ = .no := by simp only [evs, Op.ev, h, R.bind]
      rw [e0] at o; exact o.elim
    | some u =>
      cases u with
      | none =>
        have e0 : evs (.var i :: os) ρ = .no := by simp only [evs, Op.ev, h, R.bind]
        rw [e0] at o; exact o.elim
      | some t =>
        have e0 : evs (.var i :: os) ρ = (evs os ρ).bind fun ts ρ2 => .ok (none :: ts) ρ2 := by simp only [evs, Op.ev, h, R.bind]
        rw [e0] at o
        have o' : OutL X (.var i :: os) (FpA fp) σ H Z ((evs os ρ).bind fun ts ρ2 => .ok (none :: ts) ρ2) Q W := o
        obtain ⟨v, hv, _⟩ := E.at_ i t h
        refine ⟨v, hv, ops_run tk os ρ H Z fp _ E ?_⟩
        cases q : evs os ρ with
        | ok ts ρ' =>
          rw [q] at o'
          exact fun vs H' Z' fp' b k => o' (v :: vs) H' Z' fp' b (.var hv k)
        | ex x ρ' => rw [q] at o'; exact o'
        | no => rw [q] at o'; exact o'
  | .tmp m :: os, ρ, H, Z, fp, Q, E, o => by
    refine ⟨ρ, fp, Z, W, E, tk, ?_⟩
    have o' : OutL X (.tmp m :: os) (FpA fp) σ H Z ((m ρ).bind fun t ρ1 => (evs os ρ1).bind fun ts ρ2 => .ok (some t :: ts) ρ2) Q W := by
      have e : evs (.tmp m :: os) ρ = (m ρ).bind fun t ρ1 => (evs os ρ1).bind fun ts ρ2 => .ok (some t :: ts) ρ2 := by
        show ((m ρ).bind fun t ρ' => (R.ok (some t) ρ' : R Env (Option T))).bind _ = _
        cases m ρ <;> rfl
      rw [← e]; exact o
    cases q : m ρ with
    | no => rw [q] at o'; exact o'.elim
    | ex x ρ' => rw [q] at o'; exact o'
    | ok t ρ1 =>
      rw [q] at o'
      intro v H1 Z1 fp1 fr b1 rt dj nw
      refine ops_run tk os ρ1 H1 Z1 fp1 _ b1.env ?_
      have o2 : OutL X (.tmp m :: os) (FpA fp) σ H Z ((evs os ρ1).bind fun ts ρ2 => .ok (some t :: ts) ρ2) Q W := o'
      cases q2 : evs os ρ1 with
      | no => rw [q2] at o2; exact o2.elim
      | ex x ρ' =>
        rw [q2] at o2
        exact fun cls d H' Z' fp' b e => o2 cls d H' Z' fp' (b1.then b) e
      | ok ts ρ2 =>
        rw [q2] at o2
        intro vs H2 Z2 fp2 b2 k
        refine o2 (v :: vs) H2 Z2 fp2 (b1.then b2) (.tmp (rt.keep b2.step dj) (fun a ha hn => ?_) k)
        rcases b2.new a hn with z | z
        · exact dj a ha z
        · exact (rt.live a ha).1 z

/-- what an operation asks of the values that it reads, and what comes -/
def OpsSound (X : Cx) (r : List V → Hp → VK → Prop) (f : List D → Option T) : Prop :=
  ∀ ds vs t H Z Q, ZOk Z H → RdDs X.K H Z ds vs → f ds = some t → (∀ v' H' Z' fr, ZOk Z' H' → RepT X.K H' Z' t v' fr → Step NoA H Z H' Z' → (∀ a ∈ fr, H a = none) → Q v' H') → r vs H Q
theorem ops_read {X : Cx} {r : List V → Hp → VK → Prop} {f : List D → Option T} (s : OpsSound X r f) {os : List Op} {σ : St} {H : Hp} {Q : VK} (q : tD X (mOps f os) σ H Q) : tOs X os σ H fun vs H' => r vs H' Q := by
  obtain ⟨ρ, fp, Z, W, E, tk, o⟩ := q
  refine ops_run tk os ρ H Z fp _ E ?_
  unfold mOps at o
  cases q : evs os ρ with
  | no => rw [q] at o; exact o
  | ex x ρ' => rw [q] at o; exact o
  | ok ts ρ' =>
    rw [q] at o
    intro vs H' Z' fp' b k
    have o' : OutE X (FpA fp) σ H Z (match resAll ρ' os ts with
      | some ds => (match f ds with
        | some t => .ok t ρ'
        | none => .no)
      | none => .no) Q W := o
    cases q2 : resAll ρ' os ts with
    | none => rw [q2] at o'; exact o'.elim
    | some ds =>
      rw [q2] at o'
      have o2 : OutE X (FpA fp) σ H Z (match f ds with
        | some t => .ok t ρ'
        | none => .no) Q W := o'
      cases q3 : f ds with
      | none => rw [q3] at o2; exact o2.elim
      | some t =>
        rw [q3] at o2
        refine s ds vs t H' Z' Q b.env.zok (k.res b.env q2) q3 fun v' H2 Z2 fr z rt st nw => ?_
        refine o2 v' H2 Z2 fp' fr (b.pure st z) rt (fun a ha hn => ?_) fun a ha => b.new' (.inr (nw a ha))
        exact (b.env.live hn).1 (nw a ha)
def two (r : R2) : List V → Hp → VK → Prop := fun vs H Q => ∃ x y, vs = [x, y] ∧ r x y H Q
def one (r : V → Hp → VK → Prop) : List V → Hp → VK → Prop := fun vs H Q => ∃ x, vs = [x] ∧ r x H Q
section
variable {X : Cx} {a b c e : Expr} {es : List Expr} {o o1 o2 : Op} {os : List Op} {pos p : Pos} {f : List D → Option T}
theorem tOs_two {r : R2} {σ : St} {H : Hp} {Q : VK} (h : tOs X [o1, o2] σ H fun vs H' => two r vs H' Q) : tOp r (tO X o1) (tO X o2) σ H Q := by
  have mono : ∀ (o : Op) (K1 K2 : VK) σ H, (∀ v H, K1 v H → K2 v H) → tO X o σ H K1 → tO X o σ H K2 := fun o K1 K2 σ H k h => by
    cases o with
    | var i => obtain ⟨v, e, q⟩ := h; exact ⟨v, e, k _ _ q⟩
    | tmp m =>
      obtain ⟨ρ, fp, Z, W, E, tk, o⟩ := h
      refine ⟨ρ, fp, Z, W, E, tk, ?_⟩
      cases q : m ρ with
      | no => rw [q] at o; exact o
      | ex x ρ' => rw [q] at o; exact o
      | ok t ρ' => rw [q] at o; exact fun v H' Z' fp' fr b rt dj nw => k _ _ (o v H' Z' fp' fr b rt dj nw)
  refine mono o1 _ _ _ _ (fun x H1 h1 => mono o2 _ _ _ _ (fun y H2 h2 => ?_) h1) h
  obtain ⟨x', y', e, q⟩ := h2
  cases e
  exact q
theorem tOs_one {r : V → Hp → VK → Prop} {σ : St} {H : Hp} {Q : VK} (h : tOs X [o1] σ H fun vs H' => one r vs H' Q) : tUn r (tO X o1) σ H Q := by
  have mono : ∀ (o : Op) (K1 K2 : VK) σ H, (∀ v H, K1 v H → K2 v H) → tO X o σ H K1 → tO X o σ H K2 := fun o K1 K2 σ H k h => by
    cases o with
    | var i => obtain ⟨v, e, q⟩ := h; exact ⟨v, e, k _ _ q⟩
    | tmp m =>
      obtain ⟨ρ, fp, Z, W, E, tk, o⟩ := h
      refine ⟨ρ, fp, Z, W, E, tk, ?_⟩
      cases q : m ρ with
      | no => rw [q] at o; exact o
      | ex x ρ' => rw [q] at o; exact o
      | ok t ρ' => rw [q] at o; exact fun v H' Z' fp' fr b rt dj nw => k _ _ (o v H' Z' fp' fr b rt dj nw)
  refine mono o1 _ _ _ _ (fun x H1 h1 => ?_) h
  obtain ⟨x', e, q⟩ := h1
  cases e
  exact q
theorem de_op {op : Operator} {r : R2} (ho : OpR X (binaryOp op) r) (s : OpsSound X (two r) f) (ha : DO X a o1) (hb : DO X b o2) : DE X (.BinOp a op b pos) (mOps f [o1, o2]) :=
  PE.weak (pe_op ho ha hb) fun _ _ _ q => tOs_two (ops_read s q)
theorem de_un {op : UnaryOp} {r : V → Hp → VK → Prop} (ho : UnR X (unaryOp op) r) (s : OpsSound X (one r) f) (ha : DO X a o1) : DE X (.UnaryOp op a pos) (mOps f [o1]) :=
  PE.weak (pe_un ho ha) fun _ _ _ q => tOs_one (ops_read s q)
/-- comparisons: a bool comes -/
abbrev fB (f : List D → Option Bool) : List D → Option T := fun ds => (f ds).map fun b => .fz (.bl b)
def mBool (m : M T) : M Bool := fun ρ => (m ρ).bind fun t ρ' => match t with
  | .fz (.bl b) => .ok b ρ'
  | _ => .no
theorem tD_bool {m : M T} {σ : St} {H : Hp} {Q : Bool → Hp → Prop} (q : tDT X (mBool m) σ H Q) : tD X m σ H fun x H' => ∃ k, x = .bl k ∧ Q k H' := by
  obtain ⟨ρ, fp, Z, W, E, tk, o⟩ := q
  refine ⟨ρ, fp, Z, W, E, tk, ?_⟩
  unfold mBool at o
  cases h : m ρ with
  | no => rw [h] at o; exact o
  | ex x ρ' => rw [h] at o; exact o
  | ok t ρ' =>
    rw [h] at o
    intro v H' Z' fp' fr b rt dj nw
    cases t with
    | fz d =>
      cases d with
      | bl k => exact ⟨k, rt.2, o H' Z' fp' b⟩
      | _ => exact o.elim
    | _ => exact o.elim
theorem de_cmp {op : CmpOp} {r : R2} (ho : OpR X (compareOp op) r) (s : OpsSound X (two r) f) (ha : DO X a o1) (hb : DO X b o2) (hm : behindInMarks op b = false) : DE X (.Compare a [op] [b] pos) (mOps f [o1, o2]) :=
  PE.weak (pe_cmpR ho ha hb hm) fun _ _ _ q => tOs_two (ops_read s q)
theorem dt_cmp {op : CmpOp} {r : R2} (ho : OpR X (compareOp op) r) (s : OpsSound X (two r) f) (ha : DO X a o1) (hb : DO X b o2) (hm : behindInMarks op b = false) : DT X (.Compare a [op] [b] pos) (mBool (mOps f [o1, o2])) :=
  PT.weak (pt_cmpR ho ha hb hm) fun _ _ _ q => tOs_two (ops_read s (tD_bool q))
/-- a value that is a bool, as a test -/
theorem dt_val {m : M T} (h : DE X e m) (he : ∀ whole, isTrue e X.env whole = (do let v ← whole; standAt e.pos; holding [v] (truthy v)) := by intro _; rfl) : DT X e (mBool m) :=
  PT.weak (pt_val h he) fun _ _ _ q => tD_bool q
/-- built-in functions by their name -/
theorem de_callB {x : Str} {id : String} {r : List V → Hp → VK → Prop} (hc : CallR X (.builtin id) r) (s : OpsSound X r f) (hg : Gl X x) (hm : X.mg x = none) (hv : bootBuiltins x = some (.builtin id)) (ha : DOs X (e :: es) (o :: os)) (hn : x ≠ "__name__" := by decide) (hdb : (x == ("__debug__" : Str)) = false := by decide)
    (he : starEach (e :: es) X.env = (false, eval e X.env) :: starEach es X.env := by rfl) (hpl : (backTo pos (starEach es X.env)).any (·.1) = false := by rfl) : DE X (.Call (.Name x p) (e :: es) [] pos) (mOps f (o :: os)) :=
  PE.weak (pe_callB hc hg hm hv ha.pa hn hdb he hpl) fun _ _ _ q => ops_read s q
theorem de_callTy {x : Str} {T : String} {r : List V → Hp → VK → Prop} (hc : CallR X (.type T) r) (s : OpsSound X r f) (hg : Gl X x) (hm : X.mg x = none) (hv : bootBuiltins x = some (.type T)) (ha : DOs X (e :: es) (o :: os)) (hn : x ≠ "__name__" := by decide) (hdb : (x == ("__debug__" : Str)) = false := by decide)
    (he : starEach (e :: es) X.env = (false, eval e X.env) :: starEach es X.env := by rfl) (hpl : (backTo pos (starEach es X.env)).any (·.1) = false := by rfl) : DE X (.Call (.Name x p) (e :: es) [] pos) (mOps f (o :: os)) :=
  PE.weak (pe_callTy hc hg hm hv ha.pa hn hdb he hpl) fun _ _ _ q => ops_read s q
/-- a[b] -/
theorem de_ix {r : R2} (hr : IxR X r) (s : OpsSound X (two r) f) (ha : DO X a o1) (hb : DO X b o2) (hs : PlainIx b := by intro _ _; rfl) : DE X (.Subscript a b pos) (mOps f [o1, o2]) :=
  PE.weak (pe_ix hr ha hb hs) fun _ _ _ q => tOs_two (ops_read s q)
end

/-! ### and, or, not, if -/
def mNot (m : M Bool) : M Bool := fun ρ => (m ρ).bind fun b ρ' => .ok (!b) ρ'
def mAnd (m n : M Bool) : M Bool := fun ρ => (m ρ).bind fun b ρ' => if b = true then n ρ' else .ok false ρ'
def mOr (m n : M Bool) : M Bool := fun ρ => (m ρ).bind fun b ρ' => if b = true then .ok true ρ' else n ρ'
def mIfE {α : Type} (c : M Bool) (m n : M α) : M α := fun ρ => (c ρ).bind fun b ρ' => if b = true then m ρ' else n ρ'
def mBl (m : M Bool) : M T := fun ρ => (m ρ).bind fun b ρ' => .ok (.fz (.bl b)) ρ'
section
variable {X : Cx} {a b c : Expr} {rest : List Expr} {pos : Pos} {m n : M Bool}
theorem dt_not (h : DT X a m) : DT X (.UnaryOp .Not a pos) (mNot m) := PT.weak (pt_not h) fun σ H Q q => by
  obtain ⟨ρ, fp, Z, W, E, tk, o⟩ := q
  refine ⟨ρ, fp, Z, W, E, tk, ?_⟩
  unfold mNot at o
  cases h : m ρ with
  | no => rw [h] at o; exact o
  | ex x ρ' => rw [h] at o; exact o
  | ok t ρ' => rw [h] at o; exact fun H' Z' fp' b => o H' Z' fp' b
/-- the test, then by its answer -/
theorem tDT_bind {α : Type} {R : St → Hp → Prop} {K1 K2 : St → Hp → Prop} {m : M Bool} {σ : St} {H : Hp} {ρ : Env} {fp : Fp} {Z : Hp} {W : WX} (E : EnvOk X.K ρ σ H Z fp) (tk : Takes X W)
    (hx : ∀ x ρ', m ρ = .ex x ρ' → ∀ cls d H' Z' fp', Bk X.K (FpA fp) σ H Z ρ' σ H' Z' fp' → ExOk X.mg X.K Z' x cls d → W cls d σ H') (hn : m ρ ≠ .no)
    {Q : Bool → Hp → Prop} (hk : ∀ b ρ', m ρ = .ok b ρ' → ∀ H' Z' fp', Bk X.K (FpA fp) σ H Z ρ' σ H' Z' fp' → Q b H') : tDT X m σ H Q := by
  refine ⟨ρ, fp, Z, W, E, tk, ?_⟩
  cases h : m ρ with
  | no => exact (hn h).elim
  | ex x ρ' => exact hx x ρ' h
  | ok b ρ' => exact hk b ρ' h
theorem dw_and1 (h : DT X a m) : PW X (.BoolOp .And [a] pos) (tDT X m) := pw_and1 h
theorem dw_or1 (h : DT X a m) : PW X (.BoolOp .Or [a] pos) (tDT X m) := pw_or1 h
theorem dw_and (h : DT X a m) (t : PW X (.BoolOp .And (b :: rest) pos) (tDT X n)) : PW X (.BoolOp .And (a :: b :: rest) pos) (tDT X (mAnd m n)) := PW.weak (pw_and h t) fun σ H Q q => by
  obtain ⟨ρ, fp, Z, W, E, tk, o⟩ := q
  refine ⟨ρ, fp, Z, W, E, tk, ?_⟩
  unfold mAnd at o
  cases h : m ρ with
  | no => rw [h] at o; exact o
  | ex x ρ' => rw [h] at o; exact o
  | ok t ρ' =>
    rw [h] at o
    intro H' Z' fp' bk
    cases t with
    | true =>
      rw [if_pos rfl]
      exact ⟨ρ', fp', Z', W, bk.env, tk, OutT.first (r := n ρ') o bk.step bk.new⟩
    | false =>
      rw [if_neg (by decide)]
      exact o H' Z' fp' bk
theorem dw_or (h : DT X a m) (t : PW X (.BoolOp .Or (b :: rest) pos) (tDT X n)) : PW X (.BoolOp .Or (a :: b :: rest) pos) (tDT X (mOr m n)) := PW.weak (pw_or h t) fun σ H Q q => by
  obtain ⟨ρ, fp, Z, W, E, tk, o⟩ := q
  refine ⟨ρ, fp, Z, W, E, tk, ?_⟩
  unfold mOr at o
  cases h : m ρ with
  | no => rw [h] at o; exact o
  | ex x ρ' => rw [h] at o; exact o
  | ok t ρ' =>
    rw [h] at o
    intro H' Z' fp' bk
    cases t with
    | false =>
      rw [if_neg (by decide)]
      exact ⟨ρ', fp', Z', W, bk.env, tk, OutT.first (r := n ρ') o bk.step bk.new⟩
    | true =>
      rw [if_pos rfl]
      exact o H' Z' fp' bk
theorem de_ifE {m : M Bool} {x y : M T} (hc : DT X c m) (ha : DE X a x) (hb : DE X b y) : DE X (.IfExp c a b pos) (mIfE m x y) := PE.weak (pe_ifExp hc ha hb) fun σ H Q q => by
  obtain ⟨ρ, fp, Z, W, E, tk, o⟩ := q
  refine ⟨ρ, fp, Z, W, E, tk, ?_⟩
  unfold mIfE at o
  cases h : m ρ with
  | no => rw [h] at o; exact o
  | ex x ρ' => rw [h] at o; exact o
  | ok t ρ' =>
    rw [h] at o
    intro H' Z' fp' bk
    cases t with
    | true =>
      rw [if_pos rfl]
      exact ⟨ρ', fp', Z', W, bk.env, tk, OutE.first (r := x ρ') o bk.step bk.new⟩
    | false =>
      rw [if_neg (by decide)]
      exact ⟨ρ', fp', Z', W, bk.env, tk, OutE.first (r := y ρ') o bk.step bk.new⟩
/-- .. as values: the last may be anything that is a bool -/
theorem tD_bl {m : M T} {σ : St} {H : Hp} {ρ : Env} {fp : Fp} {Z : Hp} {W : WX} {Q : VK} (E : EnvOk X.K ρ σ H Z fp) (tk : Takes X W) {k : Bool → Env → R Env T}
    (o : OutE X (FpA fp) σ H Z ((m ρ).bind fun t ρ' => match t with | .fz (.bl b) => k b ρ' | _ => .no) Q W)
    {G : Bool → Hp → Prop} (hk : ∀ b ρ' H' Z' fp', Bk X.K (FpA fp) σ H Z ρ' σ H' Z' fp' → OutE X (FpA fp) σ H Z (k b ρ') Q W → G b H') : tD X m σ H fun x H' => ∃ c, x = .bl c ∧ G c H' := by
  refine ⟨ρ, fp, Z, W, E, tk, ?_⟩
  cases h : m ρ with
  | no => rw [h] at o; exact o
  | ex x ρ' => rw [h] at o; exact o
  | ok t ρ' =>
    rw [h] at o
    intro v H' Z' fp' fr b rt dj nw
    cases t with
    | fz d =>
      cases d with
      | bl c => exact ⟨c, rt.2, hk c ρ' H' Z' fp' b o⟩
      | _ => exact o.elim
    | _ => exact o.elim
def mAndV (m n : M T) : M T := fun ρ => (m ρ).bind fun t ρ' => match t with | .fz (.bl b) => (if b = true then n ρ' else .ok (.fz (.bl false)) ρ') | _ => .no
def mOrV (m n : M T) : M T := fun ρ => (m ρ).bind fun t ρ' => match t with | .fz (.bl b) => (if b = true then .ok (.fz (.bl true)) ρ' else n ρ') | _ => .no
def mNotV (m : M T) : M T := fun ρ => (m ρ).bind fun t ρ' => match t with | .fz (.bl b) => .ok (.fz (.bl !b)) ρ' | _ => .no
theorem de_one {op} {m : M T} (h : DE X a m) : DE X (.BoolOp op [a] pos) m := pe_one h
theorem de_and {m n : M T} (ha : DE X a m) (hb : DE X (.BoolOp .And (b :: rest) pos) n) : DE X (.BoolOp .And (a :: b :: rest) pos) (mAndV m n) := PE.weak (pe_and ha hb) fun σ H Q q => by
  obtain ⟨ρ, fp, Z, W, E, tk, o⟩ := q
  refine tD_bl (k := fun b ρ' => if b = true then n ρ' else .ok (.fz (.bl false)) ρ') E tk o fun c ρ' H' Z' fp' bk o' => ?_
  cases c with
  | true =>
    rw [if_pos rfl]
    exact ⟨ρ', fp', Z', W, bk.env, tk, OutE.first (r := n ρ') o' bk.step bk.new⟩
  | false =>
    rw [if_neg (by decide)]
    exact o' (.bl false) H' Z' fp' [] bk ⟨rfl, rfl⟩ (by simp) (by simp)
theorem de_or {m n : M T} (ha : DE X a m) (hb : DE X (.BoolOp .Or (b :: rest) pos) n) : DE X (.BoolOp .Or (a :: b :: rest) pos) (mOrV m n) := PE.weak (pe_or ha hb) fun σ H Q q => by
  obtain ⟨ρ, fp, Z, W, E, tk, o⟩ := q
  refine tD_bl (k := fun b ρ' => if b = true then .ok (.fz (.bl true)) ρ' else n ρ') E tk o fun c ρ' H' Z' fp' bk o' => ?_
  cases c with
  | false =>
    rw [if_neg (by decide)]
    exact ⟨ρ', fp', Z', W, bk.env, tk, OutE.first (r := n ρ') o' bk.step bk.new⟩
  | true =>
    rw [if_pos rfl]
    exact o' (.bl true) H' Z' fp' [] bk ⟨rfl, rfl⟩ (by simp) (by simp)
theorem de_not {m : M T} (ha : DE X a m) : DE X (.UnaryOp .Not a pos) (mNotV m) := PE.weak (pe_not ha) fun σ H Q q => by
  obtain ⟨ρ, fp, Z, W, E, tk, o⟩ := q
  refine tD_bl (k := fun b ρ' => .ok (.fz (.bl !b)) ρ') E tk o fun c ρ' H' Z' fp' bk o' => ?_
  exact o' (.bl !c) H' Z' fp' [] bk ⟨rfl, rfl⟩ (by simp) (by simp)
end
end Dn

set_option Elab.async false
set_option linter.all false
set_option maxRecDepth 100000
/-! Dn3: arguments, displays, calls, statements. -/
namespace Dn
open PySem PySem.Spec L2
open PyProof.Rows hiding St

/-- an owned temporary is let stand still -/
theorem Bk.frz {K : PySem.W.Frag} {A : Addr → Prop} {σ σ1 : St} {H Z H1 Z1 : Hp} {ρ1 : Env} {fp1 : Fp} {t : T} {v : V} {fr : List Addr} (b : Bk K A σ H Z ρ1 σ1 H1 Z1 fp1) (r : RepT K H1 Z1 t v fr) (dj : ∀ a ∈ fr, ¬ FpA fp1 a) (nw : ∀ a ∈ fr, A a ∨ H a = none) :
    ∃ Z2, Rep K Z2 t.d v ∧ Bk K A σ H Z ρ1 σ1 H1 Z2 fp1 := by
  obtain ⟨Z2, r2, z2, s2⟩ := r.freeze b.env.zok
  exact ⟨Z2, r2, b.env.keep s2 (fun a ha hi => dj a hi ha) z2, b.step.trans s2 nw, b.new⟩

/-! ### arguments: let stand still, from the left -/
def mA0 : M (List D) := fun ρ => .ok [] ρ
def mA1 (m : M T) (ms : M (List D)) : M (List D) := fun ρ => (m ρ).bind fun t ρ1 => (ms ρ1).bind fun ds ρ2 => .ok (t.d :: ds) ρ2
section
variable {X : Cx} {e : Expr} {es : List Expr} {pos : Pos}
theorem da_nil : DA X [] mA0 := PA.weak pa_nil fun σ H Q q => by
  obtain ⟨ρ, fp, Z, W, E, tk, o⟩ := q
  exact o [] H Z fp (Bk.refl E) rfl
theorem da_cons {m : M T} {ms : M (List D)} (h : DE X e m) (t : DA X es ms) (hs : starEach (e :: es) X.env = (false, eval e X.env) :: starEach es X.env := by rfl) : DA X (e :: es) (mA1 m ms) := PA.weak (pa_cons h t hs) fun σ H Q q => by
  obtain ⟨ρ, fp, Z, W, E, tk, o⟩ := q
  refine ⟨ρ, fp, Z, W, E, tk, ?_⟩
  unfold mA1 at o
  cases q : m ρ with
  | no => rw [q] at o; exact o
  | ex x ρ' => rw [q] at o; exact o
  | ok t ρ1 =>
    rw [q] at o
    have o1 : OutA X (FpA fp) σ H Z ((ms ρ1).bind fun ds ρ2 => .ok (t.d :: ds) ρ2) Q W := o
    intro v H1 Z1 fp1 fr b1 rt dj nw
    obtain ⟨Z2, r2, b2⟩ := b1.frz rt dj nw
    refine ⟨ρ1, fp1, Z2, W, b2.env, tk, ?_⟩
    cases q2 : ms ρ1 with
    | no => rw [q2] at o1; exact o1
    | ex x ρ' =>
      rw [q2] at o1
      exact fun cls d H' Z' fp' b e => o1 cls d H' Z' fp' (b2.then b) e
    | ok ds ρ2 =>
      rw [q2] at o1
      intro vs H' Z' fp' b r
      exact o1 (v :: vs) H' Z' fp' (b2.then b) ⟨v, vs, rfl, Rep.mono b.step.zle _ _ r2, r⟩
theorem Reps.length {K : PySem.W.Frag} {Z : Hp} : ∀ {ds : List D} {vs : List V}, Reps K Z ds vs → ds.length = vs.length
  | [], vs, h => by rw [show vs = [] from h]; rfl
  | d :: ds, vs, h => by
    obtain ⟨v, r, e, _, h2⟩ := h
    subst e
    rw [List.length_cons, List.length_cons, Reps.length h2]
theorem limS : (1048576 : Nat) ≤ sizeLine := by decide
def LIM : Nat := 1048576
/-- a new object, laid into the heap -/
theorem step_new {H Z : Hp} {p : Addr} {o : HO} {A : Addr → Prop} (h : H p = none) : Step A H Z (upd H p o) Z :=
  ⟨.refl _, fun a _ hn => ⟨upd_ne fun z => hn (by rw [z]; exact h), fun hz _ => hz⟩, fun a hn => by
    have e : a ≠ p := fun z => hn (by rw [z]; exact h)
    rw [upd_ne e]; exact hn⟩
theorem zok_new {H Z : Hp} {p : Addr} {o : HO} (z : ZOk Z H) (h : H p = none) : ZOk Z (upd H p o) := fun a u e => by
  have : a ≠ p := fun q => z.some e (q ▸ h)
  rw [upd_ne this]; exact z a u e
/-- a new list that the expression owns -/
theorem new_ol {K : PySem.W.Frag} {H Z : Hp} {ds : List D} {vs : List V} {p : Addr} (z : ZOk Z H) (h : H p = none) (r : Reps K Z ds vs) : RepT K (upd H p (.lst vs)) Z (.ol ds) (.ref p) [p] :=
  ⟨p, vs, rfl, rfl, upd_same, z.none h, r⟩
theorem new_od {K : PySem.W.Frag} {H Z : Hp} {ds : List (Key × D)} {vs : List (Key × V)} {p : Addr} (z : ZOk Z H) (h : H p = none) (r : RepK K Z ds vs) : RepT K (upd H p (.dK vs)) Z (.od ds) (.ref p) [p] :=
  ⟨p, vs, rfl, rfl, upd_same, z.none h, r⟩
theorem new_odt {K : PySem.W.Frag} {H Z : Hp} {ds : List (List Key × D)} {vs : List (List Key × V)} {p : Addr} (z : ZOk Z H) (h : H p = none) (r : RepKT K Z ds vs) : RepT K (upd H p (.dT vs)) Z (.odt ds) (.ref p) [p] :=
  ⟨p, vs, rfl, rfl, upd_same, z.none h, r⟩
/-- a new tuple: it stands still at once -/
theorem new_tup {K : PySem.W.Frag} {H Z : Hp} {ds : List D} {vs : List V} {p : Addr} (z : ZOk Z H) (h : H p = none) (r : Reps K Z ds vs) :
    Rep K (upd Z p (.tup vs)) (.tup ds) (.ref p) ∧ ZOk (upd Z p (.tup vs)) (upd H p (.tup vs)) ∧ Step NoA H Z (upd H p (.tup vs)) (upd Z p (.tup vs)) := by
  have hz := z.none h
  refine ⟨⟨p, vs, rfl, upd_same, Reps.mono (zle_put hz) _ _ r⟩, zok_put (zok_new z h) upd_same, ?_⟩
  exact ⟨zle_put hz, fun a _ hn => ⟨upd_ne fun (q : a = p) => hn (by rw [q]; exact h), fun hz _ => by rw [upd_ne fun (q : a = p) => hn (by rw [q]; exact h)]; exact hz⟩, (step_new (A := NoA) (Z := Z) h).live⟩
def mLst (ms : M (List D)) : M T := fun ρ => (ms ρ).bind fun ds ρ' => if ds.length ≤ LIM then .ok (.ol ds) ρ' else .no
def mTup (ms : M (List D)) : M T := fun ρ => (ms ρ).bind fun ds ρ' => if ds.length ≤ LIM then .ok (.fz (.tup ds)) ρ' else .no
theorem de_lst {ms : M (List D)} (h : DA X es ms) : DE X (.List es pos) (mLst ms) := PE.weak (pe_lst h) fun σ H Q q => by
  obtain ⟨ρ, fp, Z, W, E, tk, o⟩ := q
  refine ⟨ρ, fp, Z, W, E, tk, ?_⟩
  unfold mLst at o
  cases q : ms ρ with
  | no => rw [q] at o; exact o
  | ex x ρ' => rw [q] at o; exact o
  | ok ds ρ1 =>
    rw [q] at o
    have o1 : OutE X (FpA fp) σ H Z (if ds.length ≤ LIM then .ok (.ol ds) ρ1 else .no) Q W := o
    intro vs H1 Z1 fp1 b1 r
    by_cases hl : ds.length ≤ LIM
    · rw [if_pos hl] at o1
      refine ⟨by rw [← r.length]; exact Nat.le_trans hl limS, fun p hp => ?_⟩
      exact o1 (.ref p) _ Z1 fp1 [p] (b1.pure (step_new hp) (zok_new b1.env.zok hp)) (new_ol b1.env.zok hp r)
        (fun a ha hn => (b1.env.live hn).1 (by rw [List.mem_singleton.mp ha]; exact hp)) fun a ha => b1.new' (.inr (by rw [List.mem_singleton.mp ha]; exact hp))
    · rw [if_neg hl] at o1; exact o1.elim
theorem de_tup {ms : M (List D)} {x1} (h : DA X es ms) : DE X (.Tuple es x1 pos) (mTup ms) := PE.weak (pe_tup h) fun σ H Q q => by
  obtain ⟨ρ, fp, Z, W, E, tk, o⟩ := q
  refine ⟨ρ, fp, Z, W, E, tk, ?_⟩
  unfold mTup at o
  cases q : ms ρ with
  | no => rw [q] at o; exact o
  | ex x ρ' => rw [q] at o; exact o
  | ok ds ρ1 =>
    rw [q] at o
    have o1 : OutE X (FpA fp) σ H Z (if ds.length ≤ LIM then .ok (.fz (.tup ds)) ρ1 else .no) Q W := o
    intro vs H1 Z1 fp1 b1 r
    by_cases hl : ds.length ≤ LIM
    · rw [if_pos hl] at o1
      refine ⟨by rw [← r.length]; exact Nat.le_trans hl limS, fun p hp => ?_⟩
      obtain ⟨n1, n2, n3⟩ := new_tup b1.env.zok hp r
      exact o1 (.ref p) _ _ fp1 [] (b1.pure n3 n2) ⟨rfl, n1⟩ (by simp) (by simp)
    · rw [if_neg hl] at o1; exact o1.elim
end

/-! ### defs -/
/-- what a def gives of data, an exception, or nothing is said -/
def spD (K : PySem.W.Frag) (mg : Str → Option Value) (n : Nat) (F : List D → R Unit T) : Sp := fun vs H Q E => vs.length = n ∧ ∃ ds Z, ZOk Z H ∧ Reps K Z ds vs ∧ match F ds with
  | .ok t () => ∀ v H' Z' fr, ZOk Z' H' → RepT K H' Z' t v fr → Step NoA H Z H' Z' → (∀ a ∈ fr, H a = none) → Q v H'
  | .ex x () => ∀ cls d H' Z', ZOk Z' H' → ExOk mg K Z' x cls d → Step NoA H Z H' Z' → E cls d H'
  | .no => False
/-- .. whose first argument is changed in its place -/
def spI (K : PySem.W.Frag) (mg : Str → Option Value) (n : Nat) (F : T → List D → R T T) : Sp := fun vs H Q E => vs.length = n + 1 ∧ ∃ v0 vr t0 ds fr0 Z, vs = v0 :: vr ∧ ZOk Z H ∧ RepT K H Z t0 v0 fr0 ∧ Reps K Z ds vr ∧ match F t0 ds with
  | .ok t t1 => ∀ v H' Z' fr1 fr, ZOk Z' H' → RepT K H' Z' t1 v0 fr1 → RepT K H' Z' t v fr → (∀ a ∈ fr, a ∉ fr1) → Step (fun a => a ∈ fr0) H Z H' Z' → (∀ a, a ∈ fr ∨ a ∈ fr1 → a ∈ fr0 ∨ H a = none) → Q v H'
  | .ex x t1 => ∀ cls d H' Z' fr1, ZOk Z' H' → RepT K H' Z' t1 v0 fr1 → ExOk mg K Z' x cls d → Step (fun a => a ∈ fr0) H Z H' Z' → (∀ a ∈ fr1, a ∈ fr0 ∨ H a = none) → E cls d H'
  | .no => False
structure FnK (P : Program) (w : World) (K : PySem.W.Frag) (mg : Str → Option Value) (base : Heap) (k : Nat) (x : Str) (sp : Sp) : Prop where
  ex : ∃ f fd ps, mg x = some (.ref f) ∧ PySem.W.keepIn K (.ref f) = true ∧ Binds K fd ps [] ∧ FnOk P w K mg base (L2.CX P w) k f fd ps sp
abbrev FnD (P : Program) (w : World) (K : PySem.W.Frag) (mg : Str → Option Value) (base : Heap) (k : Nat) (x : Str) (n : Nat) (F : List D → R Unit T) : Prop := FnK P w K mg base k x (spD K mg n F)
abbrev FnI (P : Program) (w : World) (K : PySem.W.Frag) (mg : Str → Option Value) (base : Heap) (k : Nat) (x : Str) (n : Nat) (F : T → List D → R T T) : Prop := FnK P w K mg base k x (spI K mg n F)
theorem FnK.mono {P : Program} {w : World} {K : PySem.W.Frag} {mg : Str → Option Value} {base : Heap} {j k : Nat} {x : Str} {sp : Sp} (h : FnK P w K mg base j x sp) (hjk : j ≤ k) : FnK P w K mg base k x sp := by
  obtain ⟨f, fd, ps, h1, h2, h3, h4⟩ := h.ex
  exact ⟨f, fd, ps, h1, h2, h3, h4.mono hjk⟩

def mCall (F : List D → R Unit T) (ms : M (List D)) : M T := fun ρ => (ms ρ).bind fun ds ρ' => match F ds with
  | .ok t _ => .ok t ρ'
  | .ex x _ => .ex x ρ'
  | .no => .no
def mCallI (i : Nat) (F : T → List D → R T T) (ms : M (List D)) : M T := fun ρ => match ρ[i]? with
  | some (some _) => (ms ρ).bind fun ds ρ1 => match ρ1[i]? with
    | some (some t0) => (match F t0 ds with
      | .ok t t1 => .ok t (ρ1.set i (some t1))
      | .ex x t1 => .ex x (ρ1.set i (some t1))
      | .no => .no)
    | _ => .no
  | _ => .no
/-- all that may be wished of exceptions here -/
def Wu (X : Cx) : WX := fun cls d σ H => ∃ W, Takes X W ∧ W cls d σ H
theorem takes_u {X : Cx} : Takes X (Wu X) := fun u s' x => by
  obtain ⟨a, B, sI, pins, σ, H, cls, d, h1, h2, h3, h4, h5, h6, h7, h8, W, tk, hW⟩ := x
  exact tk u s' ⟨a, B, sI, pins, σ, H, cls, d, h1, h2, h3, h4, h5, h6, h7, h8, hW⟩
section
variable {X : Cx} {e : Expr} {es : List Expr} {pos p : Pos} {k : Nat} {x : Str}
theorem de_call {n : Nat} {F : List D → R Unit T} {ms : M (List D)} (G : FnD X.prog X.w X.K X.mg X.base k x n F) (hr : Room k X.A) (hg : Gl X x) (ha : DA X (e :: es) ms) (hn : (e :: es).length = n := by rfl) (hdb : (x == ("__debug__" : Str)) = false := by decide)
    (he : starEach (e :: es) X.env = (false, eval e X.env) :: starEach es X.env := by rfl) (hpl : (backTo pos (starEach es X.env)).any (·.1) = false := by rfl) (hlen : ∀ ρ ds ρ', ms ρ = .ok ds ρ' → ds.length = n) : DE X (.Call (.Name x p) (e :: es) [] pos) (mCall F ms) := by
  obtain ⟨f, fd, ps, h1, h2, h3, h4⟩ := G.ex
  refine PE.weak (pe_callS h4 hr hg h1 h2 h3 (fun σ => passAt takes_u σ) ha hdb he hpl) fun σ H Q q => ?_
  obtain ⟨ρ, fp, Z, W, E, tk, o⟩ := q
  refine ⟨ρ, fp, Z, W, E, tk, ?_⟩
  unfold mCall at o
  cases q : ms ρ with
  | no => rw [q] at o; exact o
  | ex x ρ' => rw [q] at o; exact o
  | ok ds ρ1 =>
    rw [q] at o
    intro vs H1 Z1 fp1 b1 r
    refine ⟨by rw [← r.length]; exact hlen _ _ _ q, ds, Z1, b1.env.zok, r, ?_⟩
    have o1 : OutE X (FpA fp) σ H Z (match F ds with
      | .ok t _ => .ok t ρ1
      | .ex x _ => .ex x ρ1
      | .no => .no) Q W := o
    cases q2 : F ds with
    | no => rw [q2] at o1; exact o1
    | ex x u =>
      rw [q2] at o1
      intro cls d H' Z' z' ex st
      exact ⟨W, tk, o1 cls d H' Z' fp1 (b1.pure st z') ex⟩
    | ok t u =>
      rw [q2] at o1
      intro v H' Z' fr z' rt st nw
      exact o1 v H' Z' fp1 fr (b1.pure st z') rt (fun a ha hn => (b1.env.live hn).1 (nw a ha)) fun a ha => b1.new' (.inr (nw a ha))
theorem de_callI {n i : Nat} {F : T → List D → R T T} {ms : M (List D)} (G : FnI X.prog X.w X.K X.mg X.base k x n F) (hr : Room k X.A) (hg : Gl X x) (hi : PE X e (tVar i)) (ha : DA X es ms) (hs : starEach (e :: es) X.env = (false, eval e X.env) :: starEach es X.env := by rfl) (hdb : (x == ("__debug__" : Str)) = false := by decide)
    (hpl : (backTo pos (starEach es X.env)).any (·.1) = false := by rfl) (hlen : ∀ ρ ds ρ', ms ρ = .ok ds ρ' → ds.length = n) : DE X (.Call (.Name x p) (e :: es) [] pos) (mCallI i F ms) := by
  obtain ⟨f, fd, ps, h1, h2, h3, h4⟩ := G.ex
  refine PE.weak (pe_callS h4 hr hg h1 h2 h3 (fun σ => passAt takes_u σ) (pa_cons hi ha hs) hdb hs hpl) fun σ H Q q => ?_
  obtain ⟨ρ, fp, Z, W, E, tk, o⟩ := q
  unfold mCallI at o
  cases h0 : ρ[i]? with
  | none => rw [h0] at o; exact o.elim
  | some u =>
    cases u with
    | none => rw [h0] at o; exact o.elim
    | some t =>
      rw [h0] at o
      obtain ⟨v0, hv0, _⟩ := E.at_ i t h0
      refine ⟨v0, hv0, ρ, fp, Z, W, E, tk, ?_⟩
      have o0 : OutE X (FpA fp) σ H Z ((ms ρ).bind fun ds ρ1 => match ρ1[i]? with
        | some (some t0) => (match F t0 ds with
          | .ok t t1 => .ok t (ρ1.set i (some t1))
          | .ex x t1 => .ex x (ρ1.set i (some t1))
          | .no => .no)
        | _ => .no) Q W := o
      cases q : ms ρ with
      | no => rw [q] at o0; exact o0
      | ex x ρ' => rw [q] at o0; exact o0
      | ok ds ρ1 =>
        rw [q] at o0
        have o1 : OutE X (FpA fp) σ H Z (match ρ1[i]? with
          | some (some t0) => (match F t0 ds with
            | .ok t t1 => .ok t (ρ1.set i (some t1))
            | .ex x t1 => .ex x (ρ1.set i (some t1))
            | .no => .no)
          | _ => .no) Q W := o0
        intro vs H1 Z1 fp1 b1 r
        cases h1 : ρ1[i]? with
        | none => rw [h1] at o1; exact o1.elim
        | some u1 =>
          cases u1 with
          | none => rw [h1] at o1; exact o1.elim
          | some t0 =>
            rw [h1] at o1
            have o2 : OutE X (FpA fp) σ H Z (match F t0 ds with
              | .ok t t1 => .ok t (ρ1.set i (some t1))
              | .ex x t1 => .ex x (ρ1.set i (some t1))
              | .no => .no) Q W := o1
            obtain ⟨v1, hv1, r0⟩ := b1.env.at_ i t0 h1
            rw [hv0] at hv1
            cases hv1
            -- the slot behind the call
            have back : ∀ {H' Z' : Hp} {t1 : T} {fr1 : List Addr}, ZOk Z' H' → RepT X.K H' Z' t1 v0 fr1 → Step (fun a => a ∈ fp1 i) H1 Z1 H' Z' → (∀ a ∈ fr1, a ∈ fp1 i ∨ H1 a = none) →
                Bk X.K (FpA fp) σ H Z (ρ1.set i (some t1)) σ H' Z' (fset fp1 i fr1) := fun {H' Z' t1 fr1} z' rt st nw => by
              have hfree : ∀ a, FpA (fset fp1 i []) a → ¬ a ∈ fp1 i := fun a ⟨j, hj⟩ hin => by
                by_cases e : j = i
                · subst e; rw [fset_same] at hj; simp at hj
                · rw [fset_ne e] at hj; exact b1.env.dis j i a e hj hin
              have E1 := (b1.env.drop i).keep st hfree z'
              have E2 := E1.set' (i := i) (t := t1) (l := fr1) hv0 rt (fun a ha j hj hin => by
                rw [fset_ne hj] at hin
                rcases nw a ha with z | z
                · exact b1.env.dis j i a hj hin z
                · exact (b1.env.live ⟨j, hin⟩).1 z)
              rw [List.set_set] at E2
              have e : fset (fset fp1 i []) i fr1 = fset fp1 i fr1 := by
                funext j; unfold fset; split <;> rfl
              rw [e] at E2
              refine ⟨E2, b1.step.trans st fun a ha => b1.new a ⟨i, ha⟩, fun a ha => ?_⟩
              rcases fset_A ha with z | z
              · rcases nw a z with y | y
                · exact b1.new a ⟨i, y⟩
                · exact b1.new' (.inr y)
              · exact b1.new a z
            refine ⟨by rw [List.length_cons, ← r.length, hlen _ _ _ q], v0, vs, t0, ds, fp1 i, Z1, rfl, b1.env.zok, r0, r, ?_⟩
            cases q2 : F t0 ds with
            | no => rw [q2] at o2; exact o2
            | ex x t1 =>
              rw [q2] at o2
              intro cls d H' Z' fr1 z' rt ex st nw
              exact ⟨W, tk, o2 cls d H' Z' _ (back z' rt st nw) ex⟩
            | ok t' t1 =>
              rw [q2] at o2
              intro v H' Z' fr1 fr z' rt1 rt dj st nw
              refine o2 v H' Z' _ fr (back z' rt1 st fun a ha => nw a (.inr ha)) rt (fun a ha hn => ?_) fun a ha => ?_
              · rcases fset_A hn with z | ⟨j, hj⟩
                · exact dj a ha z
                · by_cases e : j = i
                  · subst e
                    -- the old owned things of the slot: what stands there now is disjoint or it is the slot's own
                    obtain ⟨j', hj'⟩ := hn
                    by_cases e' : j' = j
                    · subst e'; rw [fset_same] at hj'; exact dj a ha hj'
                    · rw [fset_ne e'] at hj'
                      exact b1.env.dis j' j a e' hj' hj
                  · rcases nw a (.inl ha) with z | z
                    · exact b1.env.dis j i a e hj z
                    · exact (b1.env.live ⟨j, hj⟩).1 z
              · rcases nw a (.inl ha) with z | z
                · exact b1.new a ⟨i, z⟩
                · exact b1.new' (.inr z)
end

/-! ### statements -/
def mNx : M Fl := fun ρ => .ok .nx ρ
def mBk : M Fl := fun ρ => .ok .bk ρ
def mCt : M Fl := fun ρ => .ok .ct ρ
def mSeq (m n : M Fl) : M Fl := fun ρ => (m ρ).bind fun f ρ' => match f with
  | .nx => n ρ'
  | f => .ok f ρ'
def mSet (i : Nat) (m : M T) : M Fl := fun ρ => (m ρ).bind fun t ρ' => if i < ρ'.length then .ok .nx (ρ'.set i (some t)) else .no
def mRet (m : M T) : M Fl := fun ρ => (m ρ).bind fun t ρ' => .ok (.rt t) ρ'
def mExpr (m : M T) : M Fl := fun ρ => (m ρ).bind fun _ ρ' => .ok .nx ρ'
section
variable {X : Cx} {pin : List Nat} {st : Stmt} {sts : List Stmt} {e c : Expr} {pos : Pos} {m n : M Fl} {me : M T}
theorem dss_nil : DSs X pin [] mNx := PSs.weak pss_nil fun D σ H q => by
  obtain ⟨ρ, fp, Z, W, E, tk, o⟩ := q
  exact o σ H Z fp (Bk.refl E) .refl
theorem dss_one (h : DS X pin st m) : DSs X pin [st] m := pss_one h
theorem dss_cons (h : DS X pin st m) (t : DSs X pin sts n) : DSs X pin (st :: sts) (mSeq m n) := PSs.weak (pss_cons h t) fun D σ H q => by
  obtain ⟨ρ, fp, Z, W, E, tk, o⟩ := q
  refine ⟨ρ, fp, Z, W, E, tk, ?_⟩
  unfold mSeq at o
  cases q : m ρ with
  | no => rw [q] at o; exact o
  | ex x ρ' => rw [q] at o; exact o
  | ok f ρ' =>
    rw [q] at o
    cases f with
    | nx =>
      have o1 : OutS X pin (FpA fp) σ H Z (n ρ') D W := o
      exact fun σ' H' Z' fp' b p => ⟨ρ', fp', Z', W, b.env, tk, o1.first b.step b.new p⟩
    | bk => exact o
    | ct => exact o
    | rt t => exact o
theorem ds_pass : DS X pin (.Pass pos) mNx := PS.weak ps_pass fun D σ H q => by
  obtain ⟨ρ, fp, Z, W, E, tk, o⟩ := q
  exact o σ H Z fp (Bk.refl E) .refl
theorem ds_break : DS X pin (.Break pos) mBk := PS.weak ps_break fun D σ H q => by
  obtain ⟨ρ, fp, Z, W, E, tk, o⟩ := q
  exact o σ H Z fp (Bk.refl E) .refl
theorem ds_continue : DS X pin (.Continue pos) mCt := PS.weak ps_continue fun D σ H q => by
  obtain ⟨ρ, fp, Z, W, E, tk, o⟩ := q
  exact o σ H Z fp (Bk.refl E) .refl
theorem PinOk.set {σ : St} {i : Nat} {o : Option V} (h : i ∉ pin) : PinOk pin σ (σ.set i o) := fun j hj => List.getElem?_set_ne fun (z : i = j) => h (by rw [z]; exact hj)
/-- what an owned thing needs to be put into a slot -/
theorem Bk.put {K : PySem.W.Frag} {A : Addr → Prop} {σ σ1 : St} {H Z H1 Z1 : Hp} {ρ1 : Env} {fp1 : Fp} {t : T} {v : V} {fr : List Addr} {i : Nat} (b : Bk K A σ H Z ρ1 σ1 H1 Z1 fp1) (r : RepT K H1 Z1 t v fr) (dj : ∀ a ∈ fr, ¬ FpA fp1 a) (nw : ∀ a ∈ fr, A a ∨ H a = none) (hi : i < ρ1.length) :
    Bk K A σ H Z (ρ1.set i (some t)) (σ1.set i (some v)) H1 Z1 (fset fp1 i fr) :=
  ⟨b.env.set r (fun a ha j _ hin => dj a ha ⟨j, hin⟩) hi, b.step, fun a ha => (fset_A ha).elim (nw a) (b.new a)⟩
theorem ds_set' {i : Nat} (h : PS X st (tAsg (tD X me) (gName i))) (hp : i ∉ pin) : DS X pin st (mSet i me) := PS.weak h fun D σ H q => by
  obtain ⟨ρ, fp, Z, W, E, tk, o⟩ := q
  refine ⟨ρ, fp, Z, W, E, tk, ?_⟩
  unfold mSet at o
  cases q : me ρ with
  | no => rw [q] at o; exact o
  | ex x ρ' => rw [q] at o; exact fun cls d H' Z' fp' b e => o cls d σ H' Z' fp' b .refl e
  | ok t ρ' =>
    rw [q] at o
    have o1 : OutS X pin (FpA fp) σ H Z (if i < ρ'.length then .ok .nx (ρ'.set i (some t)) else .no) D W := o
    intro v H' Z' fp' fr b rt dj nw
    by_cases hi : i < ρ'.length
    · rw [if_pos hi] at o1
      exact o1 _ H' Z' _ (b.put rt dj nw hi) (.set hp)
    · rw [if_neg hi] at o1; exact o1.elim
theorem ds_set {i : Nat} {x : Str} {pos' : Pos} (hN : X.N.Nodup) (he : DE X e me) (hp : i ∉ pin := by decide) (hi : X.N[i]? = some x := by rfl) (hx : Loc X.env.scope x := by first | exact Or.inl rfl | exact Or.inr rfl) (hs : swapsWith e (some (.Name x pos')) pos.line X.env = pure false := by rfl)
    (hf : X.fn x = true ∨ X.env.scope.names.lookup x = some .local := by first | exact .inl rfl | exact .inr rfl | assumption) : DS X pin (.Assign [.Name x pos'] e pos) (mSet i me) := ds_set' (ps_set hN hi hx he hs hf) hp
theorem ds_ret (he : DE X e me) : DS X pin (.Return (some e) pos) (mRet me) := PS.weak (ps_ret he) fun D σ H q => by
  obtain ⟨ρ, fp, Z, W, E, tk, o⟩ := q
  refine ⟨ρ, fp, Z, W, E, tk, ?_⟩
  unfold mRet at o
  cases q : me ρ with
  | no => rw [q] at o; exact o
  | ex x ρ' => rw [q] at o; exact fun cls d H' Z' fp' b e => o cls d σ H' Z' fp' b .refl e
  | ok t ρ' => rw [q] at o; exact fun v H' Z' fp' fr b rt dj nw => o v σ H' Z' fp' fr b .refl rt dj nw
theorem ds_retN : DS X pin (.Return none pos) (mRet (mC .non)) := PS.weak ps_retN fun D σ H q => by
  obtain ⟨ρ, fp, Z, W, E, tk, o⟩ := q
  exact o .non σ H Z fp [] (Bk.refl E) .refl ⟨rfl, rfl⟩ (by simp) (by simp)
theorem ds_expr' {t : TE} (h : PS X st (tDrop (tD X me))) : DS X pin st (mExpr me) := PS.weak h fun D σ H q => by
  obtain ⟨ρ, fp, Z, W, E, tk, o⟩ := q
  refine ⟨ρ, fp, Z, W, E, tk, ?_⟩
  unfold mExpr at o
  cases q : me ρ with
  | no => rw [q] at o; exact o
  | ex x ρ' => rw [q] at o; exact fun cls d H' Z' fp' b e => o cls d σ H' Z' fp' b .refl e
  | ok t ρ' => rw [q] at o; exact fun v H' Z' fp' fr b rt dj nw => o σ H' Z' fp' b .refl
theorem ds_expr (he : DE X e me) (hs : swapsWith e none pos.line X.env = pure false := by rfl) : DS X pin (.Expr e pos) (mExpr me) := ds_expr' (t := tD X me) (ps_expr he hs)
theorem ds_if {a b : List Stmt} {mc : M Bool} (hc : DT X c mc) (ha : DSs X pin a m) (hb : DSs X pin b n) : DS X pin (.If c a b pos) (mIfE mc m n) := PS.weak (ps_if hc ha hb) fun D σ H q => by
  obtain ⟨ρ, fp, Z, W, E, tk, o⟩ := q
  refine ⟨ρ, fp, Z, W, E, tk, ?_⟩
  unfold mIfE at o
  cases h : mc ρ with
  | no => rw [h] at o; exact o
  | ex x ρ' => rw [h] at o; exact fun cls d H' Z' fp' b e => o cls d σ H' Z' fp' b .refl e
  | ok t ρ' =>
    rw [h] at o
    intro H' Z' fp' bk
    cases t with
    | true =>
      rw [if_pos rfl]
      exact ⟨ρ', fp', Z', W, bk.env, tk, OutS.first (r := m ρ') o bk.step bk.new .refl⟩
    | false =>
      rw [if_neg (by decide)]
      exact ⟨ρ', fp', Z', W, bk.env, tk, OutS.first (r := n ρ') o bk.step bk.new .refl⟩
end
end Dn

set_option Elab.async false
set_option linter.all false
set_option maxRecDepth 100000
/-! Dn4: a def by its body; raise; what is walked; for, while, comprehensions. -/
namespace Dn
open PySem PySem.Spec L2
open PyProof.Rows hiding St

/-! ### a def by its body -/
def env0 (n : Nat) (ts : List T) : Env := ts.map some ++ List.replicate (n - ts.length) none
def runD (n : Nat) (m : M Fl) : List D → R Unit T := fun ds => match m (env0 n (ds.map T.fz)) with
  | .ok (.rt t) _ => .ok t ()
  | .ok .nx _ => .ok (.fz .non) ()
  | .ok _ _ => .no
  | .ex x _ => .ex x ()
  | .no => .no
def slot0 (ρ : Env) : Option T := match ρ[0]? with
  | some (some t) => some t
  | _ => none
def runI (n : Nat) (m : M Fl) : T → List D → R T T := fun t0 ds => match m (env0 n (t0 :: ds.map T.fz)) with
  | .ok (.rt t) ρ => (match slot0 ρ with | some t1 => .ok t t1 | none => .no)
  | .ok .nx ρ => (match slot0 ρ with | some t1 => .ok (.fz .non) t1 | none => .no)
  | .ok _ _ => .no
  | .ex x ρ => (match slot0 ρ with | some t1 => .ex x t1 | none => .no)
  | .no => .no
theorem Reps.get {K : PySem.W.Frag} {Z : Hp} : ∀ {ds : List D} {vs : List V} {i : Nat} {d : D}, Reps K Z ds vs → ds[i]? = some d → ∃ v, vs[i]? = some v ∧ Rep K Z d v
  | [], vs, i, d, h, e => by simp at e
  | d0 :: ds, vs, 0, d, h, e => by
    obtain ⟨v, r, e1, h1, h2⟩ := h
    subst e1
    simp at e; subst e
    exact ⟨v, rfl, h1⟩
  | d0 :: ds, vs, i + 1, d, h, e => by
    obtain ⟨v, r, e1, h1, h2⟩ := h
    subst e1
    simpa using Reps.get (i := i) h2 (by simpa using e)
theorem start_len {N : List Str} {vs : List V} (h : vs.length ≤ N.length) : (start N vs).length = N.length := by
  unfold L2.start
  rw [List.length_append, List.length_map, List.length_replicate]; omega
theorem env0_len {n : Nat} {ts : List T} (h : ts.length ≤ n) : (env0 n ts).length = n := by
  unfold env0
  rw [List.length_append, List.length_map, List.length_replicate]; omega
theorem env0_get {n i : Nat} {ts : List T} {t : T} (h : (env0 n ts)[i]? = some (some t)) : ts[i]? = some t := by
  unfold env0 at h
  by_cases hi : i < ts.length
  · rw [List.getElem?_append_left (by simpa using hi), List.getElem?_map] at h
    cases q : ts[i]? with
    | none => rw [q] at h; cases h
    | some u => rw [q] at h; simp at h; rw [h]
  · rw [List.getElem?_append_right (by simpa using hi), List.getElem?_replicate] at h
    split at h <;> simp at h
theorem start_get {N : List Str} {vs : List V} {i : Nat} {v : V} (h : vs[i]? = some v) : (start N vs)[i]? = some (some v) := by
  unfold L2.start
  have hi := (List.getElem?_eq_some_iff.mp h).1
  rw [List.getElem?_append_left (by simpa using hi), List.getElem?_map, h]; rfl
theorem env_start {K : PySem.W.Frag} {H Z : Hp} {N : List Str} {ds : List D} {vs : List V} (z : ZOk Z H) (r : Reps K Z ds vs) (hl : vs.length ≤ N.length) : EnvOk K (env0 N.length (ds.map T.fz)) (start N vs) H Z (fun _ => []) := by
  refine ⟨z, by rw [start_len hl, env0_len (by rw [List.length_map, r.length]; exact hl)], fun i t h => ?_, fun _ _ => rfl, fun i j a _ h => by simp at h⟩
  have h1 := env0_get h
  rw [List.getElem?_map] at h1
  cases q : ds[i]? with
  | none => rw [q] at h1; cases h1
  | some d =>
    rw [q] at h1
    simp only [Option.map_some, Option.some.injEq] at h1
    subst h1
    obtain ⟨v, hv, rv⟩ := r.get q
    exact ⟨v, start_get hv, rfl, rv⟩
theorem env_startI {K : PySem.W.Frag} {H Z : Hp} {N : List Str} {t0 : T} {v0 : V} {fr0 : List Addr} {ds : List D} {vs : List V} (z : ZOk Z H) (r0 : RepT K H Z t0 v0 fr0) (r : Reps K Z ds vs) (hl : vs.length + 1 ≤ N.length) :
    EnvOk K (env0 N.length (t0 :: ds.map T.fz)) (start N (v0 :: vs)) H Z (fun i => if i = 0 then fr0 else []) := by
  refine ⟨z, by rw [start_len (by rw [List.length_cons]; exact hl), env0_len (by rw [List.length_cons, List.length_map, r.length]; exact hl)], fun i t h => ?_, fun i h => ?_, fun i j a hij h h' => ?_⟩
  · have h1 := env0_get h
    cases i with
    | zero =>
      simp at h1; subst h1
      exact ⟨v0, start_get rfl, by rw [if_pos rfl]; exact r0⟩
    | succ i =>
      rw [List.getElem?_cons_succ, List.getElem?_map] at h1
      cases q : ds[i]? with
      | none => rw [q] at h1; cases h1
      | some d =>
        rw [q] at h1
        simp only [Option.map_some, Option.some.injEq] at h1
        subst h1
        obtain ⟨v, hv, rv⟩ := r.get q
        exact ⟨v, start_get (by simpa using hv), by rw [if_neg (by omega)], rv⟩
  · by_cases e : i = 0
    · subst e
      exact absurd rfl (h t0)
    · rw [if_neg e]
  · by_cases e : i = 0
    · rw [if_neg (fun z => hij (e.trans z.symm))] at h'; simp at h'
    · rw [if_neg e] at h; simp at h
section
variable {P : Program} {w : World} {K : PySem.W.Frag} {mg : Str → Option Value} {base : Heap}
theorem FnD.of {x qual : Str} {st : Stmt} {f : Addr} {fd : FuncData} {N ps : List Str} {k : Nat} {m : M Fl} (hm : mg x = some (.ref f)) (G : Fun K x qual st f fd) (S : FnScope N ps (defScope st)) (b : Binds K fd ps [])
    (h : ∀ (cdv : Value) (A : Around) (outer : List PySem.Env) (s : Shared) (H : Hp) (E : XK), Room k (A.deeper (envOfC qual (defScope st) s.heap.objs.size f cdv)) →
      DSs (cxOf (L2.CX P w) P w K mg base N qual (defScope st) f cdv A outer s H E) [] (defBody st) m) : FnD P w K mg base (k + 1) x ps.length (runD N.length m) := by
  refine ⟨f, fd, ps, hm, G.kp, b, G.okX S (fun vs H Q E q => q.1) fun cdv A outer s H vs Q E hr q => ⟨_, h cdv A outer s H E hr, ?_⟩⟩
  obtain ⟨hl, ds, Z, z, r, o⟩ := q
  have hN : ps.length ≤ N.length := by
    have := congrArg List.length S.pre
    rw [List.length_take] at this; omega
  refine ⟨_, _, Z, _, env_start z r (by rw [hl]; exact hN), takes_of rfl rfl rfl rfl, ?_⟩
  have hA : ∀ a, ¬ FpA (fun _ => []) a := fun a ⟨i, hi⟩ => by simp at hi
  have st0 : ∀ {H' Z' : Hp}, Step (FpA fun _ => []) H Z H' Z' → Step NoA H Z H' Z' := fun s => s.mono fun a ha => hA a ha
  unfold runD at o
  cases q : m (env0 N.length (ds.map T.fz)) with
  | no => rw [q] at o; exact o
  | ex x ρ =>
    rw [q] at o
    exact fun cls d σ' H' Z' fp' b _ e => o cls d H' Z' b.env.zok e (st0 b.step)
  | ok fl ρ =>
    rw [q] at o
    cases fl with
    | nx => exact fun σ' H' Z' fp' b _ => o .non H' Z' [] b.env.zok ⟨rfl, rfl⟩ (st0 b.step) (by simp)
    | bk => exact o.elim
    | ct => exact o.elim
    | rt t => exact fun v σ' H' Z' fp' fr b _ rt dj nw => o v H' Z' fr b.env.zok rt (st0 b.step) fun a ha => (nw a ha).resolve_left (hA a)
theorem FnI.of {x qual : Str} {st : Stmt} {f : Addr} {fd : FuncData} {N ps : List Str} {k n : Nat} {m : M Fl} (hm : mg x = some (.ref f)) (G : Fun K x qual st f fd) (S : FnScope N ps (defScope st)) (b : Binds K fd ps []) (hn : ps.length = n + 1)
    (h : ∀ (cdv : Value) (A : Around) (outer : List PySem.Env) (s : Shared) (H : Hp) (E : XK), Room k (A.deeper (envOfC qual (defScope st) s.heap.objs.size f cdv)) →
      DSs (cxOf (L2.CX P w) P w K mg base N qual (defScope st) f cdv A outer s H E) [0] (defBody st) m) : FnI P w K mg base (k + 1) x n (runI N.length m) := by
  refine ⟨f, fd, ps, hm, G.kp, b, G.okX S (fun vs H Q E q => by rw [q.1, hn]) fun cdv A outer s H vs Q E hr q => ⟨_, h cdv A outer s H E hr, ?_⟩⟩
  obtain ⟨hl, v0, vr, t0, ds, fr0, Z, rfl, z, r0, r, o⟩ := q
  have hN : ps.length ≤ N.length := by
    have := congrArg List.length S.pre
    rw [List.length_take] at this; omega
  refine ⟨_, _, Z, _, env_startI z r0 r (by rw [List.length_cons] at hl; omega), takes_of rfl rfl rfl rfl, ?_⟩
  have hA : ∀ a, FpA (fun i => if i = 0 then fr0 else []) a → a ∈ fr0 := fun a ⟨i, hi⟩ => by
    have hi : a ∈ (if i = 0 then fr0 else []) := hi
    by_cases e : i = 0
    · rw [if_pos e] at hi; exact hi
    · rw [if_neg e] at hi; simp at hi
  have s0 : (start N (v0 :: vr))[0]? = some (some v0) := start_get rfl
  -- what stands at the first slot behind the body
  have back : ∀ {ρ : Env} {σ' : St} {H' Z' : Hp} {fp' : Fp} {t1 : T}, slot0 ρ = some t1 → Bk K (FpA fun i => if i = 0 then fr0 else []) (start N (v0 :: vr)) H Z ρ σ' H' Z' fp' → PinOk [0] (start N (v0 :: vr)) σ' → RepT K H' Z' t1 v0 (fp' 0) := fun {ρ σ' H' Z' fp' t1} e b p => by
    unfold slot0 at e
    cases q : ρ[0]? with
    | none => rw [q] at e; cases e
    | some u =>
      cases u with
      | none => rw [q] at e; cases e
      | some t =>
        rw [q] at e; cases e
        obtain ⟨v, hv, rv⟩ := b.env.at_ 0 _ q
        rw [p 0 (by simp), s0] at hv
        cases hv
        exact rv
  unfold runI at o
  cases q : m (env0 N.length (t0 :: ds.map T.fz)) with
  | no => rw [q] at o; exact o
  | ex x ρ =>
    rw [q] at o
    cases q1 : slot0 ρ with
    | none =>
      have o' : (match (match slot0 ρ with | some t1 => R.ex x t1 | none => .no : R T T) with
        | .ok t t1 => _
        | .ex x t1 => _
        | .no => False) := o
      rw [q1] at o'; exact o'.elim
    | some t1 =>
      simp only [q1] at o
      exact fun cls d σ' H' Z' fp' b p e => o cls d H' Z' (fp' 0) b.env.zok (back q1 b p) e (b.step.mono hA) fun a ha => (b.new a ⟨0, ha⟩).imp (hA a) id
  | ok fl ρ =>
    rw [q] at o
    cases fl with
    | nx =>
      cases q1 : slot0 ρ with
      | none => simp only [q1] at o
      | some t1 =>
        simp only [q1] at o
        exact fun σ' H' Z' fp' b p => o .non H' Z' (fp' 0) [] b.env.zok (back q1 b p) ⟨rfl, rfl⟩ (by simp) (b.step.mono hA) fun a ha => (ha.resolve_left (by simp) |> fun ha => (b.new a ⟨0, ha⟩).imp (hA a) id)
    | bk => exact o.elim
    | ct => exact o.elim
    | rt t =>
      cases q1 : slot0 ρ with
      | none => simp only [q1] at o
      | some t1 =>
        simp only [q1] at o
        exact fun v σ' H' Z' fp' fr b p rt dj nw => o v H' Z' (fp' 0) fr b.env.zok (back q1 b p) rt (fun a ha hn => dj a ha ⟨0, hn⟩) (b.step.mono hA) fun a ha => ha.elim (fun ha => (nw a ha).imp (hA a) id) fun ha => (b.new a ⟨0, ha⟩).imp (hA a) id
end

/-! ### raise -/
structure XCls (P : Program) (w : World) (K : PySem.W.Frag) (mg : Str → Option Value) (base : Heap) (k : Nat) (x f : Str) : Prop where
  ex : ∃ C fI fd ps, mg x = some (.ref C) ∧ OexC K C ∧ PySem.W.findIn K (.ref C) "__init__" = some (some (.ref fI)) ∧ PySem.W.typeIn K (.ref fI) = some (.type "function") ∧ Binds K fd ps [] ∧ FnOk P w K mg base (L2.CX P w) k fI fd ps (spXI C f)
def mRaise (x f : Str) (ms : M (List D)) : M Fl := fun ρ => (ms ρ).bind fun ds ρ' => match ds with
  | [d] => .ex ⟨x, [(f, d)]⟩ ρ'
  | _ => .no
section
variable {X : Cx} {e : Expr} {pos p p0 : Pos} {k : Nat} {x f : Str} {pin : List Nat}
theorem ds_raise {ms : M (List D)} (G : XCls X.prog X.w X.K X.mg X.base k x f) (hr : Room (k + 1) X.A) (hc : X.calm = true) (hg : Gl X x) (ha : DA X [e] ms) (hdb : (x == ("__debug__" : Str)) = false := by decide)
    (he : starEach [e] X.env = [(false, eval e X.env)] := by rfl) (hpl : (backTo pos (starEach [] X.env)).any (·.1) = false := by rfl) : DS X pin (.Raise (some (.Call (.Name x p) [e] [] pos)) none p0) (mRaise x f ms) := by
  obtain ⟨C, fI, fd, ps, h1, h2, h3, h4, h5, h6⟩ := G.ex
  refine PS.weak (ps_raise hc (W := Wu X) takes_u (pmk_oex h2 h3 h4 h6 hr h5 (.nil) (fun _ _ _ _ _ _ _ hh => by
    obtain ⟨_, _, _, _, _, _, _, _, _, _, _, _, z⟩ := hh
    exact z.elim) hg h1 ha hdb he hpl)) fun D σ H q => ?_
  obtain ⟨ρ, fp, Z, W, E, tk, o⟩ := q
  refine ⟨ρ, fp, Z, W, E, tk, ?_⟩
  unfold mRaise at o
  cases q : ms ρ with
  | no => rw [q] at o; exact o
  | ex x ρ' => rw [q] at o; exact fun cls d H' Z' fp' b e => o cls d σ H' Z' fp' b .refl e
  | ok ds ρ' =>
    rw [q] at o
    intro vs H1 Z1 fp1 b1 r
    match ds, o, r with
    | [d], o, r =>
      obtain ⟨v, r1, e1, rd, e2⟩ := r
      have e2 : r1 = [] := e2
      subst e2; subst e1
      refine ⟨by show 1 ≤ 1000; decide, fun a ha => ⟨a, v, rfl, upd_same, fun dx hdx ndx => ?_⟩⟩
      have hdx1 : H1 dx = none := by rw [upd_ne ndx] at hdx; exact hdx
      refine ⟨rfl, dx, [(f, v)], upd_same, by rw [upd_ne ndx, upd_same], hdx1, W, tk, ?_⟩
      -- the heap behind it
      have hz := b1.env.zok.none hdx1
      have heap : ∀ b, b ≠ dx → b ≠ a → (upd (del (upd (upd (upd H1 a (exo a C none)) dx (exd dx [(f, v)])) a (exo a C (some dx))) a) dx (.xd [(f, v)])) b = H1 b := fun b h1 h2 => by
        rw [upd_ne h1, del_ne h2, upd_ne h2, upd_ne h1, upd_ne h2]
      have zok2 : ZOk (upd Z1 dx (.xd [(f, v)])) (upd (del (upd (upd (upd H1 a (exo a C none)) dx (exd dx [(f, v)])) a (exo a C (some dx))) a) dx (.xd [(f, v)])) := fun b u hb => by
        by_cases e : b = dx
        · subst e; rw [upd_same] at hb; cases hb; exact .inl upd_same
        · rw [upd_ne e] at hb
          have nb : b ≠ a := fun z => b1.env.zok.some hb (by rw [z]; exact ha)
          rw [heap b e nb]
          exact b1.env.zok b u hb
      have st : Step NoA H1 Z1 (upd (del (upd (upd (upd H1 a (exo a C none)) dx (exd dx [(f, v)])) a (exo a C (some dx))) a) dx (.xd [(f, v)])) (upd Z1 dx (.xd [(f, v)])) := by
        have ne : ∀ b, H1 b ≠ none → b ≠ dx ∧ b ≠ a := fun b hb => ⟨fun z => hb (by rw [z]; exact hdx1), fun z => hb (by rw [z]; exact ha)⟩
        refine ⟨zle_put hz, fun b _ hb => ⟨heap b (ne b hb).1 (ne b hb).2, fun hz _ => by rw [upd_ne (ne b hb).1]; exact hz⟩, fun b hb => ?_⟩
        rw [heap b (ne b hb).1 (ne b hb).2]; exact hb
      refine o (.ref C) (some dx) σ _ _ fp1 (b1.pure st zok2) .refl ⟨C, h1, rfl, dx, [(f, v)], rfl, upd_same, rfl, ?_⟩
      exact ⟨v, [], rfl, Rep.mono st.zle _ _ rd, rfl⟩
end

/-! ### what is walked -/
structure ItOk (K : PySem.W.Frag) (J : It) (ds : List D) (A : Addr → Prop) (H1 Z1 : Hp) : Prop where
  len : ds.length ≤ sizeLine
  at_ : ∀ H Z, ZOk Z H → Step (fun a => Z1 a = none) H1 Z1 H Z → (∀ i, i < ds.length → J.go i H) ∧ J.stop ds.length H ∧
    ∀ i x H', i < ds.length → J.yld i H x H' → ∃ Z' d, ds[i]? = some d ∧ ZOk Z' H' ∧ Step NoA H Z H' Z' ∧ Rep K Z' d x
def OutI (X : Cx) (A : Addr → Prop) (σ : St) (H Z : Hp) (r : R Env (List D)) (Q : It → Hp → Prop) (W : WX) : Prop := match r with
  | .ok ds ρ' => ∀ J H' Z' fp', Bk X.K A σ H Z ρ' σ H' Z' fp' → ItOk X.K J ds (FpA fp') H' Z' → Q J H'
  | .ex x ρ' => ∀ cls d H' Z' fp', Bk X.K A σ H Z ρ' σ H' Z' fp' → ExOk X.mg X.K Z' x cls d → W cls d σ H'
  | .no => False
abbrev PreP := Env → St → Hp → Prop
abbrev PT0 : PreP := fun _ _ _ => True
def iDP (X : Cx) (P : PreP) (m : M (List D)) : TI := fun σ H Q => ∃ ρ fp Z W, EnvOk X.K ρ σ H Z fp ∧ Takes X W ∧ P ρ σ H ∧ OutI X (FpA fp) σ H Z (m ρ) Q W
abbrev iD (X : Cx) (m : M (List D)) : TI := iDP X PT0 m
abbrev DI (X : Cx) (tg e : Expr) (m : M (List D)) : Prop := PI X tg e (iD X m)
theorem PI.weak {X : Cx} {tg e : Expr} {t t' : TI} (h : PI X tg e t) (w : ∀ σ H Q, t' σ H Q → t σ H Q) : PI X tg e t' := ⟨fun pins s σ H Q I q => h.run pins s σ H Q I (w σ H Q q)⟩
/-- the state's own facts are at hand where it comes to an end -/
theorem PI.inv {X : Cx} {tg e : Expr} {t : TI} (h : PI X tg e t) : PI X tg e (fun σ H Q => t σ H fun J H' => (∃ pins s, Inv X pins σ H' s) → Q J H') := ⟨fun pins s σ H Q I q => by
  refine thn (h.run pins s σ H _ I q) fun v s1 h1 => thn h1 fun itv s2 h2 => ?_
  obtain ⟨it, fp, tn, J, H', e1, I1, tu, e2, e3, q1⟩ := h2
  exact ⟨it, fp, tn, J, H', e1, I1, tu, e2, e3, q1 ⟨_, _, I1⟩⟩⟩
theorem PE.inv {X : Cx} {e : Expr} {t : TE} (h : PE X e t) : PE X e (fun σ H Q => t σ H fun v H' => (∃ pins s, Inv X pins σ H' s) → Q v H') := ⟨fun pins s σ H Q I q => by
  refine thn (h.run pins s σ H _ I q) fun v s1 ⟨x, H1, I1, r1, q1⟩ => ⟨x, H1, I1, r1, q1 ⟨_, _, I1⟩⟩⟩
theorem Inv.lenL {X : Cx} {pins : List (Addr × Obj)} {σ : St} {H : Hp} {s : Shared} (I : Inv X pins σ H s) {a : Addr} {xs : List V} (h : H a = some (.lst xs)) : xs.length ≤ sizeLine := by
  obtain ⟨z, _⟩ := I.hok a _ h
  exact z

/-! ### targets -/
def gD (X : Cx) (g : D → Env → Option Env) (slots : List Nat) : TG := fun v σ H Q => ∃ ρ fp Z d ρ', EnvOk X.K ρ σ H Z fp ∧ Rep X.K Z d v ∧ g d ρ = some ρ' ∧
  ∀ σ' fp', EnvOk X.K ρ' σ' H Z fp' → (∀ a, FpA fp' a → FpA fp a) → (∀ j, j ∉ slots → σ'[j]? = σ[j]?) → σ'.length = σ.length → Q σ' H
abbrev DG (X : Cx) (tg : Expr) (g : D → Env → Option Env) (slots : List Nat) : Prop := PG X tg (gD X g slots)
theorem PG.weak {X : Cx} {tg : Expr} {t t' : TG} (h : PG X tg t) (w : ∀ v σ H Q, t' v σ H Q → t v σ H Q) : PG X tg t' := ⟨fun pins s σ H v u Q I r q => h.run pins s σ H v u Q I r (w v σ H Q q)⟩
theorem PGs.weak {X : Cx} {tg : List Expr} {t t' : TGs} (h : PGs X tg t) (w : ∀ v σ H Q, t' v σ H Q → t v σ H Q) : PGs X tg t' := ⟨fun pins s σ H v u Q I r q => h.run pins s σ H v u Q I r (w v σ H Q q)⟩
def g1 (i : Nat) : D → Env → Option Env := fun d ρ => if i < ρ.length then some (ρ.set i (some (.fz d))) else none
def gsD (X : Cx) (g : List D → Env → Option Env) (slots : List Nat) : TGs := fun vs σ H Q => ∃ ρ fp Z ds ρ', EnvOk X.K ρ σ H Z fp ∧ Reps X.K Z ds vs ∧ g ds ρ = some ρ' ∧
  ∀ σ' fp', EnvOk X.K ρ' σ' H Z fp' → (∀ a, FpA fp' a → FpA fp a) → (∀ j, j ∉ slots → σ'[j]? = σ[j]?) → σ'.length = σ.length → Q σ' H
abbrev DGs (X : Cx) (tgs : List Expr) (g : List D → Env → Option Env) (slots : List Nat) : Prop := PGs X tgs (gsD X g slots)
def gs0 : List D → Env → Option Env := fun ds ρ => match ds with
  | [] => some ρ
  | _ => none
def gs1 (g : D → Env → Option Env) (gs : List D → Env → Option Env) : List D → Env → Option Env := fun ds ρ => match ds with
  | d :: r => (g d ρ).bind fun ρ' => gs r ρ'
  | [] => none
/-- a tuple's parts -/
def gT (n : Nat) (gs : List D → Env → Option Env) : D → Env → Option Env := fun d ρ => match d with
  | .tup ds => if ds.length = n then gs ds ρ else none
  | _ => none
section
variable {X : Cx} {e : Expr} {es : List Expr} {pos : Pos}
theorem dg_name {i : Nat} {x : Str} (hN : X.N.Nodup) (hi : X.N[i]? = some x := by rfl) (hx : Loc X.env.scope x := by first | exact Or.inl rfl | exact Or.inr rfl) (hf : X.fn x = true ∨ X.env.scope.names.lookup x = some .local := by first | exact .inl rfl | exact .inr rfl | assumption) : DG X (.Name x pos) (g1 i) [i] := PG.weak (pg_name hN hi hx hf) fun v σ H Q q => by
  obtain ⟨ρ, fp, Z, d, ρ', E, r, e, k⟩ := q
  unfold g1 at e
  split at e
  · rename_i hi'
    cases e
    refine k _ (fset fp i []) (E.set (l := []) ⟨rfl, r⟩ (by simp) hi') (fun a ha => (fset_A ha).resolve_left (by simp)) (fun j hj => List.getElem?_set_ne fun z => hj (by simp [z])) (by simp)
  · cases e
theorem dgs_nil : DGs X [] gs0 [] := PGs.weak pgs_nil fun vs σ H Q q => by
  obtain ⟨ρ, fp, Z, ds, ρ', E, r, e, k⟩ := q
  unfold gs0 at e
  split at e
  · cases e
    exact ⟨r, k σ fp E (fun _ h => h) (fun _ _ => rfl) rfl⟩
  · cases e
theorem dgs_cons {g : D → Env → Option Env} {gs : List D → Env → Option Env} {sl sls : List Nat} (h1 : DG X e g sl) (h2 : DGs X es gs sls) (hs : (assignEach (e :: es) X.env).map (·.2) = assign e X.env :: (assignEach es X.env).map (·.2) := by rfl) : DGs X (e :: es) (gs1 g gs) (sl ++ sls) := PGs.weak (pgs_cons h1 h2 hs) fun vs σ H Q q => by
  obtain ⟨ρ, fp, Z, ds, ρ', E, r, e, k⟩ := q
  unfold gs1 at e
  match ds, r, e with
  | d :: ds, r, e =>
    obtain ⟨v, vr, e1, rd, rr⟩ := r
    subst e1
    have e : ((g d ρ).bind fun ρ' => gs ds ρ') = some ρ' := e
    cases q : g d ρ with
    | none => rw [q] at e; cases e
    | some ρ1 =>
      rw [q] at e
      refine ⟨v, vr, rfl, ρ, fp, Z, d, ρ1, E, rd, q, fun σ1 fp1 E1 s1 j1 l1 => ?_⟩
      exact ⟨ρ1, fp1, Z, ds, ρ', E1, rr, e, fun σ2 fp2 E2 s2 j2 l2 => k σ2 fp2 E2 (fun a ha => s1 a (s2 a ha)) (fun j hj => by
        rw [j2 j fun z => hj (List.mem_append_right _ z), j1 j fun z => hj (List.mem_append_left _ z)]) (l2.trans l1)⟩
theorem gT_read {n : Nat} {gs : List D → Env → Option Env} {sls : List Nat} {v : V} {σ : St} {H : Hp} {Q : St → Hp → Prop} (q : gD X (gT n gs) sls v σ H Q) : gTup X.K n (gsD X gs sls) v σ H Q := by
  obtain ⟨ρ, fp, Z, d, ρ', E, r, e, k⟩ := q
  cases d with
  | tup ds =>
    obtain ⟨a, vs, e1, h1, h2⟩ := r
    have e : (if ds.length = n then gs ds ρ else none) = some ρ' := e
    by_cases hl : ds.length = n
    · rw [if_pos hl] at e
      exact ⟨a, vs, e1, .of (E.zok.tup h1), by rw [← h2.length]; exact hl, ρ, fp, Z, ds, ρ', E, h2, e, k⟩
    · rw [if_neg hl] at e; cases e
  | _ => cases e
theorem dg_tup {kk : Nat} {n : Nat} {gs : List D → Env → Option Env} {sls : List Nat} (hc : X.calm = true) (h : DGs X es gs sls) (hn : (assignEach es X.env).length = n := by rfl) (hst : (assignEach es X.env).findIdx? (·.1) = none := by rfl) : DG X (.Tuple es kk pos) (gT n gs) sls :=
  PG.weak (pg_tup hc h hn hst) fun _ _ _ _ q => gT_read q
end

/-! ### for -/
def forL (g : D → Env → Option Env) (body : M Fl) : List D → M Fl
  | [] => mNx
  | d :: ds => fun ρ => match g d ρ with
    | none => .no
    | some ρ1 => (body ρ1).bind fun f ρ2 => match f with
      | .nx => forL g body ds ρ2
      | .ct => forL g body ds ρ2
      | .bk => .ok .nx ρ2
      | .rt t => .ok (.rt t) ρ2
def mFor (it : M (List D)) (g : D → Env → Option Env) (body : M Fl) : M Fl := fun ρ => (it ρ).bind fun ds ρ' => forL g body ds ρ'
section
variable {X : Cx} {tg iter : Expr} {body : List Stmt} {pos : Pos} {pin : List Nat}
theorem for_read {P : PreP} {it : M (List D)} {g : D → Env → Option Env} {mb : M Fl} {slots : List Nat} (hps : ∀ i ∈ slots, i ∉ pin) {D : Ends} {σ : St} {H : Hp} {ρ : Env} {fp : Fp} {Z : Hp} {W : WX} (E : EnvOk X.K ρ σ H Z fp) (tk : Takes X W) (hP : P ρ σ H) (o : OutS X pin (FpA fp) σ H Z (mFor it g mb ρ) D W) :
    tFor (iDP X P it) (gD X g slots) (tDS X pin mb) D σ H := by
  refine ⟨ρ, fp, Z, W, E, tk, hP, ?_⟩
  unfold mFor at o
  cases q : it ρ with
  | no => rw [q] at o; exact o
  | ex x ρ' => rw [q] at o; exact fun cls d H' Z' fp' b e => o cls d σ H' Z' fp' b .refl e
  | ok ds ρ0 =>
    rw [q] at o
    have o0 : OutS X pin (FpA fp) σ H Z (forL g mb ds ρ0) D W := o
    intro J H0 Z0 fp0 b0 J0
    refine ⟨fun i m σ1 H1 => m = ds.length - i ∧ i ≤ ds.length ∧ ∃ ρ1 fp1 Z1, Bk X.K (FpA fp0) σ H0 Z0 ρ1 σ1 H1 Z1 fp1 ∧ PinOk pin σ σ1 ∧ OutS X pin (FpA fp1) σ1 H1 Z1 (forL g mb (ds.drop i) ρ1) D W, ⟨_, rfl, Nat.zero_le _, ρ0, fp0, Z0, Bk.refl b0.env, .refl, ?_⟩, ?_⟩
    · rw [List.drop_zero]
      exact o0.first b0.step b0.new .refl
    · rintro i m σ1 H1 ⟨rfl, hi', ρ1, fp1, Z1, b1, p1, o1⟩
      obtain ⟨go, stop, yld⟩ := J0.at_ H1 Z1 b1.env.zok (b1.step.mono fun a ha => (b0.env.live ha).2)
      by_cases hlt : i < ds.length
      · refine .inr ⟨go i hlt, fun σ2 H2 => ∃ ρ2 fp2 Z2, Bk X.K (FpA fp0) σ H0 Z0 ρ2 σ2 H2 Z2 fp2 ∧ PinOk pin σ σ2 ∧ OutS X pin (FpA fp2) σ2 H2 Z2 (forL g mb (ds.drop (i + 1)) ρ2) D W, fun σ' H' h => ⟨_, by omega, rfl, hlt, h⟩, fun x H2 y => ?_⟩
        obtain ⟨Z2, d, hd, z2, st2, rd⟩ := yld i x H2 hlt y
        have hdr : ds.drop i = d :: ds.drop (i + 1) := by
          rw [List.drop_eq_getElem_cons hlt]
          have := (List.getElem?_eq_some_iff.mp hd).2
          rw [this]
        rw [hdr] at o1
        have b2 := b1.pure st2 z2
        cases qg : g d ρ1 with
        | none => rw [show forL g mb (d :: ds.drop (i + 1)) ρ1 = .no by unfold forL; simp only [qg]] at o1; exact o1.elim
        | some ρ2 =>
          have hf : forL g mb (d :: ds.drop (i + 1)) ρ1 = (mb ρ2).bind fun f ρ2 => match f with
            | .nx => forL g mb (ds.drop (i + 1)) ρ2
            | .ct => forL g mb (ds.drop (i + 1)) ρ2
            | .bk => .ok .nx ρ2
            | .rt t => .ok (.rt t) ρ2 := by
            conv => lhs; unfold forL
            simp only [qg]
          rw [hf] at o1
          refine ⟨ρ1, fp1, Z2, d, ρ2, b2.env, rd, qg, fun σ2 fp2 E2 s2 j2 l2 => ?_⟩
          -- the body
          have o2 := o1.first (σ1 := σ2) (A1 := FpA fp2) (st2.mono fun a h => h.elim) (fun a ha => .inl (s2 a ha)) (fun j hj => j2 j fun z => hps j z hj)
          have b3 : Bk X.K (FpA fp0) σ H0 Z0 ρ2 σ2 H2 Z2 fp2 := ⟨E2, b2.step, fun a ha => b2.new a (s2 a ha)⟩
          have p3 : PinOk pin σ σ2 := p1.trans fun j hj => j2 j fun z => hps j z hj
          refine ⟨ρ2, fp2, Z2, W, E2, tk, ?_⟩
          cases qb : mb ρ2 with
          | no => rw [qb] at o2; exact o2
          | ex x ρ' => rw [qb] at o2; exact o2
          | ok f ρ3 =>
            rw [qb] at o2
            cases f with
            | nx => exact fun σ' H' Z' fp' b p => ⟨ρ3, fp', Z', b3.then b, p3.trans p, OutS.first (r := forL g mb (ds.drop (i + 1)) ρ3) o2 b.step b.new p⟩
            | ct => exact fun σ' H' Z' fp' b p => ⟨ρ3, fp', Z', b3.then b, p3.trans p, OutS.first (r := forL g mb (ds.drop (i + 1)) ρ3) o2 b.step b.new p⟩
            | bk => exact fun σ' H' Z' fp' b p => o2 σ' H' Z' fp' b p
            | rt t => exact o2
      · have e : i = ds.length := by omega
        subst e
        rw [List.drop_length] at o1
        exact .inl ⟨stop, o1 σ1 H1 Z1 fp1 (Bk.refl b1.env) .refl⟩
theorem ds_for {it : M (List D)} {g : D → Env → Option Env} {mb : M Fl} {slots : List Nat} (hp : PassesOwn (model X.prog X.w) X.A X.env X.xe) (hc : X.calm = true) (hi : DI X tg iter it) (hg : DG X tg g slots) (hb : DSs X pin body mb) (hps : ∀ i ∈ slots, i ∉ pin := by decide)
    (hs : ∀ x, foldedSetIterable iter X.env x = pure x := by intro _; rfl) : DS X pin (.For tg iter body [] pos) (mFor it g mb) := PS.weak (ps_for hp hc hi hg hb hs) fun D σ H q => by
  obtain ⟨ρ, fp, Z, W, E, tk, o⟩ := q
  exact for_read hps E tk trivial o

/-! ### while -/
def whL : Nat → M Bool → M Fl → M Fl
  | 0, _, _ => fun _ => .no
  | n + 1, c, body => fun ρ => (c ρ).bind fun b ρ1 => if b = true then ((body ρ1).bind fun f ρ2 => match f with
      | .nx => whL n c body ρ2
      | .ct => whL n c body ρ2
      | .bk => .ok .nx ρ2
      | .rt t => .ok (.rt t) ρ2) else .ok .nx ρ1
theorem ds_while {c : Expr} {mc : M Bool} {mb : M Fl} (fuel : Nat) (hp : PassesOwn (model X.prog X.w) X.A X.env X.xe) (hc : DT X c mc) (hb : DSs X pin body mb) : DS X pin (.While c body [] pos) (whL fuel mc mb) := PS.weak (ps_while hp hc hb) fun D σ H q => by
  obtain ⟨ρ, fp, Z, W, E, tk, o⟩ := q
  refine ⟨fun m σ1 H1 => ∃ ρ1 fp1 Z1, EnvOk X.K ρ1 σ1 H1 Z1 fp1 ∧ OutS X pin (FpA fp1) σ1 H1 Z1 (whL m mc mb ρ1) D W, ⟨fuel, ρ, fp, Z, E, o⟩, ?_⟩
  rintro m σ1 H1 ⟨ρ1, fp1, Z1, E1, o1⟩
  cases m with
  | zero => exact o1.elim
  | succ n =>
    refine ⟨ρ1, fp1, Z1, W, E1, tk, ?_⟩
    unfold whL at o1
    cases qc : mc ρ1 with
    | no => rw [qc] at o1; exact o1
    | ex x ρ' => rw [qc] at o1; exact fun cls d H' Z' fp' b e => o1 cls d σ1 H' Z' fp' b .refl e
    | ok b ρ2 =>
      rw [qc] at o1
      intro H2 Z2 fp2 b2
      cases b with
      | false =>
        rw [if_neg (by decide)]
        exact o1 σ1 H2 Z2 fp2 b2 .refl
      | true =>
        rw [if_pos rfl]
        have o2 : OutS X pin (FpA fp1) σ1 H1 Z1 ((mb ρ2).bind fun f ρ2 => match f with
          | .nx => whL n mc mb ρ2
          | .ct => whL n mc mb ρ2
          | .bk => .ok .nx ρ2
          | .rt t => .ok (.rt t) ρ2) D W := o1
        refine ⟨fun σ' H' => ∃ ρ1 fp1 Z1, EnvOk X.K ρ1 σ' H' Z1 fp1 ∧ OutS X pin (FpA fp1) σ' H' Z1 (whL n mc mb ρ1) D W, fun σ' H' h => ⟨n, Nat.lt_succ_self _, h⟩, ?_⟩
        have o3 := o2.first (A1 := FpA fp2) b2.step b2.new (PinOk.refl (σ := σ1))
        refine ⟨ρ2, fp2, Z2, W, b2.env, tk, ?_⟩
        cases qb : mb ρ2 with
        | no => rw [qb] at o3; exact o3
        | ex x ρ' => rw [qb] at o3; exact o3
        | ok f ρ3 =>
          rw [qb] at o3
          cases f with
          | nx => exact fun σ' H' Z' fp' b p => ⟨ρ3, fp', Z', b.env, OutS.first (r := whL n mc mb ρ3) o3 b.step b.new p⟩
          | ct => exact fun σ' H' Z' fp' b p => ⟨ρ3, fp', Z', b.env, OutS.first (r := whL n mc mb ρ3) o3 b.step b.new p⟩
          | bk => exact fun σ' H' Z' fp' b p => o3 σ' H' Z' fp' b p
          | rt t => exact o3
end
end Dn

set_option Elab.async false
set_option linter.all false
set_option maxRecDepth 100000
/-! Dn5: comprehensions. -/
namespace Dn
open PySem PySem.Spec L2
open PyProof.Rows hiding St

def wipeE (ρ : Env) : List Nat → Env
  | [] => ρ
  | v :: vs => (wipeE ρ vs).set v none
def restE (ρ0 ρ1 : Env) : List Nat → Env
  | [] => ρ1
  | v :: vs => (restE ρ0 ρ1 vs).set v (ρ0[v]?).join
def fwipe (fp : Fp) : List Nat → Fp
  | [] => fp
  | v :: vs => fset (fwipe fp vs) v []
theorem wipeE_len (ρ : Env) : ∀ vs : List Nat, (wipeE ρ vs).length = ρ.length
  | [] => rfl
  | v :: vs => by unfold wipeE; rw [List.length_set, wipeE_len ρ vs]
theorem restE_len (ρ0 ρ1 : Env) : ∀ vs : List Nat, (restE ρ0 ρ1 vs).length = ρ1.length
  | [] => rfl
  | v :: vs => by unfold restE; rw [List.length_set, restE_len ρ0 ρ1 vs]
theorem EnvOk.sigma {K : PySem.W.Frag} {ρ : Env} {σ σ' : St} {H Z : Hp} {fp : Fp} (E : EnvOk K ρ σ H Z fp) (h : ∀ (j : Nat) (t : T), ρ[j]? = some (some t) → σ'[j]? = σ[j]?) (l : σ'.length = σ.length) : EnvOk K ρ σ' H Z fp :=
  ⟨E.zok, E.len.trans l.symm, fun i t hi => by rw [h i t hi]; exact E.at_ i t hi, E.emp, E.dis⟩
theorem EnvOk.wipe {K : PySem.W.Frag} {ρ : Env} {σ : St} {H Z : Hp} {fp : Fp} (E : EnvOk K ρ σ H Z fp) : ∀ vs : List Nat, EnvOk K (wipeE ρ vs) (L2.wipe σ vs) H Z (fwipe fp vs)
  | [] => E
  | v :: vs => by
    have E1 := (EnvOk.wipe E vs).drop v
    refine E1.sigma (fun j t h => ?_) (by show ((L2.wipe σ vs).set v none).length = _; simp)
    show ((L2.wipe σ vs).set v none)[j]? = _
    by_cases e : v = j
    · subst e
      by_cases hi : v < (wipeE ρ vs).length
      · rw [List.getElem?_set_self hi] at h; cases h
      · rw [List.getElem?_eq_none (by simpa using hi)] at h; cases h
    · exact List.getElem?_set_ne e
theorem fwipe_in {fp : Fp} {j : Nat} : ∀ {vs : List Nat}, j ∈ vs → fwipe fp vs j = []
  | v :: vs, h => by
    unfold fwipe
    by_cases e : j = v
    · subst e; rw [fset_same]
    · rw [fset_ne e]; exact fwipe_in ((List.mem_cons.mp h).resolve_left e)
theorem fwipe_out {fp : Fp} {j : Nat} : ∀ {vs : List Nat}, j ∉ vs → fwipe fp vs j = fp j
  | [], _ => rfl
  | v :: vs, h => by
    unfold fwipe
    rw [fset_ne fun e => h (by rw [e]; exact List.mem_cons_self)]
    exact fwipe_out fun z => h (List.mem_cons_of_mem _ z)
theorem fwipe_sub {fp : Fp} {vs : List Nat} {a : Addr} (h : FpA (fwipe fp vs) a) : FpA fp a := by
  obtain ⟨j, hj⟩ := h
  by_cases e : j ∈ vs
  · rw [fwipe_in e] at hj; simp at hj
  · rw [fwipe_out e] at hj; exact ⟨j, hj⟩
theorem restE_get (ρ0 ρ1 : Env) {j : Nat} : ∀ {vs : List Nat}, (restE ρ0 ρ1 vs)[j]? = if j ∈ vs ∧ j < ρ1.length then some (ρ0[j]?).join else ρ1[j]?
  | [] => by simp [restE]
  | v :: vs => by
    unfold restE
    by_cases e : v = j
    · subst e
      by_cases hi : v < ρ1.length
      · rw [List.getElem?_set_self (by rw [restE_len]; exact hi), if_pos ⟨List.mem_cons_self, hi⟩]
      · rw [List.getElem?_eq_none (by simp [restE_len]; omega), if_neg (fun z => hi z.2), List.getElem?_eq_none (by omega)]
    · rw [List.getElem?_set_ne e, restE_get ρ0 ρ1 (vs := vs)]
      have : (j ∈ v :: vs ∧ j < ρ1.length) ↔ (j ∈ vs ∧ j < ρ1.length) := by
        rw [List.mem_cons]
        constructor
        · rintro ⟨a | a, b⟩
          · exact absurd a.symm e
          · exact ⟨a, b⟩
        · rintro ⟨a, b⟩; exact ⟨.inr a, b⟩
      simp only [this]
theorem wipe_out {σ : St} {j : Nat} : ∀ {vs : List Nat}, j ∉ vs → (L2.wipe σ vs)[j]? = σ[j]?
  | [], _ => rfl
  | v :: vs, h => by
    show ((L2.wipe σ vs).set v none)[j]? = _
    rw [List.getElem?_set_ne fun e => h (by rw [e]; exact List.mem_cons_self)]
    exact wipe_out fun z => h (List.mem_cons_of_mem _ z)
theorem wipe_in {σ : St} {j : Nat} (hj : j < σ.length) : ∀ {vs : List Nat}, j ∈ vs → (L2.wipe σ vs)[j]? = some none
  | v :: vs, h => by
    show ((L2.wipe σ vs).set v none)[j]? = _
    by_cases e : v = j
    · subst e; rw [List.getElem?_set_self (by rw [wipe_length]; exact hj)]
    · rw [List.getElem?_set_ne e]
      exact wipe_in hj ((List.mem_cons.mp h).resolve_left (Ne.symm e))
theorem wipe_eq {σ σ2 : St} {vs : List Nat} (h : ∀ j, j ∉ vs → σ2[j]? = (L2.wipe σ vs)[j]?) (l : σ2.length = (L2.wipe σ vs).length) : L2.wipe σ2 vs = L2.wipe σ vs := by
  rw [wipe_length] at l
  apply List.ext_getElem?
  intro j
  by_cases e : j ∈ vs
  · by_cases hj : j < σ.length
    · rw [wipe_in (by omega) e, wipe_in hj e]
    · rw [List.getElem?_eq_none (by rw [wipe_length]; omega), List.getElem?_eq_none (by rw [wipe_length]; omega)]
  · rw [wipe_out e, h j e, wipe_out e]
/-- behind a block: the own names are as they were -/
theorem EnvOk.restore {K : PySem.W.Frag} {ρ0 ρ1 : Env} {σ : St} {H0 Z0 H1 Z1 : Hp} {fp0 fp1 : Fp} {vs : List Nat} (E0 : EnvOk K ρ0 σ H0 Z0 fp0) (E1 : EnvOk K ρ1 (L2.wipe σ vs) H1 Z1 fp1)
    (s : Step (FpA (fwipe fp0 vs)) H0 Z0 H1 Z1) (n : ∀ a, FpA fp1 a → FpA (fwipe fp0 vs) a ∨ H0 a = none) : EnvOk K (restE ρ0 ρ1 vs) σ H1 Z1 (fun j => if j ∈ vs then fp0 j else fp1 j) := by
  have el : ρ1.length = ρ0.length := by rw [E1.len, wipe_length, E0.len]
  have own : ∀ j a, j ∈ vs → a ∈ fp0 j → ¬ FpA (fwipe fp0 vs) a := fun j a hj ha ⟨i, hi⟩ => by
    by_cases e : i ∈ vs
    · rw [fwipe_in e] at hi; simp at hi
    · rw [fwipe_out e] at hi
      exact E0.dis j i a (fun z => e (z ▸ hj)) ha hi
  have apart : ∀ j k a, j ∈ vs → a ∈ fp0 j → k ∉ vs → a ∉ fp1 k := fun j k a hj ha hk hin => by
    rcases n a ⟨k, hin⟩ with z | z
    · exact own j a hj ha z
    · exact (E0.live ⟨j, ha⟩).1 z
  refine ⟨E1.zok, by rw [restE_len, el, E0.len], fun i t h => ?_, fun i h => ?_, fun i j a hij hi hj => ?_⟩
  · rw [restE_get] at h
    by_cases e : i ∈ vs
    · by_cases hl : i < ρ1.length
      · rw [if_pos ⟨e, hl⟩] at h
        have h0 : ρ0[i]? = some (some t) := by
          cases q : ρ0[i]? with
          | none => rw [q] at h; simp at h
          | some u => rw [q] at h; simp at h; rw [h]
        obtain ⟨v, hv, r⟩ := E0.at_ i t h0
        refine ⟨v, hv, ?_⟩
        rw [if_pos e]
        exact r.keep s fun a ha => own i a e ha
      · rw [if_neg (fun z => hl z.2), List.getElem?_eq_none (by omega)] at h; cases h
    · rw [if_neg (fun z => e z.1)] at h
      obtain ⟨v, hv, r⟩ := E1.at_ i t h
      rw [wipe_out e] at hv
      exact ⟨v, hv, by rw [if_neg e]; exact r⟩
  · by_cases e : i ∈ vs
    · rw [if_pos e]
      refine E0.emp i fun t z => ?_
      have hl : i < ρ1.length := by rw [el]; exact (List.getElem?_eq_some_iff.mp z).1
      exact h t (by rw [restE_get, if_pos ⟨e, hl⟩, z]; rfl)
    · rw [if_neg e]
      exact E1.emp i fun t z => h t (by rw [restE_get, if_neg (fun z => e z.1)]; exact z)
  · have hi : a ∈ (if i ∈ vs then fp0 i else fp1 i) := hi
    have hj : a ∈ (if j ∈ vs then fp0 j else fp1 j) := hj
    by_cases e : i ∈ vs
    · rw [if_pos e] at hi
      by_cases e' : j ∈ vs
      · rw [if_pos e'] at hj; exact E0.dis i j a hij hi hj
      · rw [if_neg e'] at hj; exact apart i j a e hi e' hj
    · rw [if_neg e] at hi
      by_cases e' : j ∈ vs
      · rw [if_pos e'] at hj; exact apart j i a e' hj e hi
      · rw [if_neg e'] at hj; exact E1.dis i j a hij hi hj

/-! ### a block's readings: nothing is raised -/
abbrev W0 : WX := fun _ _ _ _ => False
def tD0 (X : Cx) (m : M T) : TE := fun σ H Q => ∃ ρ fp Z, EnvOk X.K ρ σ H Z fp ∧ OutE X (FpA fp) σ H Z (m ρ) Q W0
def tDT0 (X : Cx) (m : M Bool) : TT := fun σ H Q => ∃ ρ fp Z, EnvOk X.K ρ σ H Z fp ∧ OutT X (FpA fp) σ H Z (m ρ) Q W0
theorem PTs.weak {X : Cx} {es : List Expr} {t t' : TT} (h : PTs X es t) (w : ∀ σ H Q, t' σ H Q → t σ H Q) : PTs X es t' := ⟨fun pins s σ H Q I q => h.run pins s σ H Q I (w σ H Q q)⟩
/-- all blocks of a def's body -/
abbrev Blks (X : Cx) (scope : Scope) (p : Cx → Prop) : Prop := ∀ (s : Shared) (H : Hp) (C : Addr) (cl : List (Str × Addr)) (fp : List Addr), p (X.blk s H scope (compEnvC scope cl C X.env) fp)
def mTrue : M Bool := fun ρ => .ok true ρ
abbrev DTs (X : Cx) (ifs : List Expr) (m : M Bool) : Prop := PTs X ifs (tDT X m)
theorem dts_nil {X : Cx} : DTs X [] mTrue := PTs.weak pts_nil fun σ H Q q => by
  obtain ⟨ρ, fp, Z, W, E, tk, o⟩ := q
  exact o H Z fp (Bk.refl E)
theorem dts_one {X : Cx} {c : Expr} {m : M Bool} (h : DT X c m) : DTs X [c] m := pts_one h
def compL (g : D → Env → Option Env) (mt : M Bool) (me : M T) (own : List Nat) : List D → List D → M (List D)
  | [], acc => fun ρ => .ok acc ρ
  | d :: ds, acc => fun ρ => match g d ρ with
    | none => .no
    | some ρ1 => (mt ρ1).bind fun b ρ2 => if b = true then ((me ρ2).bind fun t ρ3 => compL g mt me own ds (acc ++ [t.d]) (wipeE ρ3 own)) else compL g mt me own ds acc (wipeE ρ2 own)
def mLc (it : M (List D)) (g : D → Env → Option Env) (mt : M Bool) (me : M T) (own : List Nat) : M T := fun ρ => (it ρ).bind fun ds ρ0 => match compL g mt me own ds [] (wipeE ρ0 own) with
  | .ok acc ρ1 => .ok (.ol acc) (restE ρ0 ρ1 own)
  | _ => .no
theorem Reps.snoc {K : PySem.W.Frag} {Z : Hp} {d : D} {v : V} (r : Rep K Z d v) : ∀ {ds : List D} {vs : List V}, Reps K Z ds vs → Reps K Z (ds ++ [d]) (vs ++ [v])
  | [], vs, h => by rw [show vs = [] from h]; exact ⟨v, [], rfl, r, rfl⟩
  | d0 :: ds, vs, h => by
    obtain ⟨v0, r0, e, h1, h2⟩ := h
    subst e
    exact ⟨v0, r0 ++ [v], rfl, h1, Reps.snoc r h2⟩
/-- what stands behind some turns of a list comprehension -/
structure LcSt (X : Cx) (σ : St) (own : List Nat) (D0 : Addr) (B : Addr → Prop) (H0 Z0 : Hp) (i : Nat) (ρ : Env) (acc : List D) (H : Hp) : Prop where
  ex : ∃ fp Z vs, EnvOk X.K ρ (L2.wipe σ own) H Z fp ∧ Step B H0 Z0 H Z ∧ (∀ a, FpA fp a → B a ∨ H0 a = none) ∧ H D0 = some (.lst vs) ∧ Z D0 = none ∧ ¬ FpA fp D0 ∧ Reps X.K Z acc vs ∧ vs.length ≤ i
section
variable {X : Cx} {elt tg iter : Expr} {ifs : List Expr} {scope : Scope} {own : List (Str × Nat)} {pos : Pos}
theorem lc_readP {P : PreP} {it : M (List D)} {g : D → Env → Option Env} {mt : M Bool} {me : M T} {slots : List Nat} (hsl : ∀ i ∈ slots, i ∈ own.map (·.2)) {σ : St} {H : Hp} {Q : VK} {ρ : Env} {fp : Fp} {Z : Hp} {W : WX} (E : EnvOk X.K ρ σ H Z fp) (tk : Takes X W) (hP : P ρ σ H) (o : OutE X (FpA fp) σ H Z (mLc it g mt me (own.map (·.2)) ρ) Q W) :
    tLc (iDP X P it) (gD X g slots) (tDT0 X mt) (tD0 X me) (own.map (·.2)) σ H Q := by
  refine ⟨ρ, fp, Z, W, E, tk, hP, ?_⟩
  unfold mLc at o
  cases q : it ρ with
  | no => rw [q] at o; exact o
  | ex x ρ' => rw [q] at o; exact o
  | ok ds ρ0 =>
    rw [q] at o
    have o0 : OutE X (FpA fp) σ H Z (match compL g mt me (own.map (·.2)) ds [] (wipeE ρ0 (own.map (·.2))) with
      | .ok acc ρ1 => .ok (.ol acc) (restE ρ0 ρ1 (own.map (·.2)))
      | _ => .no) Q W := o
    generalize hvs : own.map (·.2) = vs at *
    intro J H0 Z0 fp0 b0 J0 D0 hD0
    have hz0 : Z0 D0 = none := b0.env.zok.none hD0
    refine ⟨fun i m H1 => m = ds.length - i ∧ i ≤ ds.length ∧ ∃ ρ1 acc, LcSt X σ vs D0 (FpA (fwipe fp0 vs)) H0 Z0 i ρ1 acc H1 ∧ compL g mt me vs (ds.drop i) acc ρ1 = compL g mt me vs ds [] (wipeE ρ0 vs), ⟨_, rfl, Nat.zero_le _, wipeE ρ0 vs, [], ⟨fwipe fp0 vs, Z0, [], ?_, step_new hD0, fun a ha => .inl ha, upd_same, hz0, fun h => ?_, rfl, Nat.zero_le _⟩, by rw [List.drop_zero]⟩, ?_⟩
    · exact (b0.env.wipe vs).keep (step_new (A := NoA) hD0) (fun _ _ h => h) (zok_new b0.env.zok hD0)
    · exact (b0.env.live (fwipe_sub h)).1 hD0
    · rintro i m H1 ⟨rfl, hi', ρ1, acc, ⟨fp1, Z1, vs1, E1, s1, n1, hD1, hzD1, nD1, r1, l1⟩, hc⟩
      obtain ⟨go, stop, yld⟩ := J0.at_ H1 Z1 E1.zok (s1.mono fun a ha => (b0.env.live (fwipe_sub ha)).2)
      by_cases hlt : i < ds.length
      · refine .inr ⟨go i hlt, fun H2 => ∃ ρ2 acc2, LcSt X σ vs D0 (FpA (fwipe fp0 vs)) H0 Z0 (i + 1) ρ2 acc2 H2 ∧ compL g mt me vs (ds.drop (i + 1)) acc2 ρ2 = compL g mt me vs ds [] (wipeE ρ0 vs), fun H' h => ⟨_, by omega, rfl, hlt, h⟩, fun x H2 y => ?_⟩
        obtain ⟨Z2, d, hd, z2, st2, rd⟩ := yld i x H2 hlt y
        have hdr : ds.drop i = d :: ds.drop (i + 1) := by
          rw [List.drop_eq_getElem_cons hlt]
          have := (List.getElem?_eq_some_iff.mp hd).2
          rw [this]
        rw [hdr] at hc
        have E2 := E1.keep st2 (fun _ _ h => h) z2
        have s2 : Step (FpA (fwipe fp0 vs)) H0 Z0 H2 Z2 := s1.trans st2 fun _ h => h.elim
        obtain ⟨hD2, hzD2⟩ := st2.keep D0 (fun h => h) (by rw [hD1]; simp)
        have hD2 : H2 D0 = some (.lst vs1) := hD2.trans hD1
        have hzD2 : Z2 D0 = none := hzD2 hzD1 (by rw [hD1]; simp)
        have r2 := Reps.mono st2.zle _ _ r1
        cases qg : g d ρ1 with
        | none =>
          rw [show compL g mt me vs (d :: ds.drop (i + 1)) acc ρ1 = .no by unfold compL; simp only [qg]] at hc
          rw [← hc] at o0; exact o0.elim
        | some ρ2 =>
          have hf : compL g mt me vs (d :: ds.drop (i + 1)) acc ρ1 = (mt ρ2).bind fun b ρ2 => if b = true then ((me ρ2).bind fun t ρ3 => compL g mt me vs (ds.drop (i + 1)) (acc ++ [t.d]) (wipeE ρ3 vs)) else compL g mt me vs (ds.drop (i + 1)) acc (wipeE ρ2 vs) := by
            conv => lhs; unfold compL
            simp only [qg]
          rw [hf] at hc
          refine ⟨ρ1, fp1, Z2, d, ρ2, E2, rd, qg, fun σ2 fp2 E3 sb3 j3 l3 => ⟨wipe_eq (fun j hj => j3 j fun z => hj (hsl j z)) l3, ρ2, fp2, Z2, E3, ?_⟩⟩
          have w3 : L2.wipe σ2 vs = L2.wipe σ vs := wipe_eq (fun j hj => j3 j fun z => hj (hsl j z)) l3
          cases qt : mt ρ2 with
          | no => rw [qt] at hc; rw [← hc] at o0; exact o0.elim
          | ex x ρ' => rw [qt] at hc; rw [← hc] at o0; exact o0.elim
          | ok b ρ3 =>
            rw [qt] at hc
            intro H4 Z4 fp4 b4
            have s4 : Step (FpA (fwipe fp0 vs)) H0 Z0 H4 Z4 := s2.trans b4.step fun a ha => n1 a (sb3 a ha)
            have n4 : ∀ a, FpA fp4 a → FpA (fwipe fp0 vs) a ∨ H0 a = none := fun a ha => new_first s2 (fun a ha => n1 a (sb3 a ha)) (b4.new a ha)
            have nA2 : ¬ FpA fp2 D0 := fun h => nD1 (sb3 _ h)
            obtain ⟨k1, k2⟩ := b4.step.keep D0 nA2 (by rw [hD2]; simp)
            have hD4 : H4 D0 = some (.lst vs1) := k1.trans hD2
            have hzD4 : Z4 D0 = none := k2 hzD2 (by rw [hD2]; simp)
            have nA4 : ¬ FpA fp4 D0 := fun h => (b4.new _ h).elim nA2 (fun z => by rw [hD2] at z; cases z)
            have r4 := Reps.mono b4.step.zle _ _ r2
            cases b with
            | false =>
              rw [if_neg (by decide)]
              have hc' : compL g mt me vs (ds.drop (i + 1)) acc (wipeE ρ3 vs) = compL g mt me vs ds [] (wipeE ρ0 vs) := hc
              refine ⟨wipeE ρ3 vs, acc, ⟨fwipe fp4 vs, Z4, vs1, ?_, s4, fun a ha => n4 a (fwipe_sub ha), hD4, hzD4, fun h => nA4 (fwipe_sub h), r4, Nat.le_succ_of_le l1⟩, hc'⟩
              have := b4.env.wipe vs
              rw [w3] at this; exact this
            | true =>
              rw [if_pos rfl]
              have hc1 : ((me ρ3).bind fun t ρ3 => compL g mt me vs (ds.drop (i + 1)) (acc ++ [t.d]) (wipeE ρ3 vs)) = compL g mt me vs ds [] (wipeE ρ0 vs) := hc
              refine ⟨ρ3, fp4, Z4, b4.env, ?_⟩
              cases qe : me ρ3 with
              | no => rw [qe] at hc1; rw [← hc1] at o0; exact o0.elim
              | ex x ρ' => rw [qe] at hc1; rw [← hc1] at o0; exact o0.elim
              | ok t ρ4 =>
                rw [qe] at hc1
                intro v H5 Z5 fp5 fr b5 rt dj nw
                obtain ⟨Z6, r6, b6⟩ := b5.frz rt dj nw
                obtain ⟨k3, k4⟩ := b6.step.keep D0 nA4 (by rw [hD4]; simp)
                have hD6 : H5 D0 = some (.lst vs1) := k3.trans hD4
                have hzD6 : Z6 D0 = none := k4 hzD4 (by rw [hD4]; simp)
                have nA6 : ¬ FpA fp5 D0 := fun h => (b6.new _ h).elim nA4 (fun z => by rw [hD4] at z; cases z)
                have r7 := Reps.mono b6.step.zle _ _ r4
                have s6 : Step (FpA (fwipe fp0 vs)) H0 Z0 H5 Z6 := s4.trans b6.step n4
                have n6 : ∀ a, FpA fp5 a → FpA (fwipe fp0 vs) a ∨ H0 a = none := fun a ha => new_first s4 n4 (b6.new a ha)
                have zok7 : ZOk Z6 (upd H5 D0 (.lst (vs1 ++ [v]))) := fun a u e => by
                  have : a ≠ D0 := fun z => by rw [z, hzD6] at e; cases e
                  rw [upd_ne this]; exact b6.env.zok a u e
                have s7 : Step (fun a => a = D0) H5 Z6 (upd H5 D0 (.lst (vs1 ++ [v]))) Z6 := ⟨.refl _, fun a ha _ => ⟨upd_ne ha, fun hz _ => hz⟩, fun a ha => by
                  by_cases e : a = D0
                  · rw [e, upd_same]; simp
                  · rw [upd_ne e]; exact ha⟩
                refine ⟨vs1, hD6, Nat.lt_of_lt_of_le (Nat.lt_of_le_of_lt l1 hlt) J0.len, wipeE ρ4 vs, acc ++ [t.d], ⟨fwipe fp5 vs, Z6, vs1 ++ [v], ?_, s6.trans s7 (fun a ha => .inr (by rw [ha]; exact hD0)), fun a ha => n6 a (fwipe_sub ha), upd_same, hzD6, fun h => nA6 (fwipe_sub h), r7.snoc r6, by simp; omega⟩, hc1⟩
                have E7 := (b6.env.wipe vs).keep s7 (fun a ha e => nA6 (by rw [← e]; exact fwipe_sub ha)) zok7
                rw [w3] at E7
                exact E7
      · have e : i = ds.length := by omega
        subst e
        rw [List.drop_length] at hc
        have hc' : compL g mt me vs ds [] (wipeE ρ0 vs) = .ok acc ρ1 := hc.symm
        rw [hc'] at o0
        refine .inl ⟨stop, o0 (.ref D0) H1 Z1 (fun j => if j ∈ vs then fp0 j else fp1 j) [D0] ⟨b0.env.restore E1 s1 n1, b0.step.trans s1 (fun a ha => b0.new a (fwipe_sub ha)), fun a ⟨j, hj⟩ => ?_⟩ ⟨D0, vs1, rfl, rfl, hD1, hzD1, r1⟩ (fun a ha ⟨j, hj⟩ => ?_) fun a ha => b0.new' (.inr (by rw [List.mem_singleton.mp ha]; exact hD0))⟩
        · have hj : a ∈ (if j ∈ vs then fp0 j else fp1 j) := hj
          by_cases e : j ∈ vs
          · rw [if_pos e] at hj; exact b0.new a ⟨j, hj⟩
          · rw [if_neg e] at hj
            rcases n1 a ⟨j, hj⟩ with z | z
            · exact b0.new a (fwipe_sub z)
            · exact b0.new' (.inr z)
        · have e0 := List.mem_singleton.mp ha
          subst e0
          have hj : a ∈ (if j ∈ vs then fp0 j else fp1 j) := hj
          by_cases e : j ∈ vs
          · rw [if_pos e] at hj; exact (b0.env.live ⟨j, hj⟩).1 hD0
          · rw [if_neg e] at hj; exact nD1 ⟨j, hj⟩
theorem lc_read {it : M (List D)} {g : D → Env → Option Env} {mt : M Bool} {me : M T} {slots : List Nat} (hsl : ∀ i ∈ slots, i ∈ own.map (·.2)) {σ : St} {H : Hp} {Q : VK} (q : tD X (mLc it g mt me (own.map (·.2))) σ H Q) :
    tLc (iD X it) (gD X g slots) (tDT0 X mt) (tD0 X me) (own.map (·.2)) σ H Q := by
  obtain ⟨ρ, fp, Z, W, E, tk, o⟩ := q
  exact lc_readP hsl E tk trivial o
theorem blk_e {me : M T} (h : Blks X scope fun Y => DE Y elt me) : Blks X scope fun Y => PE Y elt (tD0 X me) := fun s H C cl fp => PE.weak (h s H C cl fp) fun σ H Q q => by
  obtain ⟨ρ, fp', Z, E, o⟩ := q
  exact ⟨ρ, fp', Z, W0, E, takes0, o⟩
theorem blk_t {mt : M Bool} (h : Blks X scope fun Y => DTs Y ifs mt) : Blks X scope fun Y => PTs Y ifs (tDT0 X mt) := fun s H C cl fp => PTs.weak (h s H C cl fp) fun σ H Q q => by
  obtain ⟨ρ, fp', Z, E, o⟩ := q
  exact ⟨ρ, fp', Z, W0, E, takes0, o⟩
theorem de_lc {it : M (List D)} {g : D → Env → Option Env} {mt : M Bool} {me : M T} {slots : List Nat} (hc : X.calm = true) (hN : X.N.Nodup) (ok : BlkOk X.N X.env.scope scope own) (hi : DI X tg iter it) (hg : Blks X scope fun Y => DG Y tg g slots) (ht : Blks X scope fun Y => DTs Y ifs mt) (he : Blks X scope fun Y => DE Y elt me)
    (hsl : ∀ i ∈ slots, i ∈ own.map (·.2) := by decide) (hs : ∀ x, foldedSetIterable iter X.env x = pure x := by intro _; rfl) : DE X (.ListComp elt [⟨tg, iter, ifs, 0⟩] scope pos) (mLc it g mt me (own.map (·.2))) :=
  PE.weak (pe_lc hc hN hi ok hg (blk_t ht) (blk_e he) hs) fun σ H Q q => lc_read hsl q
/-- name = [..] on one line -/
theorem ds_setLc {i : Nat} {y : Str} {py : Pos} {spos : Pos} {pin : List Nat} {it : M (List D)} {g : D → Env → Option Env} {mt : M Bool} {me : M T} {slots : List Nat} (hc : X.calm = true) (hN : X.N.Nodup) (ok : BlkOk X.N X.env.scope scope own) (hi : DI X tg iter it) (hg : Blks X scope fun Y => DG Y tg g slots) (ht : Blks X scope fun Y => DTs Y ifs mt) (he : Blks X scope fun Y => DE Y elt me)
    (hsw : swapsWith (.ListComp elt [⟨tg, iter, ifs, 0⟩] scope pos) (some (.Name y py)) spos.line X.env = pure true) (hy : X.N[i]? = some y := by rfl) (hyl : X.env.scope.names.lookup y = some .local := by rfl)
    (hsl : ∀ i ∈ slots, i ∈ own.map (·.2) := by decide) (hs : ∀ x, foldedSetIterable iter X.env x = pure x := by intro _; rfl) (hp : i ∉ pin := by decide) : DS X pin (.Assign [.Name y py] (.ListComp elt [⟨tg, iter, ifs, 0⟩] scope pos) spos) (mSet i (mLc it g mt me (own.map (·.2)))) := by
  refine ds_set' (PS.weak (ps_setLc hc hN hy hyl hsw hi ok hg (blk_t ht) (blk_e he) hs) fun D σ H q => lc_read hsl q) hp
end
end Dn

set_option Elab.async false
set_option linter.all false
set_option maxRecDepth 100000
/-! Dn6: operations by their data. -/
namespace Dn
open PySem PySem.Spec L2
open PyProof.Rows hiding St

section
variable {K : PySem.W.Frag} {H Z : Hp} {v : V}
theorem RdD.int {i : Int} (h : RdD K H Z (.int i) v) : v = .int i := by
  obtain ⟨t, fr, r, e⟩ := h
  cases t <;> simp only [T.d, D.int.injEq, reduceCtorEq] at e
  subst e; exact r.2
theorem RdD.str {i : Str} (h : RdD K H Z (.str i) v) : v = .str i := by
  obtain ⟨t, fr, r, e⟩ := h
  cases t <;> simp only [T.d, reduceCtorEq] at e
  subst e; exact r.2
theorem RdD.bl {i : Bool} (h : RdD K H Z (.bl i) v) : v = .bl i := by
  obtain ⟨t, fr, r, e⟩ := h
  cases t <;> simp only [T.d, reduceCtorEq] at e
  subst e; exact r.2
theorem RdD.non (h : RdD K H Z .non v) : v = .non := by
  obtain ⟨t, fr, r, e⟩ := h
  cases t <;> simp only [T.d, reduceCtorEq] at e
  subst e; exact r.2
theorem RdD.lst {ds : List D} (z : ZOk Z H) (h : RdD K H Z (.lst ds) v) : ∃ a vs, v = .ref a ∧ H a = some (.lst vs) ∧ Reps K Z ds vs := by
  obtain ⟨t, fr, r, e⟩ := h
  cases t with
  | fz d =>
    simp only [T.d] at e; subst e
    obtain ⟨a, vs, h1, h2, h3⟩ := r.2
    exact ⟨a, vs, h1, z.lst h2, h3⟩
  | ol xs =>
    simp only [T.d, D.lst.injEq] at e; subst e
    obtain ⟨a, vs, h1, _, h2, _, h3⟩ := r
    exact ⟨a, vs, h1, h2, h3⟩
  | od _ => simp only [T.d, reduceCtorEq] at e
  | odt _ => simp only [T.d, reduceCtorEq] at e
theorem RdD.tup {ds : List D} (z : ZOk Z H) (h : RdD K H Z (.tup ds) v) : ∃ a vs, v = .ref a ∧ H a = some (.tup vs) ∧ Reps K Z ds vs := by
  obtain ⟨t, fr, r, e⟩ := h
  cases t with
  | fz d =>
    simp only [T.d] at e; subst e
    obtain ⟨a, vs, h1, h2, h3⟩ := r.2
    exact ⟨a, vs, h1, z.tup h2, h3⟩
  | ol xs => simp only [T.d, reduceCtorEq] at e
  | od _ => simp only [T.d, reduceCtorEq] at e
  | odt _ => simp only [T.d, reduceCtorEq] at e
theorem RdD.kt {ws : List V} (z : ZOk Z H) (h : RdD K H Z (.kt ws) v) : ∃ a, v = .ref a ∧ SqT K H a ws := by
  obtain ⟨t, fr, r, e⟩ := h
  cases t with
  | fz d =>
    simp only [T.d] at e; subst e
    obtain ⟨a, h1, h2⟩ := r.2
    exact ⟨a, h1, z.sqT h2⟩
  | ol xs => simp only [T.d, reduceCtorEq] at e
  | od _ => simp only [T.d, reduceCtorEq] at e
  | odt _ => simp only [T.d, reduceCtorEq] at e
theorem RdD.scr {ns : List Int} (z : ZOk Z H) (h : RdD K H Z (.scr ns) v) : ∃ a, v = .ref a ∧ SqL K H a (ns.map V.int) := by
  obtain ⟨t, fr, r, e⟩ := h
  cases t with
  | fz d =>
    simp only [T.d] at e; subst e
    obtain ⟨a, h1, h2⟩ := r.2
    exact ⟨a, h1, z.sqL h2⟩
  | ol xs => simp only [T.d, reduceCtorEq] at e
  | od _ => simp only [T.d, reduceCtorEq] at e
  | odt _ => simp only [T.d, reduceCtorEq] at e
theorem RdD.dk {kvs : List (Key × D)} (z : ZOk Z H) (h : RdD K H Z (.dk kvs) v) : ∃ a ws, v = .ref a ∧ Rd H a (.dK ws) ∧ RepK K Z kvs ws := by
  obtain ⟨t, fr, r, e⟩ := h
  cases t with
  | fz d =>
    simp only [T.d] at e; subst e
    obtain ⟨a, vs, h1, h2, h3⟩ := r.2
    exact ⟨a, vs, h1, z.rd (.of h2), h3⟩
  | od xs =>
    simp only [T.d, D.dk.injEq] at e; subst e
    obtain ⟨a, vs, h1, _, h2, _, h3⟩ := r
    exact ⟨a, vs, h1, .of h2, h3⟩
  | ol _ => simp only [T.d, reduceCtorEq] at e
  | odt _ => simp only [T.d, reduceCtorEq] at e
theorem RdD.dt {kvs : List (List Key × D)} (z : ZOk Z H) (h : RdD K H Z (.dt kvs) v) : ∃ a ws, v = .ref a ∧ Rd H a (.dT ws) ∧ RepKT K Z kvs ws := by
  obtain ⟨t, fr, r, e⟩ := h
  cases t with
  | fz d =>
    simp only [T.d] at e; subst e
    obtain ⟨a, vs, h1, h2, h3⟩ := r.2
    exact ⟨a, vs, h1, z.rd (.of h2), h3⟩
  | odt xs =>
    simp only [T.d, D.dt.injEq] at e; subst e
    obtain ⟨a, vs, h1, _, h2, _, h3⟩ := r
    exact ⟨a, vs, h1, .of h2, h3⟩
  | ol _ => simp only [T.d, reduceCtorEq] at e
  | od _ => simp only [T.d, reduceCtorEq] at e
theorem RdDs.one {d : D} {vs : List V} (h : RdDs K H Z [d] vs) : ∃ v, vs = [v] ∧ RdD K H Z d v := by
  cases h with
  | cons h t => cases t; exact ⟨_, rfl, h⟩
theorem RdDs.two {d e : D} {vs : List V} (h : RdDs K H Z [d, e] vs) : ∃ v w, vs = [v, w] ∧ RdD K H Z d v ∧ RdD K H Z e w := by
  cases h with
  | cons h t =>
    cases t with
    | cons h' t' => cases t'; exact ⟨_, _, rfl, h, h'⟩
theorem Rep.int {i : Int} (h : Rep K Z (.int i) v) : v = .int i := h
/-- lists of one kind -/
theorem Reps.ints : ∀ {ns : List Int} {vs : List V}, Reps K Z (ns.map D.int) vs → vs = ns.map V.int
  | [], vs, h => h
  | n :: ns, vs, h => by
    obtain ⟨v, r, e, h1, h2⟩ := h
    subst e
    rw [List.map_cons, Reps.ints h2, show v = V.int n from h1]
theorem Reps.strs : ∀ {ns : List Str} {vs : List V}, Reps K Z (ns.map D.str) vs → vs = ns.map V.str
  | [], vs, h => h
  | n :: ns, vs, h => by
    obtain ⟨v, r, e, h1, h2⟩ := h
    subst e
    rw [List.map_cons, Reps.strs h2, show v = V.str n from h1]
theorem Reps.bls : ∀ {ns : List Bool} {vs : List V}, Reps K Z (ns.map D.bl) vs → vs = ns.map V.bl
  | [], vs, h => h
  | n :: ns, vs, h => by
    obtain ⟨v, r, e, h1, h2⟩ := h
    subst e
    rw [List.map_cons, Reps.bls h2, show v = V.bl n from h1]
theorem reps_ints : ∀ (ns : List Int), Reps K Z (ns.map D.int) (ns.map V.int)
  | [] => rfl
  | n :: ns => ⟨_, _, rfl, rfl, reps_ints ns⟩
theorem reps_strs : ∀ (ns : List Str), Reps K Z (ns.map D.str) (ns.map V.str)
  | [] => rfl
  | n :: ns => ⟨_, _, rfl, rfl, reps_strs ns⟩
theorem Reps.append : ∀ {ds es : List D} {vs ws : List V}, Reps K Z ds vs → Reps K Z es ws → Reps K Z (ds ++ es) (vs ++ ws)
  | [], es, vs, ws, h, h' => by rw [show vs = [] from h]; exact h'
  | d :: ds, es, vs, ws, h, h' => by
    obtain ⟨v, r, e, h1, h2⟩ := h
    subst e
    exact ⟨v, r ++ ws, rfl, h1, Reps.append h2 h'⟩
theorem Reps.take : ∀ {ds : List D} {vs : List V} (n : Nat), Reps K Z ds vs → Reps K Z (ds.take n) (vs.take n)
  | _, _, 0, _ => by simp [Reps]
  | [], vs, n + 1, h => by rw [show vs = [] from h]; rfl
  | d :: ds, vs, n + 1, h => by
    obtain ⟨v, r, e, h1, h2⟩ := h
    subst e
    exact ⟨v, r.take n, rfl, h1, Reps.take n h2⟩
theorem Reps.drop : ∀ {ds : List D} {vs : List V} (n : Nat), Reps K Z ds vs → Reps K Z (ds.drop n) (vs.drop n)
  | _, _, 0, h => by simpa using h
  | [], vs, n + 1, h => by rw [show vs = [] from h]; rfl
  | d :: ds, vs, n + 1, h => by
    obtain ⟨v, r, e, h1, h2⟩ := h
    subst e
    exact Reps.drop n h2
theorem Reps.eraseIdx : ∀ {ds : List D} {vs : List V} (n : Nat), Reps K Z ds vs → Reps K Z (ds.eraseIdx n) (vs.eraseIdx n)
  | [], vs, n, h => by rw [show vs = [] from h]; rfl
  | d :: ds, vs, 0, h => by
    obtain ⟨v, r, e, h1, h2⟩ := h
    subst e
    exact h2
  | d :: ds, vs, n + 1, h => by
    obtain ⟨v, r, e, h1, h2⟩ := h
    subst e
    exact ⟨v, r.eraseIdx n, rfl, h1, Reps.eraseIdx n h2⟩
theorem Reps.set {d : D} {v : V} (hr : Rep K Z d v) : ∀ {ds : List D} {vs : List V} (n : Nat), Reps K Z ds vs → Reps K Z (ds.set n d) (vs.set n v)
  | [], vs, n, h => by rw [show vs = [] from h]; rfl
  | d :: ds, vs, 0, h => by
    obtain ⟨v, r, e, h1, h2⟩ := h
    subst e
    exact ⟨_, r, rfl, hr, h2⟩
  | d :: ds, vs, n + 1, h => by
    obtain ⟨v, r, e, h1, h2⟩ := h
    subst e
    exact ⟨v, r.set n _, rfl, h1, Reps.set hr n h2⟩
theorem Reps.rep {ds : List D} {vs : List V} (h : Reps K Z ds vs) : ∀ k : Nat, Reps K Z (List.replicate k ds).flatten (List.replicate k vs).flatten
  | 0 => rfl
  | k + 1 => by
    rw [List.replicate_succ, List.replicate_succ, List.flatten_cons, List.flatten_cons]
    exact Reps.append h (Reps.rep h k)
end

/-- results that lean on no heap -/
def FlatSound (X : Cx) (r : List V → Hp → VK → Prop) (f : List D → Option D) : Prop :=
  ∀ ds vs d H Z, ZOk Z H → RdDs X.K H Z ds vs → f ds = some d → ∃ v, (∀ Z', Rep X.K Z' d v) ∧ ∀ Q : VK, Q v H → r vs H Q
abbrev fF (f : List D → Option D) : List D → Option T := fun ds => (f ds).map T.fz
theorem FlatSound.ops {X : Cx} {r : List V → Hp → VK → Prop} {f : List D → Option D} (h : FlatSound X r f) : OpsSound X r (fF f) := fun ds vs t H Z Q z rd e k => by
  cases q : f ds with
  | none => rw [fF, q] at e; cases e
  | some d =>
    rw [fF, q] at e
    simp only [Option.map_some, Option.some.injEq] at e
    subst e
    obtain ⟨v, h1, h2⟩ := h ds vs d H Z z rd q
    exact h2 Q (k v H Z [] z ⟨rfl, h1 Z⟩ .refl (by simp))
/-- a new list comes -/
theorem ops_ol {X : Cx} {r : List V → Hp → VK → Prop} {f : List D → Option (List D)} (h : ∀ ds vs es H Z, ZOk Z H → RdDs X.K H Z ds vs → f ds = some es → ∃ ws, Reps X.K Z es ws ∧ ∀ Q : VK, (∀ p, H p = none → Q (.ref p) (upd H p (.lst ws))) → r vs H Q) :
    OpsSound X r (fun ds => (f ds).map T.ol) := fun ds vs t H Z Q z rd e k => by
  cases q : f ds with
  | none => simp only [q] at e; cases e
  | some d =>
    simp only [q, Option.map_some, Option.some.injEq] at e
    subst e
    obtain ⟨ws, h1, h2⟩ := h ds vs d H Z z rd q
    exact h2 Q fun p hp => k (.ref p) _ Z [p] (zok_new z hp) (new_ol z hp h1) (step_new hp) fun a ha => by rw [List.mem_singleton.mp ha]; exact hp
theorem ops_tp {X : Cx} {r : List V → Hp → VK → Prop} {f : List D → Option (List D)} (h : ∀ ds vs es H Z, ZOk Z H → RdDs X.K H Z ds vs → f ds = some es → ∃ ws, Reps X.K Z es ws ∧ ∀ Q : VK, (∀ p, H p = none → Q (.ref p) (upd H p (.tup ws))) → r vs H Q) :
    OpsSound X r (fun ds => (f ds).map fun es => .fz (.tup es)) := fun ds vs t H Z Q z rd e k => by
  cases q : f ds with
  | none => simp only [q] at e; cases e
  | some d =>
    simp only [q, Option.map_some, Option.some.injEq] at e
    subst e
    obtain ⟨ws, h1, h2⟩ := h ds vs d H Z z rd q
    refine h2 Q fun p hp => ?_
    obtain ⟨n1, n2, n3⟩ := new_tup z hp h1
    exact k (.ref p) _ _ [] n2 ⟨rfl, n1⟩ n3 (by simp)

/-! ### numbers -/
def fI2 (c : Int → Int → Bool) (g : Int → Int → Int) : List D → Option D
  | [.int i, .int j] => if c i j then some (.int (g i j)) else none
  | _ => none
theorem s_i2 {X : Cx} {C : Int → Int → Prop} {c : Int → Int → Bool} {g : Int → Int → Int} (h : ∀ i j, c i j = true → C i j) : FlatSound X (two (rI C fun i j => .int (g i j))) (fI2 c g) := fun ds vs d H Z z rd e => by
  unfold fI2 at e
  split at e
  · rename_i i j
    split at e
    · rename_i hc
      cases e
      obtain ⟨v, w, rfl, h1, h2⟩ := rd.two
      exact ⟨.int (g i j), fun _ => rfl, fun Q q => ⟨v, w, rfl, i, j, h1.int, h2.int, h i j hc, q⟩⟩
    · cases e
  · cases e
def fI0 (g : Int → Int → Int) : List D → Option D
  | [.int i, .int j] => some (.int (g i j))
  | _ => none
theorem s_i0 {X : Cx} {g : Int → Int → Int} : FlatSound X (two (rI0 fun i j => .int (g i j))) (fI0 g) := fun ds vs d H Z z rd e => by
  unfold fI0 at e
  split at e
  · rename_i i j
    cases e
    obtain ⟨v, w, rfl, h1, h2⟩ := rd.two
    exact ⟨.int (g i j), fun _ => rfl, fun Q q => ⟨v, w, rfl, i, j, h1.int, h2.int, q⟩⟩
  · cases e
def fIB (g : Int → Int → Bool) : List D → Option D
  | [.int i, .int j] => some (.bl (g i j))
  | _ => none
theorem s_ib {X : Cx} {g : Int → Int → Bool} : FlatSound X (two (rI0 fun i j => .bl (g i j))) (fIB g) := fun ds vs d H Z z rd e => by
  unfold fIB at e
  split at e
  · rename_i i j
    cases e
    obtain ⟨v, w, rfl, h1, h2⟩ := rd.two
    exact ⟨.bl (g i j), fun _ => rfl, fun Q q => ⟨v, w, rfl, i, j, h1.int, h2.int, q⟩⟩
  · cases e
/-- + -/
def fAdd : List D → Option T
  | [.int i, .int j] => some (.fz (.int (i + j)))
  | [.str x, .str y] => if x.length + y.length ≤ LIM then some (.fz (.str (x ++ y))) else none
  | [.lst xs, .lst ys] => if xs.length + ys.length ≤ LIM then some (.ol (xs ++ ys)) else none
  | _ => none
def rAddA : R2 := fun x y H Q => rI0 (fun i j => .int (i + j)) x y H Q ∨ (∃ i j, x = .str i ∧ y = .str j ∧ i.length + j.length ≤ sizeLine ∧ Q (.str (i ++ j)) H) ∨ rCat x y H Q
theorem op_addA {X : Cx} : OpR X (binaryOp .Add) rAddA := op_add.or (op_add_str.or op_cat)
theorem s_add {X : Cx} : OpsSound X (two rAddA) fAdd := fun ds vs t H Z Q z rd e k => by
  unfold fAdd at e
  split at e
  · rename_i i j
    cases e
    obtain ⟨v, w, rfl, h1, h2⟩ := rd.two
    exact ⟨v, w, rfl, .inl ⟨i, j, h1.int, h2.int, k _ H Z [] z ⟨rfl, rfl⟩ .refl (by simp)⟩⟩
  · rename_i i j
    split at e
    · rename_i hl
      cases e
      obtain ⟨v, w, rfl, h1, h2⟩ := rd.two
      exact ⟨v, w, rfl, .inr (.inl ⟨i, j, h1.str, h2.str, Nat.le_trans hl limS, k _ H Z [] z ⟨rfl, rfl⟩ .refl (by simp)⟩)⟩
    · cases e
  · rename_i xs ys
    split at e
    · rename_i hl
      cases e
      obtain ⟨v, w, rfl, h1, h2⟩ := rd.two
      obtain ⟨a, va, rfl, ha, ra⟩ := h1.lst z
      obtain ⟨b, vb, rfl, hb, rb⟩ := h2.lst z
      refine ⟨_, _, rfl, .inr (.inr ⟨a, b, va, vb, rfl, rfl, ha, hb, by rw [← ra.length, ← rb.length]; exact Nat.le_trans hl limS, fun p hp => ?_⟩)⟩
      exact k (.ref p) _ Z [p] (zok_new z hp) (new_ol z hp (ra.append rb)) (step_new hp) fun a ha => by rw [List.mem_singleton.mp ha]; exact hp
    · cases e
  · cases e
abbrev fSub : List D → Option D := fI0 fun i j => i - j
def cMul (i j : Int) : Bool := decide (-(2 ^ 64) < i ∧ i < 2 ^ 64) || decide (-(2 ^ 64) < j ∧ j < 2 ^ 64)
theorem cMul_ok {i j : Int} (h : cMul i j = true) : CMul i j := by
  unfold cMul at h
  rcases Bool.or_eq_true_iff.mp h with h | h
  · exact .inl (of_decide_eq_true h)
  · exact .inr (of_decide_eq_true h)
/-- * -/
def fMul : List D → Option T
  | [.int i, .int j] => if cMul i j then some (.fz (.int (i * j))) else none
  | [.lst xs, .int k] => if (-1000 ≤ k ∧ k ≤ 1000) ∧ xs.length ≤ 1000 then some (.ol (List.replicate k.toNat xs).flatten) else none
  | _ => none
def rMulA : R2 := fun x y H Q => rI CMul (fun i j => .int (i * j)) x y H Q ∨ rRep x y H Q
theorem op_mulA {X : Cx} : OpR X (binaryOp .Mult) rMulA := op_mul.or op_rep
theorem s_mul {X : Cx} : OpsSound X (two rMulA) fMul := fun ds vs t H Z Q z rd e k => by
  unfold fMul at e
  split at e
  · rename_i i j
    split at e
    · rename_i hc
      cases e
      obtain ⟨v, w, rfl, h1, h2⟩ := rd.two
      exact ⟨v, w, rfl, .inl ⟨i, j, h1.int, h2.int, cMul_ok hc, k _ H Z [] z ⟨rfl, rfl⟩ .refl (by simp)⟩⟩
    · cases e
  · rename_i xs n
    split at e
    · rename_i hl
      cases e
      obtain ⟨v, w, rfl, h1, h2⟩ := rd.two
      obtain ⟨a, va, rfl, ha, ra⟩ := h1.lst z
      refine ⟨_, _, rfl, .inr ?_⟩
      refine ⟨a, n, va, rfl, h2.int, ha, by omega, by omega, ?_, fun p hp => ?_⟩
      · rw [← ra.length]
        have h1 : n.toNat ≤ 1000 := by omega
        exact Nat.le_trans (Nat.mul_le_mul hl.2 h1) (by decide)
      · exact k (.ref p) _ Z [p] (zok_new z hp) (new_ol z hp (ra.rep _)) (step_new hp) fun a ha => by rw [List.mem_singleton.mp ha]; exact hp
    · cases e
  · cases e
def cDiv (i j : Int) : Bool := decide (0 < j ∧ j < 1073741824)
abbrev fDiv : List D → Option D := fI2 cDiv fun i j => i / j
theorem s_div {X : Cx} : FlatSound X (two (rI CDiv fun i j => .int (i / j))) fDiv := s_i2 fun i j h => show 0 < j ∧ j < 1073741824 from of_decide_eq_true h
abbrev fMod : List D → Option D := fI2 (fun _ j => decide (0 < j)) fun i j => i % j
theorem s_mod {X : Cx} : FlatSound X (two (rI (fun _ j => 0 < j) fun i j => .int (i % j))) fMod := s_i2 fun i j h => show 0 < j from of_decide_eq_true h
abbrev fPow : List D → Option D := fI2 (fun i j => decide (0 ≤ j ∧ j ≤ 1000000 ∧ i.natAbs < 2 ^ 64)) fun i j => i ^ j.toNat
theorem s_pow {X : Cx} : FlatSound X (two (rI CPow fun i j => .int (i ^ j.toNat))) fPow := s_i2 fun i j h => show 0 ≤ j ∧ j ≤ 1000000 ∧ i.natAbs < 2 ^ 64 from of_decide_eq_true h
def fNeg : List D → Option D
  | [.int i] => some (.int (-i))
  | _ => none
theorem s_neg {X : Cx} : FlatSound X (one (rU fun i => .int (-i))) fNeg := fun ds vs d H Z z rd e => by
  unfold fNeg at e
  split at e
  · rename_i i
    cases e
    obtain ⟨v, rfl, h1⟩ := rd.one
    exact ⟨.int (-i), fun _ => rfl, fun Q q => ⟨v, rfl, i, h1.int, q⟩⟩
  · cases e
/-! ### is None -/
def D.isNon : D → Bool
  | .non => true | .bl _ => false | .int _ => false | .str _ => false | .lst _ => false | .tup _ => false | .scr _ => false | .kt _ => false | .dk _ => false | .dt _ => false
def fIsN : List D → Option D
  | [d, .non] => some (.bl d.isNon)
  | _ => none
theorem Rep.isN {K : PySem.W.Frag} {Z : Hp} {v : V} : ∀ {d : D}, Rep K Z d v → d.isNon = decide (v = .non)
  | .non, h => by
    have e : v = .non := h
    subst e; rfl
  | .bl b, h => by
    have e : v = .bl b := h
    subst e; rfl
  | .int b, h => by
    have e : v = .int b := h
    subst e; rfl
  | .str b, h => by
    have e : v = .str b := h
    subst e; rfl
  | .lst b, h => by
    obtain ⟨a, vs, e, _⟩ := h
    subst e; rfl
  | .tup b, h => by
    obtain ⟨a, vs, e, _⟩ := h
    subst e; rfl
  | .scr b, h => by
    obtain ⟨a, e, _⟩ := h
    subst e; rfl
  | .kt b, h => by
    obtain ⟨a, e, _⟩ := h
    subst e; rfl
  | .dk b, h => by
    obtain ⟨a, vs, e, _⟩ := h
    subst e; rfl
  | .dt b, h => by
    obtain ⟨a, vs, e, _⟩ := h
    subst e; rfl
theorem RdD.isN {K : PySem.W.Frag} {H Z : Hp} {d : D} {v : V} (h : RdD K H Z d v) : d.isNon = decide (v = .non) := by
  obtain ⟨t, fr, r, rfl⟩ := h
  cases t with
  | fz d' => exact r.2.isN
  | ol _ =>
    obtain ⟨a, vs, e, _⟩ := r
    subst e; rfl
  | od _ =>
    obtain ⟨a, vs, e, _⟩ := r
    subst e; rfl
  | odt _ =>
    obtain ⟨a, vs, e, _⟩ := r
    subst e; rfl
theorem s_isN {X : Cx} : FlatSound X (two fun x y H Q => y = .non ∧ Q (.bl (decide (x = .non))) H) fIsN := fun ds vs d H Z z rd e => by
  unfold fIsN at e
  split at e
  · rename_i d
    cases e
    obtain ⟨v, w, rfl, h1, h2⟩ := rd.two
    exact ⟨.bl d.isNon, fun _ => rfl, fun Q q => ⟨v, w, rfl, h2.non, by rw [← h1.isN]; exact q⟩⟩
  · cases e
def fNotN : List D → Option D
  | [d, .non] => some (.bl !d.isNon)
  | _ => none
theorem s_notN {X : Cx} : FlatSound X (two fun x y H Q => y = .non ∧ Q (.bl (!decide (x = .non))) H) fNotN := fun ds vs d H Z z rd e => by
  unfold fNotN at e
  split at e
  · rename_i d
    cases e
    obtain ⟨v, w, rfl, h1, h2⟩ := rd.two
    exact ⟨.bl !d.isNon, fun _ => rfl, fun Q q => ⟨v, w, rfl, h2.non, by rw [← h1.isN]; exact q⟩⟩
  · cases e

/-! ### == -/
mutual
def D.py : D → Option PyData
  | .non => some .none
  | .bl b => some (.bool b)
  | .int i => some (.int i)
  | .str x => some (.str x)
  | .lst ds => (pys ds).map .list
  | .tup ds => (pys ds).map .tuple
  | .scr _ => none
  | .kt _ => none
  | .dk _ => none
  | .dt _ => none
def pys : List D → Option (List PyData)
  | [] => some []
  | d :: ds => match d.py, pys ds with
    | some p, some ps => some (p :: ps)
    | _, _ => none
end
mutual
theorem Rep.dp {K : PySem.W.Frag} {H Z : Hp} (z : ZOk Z H) : ∀ (d : D) (v : V) (p : PyData), Rep K Z d v → d.py = some p → Dp K H v p
  | .non, v, p, h, e => by
    simp only [D.py, Option.some.injEq] at e
    subst e; rw [show v = .non from h]; exact .non
  | .bl b, v, p, h, e => by
    simp only [D.py, Option.some.injEq] at e
    subst e; rw [show v = .bl b from h]; exact .bl b
  | .int b, v, p, h, e => by
    simp only [D.py, Option.some.injEq] at e
    subst e; rw [show v = .int b from h]; exact .int b
  | .str b, v, p, h, e => by
    simp only [D.py, Option.some.injEq] at e
    subst e; rw [show v = .str b from h]; exact .str b
  | .lst ds, v, p, h, e => by
    obtain ⟨a, vs, rfl, h2, h3⟩ := h
    cases q : pys ds with
    | none => simp only [D.py, q, Option.map_none, reduceCtorEq] at e
    | some ps =>
      simp only [D.py, q, Option.map_some, Option.some.injEq] at e
      subst e
      exact .lst (.of (z.lst h2)) (Reps.dp z ds vs ps h3 q)
  | .tup ds, v, p, h, e => by
    obtain ⟨a, vs, rfl, h2, h3⟩ := h
    cases q : pys ds with
    | none => simp only [D.py, q, Option.map_none, reduceCtorEq] at e
    | some ps =>
      simp only [D.py, q, Option.map_some, Option.some.injEq] at e
      subst e
      exact .tup (.of (z.tup h2)) (Reps.dp z ds vs ps h3 q)
  | .scr _, v, p, h, e => by simp only [D.py, reduceCtorEq] at e
  | .kt _, v, p, h, e => by simp only [D.py, reduceCtorEq] at e
  | .dk _, v, p, h, e => by simp only [D.py, reduceCtorEq] at e
  | .dt _, v, p, h, e => by simp only [D.py, reduceCtorEq] at e
theorem Reps.dp {K : PySem.W.Frag} {H Z : Hp} (z : ZOk Z H) : ∀ (ds : List D) (vs : List V) (ps : List PyData), Reps K Z ds vs → pys ds = some ps → DpAll K H vs ps
  | [], vs, ps, h, e => by
    simp only [pys, Option.some.injEq] at e
    subst e; rw [show vs = [] from h]; exact .nil
  | d :: ds, vs, ps, h, e => by
    obtain ⟨v, r, rfl, h1, h2⟩ := h
    cases q1 : d.py with
    | none => simp only [pys, q1, reduceCtorEq] at e
    | some p =>
      cases q2 : pys ds with
      | none => simp only [pys, q1, q2, reduceCtorEq] at e
      | some ps' =>
        simp only [pys, q1, q2, Option.some.injEq] at e
        subst e
        exact .cons (Rep.dp z d v p h1 q1) (Reps.dp z ds r ps' h2 q2)
end
theorem RdD.dp {K : PySem.W.Frag} {H Z : Hp} {d : D} {v : V} {p : PyData} (z : ZOk Z H) (h : RdD K H Z d v) (e : d.py = some p) : Dp K H v p := by
  obtain ⟨t, fr, r, rfl⟩ := h
  cases t with
  | fz d => exact Rep.dp z d v p r.2 e
  | ol ds =>
    obtain ⟨a, vs, rfl, _, h2, _, h3⟩ := r
    cases q : pys ds with
    | none => simp only [T.d, D.py, q, Option.map_none, reduceCtorEq] at e
    | some ps =>
      simp only [T.d, D.py, q, Option.map_some, Option.some.injEq] at e
      subst e
      exact .lst (.of h2) (Reps.dp z ds vs ps h3 q)
  | od _ => simp only [T.d, D.py, reduceCtorEq] at e
  | odt _ => simp only [T.d, D.py, reduceCtorEq] at e
def eqD : D → D → Option Bool
  | .dk ks, .dk [] => some ks.isEmpty
  | a, b => match a.py, b.py with
    | some p, some q => if SeqAt.shaped p && SeqAt.shaped q then some (PyData.eqv p q) else none
    | _, _ => none
def fEq : List D → Option D
  | [a, b] => (eqD a b).map .bl
  | _ => none
def fNe : List D → Option D
  | [a, b] => (eqD a b).map fun k => .bl !k
  | _ => none
/-- a dict beside the empty one -/
def rEq0 (neg : Bool) : R2 := fun x y H Q => ∃ a b ks, x = .ref a ∧ y = .ref b ∧ Rd H a (.dK ks) ∧ Rd H b (.dK []) ∧ Q (.bl (if neg then !ks.isEmpty else ks.isEmpty)) H
theorem op_eq0 {X : Cx} (hu : X.A.units < cLine) : OpR X (compareOp .Eq) (rEq0 false) := by
  intro pins s σ H x y v u Q I rx ry h
  obtain ⟨a, b, ks, rfl, rfl, ea, eb, q⟩ := h
  obtain rfl : v = Value.ref a := rx
  obtain rfl : u = Value.ref b := ry
  obtain ⟨_, ya, va, ra, da⟩ := dk_rd I.hok ea
  obtain ⟨_, yb, vb, rb, db⟩ := dk_rd I.hok eb
  have hb : vb = [] := by cases rb; rfl
  subst hb
  refine PySem.W.keq_eq (knd := mixKind X.prog X.w) (r := true) ya yb da db hu (fun hl => ?_) (fin_bl I q ?_)
  · have : va = [] := List.eq_nil_of_length_eq_zero hl
    subst this
    cases ra
    exact hits_all (kvs := ([] : List (Key × V))) .nil .nil (fun p hp => nomatch hp)
  · rw [← ra.length, Bool.and_true]
    cases ks <;> rfl
theorem op_ne0 {X : Cx} (hu : X.A.units < cLine) : OpR X (compareOp .NotEq) (rEq0 true) := by
  intro pins s σ H x y v u Q I rx ry h
  obtain ⟨a, b, ks, rfl, rfl, ea, eb, q⟩ := h
  obtain rfl : v = Value.ref a := rx
  obtain rfl : u = Value.ref b := ry
  obtain ⟨_, ya, va, ra, da⟩ := dk_rd I.hok ea
  obtain ⟨_, yb, vb, rb, db⟩ := dk_rd I.hok eb
  have hb : vb = [] := by cases rb; rfl
  subst hb
  refine PySem.W.keq_ne (knd := mixKind X.prog X.w) (r := true) ya yb da db hu (fun hl => ?_) (fin_bl I q ?_)
  · have : va = [] := List.eq_nil_of_length_eq_zero hl
    subst this
    cases ra
    exact hits_all (kvs := ([] : List (Key × V))) .nil .nil (fun p hp => nomatch hp)
  · rw [← ra.length, Bool.and_true]
    cases ks <;> rfl
def rEqA (K : PySem.W.Frag) : R2 := fun x y H Q => rEqD K x y H Q ∨ rEq0 false x y H Q
def rNeA (K : PySem.W.Frag) : R2 := fun x y H Q => rNeD K x y H Q ∨ rEq0 true x y H Q
theorem op_eqA {X : Cx} (hu : X.A.units + 64 < cLine) : OpR X (compareOp .Eq) (rEqA X.K) := (op_eqD hu).or (op_eq0 (by omega))
theorem op_neA {X : Cx} (hu : X.A.units + 64 < cLine) : OpR X (compareOp .NotEq) (rNeA X.K) := (op_neD hu).or (op_ne0 (by omega))
theorem RepK.isEmpty {K : PySem.W.Frag} {Z : Hp} : ∀ {ks : List (Key × D)} {ws : List (Key × V)}, RepK K Z ks ws → ks.isEmpty = ws.isEmpty
  | [], ws, h => by rw [show ws = [] from h]; rfl
  | (k, d) :: r, ws, h => by
    obtain ⟨v, s, e, _⟩ := h
    subst e; rfl
theorem eqD_sound {X : Cx} {a b : D} {v w : V} {k : Bool} {H Z : Hp} (z : ZOk Z H) (h1 : RdD X.K H Z a v) (h2 : RdD X.K H Z b w) (e : eqD a b = some k) (Q : VK) : (Q (.bl k) H → rEqA X.K v w H Q) ∧ (Q (.bl !k) H → rNeA X.K v w H Q) := by
  unfold eqD at e
  split at e
  · rename_i ks
    cases e
    obtain ⟨a, wa, rfl, ha, ra⟩ := h1.dk z
    obtain ⟨b, wb, rfl, hb, rb⟩ := h2.dk z
    have : wb = [] := rb
    subst this
    rw [ra.isEmpty]
    exact ⟨fun q => .inr ⟨a, b, wa, rfl, rfl, ha, hb, q⟩, fun q => .inr ⟨a, b, wa, rfl, rfl, ha, hb, q⟩⟩
  · split at e
    · rename_i p q hp hq
      split at e
      · rename_i hs
        cases e
        have hs := Bool.and_eq_true_iff.mp hs
        exact ⟨fun k => .inl ⟨p, q, h1.dp z hp, h2.dp z hq, hs.1, hs.2, k⟩, fun k => .inl ⟨p, q, h1.dp z hp, h2.dp z hq, hs.1, hs.2, k⟩⟩
      · cases e
    · cases e
theorem s_eq {X : Cx} : FlatSound X (two (rEqA X.K)) fEq := fun ds vs d H Z z rd e => by
  unfold fEq at e
  split at e
  · rename_i a b
    cases q : eqD a b with
    | none => rw [q] at e; cases e
    | some k =>
      rw [q] at e; cases e
      obtain ⟨v, w, rfl, h1, h2⟩ := rd.two
      exact ⟨_, fun _ => rfl, fun Q h => ⟨v, w, rfl, (eqD_sound z h1 h2 q Q).1 h⟩⟩
  · cases e
theorem s_ne {X : Cx} : FlatSound X (two (rNeA X.K)) fNe := fun ds vs d H Z z rd e => by
  unfold fNe at e
  split at e
  · rename_i a b
    cases q : eqD a b with
    | none => rw [q] at e; cases e
    | some k =>
      rw [q] at e; cases e
      obtain ⟨v, w, rfl, h1, h2⟩ := rd.two
      exact ⟨_, fun _ => rfl, fun Q h => ⟨v, w, rfl, (eqD_sound z h1 h2 q Q).2 h⟩⟩
  · cases e
end Dn

set_option Elab.async false
set_option linter.all false
set_option maxRecDepth 100000
/-! Dn7: dicts, membership, subscripts, slices, built-in functions. -/
namespace Dn
open PySem PySem.Spec L2
open PyProof.Rows hiding St

/-! ### dicts as tables -/
def RepG (K : PySem.W.Frag) (Z : Hp) {κ : Type} : List (κ × D) → List (κ × V) → Prop := Paired fun p q => p.1 = q.1 ∧ Rep K Z p.2 q.2
section
variable {K : PySem.W.Frag} {Z : Hp}
theorem RepK.g : ∀ {ks : List (Key × D)} {ws : List (Key × V)}, RepK K Z ks ws → RepG K Z ks ws
  | [], ws, h => by rw [show ws = [] from h]; exact .nil
  | (k, d) :: r, ws, h => by
    obtain ⟨v, s, e, h1, h2⟩ := h
    subst e; exact .cons ⟨rfl, h1⟩ (RepK.g h2)
theorem RepKT.g : ∀ {ks : List (List Key × D)} {ws : List (List Key × V)}, RepKT K Z ks ws → RepG K Z ks ws
  | [], ws, h => by rw [show ws = [] from h]; exact .nil
  | (k, d) :: r, ws, h => by
    obtain ⟨v, s, e, h1, h2⟩ := h
    subst e; exact .cons ⟨rfl, h1⟩ (RepKT.g h2)
theorem RepG.k : ∀ {ks : List (Key × D)} {ws : List (Key × V)}, RepG K Z ks ws → RepK K Z ks ws
  | _, _, .nil => rfl
  | (k, d) :: _, (k', v) :: _, .cons h t => by
    obtain ⟨e, r⟩ := h
    have e : k = k' := e
    subst e
    exact ⟨v, _, rfl, r, RepG.k t⟩
theorem RepG.t : ∀ {ks : List (List Key × D)} {ws : List (List Key × V)}, RepG K Z ks ws → RepKT K Z ks ws
  | _, _, .nil => rfl
  | (k, d) :: _, (k', v) :: _, .cons h t => by
    obtain ⟨e, r⟩ := h
    have e : k = k' := e
    subst e
    exact ⟨v, _, rfl, r, RepG.t t⟩
variable {κ : Type} [DecidableEq κ]
def valD (kvs : List (κ × D)) (k : κ) : Option D := (kvs.find? fun kv => decide (kv.1 = k)).map (·.2)
def putD (kvs : List (κ × D)) (k : κ) (v : D) : List (κ × D) :=
  if (kvs.any fun kv => decide (kv.1 = k)) = true then kvs.map (fun kv => if kv.1 = k then (kv.1, v) else kv) else kvs ++ [(k, v)]
theorem RepG.val {ks : List (κ × D)} {ws : List (κ × V)} (h : RepG K Z ks ws) (k : κ) : (∃ d v, valD ks k = some d ∧ valV ws k = some v ∧ Rep K Z d v) ∨ (valD ks k = none ∧ valV ws k = none) := by
  unfold RepG at h
  induction h with
  | nil => exact .inr ⟨rfl, rfl⟩
  | @cons p q ps qs hr t ih =>
    by_cases e : p.1 = k
    · refine .inl ⟨p.2, q.2, ?_, valV_pos (hr.1 ▸ e), hr.2⟩
      unfold valD
      rw [List.find?_cons_of_pos (by simp [e])]; rfl
    · rw [valV_neg (fun z => e (hr.1.trans z))]
      have : valD (p :: ps) k = valD ps k := by
        unfold valD
        rw [List.find?_cons_of_neg (by simp [e])]
      rw [this]; exact ih
theorem RepG.any {ks : List (κ × D)} {ws : List (κ × V)} (h : RepG K Z ks ws) (k : κ) : (ks.any fun kv => decide (kv.1 = k)) = ws.any fun kv => decide (kv.1 = k) := by
  unfold RepG at h
  induction h with
  | nil => rfl
  | @cons p q ps qs hr t ih => rw [List.any_cons, List.any_cons, ih, hr.1]
theorem RepG.put {ks : List (κ × D)} {ws : List (κ × V)} (h : RepG K Z ks ws) (k : κ) {d : D} {v : V} (r : Rep K Z d v) : RepG K Z (putD ks k d) (putK ws k v) := by
  have h1 : RepG K Z (ks.map (fun kv => if kv.1 = k then (kv.1, d) else kv)) (ws.map (fun kv => if kv.1 = k then (kv.1, v) else kv)) := by
    unfold RepG at h ⊢
    induction h with
    | nil => exact .nil
    | @cons p q ps qs hr t ih =>
      rw [List.map_cons, List.map_cons]
      refine .cons ?_ ih
      by_cases e : p.1 = k
      · rw [if_pos e, if_pos (hr.1 ▸ e)]; exact ⟨hr.1, r⟩
      · rw [if_neg e, if_neg (fun z => e (hr.1.trans z))]; exact hr
  have h2 : RepG K Z (ks ++ [(k, d)]) (ws ++ [(k, v)]) := by
    unfold RepG at h ⊢
    clear h1
    induction h with
    | nil => exact .cons ⟨rfl, r⟩ .nil
    | @cons p q ps qs hr t ih => exact .cons hr ih
  unfold putD putK
  rw [h.any k]
  split
  · exact h1
  · exact h2
theorem RepG.length {ks : List (κ × D)} {ws : List (κ × V)} (h : RepG K Z ks ws) : ks.length = ws.length := Paired.length h
theorem RepG.keys {ks : List (κ × D)} {ws : List (κ × V)} (h : RepG K Z ks ws) : ks.map (·.1) = ws.map (·.1) := by
  unfold RepG at h
  induction h with
  | nil => rfl
  | @cons p q ps qs hr t ih => rw [List.map_cons, List.map_cons, hr.1, ih]
theorem RepG.vals {ks : List (κ × D)} {ws : List (κ × V)} (h : RepG K Z ks ws) : Reps K Z (ks.map (·.2)) (ws.map (·.2)) := by
  unfold RepG at h
  induction h with
  | nil => rfl
  | @cons p q ps qs hr t ih => exact ⟨_, _, rfl, hr.2, ih⟩
end
def D.key : D → Option Key
  | .int i => some (.inl i)
  | .str x => some (.inr x)
  | _ => none
def kD : Key → D
  | .inl i => .int i
  | .inr x => .str x
def keysOf : List D → Option (List Key)
  | [] => some []
  | d :: ds => match d.key, keysOf ds with
    | some k, some ks => some (k :: ks)
    | _, _ => none
def D.keyT : D → Option (List Key)
  | .tup ds => keysOf ds
  | _ => none
section
variable {K : PySem.W.Frag} {H Z : Hp}
theorem RdD.key {d : D} {v : V} {k : Key} (h : RdD K H Z d v) (e : d.key = some k) : v = kV k := by
  cases d <;> simp only [D.key, Option.some.injEq, reduceCtorEq] at e
  · subst e; exact h.int
  · subst e; exact h.str
theorem Rep.key {d : D} {v : V} {k : Key} (h : Rep K Z d v) (e : d.key = some k) : v = kV k := by
  cases d <;> simp only [D.key, Option.some.injEq, reduceCtorEq] at e
  · subst e; exact h
  · subst e; exact h
theorem Reps.keys : ∀ {ds : List D} {vs : List V} {ks : List Key}, Reps K Z ds vs → keysOf ds = some ks → vs = ks.map kV
  | [], vs, ks, h, e => by
    simp only [keysOf, Option.some.injEq] at e
    subst e; exact h
  | d :: ds, vs, ks, h, e => by
    obtain ⟨v, r, rfl, h1, h2⟩ := h
    cases q1 : d.key with
    | none => simp only [keysOf, q1, reduceCtorEq] at e
    | some k =>
      cases q2 : keysOf ds with
      | none => simp only [keysOf, q1, q2, reduceCtorEq] at e
      | some ks' =>
        simp only [keysOf, q1, q2, Option.some.injEq] at e
        subst e
        rw [List.map_cons, Reps.keys h2 q2, h1.key q1]
theorem rep_kD (k : Key) : Rep K Z (kD k) (kV k) := by cases k <;> rfl
theorem reps_kD : ∀ ks : List Key, Reps K Z (ks.map kD) (ks.map kV)
  | [] => rfl
  | k :: ks => ⟨_, _, rfl, rep_kD k, reps_kD ks⟩
end
/-- a key's tuple must be tracked: a constant of the module's own is not -/
def TrkT (H : Hp) (d : D) (v : V) : Prop := ∀ ks, d.keyT = some ks → ∃ b, v = .ref b ∧ H b = some (.tup (ks.map kV))
/-- what a dict holds at a key -/
inductive Hit (K : PySem.W.Frag) (H Z : Hp) : V → V → Option D → Prop
  | none {a : Addr} {v : V} (g : DGet H a v none) : Hit K H Z (.ref a) v none
  | some {a : Addr} {v w : V} {d : D} (g : DGet H a v (some w)) (r : Rep K Z d w) : Hit K H Z (.ref a) v (some d)
def getD0 : D → D → Option (Option D)
  | .dk kvs, k => k.key.map fun k => valD kvs k
  | .dt kvs, k => k.keyT.map fun k => valD kvs k
  | _, _ => none
theorem RdD.keyT {K : PySem.W.Frag} {H Z : Hp} {d : D} {v : V} {ks : List Key} (z : ZOk Z H) (h : RdD K H Z d v) (e : d.keyT = some ks) : ∃ b, v = .ref b ∧ H b = some (.tup (ks.map kV)) := by
  cases d <;> simp only [D.keyT, reduceCtorEq] at e
  rename_i ds
  obtain ⟨b, ws, rfl, hb, rb⟩ := h.tup z
  have := Reps.keys rb e
  rw [this] at hb
  exact ⟨b, rfl, hb⟩
theorem getD0_ok {K : PySem.W.Frag} {H Z : Hp} {c k : D} {v w : V} {o : Option D} (z : ZOk Z H) (h1 : RdD K H Z c v) (h2 : RdD K H Z k w) (e : getD0 c k = some o) : Hit K H Z v w o := by
  cases c <;> simp only [getD0, reduceCtorEq] at e
  · rename_i kvs
    cases q : k.key with
    | none => rw [q] at e; cases e
    | some k' =>
      rw [q] at e
      simp only [Option.map_some, Option.some.injEq] at e
      subst e
      obtain ⟨a, ws, rfl, ha, ra⟩ := h1.dk z
      rw [h2.key q]
      rcases ra.g.val k' with ⟨d, u, e1, e2, r⟩ | ⟨e1, e2⟩
      · rw [e1]; exact .some (.inl ⟨ws, k', ha, rfl, e2.symm⟩) r
      · rw [e1]; exact .none (.inl ⟨ws, k', ha, rfl, e2.symm⟩)
  · rename_i kvs
    cases q : k.keyT with
    | none => rw [q] at e; cases e
    | some k' =>
      rw [q] at e
      simp only [Option.map_some, Option.some.injEq] at e
      subst e
      obtain ⟨a, ws, rfl, ha, ra⟩ := h1.dt z
      obtain ⟨b, rfl, hb⟩ := h2.keyT z q
      rcases ra.g.val k' with ⟨d, u, e1, e2, r⟩ | ⟨e1, e2⟩
      · rw [e1]; exact .some (.inr ⟨ws, k', b, ha, rfl, hb, e2.symm⟩) r
      · rw [e1]; exact .none (.inr ⟨ws, k', b, ha, rfl, hb, e2.symm⟩)

/-! ### in, not in -/
def toV : D → Option V
  | .non => some .non | .bl b => some (.bl b) | .int i => some (.int i) | .str x => some (.str x) | _ => none
def toVs : List D → Option (List V)
  | [] => some []
  | d :: ds => match toV d, toVs ds with
    | some v, some vs => some (v :: vs)
    | _, _ => none
section
variable {K : PySem.W.Frag} {H Z : Hp}
theorem toV_ok {d : D} {v w : V} (h : Rep K Z d v) (e : toV d = some w) : v = w ∧ flatV w = true := by
  cases d <;> simp only [toV, Option.some.injEq, reduceCtorEq] at e <;> subst e <;> exact ⟨h, rfl⟩
theorem toV_rd {d : D} {v w : V} (h : RdD K H Z d v) (e : toV d = some w) : v = w ∧ flatV w = true := by
  cases d <;> simp only [toV, Option.some.injEq, reduceCtorEq] at e <;> subst e
  · exact ⟨h.non, rfl⟩
  · exact ⟨h.bl, rfl⟩
  · exact ⟨h.int, rfl⟩
  · exact ⟨h.str, rfl⟩
theorem toVs_ok : ∀ {ds : List D} {vs ws : List V}, Reps K Z ds vs → toVs ds = some ws → vs = ws ∧ ws.all flatV = true
  | [], vs, ws, h, e => by
    simp only [toVs, Option.some.injEq] at e
    subst e; exact ⟨h, rfl⟩
  | d :: ds, vs, ws, h, e => by
    obtain ⟨v, r, rfl, h1, h2⟩ := h
    cases q1 : toV d with
    | none => simp only [toVs, q1, reduceCtorEq] at e
    | some k =>
      cases q2 : toVs ds with
      | none => simp only [toVs, q1, q2, reduceCtorEq] at e
      | some ks' =>
        simp only [toVs, q1, q2, Option.some.injEq] at e
        subst e
        obtain ⟨e1, f1⟩ := toV_ok h1 q1
        obtain ⟨e2, f2⟩ := toVs_ok h2 q2
        rw [e1, e2]
        exact ⟨rfl, by rw [List.all_cons, f1, f2]; rfl⟩
end
def inD (x : D) : D → Option Bool
  | .str z => match x with
    | .str y => match y.cps.toList with
      | [c] => some (decide (c ∈ z.cps.toList))
      | _ => none
    | _ => none
  | .tup ds => match toV x, toVs ds with
    | some v, some vs => some (inV v vs)
    | _, _ => none
  | .kt vs => match toV x with
    | some v => if vs.all flatV then some (inV v vs) else none
    | none => none
  | .lst ds => match x.py, pys ds with
    | some p, some ps => if SeqAt.shaped p && SeqAt.shaped (.list ps) then some (ps.any fun z => PyData.eqv z p) else none
    | _, _ => none
  | c => (getD0 c x).map Option.isSome
def fIn : List D → Option D
  | [a, b] => (inD a b).map .bl
  | _ => none
def fNotIn : List D → Option D
  | [a, b] => (inD a b).map fun k => .bl !k
  | _ => none
def rDIn (neg : Bool) : R2 := fun x y H Q => ∃ a o, y = .ref a ∧ DGet H a x o ∧ Q (.bl (if neg then !o.isSome else o.isSome)) H
theorem op_din {X : Cx} (hu : X.A.units + 1 < cLine) : OpR X (compareOp .In) (rDIn false) := by
  intro pins s σ H x y v u Q I rx ry h
  obtain ⟨a, o, rfl, g, q⟩ := h
  obtain rfl : u = Value.ref a := ry
  exact d_in hu I g rx fun s' I' => ⟨.bl _, H, I', rfl, q⟩
theorem op_dnotin {X : Cx} (hu : X.A.units + 1 < cLine) : OpR X (compareOp .NotIn) (rDIn true) := by
  intro pins s σ H x y v u Q I rx ry h
  obtain ⟨a, o, rfl, g, q⟩ := h
  obtain rfl : u = Value.ref a := ry
  exact d_notIn hu I g rx fun s' I' => ⟨.bl _, H, I', rfl, q⟩
def rInA (K : PySem.W.Frag) : R2 := fun x y H Q => rInS x y H Q ∨ rIn K false x y H Q ∨ rInD K x y H Q ∨ rDIn false x y H Q
def rNotInA (K : PySem.W.Frag) : R2 := fun x y H Q => rNotInS x y H Q ∨ rIn K true x y H Q ∨ rNotInD K x y H Q ∨ rDIn true x y H Q
theorem op_inA {X : Cx} (hu : X.A.units + 65 < cLine) : OpR X (compareOp .In) (rInA X.K) := op_inS.or (op_in_seq.or ((op_inD hu).or (op_din (by omega))))
theorem op_notInA {X : Cx} (hu : X.A.units + 65 < cLine) : OpR X (compareOp .NotIn) (rNotInA X.K) := op_notInS.or (op_notIn_seq.or ((op_notInD hu).or (op_dnotin (by omega))))
theorem inD_sound {X : Cx} {a b : D} {v w : V} {k : Bool} {H Z : Hp} (z : ZOk Z H) (h1 : RdD X.K H Z a v) (h2 : RdD X.K H Z b w) (e : inD a b = some k) (Q : VK) : (Q (.bl k) H → rInA X.K v w H Q) ∧ (Q (.bl !k) H → rNotInA X.K v w H Q) := by
  have dictC : ∀ {c : D}, RdD X.K H Z c w → (getD0 c a).map Option.isSome = some k → (Q (.bl k) H → rInA X.K v w H Q) ∧ (Q (.bl !k) H → rNotInA X.K v w H Q) := fun {c} hc e => by
    cases q : getD0 c a with
    | none => rw [q] at e; cases e
    | some o =>
      rw [q] at e
      simp only [Option.map_some, Option.some.injEq] at e
      subst e
      cases getD0_ok z hc h1 q with
      | none g => exact ⟨fun h => .inr (.inr (.inr ⟨_, _, rfl, g, h⟩)), fun h => .inr (.inr (.inr ⟨_, _, rfl, g, h⟩))⟩
      | some g r => exact ⟨fun h => .inr (.inr (.inr ⟨_, _, rfl, g, h⟩)), fun h => .inr (.inr (.inr ⟨_, _, rfl, g, h⟩))⟩
  cases b with
  | str z' =>
    simp only [inD] at e
    cases a with
    | str y =>
      simp only at e
      cases q : y.cps.toList with
      | nil => rw [q] at e; cases e
      | cons c r =>
        cases r with
        | cons _ _ => rw [q] at e; cases e
        | nil =>
          rw [q] at e
          simp only [Option.some.injEq] at e
          subst e
          have ey : y = ⟨#[c]⟩ := by
            obtain ⟨cps⟩ := y
            congr 1
            exact Array.toList_inj.mp (by simpa using q)
          subst ey
          rw [h1.str, h2.str]
          exact ⟨fun h => .inl ⟨c, z', rfl, rfl, h⟩, fun h => .inl ⟨c, z', rfl, rfl, h⟩⟩
    | _ => cases e
  | tup ds =>
    simp only [inD] at e
    cases q1 : toV a with
    | none => rw [q1] at e; cases e
    | some v' =>
      cases q2 : toVs ds with
      | none => rw [q1, q2] at e; cases e
      | some vs =>
        rw [q1, q2] at e
        simp only [Option.some.injEq] at e
        subst e
        obtain ⟨b, ws, rfl, hb, rb⟩ := h2.tup z
        obtain ⟨e1, f1⟩ := toV_rd h1 q1
        obtain ⟨e2, f2⟩ := toVs_ok rb q2
        subst e1 e2
        exact ⟨fun h => .inr (.inl ⟨b, _, rfl, .inr (.of hb), f1, f2, h⟩), fun h => .inr (.inl ⟨b, _, rfl, .inr (.of hb), f1, f2, h⟩)⟩
  | kt vs =>
    simp only [inD] at e
    cases q1 : toV a with
    | none => rw [q1] at e; cases e
    | some v' =>
      rw [q1] at e
      simp only at e
      split at e
      · rename_i f2
        cases e
        obtain ⟨b, rfl, hb⟩ := h2.kt z
        obtain ⟨e1, f1⟩ := toV_rd h1 q1
        subst e1
        exact ⟨fun h => .inr (.inl ⟨b, _, rfl, .inr hb, f1, f2, h⟩), fun h => .inr (.inl ⟨b, _, rfl, .inr hb, f1, f2, h⟩)⟩
      · cases e
  | lst ds =>
    simp only [inD] at e
    cases q1 : a.py with
    | none => rw [q1] at e; cases e
    | some p =>
      cases q2 : pys ds with
      | none => rw [q1, q2] at e; cases e
      | some ps =>
        rw [q1, q2] at e
        simp only at e
        split at e
        · rename_i hs
          cases e
          have hs := Bool.and_eq_true_iff.mp hs
          have d2 : Dp X.K H w (.list ps) := h2.dp z (by simp only [D.py, q2, Option.map_some])
          exact ⟨fun h => .inr (.inr (.inl ⟨p, ps, h1.dp z q1, d2, hs.1, hs.2, h⟩)), fun h => .inr (.inr (.inl ⟨p, ps, h1.dp z q1, d2, hs.1, hs.2, h⟩))⟩
        · cases e
  | non => exact dictC h2 e
  | bl _ => exact dictC h2 e
  | int _ => exact dictC h2 e
  | scr _ => exact dictC h2 e
  | dk _ => exact dictC h2 e
  | dt _ => exact dictC h2 e
theorem s_in {X : Cx} : FlatSound X (two (rInA X.K)) fIn := fun ds vs d H Z z rd e => by
  unfold fIn at e
  split at e
  · rename_i a b
    cases q : inD a b with
    | none => rw [q] at e; cases e
    | some k =>
      rw [q] at e; cases e
      obtain ⟨v, w, rfl, h1, h2⟩ := rd.two
      exact ⟨_, fun _ => rfl, fun Q h => ⟨v, w, rfl, (inD_sound z h1 h2 q Q).1 h⟩⟩
  · cases e
theorem s_notIn {X : Cx} : FlatSound X (two (rNotInA X.K)) fNotIn := fun ds vs d H Z z rd e => by
  unfold fNotIn at e
  split at e
  · rename_i a b
    cases q : inD a b with
    | none => rw [q] at e; cases e
    | some k =>
      rw [q] at e; cases e
      obtain ⟨v, w, rfl, h1, h2⟩ := rd.two
      exact ⟨_, fun _ => rfl, fun Q h => ⟨v, w, rfl, (inD_sound z h1 h2 q Q).2 h⟩⟩
  · cases e

/-! ### subscripts -/
def rIxD : R2 := fun x y H Q => ∃ a v, x = .ref a ∧ DGet H a y (some v) ∧ Q v H
theorem ix_dict {X : Cx} (hu : X.A.units + 1 < cLine) : IxR X rIxD := by
  intro value slice pins s σ H x y v u Q I rx ry h hs
  obtain ⟨a, z, rfl, g, q⟩ := h
  obtain rfl : v = Value.ref a := rx
  exact PyProof.Rows.tail_any (dict_typeIs I g) PySem.F.slot_dict_getitem.lookup (d_getItem hu I g ry fun w' s' I' r => ⟨z, H, I', r, q⟩) hs
/-- a child that stands still comes -/
theorem ops_child {X : Cx} {r : List V → Hp → VK → Prop} {f : List D → Option D} (h : ∀ ds vs d H Z, ZOk Z H → RdDs X.K H Z ds vs → f ds = some d → ∃ w, Rep X.K Z d w ∧ ∀ Q : VK, Q w H → r vs H Q) : OpsSound X r (fF f) := fun ds vs t H Z Q z rd e k => by
  cases q : f ds with
  | none => rw [fF, q] at e; cases e
  | some d =>
    rw [fF, q] at e
    simp only [Option.map_some, Option.some.injEq] at e
    subst e
    obtain ⟨v, h1, h2⟩ := h ds vs d H Z z rd q
    exact h2 Q (k v H Z [] z ⟨rfl, h1⟩ .refl (by simp))
def atD : D → D → Option D
  | .lst ds, .int i => atI ds i
  | .tup ds, .int i => atI ds i
  | .scr ns, .int i => (atI ns i).map D.int
  | .dk kvs, k => (getD0 (.dk kvs) k).join
  | .dt kvs, k => (getD0 (.dt kvs) k).join
  | _, _ => none
def fIx : List D → Option D
  | [a, b] => atD a b
  | _ => none
def rIxA (K : PySem.W.Frag) : R2 := fun x y H Q => rIx K x y H Q ∨ rIxD x y H Q
theorem ix_any {X : Cx} (hu : X.A.units + 1 < cLine) : IxR X (rIxA X.K) := ix_seq.or (ix_dict hu)
theorem Reps.atI {K : PySem.W.Frag} {Z : Hp} {ds : List D} {vs : List V} {i : Int} {d : D} (h : Reps K Z ds vs) (e : L2.atI ds i = some d) : ∃ v, L2.atI vs i = some v ∧ Rep K Z d v := by
  unfold L2.atI at e ⊢
  rw [← h.length]
  cases q : ixN ds.length i with
  | none => rw [q] at e; cases e
  | some j =>
    rw [q] at e
    obtain ⟨v, h1, h2⟩ := h.get (i := j) e
    exact ⟨v, h1, h2⟩
theorem s_ix {X : Cx} : OpsSound X (two (rIxA X.K)) (fF fIx) := ops_child fun ds vs d H Z z rd e => by
  unfold fIx at e
  split at e
  · rename_i a b
    obtain ⟨v, w, rfl, h1, h2⟩ := rd.two
    unfold atD at e
    split at e
    · rename_i xs i
      obtain ⟨p, us, rfl, hp, rp⟩ := h1.lst z
      obtain ⟨u, e1, r1⟩ := rp.atI e
      exact ⟨u, r1, fun Q q => ⟨_, _, rfl, .inl (.inl ⟨p, us, i, u, rfl, h2.int, .of hp, e1, q⟩)⟩⟩
    · rename_i xs i
      obtain ⟨p, us, rfl, hp, rp⟩ := h1.tup z
      obtain ⟨u, e1, r1⟩ := rp.atI e
      exact ⟨u, r1, fun Q q => ⟨_, _, rfl, .inl (.inr (.inl ⟨p, us, i, u, rfl, h2.int, .of hp, e1, q⟩))⟩⟩
    · rename_i ns i
      obtain ⟨p, rfl, hp⟩ := h1.scr z
      cases q : L2.atI ns i with
      | none => rw [q] at e; cases e
      | some n =>
        rw [q] at e
        simp only [Option.map_some, Option.some.injEq] at e
        subst e
        refine ⟨.int n, rfl, fun Q h => ⟨_, _, rfl, .inl (.inl ⟨p, _, i, .int n, rfl, h2.int, hp, ?_, h⟩)⟩⟩
        unfold L2.atI at q ⊢
        rw [List.length_map]
        cases q2 : ixN ns.length i with
        | none => rw [q2] at q; cases q
        | some j =>
          rw [q2] at q
          show (ns.map V.int)[j]? = _
          rw [List.getElem?_map, show ns[j]? = some n from q]; rfl
    · rename_i kvs
      cases q : getD0 (.dk kvs) b with
      | none => rw [q] at e; cases e
      | some o =>
        rw [q] at e
        have e : o = some d := e
        subst e
        have hit := getD0_ok z h1 h2 q
        cases hit with
        | some g r => exact ⟨_, r, fun Q h => ⟨_, _, rfl, .inr ⟨_, _, rfl, g, h⟩⟩⟩
    · rename_i kvs
      cases q : getD0 (.dt kvs) b with
      | none => rw [q] at e; cases e
      | some o =>
        rw [q] at e
        have e : o = some d := e
        subst e
        have hit := getD0_ok z h1 h2 q
        cases hit with
        | some g r => exact ⟨_, r, fun Q h => ⟨_, _, rfl, .inr ⟨_, _, rfl, g, h⟩⟩⟩
    · cases e
  · cases e
/-! ### slices -/
inductive OpO where
  | no | yes (o : Op)
def cutD (ds : List D) (lo hi : Option Int) : List D := (ds.drop (HT.sIx ds.length 0 lo)).take (HT.sIx ds.length ds.length hi - HT.sIx ds.length 0 lo)
end Dn

set_option Elab.async false
set_option linter.all false
set_option maxRecDepth 100000
/-! Dn8: what is walked: lists, tuples, texts, dicts (locked), ranges, pairs. -/
namespace Dn
open PySem PySem.Spec L2
open PyProof.Rows hiding St

theorem PI.or {X : Cx} {tg e : Expr} {t t' : TI} (h : PI X tg e t) (h' : PI X tg e t') : PI X tg e (fun σ H R => t σ H R ∨ t' σ H R) := ⟨fun pins s σ H R I q => q.elim (h.run pins s σ H R I) (h'.run pins s σ H R I)⟩
def chars (x : Str) : List D := x.cps.toList.map fun c => .str ⟨#[c]⟩
/-- what a walk over a thing gives -/
def items : D → Option (List D)
  | .lst ds => some ds
  | .tup ds => some ds
  | .scr ns => some (ns.map .int)
  | .str x => if x.length ≤ LIM then some (chars x) else none
  | _ => none
def itemsK : D → Option (List D)
  | .dk kvs => some (kvs.map fun p => kD p.1)
  | .dt kvs => some (kvs.map fun p => .tup (p.1.map kD))
  | d => items d
def itemsV : D → Option (List D)
  | .dk kvs => some (kvs.map (·.2))
  | _ => none
def itemsP : D → Option (List D)
  | .dk kvs => some (kvs.map fun p => .tup [kD p.1, p.2])
  | _ => none
def mIt (f : D → Option (List D)) (m : M T) : M (List D) := fun ρ => (m ρ).bind fun t ρ' => match f t.d with
  | some ds => .ok ds ρ'
  | none => .no
theorem itOk_of {K : PySem.W.Frag} {J : It} {n : Nat} {G : Hp → Prop} {Y : Nat → Hp → V → Hp → Prop} {ds : List D} {A : Addr → Prop} {H1 Z1 : Hp} (w : Walk J n G Y) (hn : n = ds.length) (hl : ds.length ≤ sizeLine) (hG : ∀ H Z, ZOk Z H → Step (fun a => Z1 a = none) H1 Z1 H Z → G H)
    (hY : ∀ i H Z x H', ZOk Z H → Step (fun a => Z1 a = none) H1 Z1 H Z → i < n → Y i H x H' → ∃ Z' d, ds[i]? = some d ∧ ZOk Z' H' ∧ Step NoA H Z H' Z' ∧ Rep K Z' d x) : ItOk K J ds A H1 Z1 := by
  subst hn
  exact ⟨hl, fun H Z z s => ⟨fun i hi => w.goes i H hi (hG H Z z s), w.stops H (hG H Z z s), fun i x H' hi y => hY i H Z x H' z s hi (w.yields i H x H' hi (hG H Z z s) y)⟩⟩
/-- items that stand in Z already -/
theorem itOk_at {K : PySem.W.Frag} {J : It} {G : Hp → Prop} {ds : List D} {vs : List V} {A : Addr → Prop} {H1 Z1 : Hp} (w : Walk J vs.length G (YAt vs)) (r : Reps K Z1 ds vs) (hl : ds.length ≤ sizeLine) (hG : ∀ H Z, ZOk Z H → Step (fun a => Z1 a = none) H1 Z1 H Z → G H) : ItOk K J ds A H1 Z1 :=
  itOk_of w r.length.symm hl hG fun i H Z x H' z s hi y => by
    obtain ⟨e, hx⟩ := y
    subst e
    have hd : i < ds.length := by rw [r.length]; exact hi
    obtain ⟨v, h1, h2⟩ := r.get (List.getElem?_eq_getElem hd)
    rw [hx] at h1; cases h1
    exact ⟨Z, _, List.getElem?_eq_getElem hd, z, .refl, Rep.mono s.zle _ _ h2⟩
section
variable {X : Cx} {tg e : Expr}
theorem di_gen {m : M T} (h : DE X e m) : DI X tg e (mIt items m) := PI.weak (PI.or (PI.inv (pi_list h)) (PI.or (PI.inv (pi_tup h)) (pi_str h))) fun σ H Q q => by
  obtain ⟨ρ, fp, Z, W, E, tk, _, o⟩ := q
  unfold mIt at o
  cases q : m ρ with
  | no => rw [q] at o; exact o.elim
  | ex x ρ' =>
    rw [q] at o
    refine .inl ⟨ρ, fp, Z, W, E, tk, ?_⟩
    rw [q]; exact o
  | ok t ρ' =>
    rw [q] at o
    have o1 : OutI X (FpA fp) σ H Z (match items t.d with
      | some ds => .ok ds ρ'
      | none => .no) Q W := o
    cases hd : t.d with
    | lst ds =>
      rw [hd] at o1
      refine .inl ⟨ρ, fp, Z, W, E, tk, ?_⟩
      rw [q]
      intro v H' Z' fp' fr b rt dj nw
      obtain ⟨Z2, r2, b2⟩ := b.frz rt dj nw
      rw [hd] at r2
      obtain ⟨a, vs, rfl, h2, h3⟩ := r2
      have h4 := b2.env.zok.lst h2
      refine ⟨a, rfl, ⟨vs, .of h4⟩, fun ⟨pins, s, I⟩ => o1 _ H' Z2 fp' b2 (itOk_at walk_list h3 (by rw [h3.length]; exact Inv.lenL I h4) fun H Z z s => .of (z.lst (s.zle _ _ h2)))⟩
    | scr ns =>
      rw [hd] at o1
      refine .inl ⟨ρ, fp, Z, W, E, tk, ?_⟩
      rw [q]
      intro v H' Z' fp' fr b rt dj nw
      obtain ⟨Z2, r2, b2⟩ := b.frz rt dj nw
      rw [hd] at r2
      obtain ⟨a, rfl, h2⟩ := r2
      have h4 := b2.env.zok.sqL h2
      refine ⟨a, rfl, ⟨_, h4⟩, fun ⟨pins, s, I⟩ => o1 _ H' Z2 fp' b2 (itOk_at walk_list (reps_ints ns) (by
        obtain ⟨_, _, _, l⟩ := I.list h4
        simpa using l) fun H Z z s => z.sqL (s.zle.sqL h2))⟩
    | tup ds =>
      rw [hd] at o1
      refine .inr (.inl ⟨ρ, fp, Z, W, E, tk, ?_⟩)
      rw [q]
      intro v H' Z' fp' fr b rt dj nw
      obtain ⟨Z2, r2, b2⟩ := b.frz rt dj nw
      rw [hd] at r2
      obtain ⟨a, vs, rfl, h2, h3⟩ := r2
      have h4 := SqT.of (K := X.K) (b2.env.zok.tup h2)
      refine ⟨a, rfl, ⟨_, h4⟩, fun ⟨pins, s, I⟩ => o1 _ H' Z2 fp' b2 (itOk_at walk_tup h3 (by
        obtain ⟨_, _, _, l⟩ := I.tuple h4
        rw [h3.length]; exact l) fun H Z z s => .of (z.tup (s.zle _ _ h2)))⟩
    | str x =>
      rw [hd] at o1
      refine .inr (.inr ⟨ρ, fp, Z, W, E, tk, ?_⟩)
      rw [q]
      intro v H' Z' fp' fr b rt dj nw
      obtain ⟨Z2, r2, b2⟩ := b.frz rt dj nw
      rw [hd] at r2
      have r2 : v = .str x := r2
      subst r2
      have o2 : OutI X (FpA fp) σ H Z (if x.length ≤ LIM then .ok (chars x) ρ' else .no) Q W := by
        have ei : items (.str x) = if x.length ≤ LIM then some (chars x) else none := rfl
        rw [ei] at o1
        by_cases hl : x.length ≤ LIM
        · rw [if_pos hl]; rw [if_pos hl] at o1; exact o1
        · rw [if_neg hl] at o1; exact o1.elim
      by_cases hl : x.length ≤ LIM
      · rw [if_pos hl] at o2
        refine ⟨x, rfl, o2 _ H' Z2 fp' b2 (itOk_of walk_str (by simp [chars]) (by simp [chars]; exact Nat.le_trans hl limS) (fun _ _ _ _ => trivial) fun i H Z v H' z s hi y => ?_)⟩
        obtain ⟨rfl, c, hc, rfl⟩ := y
        refine ⟨Z, .str ⟨#[c]⟩, ?_, z, .refl, rfl⟩
        simp [chars, hc]
      · rw [if_neg hl] at o2; exact o2.elim
    | non => rw [hd] at o1; exact o1.elim
    | bl _ => rw [hd] at o1; exact o1.elim
    | int _ => rw [hd] at o1; exact o1.elim
    | dk _ => rw [hd] at o1; exact o1.elim
    | dt _ => rw [hd] at o1; exact o1.elim
    | kt _ => rw [hd] at o1; exact o1.elim

/-! ### a dict, locked -/
def D.isDc : D → Bool
  | .dk _ => true | .dt _ => true | _ => false
/-- the name's dict, if it is one, is locked -/
def Lk (i : Nat) : PreP := fun ρ σ H => ∀ t a, ρ[i]? = some (some t) → t.d.isDc = true → σ[i]? = some (some (.ref a)) → (∀ u, H a = some u → IsDc u → False)
theorem frz_rd {Z H : Hp} (z : ZOk Z H) {a : Addr} {u : HO} (hz : Z a = some u) (hu : IsDc u) (hl : ∀ u, H a = some u → IsDc u → False) : ∃ od, H a = some (.frz od u) := by
  rcases z a u hz with h | ⟨_, od, h⟩
  · exact (hl u h hu).elim
  · exact ⟨od, h⟩
theorem var_read {i : Nat} {σ : St} {H : Hp} {ρ ρ' : Env} {fp : Fp} {Z : Hp} {t : T} (E : EnvOk X.K ρ σ H Z fp) (q : mVar i ρ = .ok t ρ') : ∃ v Z', σ[i]? = some (some v) ∧ Rep X.K Z' t.d v ∧ Bk X.K (FpA fp) σ H Z ρ' σ H Z' (fset fp i []) := by
  unfold mVar at q
  split at q
  · rename_i t' h
    cases q
    obtain ⟨v, Z', hv, r, b⟩ := E.freeze h
    exact ⟨v, Z', hv, r, b⟩
  · cases q
theorem mVar_get {i : Nat} {ρ ρ' : Env} {t : T} (q : mVar i ρ = .ok t ρ') : ∃ t0, ρ[i]? = some (some t0) ∧ t.d = t0.d := by
  unfold mVar at q
  split at q
  · rename_i t' h
    cases q
    exact ⟨t', h, rfl⟩
  · cases q
theorem mVar_ex {i : Nat} {ρ ρ' : Env} {x : Ex} (q : mVar i ρ = .ex x ρ') : False := by
  unfold mVar at q
  split at q <;> cases q
theorem mIt_var {f : D → Option (List D)} {i : Nat} {ρ : Env} {A : Addr → Prop} {σ : St} {H Z : Hp} {Q : It → Hp → Prop} {W : WX} (o : OutI X A σ H Z (mIt f (mVar i) ρ) Q W) : ∃ t ρ' ds, mVar i ρ = .ok t ρ' ∧ f t.d = some ds ∧ OutI X A σ H Z (.ok ds ρ') Q W := by
  unfold mIt at o
  cases q : mVar i ρ with
  | no => rw [q] at o; exact o.elim
  | ex x ρ' => exact (mVar_ex q).elim
  | ok t ρ' =>
    rw [q] at o
    have o1 : OutI X A σ H Z (match f t.d with
      | some ds => .ok ds ρ'
      | none => .no) Q W := o
    cases q2 : f t.d with
    | none => rw [q2] at o1; exact o1.elim
    | some ds => rw [q2] at o1; exact ⟨t, ρ', ds, rfl, q2, o1⟩
theorem mIt_of {f : D → Option (List D)} {i : Nat} {ρ ρ' : Env} {t : T} {ds : List D} (q : mVar i ρ = .ok t ρ') (q2 : f t.d = some ds) : mIt f (mVar i) ρ = .ok ds ρ' := by
  unfold mIt; rw [q]
  show (match f t.d with | some ds => R.ok ds ρ' | none => .no) = _
  rw [q2]
theorem tup_known {Z H : Hp} (z : ZOk Z H) {q : Addr} {ks : List V} (hq : H q = some (.tup ks)) : ∃ Z', Z' q = some (.tup ks) ∧ Zle Z Z' ∧ ZOk Z' H ∧ Step NoA H Z H Z' := by
  cases e : Z q with
  | none => exact ⟨upd Z q (.tup ks), upd_same, zle_put e, zok_put z hq, step_tup e hq⟩
  | some u =>
    rcases z q u e with h | ⟨m, ob, h⟩
    · rw [hq] at h; cases h; exact ⟨Z, e, .refl _, z, .refl⟩
    · rw [hq] at h; cases h
theorem RepG.at {K : PySem.W.Frag} {Z : Hp} {κ : Type} {ks : List (κ × D)} {ws : List (κ × V)} (h : RepG K Z ks ws) : ∀ {i : Nat} {k : κ} {v : V}, ws[i]? = some (k, v) → ∃ d, ks[i]? = some (k, d) ∧ Rep K Z d v := by
  unfold RepG at h
  induction h with
  | nil => intro i k v e; simp at e
  | @cons p q ps qs hr t ih =>
    intro i k v e
    cases i with
    | zero =>
      simp at e; subst e
      obtain ⟨pk, pd⟩ := p
      obtain ⟨e1, e2⟩ := hr
      have e1 : pk = k := e1
      subst e1
      exact ⟨pd, rfl, e2⟩
    | succ i => simpa using ih (i := i) (by simpa using e)
/-- for k in name: any kind; a dict is locked -/
theorem di_varK {i : Nat} (h : PE X e (tVar i)) : PI X tg e (iDP X (Lk i) (mIt itemsK (mVar i))) := PI.weak (PI.or (di_gen (tg := tg) (de_var' h)) (PI.inv (pi_keys h))) fun σ H Q q => by
  obtain ⟨ρ, fp, Z, W, E, tk, lk, o⟩ := q
  obtain ⟨t, ρ', ds, q, q2, o1⟩ := mIt_var o
  obtain ⟨v, Z', hv, r, b⟩ := var_read E q
  obtain ⟨t0, ht0, et0⟩ := mVar_get q
  have lk : t.d.isDc = true → ∀ a, σ[i]? = some (some (.ref a)) → (∀ u, H a = some u → IsDc u → False) := fun hd a ha => lk t0 a ht0 (by rw [← et0]; exact hd) ha
  have gen : items t.d = some ds → iD X (mIt items (mVar i)) σ H Q := fun hi => ⟨ρ, fp, Z, W, E, tk, trivial, by rw [mIt_of q hi]; exact o1⟩
  cases hd : t.d with
  | dk kvs =>
    rw [hd] at q2 r
    simp only [itemsK, Option.some.injEq] at q2
    subst q2
    obtain ⟨a, ws, rfl, h1, h2⟩ := r
    obtain ⟨od, hf⟩ := frz_rd b.env.zok h1 trivial (lk (by rw [hd]; rfl) a hv)
    refine .inr ⟨_, hv, a, od, rfl, .inl ⟨ws, hf, fun ⟨pins, s, I⟩ => o1 _ H Z' _ b (itOk_of walk_keys (by rw [List.length_map]; exact h2.g.length.symm) ?_ (fun H2 Z2 z2 s2 => (s2.keep a (fun ha => by rw [h1] at ha; cases ha) (by rw [hf]; simp)).1.trans hf) fun j H2 Z2 x H3 z2 s2 hj y => ?_)⟩⟩
    · rw [List.length_map, h2.g.length]
      obtain ⟨z, _⟩ := dk_rd I.hok (.inr ⟨od, hf⟩)
      exact z
    · obtain ⟨rfl, k, v, hk, rfl⟩ := y
      obtain ⟨d, hd2, _⟩ := h2.g.at hk
      exact ⟨Z2, kD k, by rw [List.getElem?_map, hd2]; rfl, z2, .refl, rep_kD k⟩
  | dt kvs =>
    rw [hd] at q2 r
    simp only [itemsK, Option.some.injEq] at q2
    subst q2
    obtain ⟨a, ws, rfl, h1, h2⟩ := r
    obtain ⟨od, hf⟩ := frz_rd b.env.zok h1 trivial (lk (by rw [hd]; rfl) a hv)
    refine .inr ⟨_, hv, a, od, rfl, .inr ⟨ws, hf, fun ⟨pins, s, I⟩ => o1 _ H Z' _ b (itOk_of walk_keysT (by rw [List.length_map]; exact h2.g.length.symm) ?_ (fun H2 Z2 z2 s2 => (s2.keep a (fun ha => by rw [h1] at ha; cases ha) (by rw [hf]; simp)).1.trans hf) fun j H2 Z2 x H3 z2 s2 hj y => ?_)⟩⟩
    · rw [List.length_map, h2.g.length]
      obtain ⟨z, _⟩ := dt_rd I.hok (.inr ⟨od, hf⟩)
      exact z
    · obtain ⟨rfl, k, v, p, hk, rfl, hp⟩ := y
      obtain ⟨d, hd2, _⟩ := h2.g.at hk
      obtain ⟨Z3, e3, l3, z3, s3⟩ := tup_known z2 hp
      exact ⟨Z3, .tup (k.map kD), by rw [List.getElem?_map, hd2]; rfl, z3, s3, p, _, rfl, e3, reps_kD k⟩
  | lst _ => rw [hd] at q2 gen; exact .inl (gen q2)
  | tup _ => rw [hd] at q2 gen; exact .inl (gen q2)
  | scr _ => rw [hd] at q2 gen; exact .inl (gen q2)
  | str _ => rw [hd] at q2 gen; exact .inl (gen q2)
  | non => rw [hd] at q2; cases q2
  | bl _ => rw [hd] at q2; cases q2
  | int _ => rw [hd] at q2; cases q2
  | kt _ => rw [hd] at q2; cases q2
theorem di_varV {i : Nat} {apos cpos : Pos} (h : PE X e (tVar i)) (hbase : attributeBase e "values" X.env (eval e X.env) = eval e X.env := by rfl) (hline : (apos.endLine == cpos.line) = true := by rfl) :
    PI X tg (.Call (.Attribute e "values" apos) [] [] cpos) (iDP X (Lk i) (mIt itemsV (mVar i))) := PI.weak (PI.inv (pi_values h hbase hline)) fun σ H Q q => by
  obtain ⟨ρ, fp, Z, W, E, tk, lk, o⟩ := q
  obtain ⟨t, ρ', ds, q, q2, o1⟩ := mIt_var o
  obtain ⟨v, Z', hv, r, b⟩ := var_read E q
  obtain ⟨t0, ht0, et0⟩ := mVar_get q
  have lk : t.d.isDc = true → ∀ a, σ[i]? = some (some (.ref a)) → (∀ u, H a = some u → IsDc u → False) := fun hd a ha => lk t0 a ht0 (by rw [← et0]; exact hd) ha
  cases hd : t.d with
  | dk kvs =>
    rw [hd] at q2 r
    simp only [itemsV, Option.some.injEq] at q2
    subst q2
    obtain ⟨a, ws, rfl, h1, h2⟩ := r
    obtain ⟨od, hf⟩ := frz_rd b.env.zok h1 trivial (lk (by rw [hd]; rfl) a hv)
    refine ⟨_, hv, a, od, ws, rfl, hf, fun ⟨pins, s, I⟩ => o1 _ H Z' _ b (itOk_of walk_values (by rw [List.length_map]; exact h2.g.length.symm) ?_ (fun H2 Z2 z2 s2 => (s2.keep a (fun ha => by rw [h1] at ha; cases ha) (by rw [hf]; simp)).1.trans hf) fun j H2 Z2 x H3 z2 s2 hj y => ?_)⟩
    · rw [List.length_map, h2.g.length]
      obtain ⟨z, _⟩ := dk_rd I.hok (.inr ⟨od, hf⟩)
      exact z
    · obtain ⟨rfl, k, hk⟩ := y
      obtain ⟨d, hd2, rd⟩ := h2.g.at hk
      exact ⟨Z2, d, by rw [List.getElem?_map, hd2]; rfl, z2, .refl, Rep.mono s2.zle _ _ rd⟩
  | _ => rw [hd] at q2; cases q2
theorem di_varP {i : Nat} {apos cpos : Pos} {elts : List Expr} {kk : Nat} {tpos : Pos} (h : PE X e (tVar i)) (hbase : attributeBase e "items" X.env (eval e X.env) = eval e X.env := by rfl) (hline : (apos.endLine == cpos.line) = true := by rfl) :
    PI X (.Tuple elts kk tpos) (.Call (.Attribute e "items" apos) [] [] cpos) (iDP X (Lk i) (mIt itemsP (mVar i))) := PI.weak (PI.inv (pi_items h hbase hline)) fun σ H Q q => by
  obtain ⟨ρ, fp, Z, W, E, tk, lk, o⟩ := q
  obtain ⟨t, ρ', ds, q, q2, o1⟩ := mIt_var o
  obtain ⟨v, Z', hv, r, b⟩ := var_read E q
  obtain ⟨t0, ht0, et0⟩ := mVar_get q
  have lk : t.d.isDc = true → ∀ a, σ[i]? = some (some (.ref a)) → (∀ u, H a = some u → IsDc u → False) := fun hd a ha => lk t0 a ht0 (by rw [← et0]; exact hd) ha
  cases hd : t.d with
  | dk kvs =>
    rw [hd] at q2 r
    simp only [itemsP, Option.some.injEq] at q2
    subst q2
    obtain ⟨a, ws, rfl, h1, h2⟩ := r
    obtain ⟨od, hf⟩ := frz_rd b.env.zok h1 trivial (lk (by rw [hd]; rfl) a hv)
    refine ⟨_, hv, a, od, ws, rfl, hf, fun ⟨pins, s, I⟩ => o1 _ H Z' _ b (itOk_of walk_items (by rw [List.length_map]; exact h2.g.length.symm) ?_ (fun H2 Z2 z2 s2 => (s2.keep a (fun ha => by rw [h1] at ha; cases ha) (by rw [hf]; simp)).1.trans hf) fun j H2 Z2 x H3 z2 s2 hj y => ?_)⟩
    · rw [List.length_map, h2.g.length]
      obtain ⟨z, _⟩ := dk_rd I.hok (.inr ⟨od, hf⟩)
      exact z
    · obtain ⟨T, y1, y2, rfl, hT, rfl, e1, e2⟩ := y
      have hlt : j < ws.length := hj
      obtain ⟨⟨k, w⟩, hkw⟩ : ∃ p, ws[j]? = some p := ⟨_, List.getElem?_eq_getElem hlt⟩
      simp only [hkw, Option.map_some, Option.some.injEq] at e1 e2
      subst e1 e2
      obtain ⟨d, hd2, rd⟩ := h2.g.at hkw
      obtain ⟨n1, n2, n3⟩ := new_tup (K := X.K) (ds := [kD k, d]) z2 hT ⟨_, _, rfl, rep_kD k, _, _, rfl, Rep.mono s2.zle _ _ rd, rfl⟩
      exact ⟨_, .tup [kD k, d], by rw [List.getElem?_map, hd2]; rfl, n2, n3, n1⟩
  | _ => rw [hd] at q2; cases q2
end
/-! ### a comprehension or a for over a name: locked where it is a dict -/
section
variable {X : Cx}
theorem EnvOk.lockd {K : PySem.W.Frag} {ρ : Env} {σ : St} {H Z : Hp} {fp : Fp} (E : EnvOk K ρ σ H Z fp) {d : Addr} {u : HO} (hz : Z d = some u) (hu : IsDc u) (od : Obj) : EnvOk K ρ σ (upd H d (.frz od u)) Z fp := by
  have nd : ∀ a, FpA fp a → a ≠ d := fun a ha e => by
    have := (E.live ha).2
    rw [e, hz] at this; cases this
  refine ⟨fun a o ho => ?_, E.len, fun i t h => ?_, E.emp, E.dis⟩
  · by_cases e : a = d
    · subst e; rw [hz] at ho; cases ho; exact .inr ⟨hu, od, upd_same⟩
    · rw [upd_ne e]; exact E.zok a o ho
  · obtain ⟨v, hv, r⟩ := E.at_ i t h
    refine ⟨v, hv, r.keep (A := fun a => a = d) ⟨.refl _, fun a ha _ => ⟨upd_ne ha, fun h _ => h⟩, fun a ha => ?_⟩ fun a ha => nd a ⟨i, ha⟩⟩
    by_cases e : a = d
    · rw [e, upd_same]; simp
    · rw [upd_ne e]; exact ha
/-- .. and let go -/
theorem Bk.unlock {K : PySem.W.Frag} {A : Addr → Prop} {σ σ' : St} {H Z H' Z' : Hp} {ρ' : Env} {fp' : Fp} {d : Addr} {u : HO} {od : Obj} (hd : H d = some u) (hz : Z d = some u) (hA : ¬ A d) (b : Bk K A σ (upd H d (.frz od u)) Z ρ' σ' H' Z' fp') :
    H' d = some (.frz od u) ∧ Bk K A σ H Z ρ' σ' (upd H' d u) Z' fp' := by
  have h1 : H' d = some (.frz od u) := (b.step.keep d hA (by rw [upd_same]; simp)).1.trans upd_same
  have hz' := b.step.zle d u hz
  have nd : ∀ a, FpA fp' a → a ≠ d := fun a ha e => by
    have := (b.env.live ha).2
    rw [e, hz'] at this; cases this
  refine ⟨h1, ⟨⟨fun a o ho => ?_, b.env.len, fun i t h => ?_, b.env.emp, b.env.dis⟩, ⟨b.step.zle, fun a ha hn => ?_, fun a ha => ?_⟩, fun a ha => ?_⟩⟩
  · by_cases e : a = d
    · subst e; rw [hz'] at ho; cases ho; exact .inl upd_same
    · rw [upd_ne e]; exact b.env.zok a o ho
  · obtain ⟨v, hv, r⟩ := b.env.at_ i t h
    refine ⟨v, hv, r.keep (A := fun a => a = d) ⟨.refl _, fun a ha _ => ⟨upd_ne ha, fun h _ => h⟩, fun a ha => ?_⟩ fun a ha => nd a ⟨i, ha⟩⟩
    by_cases e : a = d
    · rw [e, upd_same]; simp
    · rw [upd_ne e]; exact ha
  · by_cases e : a = d
    · subst e
      refine ⟨by rw [upd_same, hd], fun h _ => ?_⟩
      rw [hz] at h; cases h
    · obtain ⟨k1, k2⟩ := b.step.keep a ha (by rw [upd_ne e]; exact hn)
      refine ⟨by rw [upd_ne e, k1, upd_ne e], fun h hn => k2 h fun xs => by rw [upd_ne e]; exact hn xs⟩
  · by_cases e : a = d
    · rw [e, upd_same]; simp
    · rw [upd_ne e]; exact b.step.live a (by rw [upd_ne e]; exact ha)
  · rcases b.new a ha with z | z
    · exact .inl z
    · have e := nd a ha
      rw [upd_ne e] at z; exact .inr z
/-- the name's own dict is frozen first -/
theorem lk_cases {i : Nat} {σ : St} {H Z : Hp} {ρ : Env} {fp : Fp} (E : EnvOk X.K ρ σ H Z fp) {t : T} {ρ' : Env} (q : mVar i ρ = .ok t ρ') :
    Lk i ρ σ H ∨ ∃ d u Z', σ[i]? = some (some (.ref d)) ∧ H d = some u ∧ Z' d = some u ∧ IsDc u ∧ Bk X.K (FpA fp) σ H Z ρ' σ H Z' (fset fp i []) := by
  obtain ⟨v, Z', hv, r, b⟩ := var_read E q
  obtain ⟨t0, ht0, et0⟩ := mVar_get q
  have go : ∀ a u, v = .ref a → Z' a = some u → IsDc u → Lk i ρ σ H ∨ ∃ d u Z', σ[i]? = some (some (.ref d)) ∧ H d = some u ∧ Z' d = some u ∧ IsDc u ∧ Bk X.K (FpA fp) σ H Z ρ' σ H Z' (fset fp i []) := fun a u ea hz hu => by
    rcases b.env.zok a u hz with h | ⟨_, ob, h⟩
    · exact .inr ⟨a, u, Z', by rw [hv, ea], h, hz, hu, b⟩
    · refine .inl fun t1 a1 h1 _ h2 u1 h3 h4 => ?_
      rw [hv, ea] at h2
      cases h2
      rw [h] at h3; cases h3; exact h4
  cases hd : t.d with
  | dk kvs =>
    rw [hd] at r
    obtain ⟨a, ws, e, h1, _⟩ := r
    exact go a _ e h1 trivial
  | dt kvs =>
    rw [hd] at r
    obtain ⟨a, ws, e, h1, _⟩ := r
    exact go a _ e h1 trivial
  | _ =>
    refine .inl fun t1 a1 h1 h2 => ?_
    rw [ht0] at h1; cases h1
    rw [← et0, hd] at h2; cases h2
theorem tLc_var {own : List (Str × Nat)} {i : Nat} {f : D → Option (List D)} {g : D → Env → Option Env} {mt : M Bool} {me : M T} {slots : List Nat} (hsl : ∀ i ∈ slots, i ∈ own.map (·.2)) {σ : St} {H : Hp} {Q : VK} (q : tD X (mLc (mIt f (mVar i)) g mt me (own.map (·.2))) σ H Q) :
    tLc (iDP X (Lk i) (mIt f (mVar i))) (gD X g slots) (tDT0 X mt) (tD0 X me) (own.map (·.2)) σ H Q ∨ tLockE (tLc (iDP X (Lk i) (mIt f (mVar i))) (gD X g slots) (tDT0 X mt) (tD0 X me) (own.map (·.2))) σ H Q := by
  obtain ⟨ρ, fp, Z, W, E, tk, o⟩ := q
  cases q : mVar i ρ with
  | no =>
    have : mLc (mIt f (mVar i)) g mt me (own.map (·.2)) ρ = .no := by unfold mLc mIt; rw [q]; rfl
    rw [this] at o; exact o.elim
  | ex x ρ' => exact (mVar_ex q).elim
  | ok t ρ' =>
    rcases lk_cases E q with h | ⟨d, u, Z', hv, hd, hz, hu, b⟩
    · exact .inl (lc_readP hsl E tk h o)
    · refine .inr ⟨d, u, hd, by cases u <;> first | exact trivial | exact hu.elim, fun od => ?_⟩
      -- the same expression at the frozen, locked state
      obtain ⟨t0, ht0, et0⟩ := mVar_get q
      have e1 : ρ' = ρ.set i (some (.fz t0.d)) ∧ t = .fz t0.d := by
        unfold mVar at q; rw [ht0] at q; cases q; exact ⟨rfl, rfl⟩
      have hi : i < ρ.length := (List.getElem?_eq_some_iff.mp ht0).1
      have q' : mVar i ρ' = .ok t ρ' := by
        unfold mVar
        rw [e1.1, List.getElem?_set_self hi]
        show R.ok (T.fz t0.d) ((ρ.set i (some (T.fz t0.d))).set i (some (T.fz t0.d))) = _
        rw [List.set_set, e1.2]
      have same : mLc (mIt f (mVar i)) g mt me (own.map (·.2)) ρ' = mLc (mIt f (mVar i)) g mt me (own.map (·.2)) ρ := by
        unfold mLc mIt; rw [q, q']
      have E1 := b.env.lockd hz hu od
      have hA : ¬ FpA (fset fp i []) d := fun ha => by
        have := (b.env.live ha).2
        rw [hz] at this; cases this
      refine lc_readP (W := W) hsl E1 tk (fun t1 a1 h1 _ h2 u1 h3 h4 => ?_) ?_
      · rw [hv] at h2; cases h2
        rw [upd_same] at h3; cases h3; exact h4
      · rw [same]
        have o1 := o.first (A1 := FpA (fset fp i [])) b.step b.new
        cases qr : mLc (mIt f (mVar i)) g mt me (own.map (·.2)) ρ with
        | no => rw [qr] at o1; exact o1
        | ex x ρx =>
          exfalso
          unfold mLc at qr
          have e2 : mIt f (mVar i) ρ = (match f t.d with | some ds => R.ok ds ρ' | none => .no) := by unfold mIt; rw [q]; rfl
          rw [e2] at qr
          cases hf : f t.d with
          | none => rw [hf] at qr; cases qr
          | some ds =>
            rw [hf] at qr
            simp only [R.bind] at qr
            split at qr <;> cases qr
        | ok t1 ρ1 =>
          rw [qr] at o1
          intro v H' Z'' fp' fr b1 rt dj nw
          obtain ⟨h1, b2⟩ := b1.unlock hd hz hA
          refine ⟨h1, o1 v _ Z'' fp' fr b2 ?_ dj fun a ha => ?_⟩
          · refine rt.keep (A := fun a => a = d) ⟨.refl _, fun a ha _ => ⟨upd_ne ha, fun h _ => h⟩, fun a ha => ?_⟩ fun a ha e => ?_
            · by_cases e : a = d
              · rw [e, upd_same]; simp
              · rw [upd_ne e]; exact ha
            · have := (rt.live a ha).2
              rw [e, b2.step.zle d u hz] at this; cases this
          · rcases nw a ha with z | z
            · exact .inl z
            · by_cases e : a = d
              · rw [e, upd_same] at z; cases z
              · rw [upd_ne e] at z; exact .inr z
theorem PE.or {e : Expr} {t t' : TE} (h : PE X e t) (h' : PE X e t') : PE X e (fun σ H R => t σ H R ∨ t' σ H R) := ⟨fun pins s σ H R I q => q.elim (h.run pins s σ H R I) (h'.run pins s σ H R I)⟩
theorem PS.or {st : Stmt} {t t' : TS} (h : PS X st t) (h' : PS X st t') : PS X st (fun D σ H => t D σ H ∨ t' D σ H) := ⟨fun pins s σ H R I q => q.elim (h.run pins s σ H R I) (h'.run pins s σ H R I)⟩
section
variable {elt tg iter : Expr} {ifs : List Expr} {scope : Scope} {own : List (Str × Nat)} {pos : Pos}
/-- over what a name holds: keys, values or pairs of a dict, items of all else -/
theorem de_lcV {i : Nat} {f : D → Option (List D)} {g : D → Env → Option Env} {mt : M Bool} {me : M T} {slots : List Nat} (hc : X.calm = true) (hN : X.N.Nodup) (ok : BlkOk X.N X.env.scope scope own) (hi : PI X tg iter (iDP X (Lk i) (mIt f (mVar i)))) (hg : Blks X scope fun Y => DG Y tg g slots) (ht : Blks X scope fun Y => DTs Y ifs mt) (he : Blks X scope fun Y => DE Y elt me)
    (hsl : ∀ i ∈ slots, i ∈ own.map (·.2) := by decide) (hs : ∀ x, foldedSetIterable iter X.env x = pure x := by intro _; rfl) : DE X (.ListComp elt [⟨tg, iter, ifs, 0⟩] scope pos) (mLc (mIt f (mVar i)) g mt me (own.map (·.2))) := by
  have h := pe_lc (g := gD X g slots) hc hN hi ok hg (blk_t ht) (blk_e he) hs (elt := elt) (pos := pos)
  exact PE.weak (PE.or h (pe_lock h)) fun σ H Q q => tLc_var hsl q
theorem ds_setLcV {i j : Nat} {y : Str} {py : Pos} {spos : Pos} {pin : List Nat} {f : D → Option (List D)} {g : D → Env → Option Env} {mt : M Bool} {me : M T} {slots : List Nat} (hc : X.calm = true) (hN : X.N.Nodup) (ok : BlkOk X.N X.env.scope scope own) (hi : PI X tg iter (iDP X (Lk i) (mIt f (mVar i)))) (hg : Blks X scope fun Y => DG Y tg g slots) (ht : Blks X scope fun Y => DTs Y ifs mt) (he : Blks X scope fun Y => DE Y elt me)
    (hsw : swapsWith (.ListComp elt [⟨tg, iter, ifs, 0⟩] scope pos) (some (.Name y py)) spos.line X.env = pure true) (hy : X.N[j]? = some y := by rfl) (hyl : X.env.scope.names.lookup y = some .local := by rfl)
    (hsl : ∀ i ∈ slots, i ∈ own.map (·.2) := by decide) (hs : ∀ x, foldedSetIterable iter X.env x = pure x := by intro _; rfl) (hp : j ∉ pin := by decide) : DS X pin (.Assign [.Name y py] (.ListComp elt [⟨tg, iter, ifs, 0⟩] scope pos) spos) (mSet j (mLc (mIt f (mVar i)) g mt me (own.map (·.2)))) := by
  have h := ps_setLc (g := gD X g slots) hc hN hy hyl hsw hi ok hg (blk_t ht) (blk_e he) hs
  refine ds_set' (PS.weak (PS.or h (ps_lock h)) fun D σ H q => ?_) hp
  rcases tLc_var hsl q with h | h
  · exact .inl h
  · exact .inr h
end
/-! ### for over a name -/
def noEx {α : Type} (m : M α) : M α := fun ρ => match m ρ with
  | .ok a ρ' => .ok a ρ'
  | _ => .no
theorem tFor_var {pin : List Nat} {i : Nat} {f : D → Option (List D)} {g : D → Env → Option Env} {mb : M Fl} {slots : List Nat} (hps : ∀ i ∈ slots, i ∉ pin) {D : Ends} {σ : St} {H : Hp} (q : tDS X pin (noEx (mFor (mIt f (mVar i)) g mb)) D σ H) :
    tFor (iDP X (Lk i) (mIt f (mVar i))) (gD X g slots) (tDS X pin mb) D σ H ∨ tLock (tFor (iDP X (Lk i) (mIt f (mVar i))) (gD X g slots) (tDS X pin mb)) D σ H := by
  obtain ⟨ρ, fp, Z, W, E, tk, o0⟩ := q
  obtain ⟨fl, ρr, hr, o⟩ : ∃ fl ρr, mFor (mIt f (mVar i)) g mb ρ = .ok fl ρr ∧ OutS X pin (FpA fp) σ H Z (.ok fl ρr) D W := by
    unfold noEx at o0
    cases qr : mFor (mIt f (mVar i)) g mb ρ with
    | no => rw [qr] at o0; exact o0.elim
    | ex x ρ' => rw [qr] at o0; exact o0.elim
    | ok fl ρr => rw [qr] at o0; exact ⟨fl, ρr, rfl, o0⟩
  cases q : mVar i ρ with
  | no =>
    have : mFor (mIt f (mVar i)) g mb ρ = .no := by unfold mFor mIt; rw [q]; rfl
    rw [this] at hr; cases hr
  | ex x ρ' => exact (mVar_ex q).elim
  | ok t ρ' =>
    rcases lk_cases E q with h | ⟨d, u, Z', hv, hd, hz, hu, b⟩
    · exact .inl (for_read hps E tk h (by rw [hr]; exact o))
    · refine .inr ⟨d, u, hd, by cases u <;> first | exact trivial | exact hu.elim, fun od => ?_⟩
      obtain ⟨t0, ht0, et0⟩ := mVar_get q
      have e1 : ρ' = ρ.set i (some (.fz t0.d)) ∧ t = .fz t0.d := by
        unfold mVar at q; rw [ht0] at q; cases q; exact ⟨rfl, rfl⟩
      have hi : i < ρ.length := (List.getElem?_eq_some_iff.mp ht0).1
      have q' : mVar i ρ' = .ok t ρ' := by
        unfold mVar
        rw [e1.1, List.getElem?_set_self hi]
        show R.ok (T.fz t0.d) ((ρ.set i (some (T.fz t0.d))).set i (some (T.fz t0.d))) = _
        rw [List.set_set, e1.2]
      have same : mFor (mIt f (mVar i)) g mb ρ' = .ok fl ρr := by
        rw [← hr]
        unfold mFor mIt; rw [q, q']
      have E1 := b.env.lockd hz hu od
      have hA : ¬ FpA (fset fp i []) d := fun ha => by
        have := (b.env.live ha).2
        rw [hz] at this; cases this
      refine for_read (W := W) hps E1 tk (fun t1 a1 h1 _ h2 u1 h3 h4 => ?_) ?_
      · rw [hv] at h2; cases h2
        rw [upd_same] at h3; cases h3; exact h4
      · rw [same]
        have o1 := o.first (A1 := FpA (fset fp i [])) b.step b.new (PinOk.refl (σ := σ))
        cases fl with
        | nx =>
          intro σ' H' Z'' fp' b1 p1
          obtain ⟨h1, b2⟩ := b1.unlock hd hz hA
          exact ⟨h1, o1 σ' _ Z'' fp' b2 p1⟩
        | bk =>
          intro σ' H' Z'' fp' b1 p1
          obtain ⟨h1, b2⟩ := b1.unlock hd hz hA
          exact ⟨h1, o1 σ' _ Z'' fp' b2 p1⟩
        | ct =>
          intro σ' H' Z'' fp' b1 p1
          obtain ⟨h1, b2⟩ := b1.unlock hd hz hA
          exact ⟨h1, o1 σ' _ Z'' fp' b2 p1⟩
        | rt t1 =>
          intro v σ' H' Z'' fp' fr b1 p1 rt dj nw
          obtain ⟨h1, b2⟩ := b1.unlock hd hz hA
          refine ⟨h1, o1 v σ' _ Z'' fp' fr b2 p1 ?_ dj fun a ha => ?_⟩
          · refine rt.keep (A := fun a => a = d) ⟨.refl _, fun a ha _ => ⟨upd_ne ha, fun h _ => h⟩, fun a ha => ?_⟩ fun a ha e => ?_
            · by_cases e : a = d
              · rw [e, upd_same]; simp
              · rw [upd_ne e]; exact ha
            · have := (rt.live a ha).2
              rw [e, b2.step.zle d u hz] at this; cases this
          · rcases nw a ha with z | z
            · exact .inl z
            · by_cases e : a = d
              · rw [e, upd_same] at z; cases z
              · rw [upd_ne e] at z; exact .inr z
theorem ds_forV {i : Nat} {tg iter : Expr} {body : List Stmt} {pos : Pos} {pin : List Nat} {f : D → Option (List D)} {g : D → Env → Option Env} {mb : M Fl} {slots : List Nat} (hp : PassesOwn (model X.prog X.w) X.A X.env X.xe) (hc : X.calm = true) (hi : PI X tg iter (iDP X (Lk i) (mIt f (mVar i)))) (hg : DG X tg g slots) (hb : DSs X pin body mb) (hps : ∀ i ∈ slots, i ∉ pin := by decide)
    (hs : ∀ x, foldedSetIterable iter X.env x = pure x := by intro _; rfl) : DS X pin (.For tg iter body [] pos) (noEx (mFor (mIt f (mVar i)) g mb)) := by
  have h := ps_for (pos := pos) hp hc hi hg hb hs
  exact PS.weak (PS.or h (ps_lock h)) fun D σ H q => tFor_var hps q
end
end Dn

set_option Elab.async false
set_option linter.all false
set_option maxRecDepth 100000
/-! Dn9: built-in functions, slices, what changes lists and dicts. -/
namespace Dn
open PySem PySem.Spec L2
open PyProof.Rows hiding St

/-! ### range, enumerate, zip -/
def rngItems (lo hi : Int) : Option (List D) := if (-1048576 ≤ lo ∧ lo ≤ 1048576) ∧ (-1048576 ≤ hi ∧ hi ≤ 1048576) ∧ (hi - lo).toNat ≤ LIM then some ((List.range (hi - lo).toNat).map fun i => .int (lo + (i : Nat))) else none
def mRng (os : List Op) : M (List D) := fun ρ => (evs os ρ).bind fun ts ρ' => match resAll ρ' os ts with
  | some [.int n] => (match rngItems 0 n with | some ds => .ok ds ρ' | none => .no)
  | some [.int lo, .int hi] => (match rngItems lo hi with | some ds => .ok ds ρ' | none => .no)
  | _ => .no
theorem itOk_rng {K : PySem.W.Frag} {lo hi : Int} {ds : List D} {A : Addr → Prop} {H1 Z1 : Hp} (h : rngItems lo hi = some ds) : ItOk K (Itr lo (hi - lo).toNat) ds A H1 Z1 := by
  unfold rngItems at h
  split at h
  · rename_i hc
    cases h
    refine itOk_of walk_range (by simp) (by rw [List.length_map, List.length_range]; exact Nat.le_trans hc.2.2 limS) (fun _ _ _ _ => trivial) fun i H Z x H' z s hi y => ?_
    obtain ⟨rfl, rfl⟩ := y
    exact ⟨Z, .int (lo + (i : Nat)), by simp [hi], z, .refl, rfl⟩
  · cases h
theorem rng_b {lo hi : Int} {ds : List D} (h : rngItems lo hi = some ds) : (-(2 ^ 62) ≤ lo ∧ lo < 2 ^ 62) ∧ (-(2 ^ 62) ≤ hi ∧ hi < 2 ^ 62) := by
  unfold rngItems at h
  split at h
  · rename_i hc; omega
  · cases h
section
variable {X : Cx} {tg a b : Expr} {p pos : Pos}
theorem rng_run {os : List Op} {σ : St} {H : Hp} {Rq : It → Hp → Prop} (q : iD X (mRng os) σ H Rq) : tOs X os σ H fun vs H1 => (∃ n ds, vs = [.int n] ∧ rngItems 0 n = some ds ∧ Rq (Itr 0 (n - 0).toNat) H1) ∨ ∃ lo hi ds, vs = [.int lo, .int hi] ∧ rngItems lo hi = some ds ∧ Rq (Itr lo (hi - lo).toNat) H1 := by
  obtain ⟨ρ, fp, Z, W, E, tk, _, o⟩ := q
  refine ops_run tk os ρ H Z fp _ E ?_
  unfold mRng at o
  cases q : evs os ρ with
  | no => rw [q] at o; exact o
  | ex x ρ' => rw [q] at o; exact o
  | ok ts ρ' =>
    rw [q] at o
    intro vs H' Z' fp' b k
    cases q2 : resAll ρ' os ts with
    | none => simp only [R.bind, q2] at o; exact o.elim
    | some ds =>
      simp only [R.bind, q2] at o
      have rd := k.res b.env q2
      split at o
      · rename_i n heq
        cases heq
        cases q3 : rngItems 0 n with
        | none => rw [q3] at o; exact o.elim
        | some es =>
          rw [q3] at o
          obtain ⟨v, rfl, hv⟩ := rd.one
          exact .inl ⟨n, es, by rw [hv.int], q3, o _ H' Z' fp' b (itOk_rng q3)⟩
      · rename_i lo hi heq
        cases heq
        cases q3 : rngItems lo hi with
        | none => rw [q3] at o; exact o.elim
        | some es =>
          rw [q3] at o
          obtain ⟨v, w, rfl, hv, hw⟩ := rd.two
          exact .inr ⟨lo, hi, es, by rw [hv.int, hw.int], q3, o _ H' Z' fp' b (itOk_rng q3)⟩
      · exact o.elim
theorem tOs_mono {os : List Op} : ∀ {σ : St} {H : Hp} {Q Q' : List V → Hp → Prop}, (∀ vs H, Q vs H → Q' vs H) → tOs X os σ H Q → tOs X os σ H Q' := by
  induction os with
  | nil => intro σ H Q Q' h q; exact h _ _ q
  | cons o os ih =>
    intro σ H Q Q' h q
    have mono : ∀ (o : Op) (K1 K2 : VK) σ H, (∀ v H, K1 v H → K2 v H) → tO X o σ H K1 → tO X o σ H K2 := fun o K1 K2 σ H k h => by
      cases o with
      | var i => obtain ⟨v, e, q⟩ := h; exact ⟨v, e, k _ _ q⟩
      | tmp m =>
        obtain ⟨ρ, fp, Z, W, E, tk, o⟩ := h
        refine ⟨ρ, fp, Z, W, E, tk, ?_⟩
        cases q : m ρ with
        | no => rw [q] at o; exact o
        | ex x ρ' => rw [q] at o; exact o
        | ok t ρ' => rw [q] at o; exact fun v H' Z' fp' fr b rt dj nw => k _ _ (o v H' Z' fp' fr b rt dj nw)
    exact mono o _ _ _ _ (fun v H1 h1 => ih (fun vs H2 h2 => h _ _ h2) h1) q
theorem tOs_len {os : List Op} : ∀ {σ : St} {H : Hp} {Q : List V → Hp → Prop}, tOs X os σ H Q → tOs X os σ H fun vs H1 => vs.length = os.length ∧ Q vs H1 := by
  induction os with
  | nil => intro σ H Q q; exact ⟨rfl, q⟩
  | cons o os ih =>
    intro σ H Q q
    have mono : ∀ (o : Op) (K1 K2 : VK) σ H, (∀ v H, K1 v H → K2 v H) → tO X o σ H K1 → tO X o σ H K2 := fun o K1 K2 σ H k h => by
      cases o with
      | var i => obtain ⟨v, e, q⟩ := h; exact ⟨v, e, k _ _ q⟩
      | tmp m =>
        obtain ⟨ρ, fp, Z, W, E, tk, o⟩ := h
        refine ⟨ρ, fp, Z, W, E, tk, ?_⟩
        cases q : m ρ with
        | no => rw [q] at o; exact o
        | ex x ρ' => rw [q] at o; exact o
        | ok t ρ' => rw [q] at o; exact fun v H' Z' fp' fr b rt dj nw => k _ _ (o v H' Z' fp' fr b rt dj nw)
    exact mono o _ _ _ _ (fun v H1 h1 => tOs_mono (fun vs H2 ⟨e, h⟩ => ⟨by rw [List.length_cons, List.length_cons, e], h⟩) (ih h1)) q
theorem di_rng1 {o : Op} (hg : Gl X "range") (hm : X.mg "range" = none) (ha : DOs X [a] [o]) (hs : starEach [a] X.env = [(false, eval a X.env)] := by rfl) : DI X tg (.Call (.Name "range" p) [a] [] pos) (mRng [o]) := PI.weak (pi_range1 hg hm ha.pa hs) fun σ H Rq q => by
  refine tOs_mono (fun vs H1 ⟨hl, h⟩ => ?_) (tOs_len (rng_run q))
  rcases h with ⟨n, ds, rfl, h1, h2⟩ | ⟨lo, hi, ds, rfl, h1, h2⟩
  · obtain ⟨_, b1, b2⟩ := rng_b h1
    exact ⟨n, rfl, b1, b2, by simpa using h2⟩
  · cases hl
theorem di_rng2 {o o' : Op} (hg : Gl X "range") (hm : X.mg "range" = none) (ha : DOs X [a, b] [o, o']) (hs : starEach [a, b] X.env = [(false, eval a X.env), (false, eval b X.env)] := by rfl) (hs2 : starEach [b] X.env = [(false, eval b X.env)] := by rfl) : DI X tg (.Call (.Name "range" p) [a, b] [] pos) (mRng [o, o']) := PI.weak (pi_range2 hg hm ha.pa hs hs2) fun σ H Rq q => by
  refine tOs_mono (fun vs H1 ⟨hl, h⟩ => ?_) (tOs_len (rng_run q))
  rcases h with ⟨n, ds, rfl, h1, h2⟩ | ⟨lo, hi, ds, rfl, h1, h2⟩
  · cases hl
  · obtain ⟨b1, b2⟩ := rng_b h1
    exact ⟨lo, hi, rfl, ⟨b1.1, b1.2, b2.1, b2.2⟩, h2⟩
def enumD : Nat → List D → List D
  | _, [] => []
  | i, d :: ds => .tup [.int (i : Nat), d] :: enumD (i + 1) ds
def zipD : List D → List D → List D
  | x :: xs, y :: ys => .tup [x, y] :: zipD xs ys
  | _, _ => []
theorem enumD_get : ∀ (ds : List D) (i j : Nat), (enumD i ds)[j]? = ds[j]?.map fun d => .tup [.int ((i + j : Nat) : Int), d]
  | [], i, j => by simp [enumD]
  | d :: ds, i, 0 => by simp [enumD]
  | d :: ds, i, j + 1 => by
    simp only [enumD, List.getElem?_cons_succ]
    rw [enumD_get ds (i + 1) j]
    have : i + 1 + j = i + (j + 1) := by omega
    rw [this]
theorem enumD_len : ∀ (ds : List D) (i : Nat), (enumD i ds).length = ds.length
  | [], _ => rfl
  | d :: ds, i => by simp [enumD, enumD_len ds (i + 1)]
theorem zipD_get : ∀ (xs ys : List D) (j : Nat), (zipD xs ys)[j]? = (xs[j]?.bind fun x => ys[j]?.map fun y => .tup [x, y])
  | [], ys, j => by simp [zipD]
  | x :: xs, [], j => by cases h : (x :: xs)[j]? <;> simp [zipD]
  | x :: xs, y :: ys, 0 => by simp [zipD]
  | x :: xs, y :: ys, j + 1 => by simpa [zipD] using zipD_get xs ys j
theorem zipD_len : ∀ (xs ys : List D), (zipD xs ys).length = min xs.length ys.length
  | [], ys => by simp [zipD]
  | x :: xs, [] => by simp [zipD]
  | x :: xs, y :: ys => by simp [zipD, zipD_len xs ys]
def mEnum (ms : M (List D)) : M (List D) := fun ρ => (ms ρ).bind fun ds ρ' => match ds with
  | [.lst xs] => .ok (enumD 0 xs) ρ'
  | _ => .no
def mZip (ms : M (List D)) : M (List D) := fun ρ => (ms ρ).bind fun ds ρ' => match ds with
  | [.lst xs, .lst ys] => .ok (zipD xs ys) ρ'
  | _ => .no
theorem di_enum {e : Expr} {ms : M (List D)} {tpos : Pos} {elts : List Expr} {kk : Nat} (hg : Gl X "enumerate") (hm : X.mg "enumerate" = none) (ha : DA X [e] ms) (hs : starEach [e] X.env = [(false, eval e X.env)] := by rfl) :
    DI X (.Tuple elts kk tpos) (.Call (.Name "enumerate" p) [e] [] pos) (mEnum ms) := PI.weak (PI.inv (pi_enum hg hm ha hs)) fun σ H Rq q => by
  obtain ⟨ρ, fp, Z, W, E, tk, _, o⟩ := q
  refine ⟨ρ, fp, Z, W, E, tk, ?_⟩
  unfold mEnum at o
  cases q : ms ρ with
  | no => rw [q] at o; exact o
  | ex x ρ' => rw [q] at o; exact o
  | ok ds ρ' =>
    rw [q] at o
    intro vs H' Z' fp' b r
    simp only [R.bind] at o
    split at o
    · rename_i xs
      obtain ⟨v, r1, rfl, h1, h2⟩ := r
      have h2 : r1 = [] := h2
      subst h2
      obtain ⟨a, ws, rfl, ha, ra⟩ := h1
      refine ⟨a, ws, rfl, .of (b.env.zok.lst ha), fun ⟨pins, s, I⟩ => o _ H' Z' fp' b (itOk_of walk_enum (by rw [enumD_len, ra.length]) (by rw [enumD_len, ra.length]; exact Inv.lenL I (b.env.zok.lst ha)) (fun H2 Z2 z2 s2 => .of (z2.lst (s2.zle _ _ ha))) fun i H2 Z2 x H3 z2 s2 hi y => ?_)⟩
      obtain ⟨T, y1, y2, rfl, hT, rfl, e1, e2⟩ := y
      simp only [Option.some.injEq] at e1
      subst e1
      have hd : i < xs.length := by rw [ra.length]; exact hi
      obtain ⟨v, h3, h4⟩ := ra.get (List.getElem?_eq_getElem hd)
      rw [show ws[i]? = some y2 from e2] at h3
      cases h3
      obtain ⟨n1, n2, n3⟩ := new_tup (K := X.K) (ds := [.int (i : Nat), xs[i]]) z2 hT ⟨_, _, rfl, rfl, _, _, rfl, Rep.mono s2.zle _ _ h4, rfl⟩
      exact ⟨_, .tup [.int (i : Nat), xs[i]], by rw [enumD_get, List.getElem?_eq_getElem hd]; simp, n2, n3, n1⟩
    · exact o.elim
theorem di_zip {e e2 : Expr} {ms : M (List D)} {tpos : Pos} {elts : List Expr} {kk : Nat} (hg : Gl X "zip") (hm : X.mg "zip" = none) (ha : DA X [e, e2] ms) (hs : starEach [e, e2] X.env = (false, eval e X.env) :: starEach [e2] X.env := by rfl) (hpl : (backTo pos (starEach [e2] X.env)).any (·.1) = false := by rfl) :
    DI X (.Tuple elts kk tpos) (.Call (.Name "zip" p) [e, e2] [] pos) (mZip ms) := PI.weak (PI.inv (pi_zip hg hm ha hs hpl)) fun σ H Rq q => by
  obtain ⟨ρ, fp, Z, W, E, tk, _, o⟩ := q
  refine ⟨ρ, fp, Z, W, E, tk, ?_⟩
  unfold mZip at o
  cases q : ms ρ with
  | no => rw [q] at o; exact o
  | ex x ρ' => rw [q] at o; exact o
  | ok ds ρ' =>
    rw [q] at o
    intro vs H' Z' fp' b r
    simp only [R.bind] at o
    split at o
    · rename_i xs ys
      obtain ⟨v, r1, rfl, h1, v2, r2, rfl, h2, h3⟩ := r
      have h3 : r2 = [] := h3
      subst h3
      obtain ⟨a, ws, rfl, ha, ra⟩ := h1
      obtain ⟨c, us, rfl, hc, rc⟩ := h2
      refine ⟨a, c, ws, us, rfl, .of (b.env.zok.lst ha), .of (b.env.zok.lst hc), fun ⟨pins, s, I⟩ => o _ H' Z' fp' b (itOk_of (walk_zip (xs := ws) (ys := us) rfl) (by rw [zipD_len, ra.length, rc.length]) (by
        rw [zipD_len, ra.length]
        exact Nat.le_trans (Nat.min_le_left _ _) (Inv.lenL I (b.env.zok.lst ha))) (fun H2 Z2 z2 s2 => ⟨.of (z2.lst (s2.zle _ _ ha)), .of (z2.lst (s2.zle _ _ hc))⟩) fun i H2 Z2 x H3 z2 s2 hi y => ?_)⟩
      obtain ⟨T, y1, y2, rfl, hT, rfl, e1, e2⟩ := y
      have hd1 : i < xs.length := by rw [ra.length]; omega
      have hd2 : i < ys.length := by rw [rc.length]; omega
      obtain ⟨v, h3, h4⟩ := ra.get (List.getElem?_eq_getElem hd1)
      obtain ⟨w, h5, h6⟩ := rc.get (List.getElem?_eq_getElem hd2)
      rw [show ws[i]? = some y1 from e1] at h3
      rw [show us[i]? = some y2 from e2] at h5
      cases h3; cases h5
      obtain ⟨n1, n2, n3⟩ := new_tup (K := X.K) (ds := [xs[i], ys[i]]) z2 hT ⟨_, _, rfl, Rep.mono s2.zle _ _ h4, _, _, rfl, Rep.mono s2.zle _ _ h6, rfl⟩
      exact ⟨_, .tup [xs[i], ys[i]], by rw [zipD_get, List.getElem?_eq_getElem hd1, List.getElem?_eq_getElem hd2]; simp, n2, n3, n1⟩
    · exact o.elim
end

/-! ### slices -/
def sliceT (lo hi : Option Int) : D → Option T
  | .lst ds => some (.ol (cutD ds lo hi))
  | .scr ns => some (.ol (((ns.drop (HT.sIx ns.length 0 lo)).take (HT.sIx ns.length ns.length hi - HT.sIx ns.length 0 lo)).map .int))
  | .tup ds => if HT.sIx ds.length 0 lo = 0 ∧ HT.sIx ds.length ds.length hi = ds.length then none else some (.fz (.tup (cutD ds lo hi)))
  | _ => none
def fSl10 : List D → Option T
  | [c, .int i] => sliceT (some i) none c
  | _ => none
def fSl01 : List D → Option T
  | [c, .int i] => sliceT none (some i) c
  | _ => none
def fSl11 : List D → Option T
  | [c, .int i, .int j] => sliceT (some i) (some j) c
  | _ => none
def rSlA (K : PySem.W.Frag) : V → Option Int → Option Int → Hp → VK → Prop := fun x lo hi H Q => rSlL K x lo hi H Q ∨ rSlT K x lo hi H Q
theorem sl_any {X : Cx} : SlR X (rSlA X.K) := sl_list.or sl_tup
theorem Reps.cut {K : PySem.W.Frag} {Z : Hp} {ds : List D} {vs : List V} (h : Reps K Z ds vs) (lo hi : Option Int) : Reps K Z (cutD ds lo hi) (cutV vs lo hi) := by
  unfold cutD cutV
  rw [h.length]
  exact (h.drop _).take _
theorem slice_ok {K : PySem.W.Frag} {H Z : Hp} {c : D} {v : V} {t : T} {lo hi : Option Int} {Q : VK} (z : ZOk Z H) (h : RdD K H Z c v) (e : sliceT lo hi c = some t) (k : ∀ v' H' Z' fr, ZOk Z' H' → RepT K H' Z' t v' fr → Step NoA H Z H' Z' → (∀ a ∈ fr, H a = none) → Q v' H') : rSlA K v lo hi H Q := by
  cases c with
  | lst ds =>
    simp only [sliceT, Option.some.injEq] at e
    subst e
    obtain ⟨a, vs, rfl, ha, ra⟩ := h.lst z
    exact .inl ⟨a, vs, rfl, .of ha, fun p hp => k (.ref p) _ Z [p] (zok_new z hp) (new_ol z hp (ra.cut lo hi)) (step_new hp) fun a ha => by rw [List.mem_singleton.mp ha]; exact hp⟩
  | scr ns =>
    simp only [sliceT, Option.some.injEq] at e
    subst e
    obtain ⟨a, rfl, ha⟩ := h.scr z
    refine .inl ⟨a, _, rfl, ha, fun p hp => k (.ref p) _ Z [p] (zok_new z hp) (new_ol z hp ?_) (step_new hp) fun a ha => by rw [List.mem_singleton.mp ha]; exact hp⟩
    unfold cutV
    rw [List.length_map, ← List.map_drop, ← List.map_take]
    exact reps_ints _
  | tup ds =>
    simp only [sliceT] at e
    split at e
    · cases e
    · rename_i hw
      cases e
      obtain ⟨a, vs, rfl, ha, ra⟩ := h.tup z
      refine .inr ⟨a, vs, rfl, .of ha, by rw [← ra.length]; exact hw, fun p hp => ?_⟩
      obtain ⟨n1, n2, n3⟩ := new_tup z hp (ra.cut lo hi)
      exact k (.ref p) _ _ [] n2 ⟨rfl, n1⟩ n3 (by simp)
  | _ => cases e
section
variable {X : Cx} {e a b : Expr} {o o1 o2 : Op} {pos p2 : Pos}
theorem tO_mono (o : Op) {K1 K2 : VK} {σ : St} {H : Hp} (k : ∀ v H, K1 v H → K2 v H) (h : tO X o σ H K1) : tO X o σ H K2 := by
  cases o with
  | var i => obtain ⟨v, e, q⟩ := h; exact ⟨v, e, k _ _ q⟩
  | tmp m =>
    obtain ⟨ρ, fp, Z, W, E, tk, o⟩ := h
    refine ⟨ρ, fp, Z, W, E, tk, ?_⟩
    cases q : m ρ with
    | no => rw [q] at o; exact o
    | ex x ρ' => rw [q] at o; exact o
    | ok t ρ' => rw [q] at o; exact fun v H' Z' fp' fr b rt dj nw => k _ _ (o v H' Z' fp' fr b rt dj nw)
def rS10 (K : PySem.W.Frag) : List V → Hp → VK → Prop := fun vs H Q => ∃ x i, vs = [x, .int i] ∧ rSlA K x (some i) none H Q
def rS01 (K : PySem.W.Frag) : List V → Hp → VK → Prop := fun vs H Q => ∃ x i, vs = [x, .int i] ∧ rSlA K x none (some i) H Q
def rS11 (K : PySem.W.Frag) : List V → Hp → VK → Prop := fun vs H Q => ∃ x i j, vs = [x, .int i, .int j] ∧ rSlA K x (some i) (some j) H Q
theorem RdDs.three {K : PySem.W.Frag} {H Z : Hp} {d e f : D} {vs : List V} (h : RdDs K H Z [d, e, f] vs) : ∃ v w u, vs = [v, w, u] ∧ RdD K H Z d v ∧ RdD K H Z e w ∧ RdD K H Z f u := by
  cases h with
  | cons h t =>
    obtain ⟨v, w, rfl, h1, h2⟩ := t.two
    exact ⟨_, v, w, rfl, h, h1, h2⟩
theorem s_s10 : OpsSound X (rS10 X.K) fSl10 := fun ds vs t H Z Q z rd e k => by
  unfold fSl10 at e
  split at e
  · obtain ⟨v, w, rfl, h1, h2⟩ := rd.two
    exact ⟨v, _, by rw [h2.int], slice_ok z h1 e k⟩
  · cases e
theorem s_s01 : OpsSound X (rS01 X.K) fSl01 := fun ds vs t H Z Q z rd e k => by
  unfold fSl01 at e
  split at e
  · obtain ⟨v, w, rfl, h1, h2⟩ := rd.two
    exact ⟨v, _, by rw [h2.int], slice_ok z h1 e k⟩
  · cases e
theorem s_s11 : OpsSound X (rS11 X.K) fSl11 := fun ds vs t H Z Q z rd e k => by
  unfold fSl11 at e
  split at e
  · obtain ⟨v, w, u, rfl, h1, h2, h3⟩ := rd.three
    exact ⟨v, _, _, by rw [h2.int, h3.int], slice_ok z h1 e k⟩
  · cases e
theorem de_sl10 (he : DO X e o) (ha : DO X a o1) : DE X (.Subscript e (.Slice (some a) none none p2) pos) (mOps fSl10 [o, o1]) := PE.weak (pe_slice sl_any he (po_some ha) po_none) fun σ H Q q =>
  tO_mono o (fun x H1 h1 => tO_mono o1 (fun y H2 ⟨x', i, e, r⟩ => by cases e; exact ⟨i, rfl, r⟩) h1) (ops_read s_s10 q)
theorem de_sl01 (he : DO X e o) (ha : DO X a o1) : DE X (.Subscript e (.Slice none (some a) none p2) pos) (mOps fSl01 [o, o1]) := PE.weak (pe_slice sl_any he po_none (po_some ha)) fun σ H Q q =>
  tO_mono o (fun x H1 h1 => tO_mono o1 (fun y H2 ⟨x', i, e, r⟩ => by cases e; exact ⟨i, rfl, r⟩) h1) (ops_read s_s01 q)
def mInt (m : M T) : M T := fun ρ => (m ρ).bind fun t ρ' => match t with
  | .fz (.int i) => .ok (.fz (.int i)) ρ'
  | _ => .no
theorem tD_int {m : M T} {σ : St} {H : Hp} {Q : VK} (q : tD X (mInt m) σ H Q) : tD X m σ H fun v H' => ∃ i, v = .int i ∧ Q v H' := by
  obtain ⟨ρ, fp, Z, W, E, tk, o⟩ := q
  refine ⟨ρ, fp, Z, W, E, tk, ?_⟩
  unfold mInt at o
  cases q : m ρ with
  | no => rw [q] at o; exact o
  | ex x ρ' => rw [q] at o; exact o
  | ok t ρ' =>
    rw [q] at o
    intro v H' Z' fp' fr b rt dj nw
    cases t with
    | fz d =>
      cases d with
      | int i => exact ⟨i, rt.2, o v H' Z' fp' fr b rt dj nw⟩
      | _ => exact o.elim
    | _ => exact o.elim
theorem de_sl11 {m1 : M T} (he : DO X e o) (ha : DE X a m1) (hb : DO X b o2) : DE X (.Subscript e (.Slice (some a) (some b) none p2) pos) (mOps fSl11 [o, .tmp (mInt m1), o2]) := PE.weak (pe_slice sl_any he (po_some (te := tD X m1) ha) (po_some hb)) fun σ H Q q => by
  refine tO_mono o (fun x H1 h1 => ?_) (ops_read s_s11 q)
  have h2 : tD X m1 σ H1 fun v H' => ∃ i, v = .int i ∧ tO X o2 σ H' fun w H3 => ∃ x' i' j, [x, v, w] = [x', .int i', .int j] ∧ rSlA X.K x' (some i') (some j) H3 Q := tD_int h1
  refine tO_mono (.tmp m1) (fun y H2 ⟨i, e, h3⟩ => ⟨i, e, ?_⟩) h2
  refine tO_mono o2 (fun w H3 ⟨x', i', j, e', r⟩ => ?_) h3
  subst e
  cases e'
  exact ⟨j, rfl, r⟩
end
end Dn

set_option Elab.async false
set_option linter.all false
set_option maxRecDepth 100000
/-! Dn10: built-in functions. -/
namespace Dn
open PySem PySem.Spec L2
open PyProof.Rows hiding St

/-! ### lists of one kind -/
def intsD : List D → Option (List Int)
  | [] => some []
  | .int i :: ds => (intsD ds).map (i :: ·)
  | _ :: _ => none
def strsD : List D → Option (List Str)
  | [] => some []
  | .str i :: ds => (strsD ds).map (i :: ·)
  | _ :: _ => none
def boolsD : List D → Option (List Bool)
  | [] => some []
  | .bl i :: ds => (boolsD ds).map (i :: ·)
  | _ :: _ => none
theorem ints_eq : ∀ {ds : List D} {ns : List Int}, intsD ds = some ns → ds = ns.map .int
  | [], ns, h => by simp only [intsD, Option.some.injEq] at h; subst h; rfl
  | d :: ds, ns, h => by
    cases d <;> simp only [intsD, reduceCtorEq, Option.map_eq_some_iff] at h
    obtain ⟨r, h1, rfl⟩ := h
    rw [List.map_cons, ints_eq h1]
theorem strs_eq : ∀ {ds : List D} {ns : List Str}, strsD ds = some ns → ds = ns.map .str
  | [], ns, h => by simp only [strsD, Option.some.injEq] at h; subst h; rfl
  | d :: ds, ns, h => by
    cases d <;> simp only [strsD, reduceCtorEq, Option.map_eq_some_iff] at h
    obtain ⟨r, h1, rfl⟩ := h
    rw [List.map_cons, strs_eq h1]
theorem bools_eq : ∀ {ds : List D} {ns : List Bool}, boolsD ds = some ns → ds = ns.map .bl
  | [], ns, h => by simp only [boolsD, Option.some.injEq] at h; subst h; rfl
  | d :: ds, ns, h => by
    cases d <;> simp only [boolsD, reduceCtorEq, Option.map_eq_some_iff] at h
    obtain ⟨r, h1, rfl⟩ := h
    rw [List.map_cons, bools_eq h1]
theorem ints_map (ns : List Int) : intsD (ns.map .int) = some ns := by
  induction ns with
  | nil => rfl
  | cons n r ih => rw [List.map_cons, intsD, ih]; rfl
theorem strs_map (ns : List Str) : strsD (ns.map .str) = some ns := by
  induction ns with
  | nil => rfl
  | cons n r ih => rw [List.map_cons, strsD, ih]; rfl
theorem bools_map (ns : List Bool) : boolsD (ns.map .bl) = some ns := by
  induction ns with
  | nil => rfl
  | cons n r ih => rw [List.map_cons, boolsD, ih]; rfl

/-! ### len -/
def lenD : D → Option Nat
  | .str x => if x.length ≤ LIM then some x.length else none
  | .lst ds => some ds.length
  | .tup ds => some ds.length
  | .scr ds => some ds.length
  | .dk ds => some ds.length
  | .dt ds => some ds.length
  | _ => none
def fLen : List D → Option D
  | [d] => (lenD d).map fun n => .int (n : Int)
  | _ => none
def rLenD : List V → Hp → VK → Prop := fun xs H Q => ∃ a kvs, xs = [V.ref a] ∧ Rd H a (.dK kvs) ∧ Q (.int kvs.length) H
def rLenDT : List V → Hp → VK → Prop := fun xs H Q => ∃ a kvs, xs = [V.ref a] ∧ Rd H a (.dT kvs) ∧ Q (.int kvs.length) H
def rLenA (K : PySem.W.Frag) : List V → Hp → VK → Prop := fun xs H Q => (∃ x n, xs = [x] ∧ LenV K x H n ∧ Q (.int n) H) ∨ rLenD xs H Q ∨ rLenDT xs H Q
theorem call_lenD' {X : Cx} : CallR X (.builtin "len") rLenD := by
  intro pins s σ H xs us Q I r h
  obtain ⟨a, kvs, rfl, ha, q⟩ := h
  obtain ⟨u, rfl, ru⟩ := vals1 r
  obtain rfl : u = Value.ref a := ru
  exact d_len I ha fun t s' I' => ⟨.int kvs.length, H, I', ⟨t, rfl⟩, q⟩
theorem call_lenDT' {X : Cx} : CallR X (.builtin "len") rLenDT := by
  intro pins s σ H xs us Q I r h
  obtain ⟨a, kvs, rfl, ha, q⟩ := h
  obtain ⟨u, rfl, ru⟩ := vals1 r
  obtain rfl : u = Value.ref a := ru
  obtain ⟨hz, hs, xs, rel, dd⟩ := dt_rd I.hok ha
  have hl : kvs.length = xs.length := Paired.length rel
  have h63 := line63
  refine PySem.call_len_dictH hs dd (by omega) ⟨.int kvs.length, H, I.tok _, ⟨_, by rw [hl]⟩, q⟩
theorem call_lenA {X : Cx} : CallR X (.builtin "len") (rLenA X.K) := call_len.or (call_lenD'.or call_lenDT')
theorem s_len {X : Cx} : FlatSound X (rLenA X.K) fLen := fun ds vs d H Z z rd e => by
  unfold fLen at e
  split at e
  · rename_i c
    cases q : lenD c with
    | none => rw [q] at e; cases e
    | some n =>
      rw [q] at e; cases e
      obtain ⟨v, rfl, h1⟩ := rd.one
      refine ⟨.int n, fun _ => rfl, fun Q k => ?_⟩
      cases c with
      | str x =>
        simp only [lenD] at q
        split at q
        · rename_i hl
          cases q
          rw [h1.str]
          exact .inl ⟨_, _, rfl, ⟨Nat.le_trans hl limS, rfl⟩, k⟩
        · cases q
      | lst ds =>
        simp only [lenD, Option.some.injEq] at q; subst q
        obtain ⟨a, ws, rfl, ha, ra⟩ := h1.lst z
        exact .inl ⟨_, _, rfl, .inl ⟨ws, .of ha, ra.length⟩, k⟩
      | tup ds =>
        simp only [lenD, Option.some.injEq] at q; subst q
        obtain ⟨a, ws, rfl, ha, ra⟩ := h1.tup z
        exact .inl ⟨_, _, rfl, .inr ⟨ws, .of ha, ra.length⟩, k⟩
      | scr ds =>
        simp only [lenD, Option.some.injEq] at q; subst q
        obtain ⟨a, rfl, ha⟩ := h1.scr z
        exact .inl ⟨_, _, rfl, .inl ⟨_, ha, by simp⟩, k⟩
      | dk ds =>
        simp only [lenD, Option.some.injEq] at q; subst q
        obtain ⟨a, ws, rfl, ha, ra⟩ := h1.dk z
        exact .inr (.inl ⟨a, ws, rfl, ha, by rw [← ra.g.length]; exact k⟩)
      | dt ds =>
        simp only [lenD, Option.some.injEq] at q; subst q
        obtain ⟨a, ws, rfl, ha, ra⟩ := h1.dt z
        exact .inr (.inr ⟨a, ws, rfl, ha, by rw [← ra.g.length]; exact k⟩)
      | _ => cases q
  · cases e

/-! ### sum, max, min, all, any -/
def fSum : List D → Option D
  | [.lst ds] => (intsD ds).map fun ns => .int ns.sum
  | _ => none
theorem s_sum {X : Cx} : FlatSound X (rSum X.K) fSum := fun ds vs d H Z z rd e => by
  unfold fSum at e
  split at e
  · rename_i xs
    cases q : intsD xs with
    | none => rw [q] at e; cases e
    | some ns =>
      rw [q] at e; cases e
      obtain ⟨v, rfl, h1⟩ := rd.one
      obtain ⟨a, ws, rfl, ha, ra⟩ := h1.lst z
      rw [ints_eq q] at ra
      exact ⟨.int ns.sum, fun _ => rfl, fun Q k => ⟨a, ns, rfl, .of (by rw [ha, ra.ints]), k⟩⟩
  · cases e
def maxI : List Int → Option Int
  | [] => none
  | n :: r => some (r.foldl max n)
def minI : List Int → Option Int
  | [] => none
  | n :: r => some (r.foldl min n)
theorem foldl_max : ∀ (r : List Int) (n : Int), (r.foldl max n = n ∨ r.foldl max n ∈ r) ∧ n ≤ r.foldl max n ∧ ∀ y ∈ r, y ≤ r.foldl max n
  | [], n => ⟨.inl rfl, Int.le_refl _, fun _ h => by simp at h⟩
  | a :: r, n => by
    obtain ⟨h1, h2, h3⟩ := foldl_max r (max n a)
    rw [List.foldl_cons]
    refine ⟨?_, by omega, fun y hy => ?_⟩
    · rcases h1 with h1 | h1
      · rw [h1]
        rcases Int.le_total n a with h | h
        · exact .inr (by rw [Int.max_eq_right h]; simp)
        · exact .inl (Int.max_eq_left h)
      · exact .inr (List.mem_cons_of_mem _ h1)
    · rcases List.mem_cons.mp hy with rfl | hy
      · omega
      · exact h3 y hy
theorem foldl_min : ∀ (r : List Int) (n : Int), (r.foldl min n = n ∨ r.foldl min n ∈ r) ∧ r.foldl min n ≤ n ∧ ∀ y ∈ r, r.foldl min n ≤ y
  | [], n => ⟨.inl rfl, Int.le_refl _, fun _ h => by simp at h⟩
  | a :: r, n => by
    obtain ⟨h1, h2, h3⟩ := foldl_min r (min n a)
    rw [List.foldl_cons]
    refine ⟨?_, by omega, fun y hy => ?_⟩
    · rcases h1 with h1 | h1
      · rw [h1]
        rcases Int.le_total n a with h | h
        · exact .inl (Int.min_eq_left h)
        · exact .inr (by rw [Int.min_eq_right h]; simp)
      · exact .inr (List.mem_cons_of_mem _ h1)
    · rcases List.mem_cons.mp hy with rfl | hy
      · omega
      · exact h3 y hy
theorem maxI_spec {ns : List Int} {m : Int} (h : maxI ns = some m) : m ∈ ns ∧ ∀ y ∈ ns, y ≤ m := by
  cases ns with
  | nil => cases h
  | cons n r =>
    simp only [maxI, Option.some.injEq] at h
    subst h
    obtain ⟨h1, h2, h3⟩ := foldl_max r n
    refine ⟨?_, fun y hy => ?_⟩
    · rcases h1 with h1 | h1
      · rw [h1]; simp
      · exact List.mem_cons_of_mem _ h1
    · rcases List.mem_cons.mp hy with rfl | hy
      · exact h2
      · exact h3 y hy
theorem minI_spec {ns : List Int} {m : Int} (h : minI ns = some m) : m ∈ ns ∧ ∀ y ∈ ns, m ≤ y := by
  cases ns with
  | nil => cases h
  | cons n r =>
    simp only [minI, Option.some.injEq] at h
    subst h
    obtain ⟨h1, h2, h3⟩ := foldl_min r n
    refine ⟨?_, fun y hy => ?_⟩
    · rcases h1 with h1 | h1
      · rw [h1]; simp
      · exact List.mem_cons_of_mem _ h1
    · rcases List.mem_cons.mp hy with rfl | hy
      · exact h2
      · exact h3 y hy
def fMax : List D → Option D
  | [.lst ds] => (intsD ds).bind fun ns => (maxI ns).map .int
  | [.int i, .int j] => some (.int (if j > i then j else i))
  | _ => none
def fMin : List D → Option D
  | [.lst ds] => (intsD ds).bind fun ns => (minI ns).map .int
  | [.int i, .int j] => some (.int (if j < i then j else i))
  | _ => none
theorem s_max {X : Cx} : FlatSound X (fun xs H Q => rMax X.K xs H Q ∨ ∃ i j, xs = [.int i, .int j] ∧ Q (.int (if j > i then j else i)) H) fMax := fun ds vs d H Z z rd e => by
  unfold fMax at e
  split at e
  · rename_i xs
    cases q : intsD xs with
    | none => rw [q] at e; cases e
    | some ns =>
      rw [q] at e
      simp only [Option.bind_some] at e
      cases q2 : maxI ns with
      | none => rw [q2] at e; cases e
      | some m =>
        rw [q2] at e; cases e
        obtain ⟨v, rfl, h1⟩ := rd.one
        obtain ⟨a, ws, rfl, ha, ra⟩ := h1.lst z
        rw [ints_eq q] at ra
        obtain ⟨m1, m2⟩ := maxI_spec q2
        refine ⟨.int m, fun _ => rfl, fun Q k => .inl ⟨a, ns, rfl, .of (by rw [ha, ra.ints]), List.length_pos_of_mem m1, fun m' h1 h2 => ?_⟩⟩
        have : m' = m := Int.le_antisymm (m2 m' h1) (h2 m m1)
        rw [this]; exact k
  · rename_i i j
    cases e
    obtain ⟨v, w, rfl, h1, h2⟩ := rd.two
    exact ⟨_, fun _ => rfl, fun Q k => .inr ⟨i, j, by rw [h1.int, h2.int], k⟩⟩
  · cases e
theorem s_min {X : Cx} : FlatSound X (fun xs H Q => rMin X.K xs H Q ∨ ∃ i j, xs = [.int i, .int j] ∧ Q (.int (if j < i then j else i)) H) fMin := fun ds vs d H Z z rd e => by
  unfold fMin at e
  split at e
  · rename_i xs
    cases q : intsD xs with
    | none => rw [q] at e; cases e
    | some ns =>
      rw [q] at e
      simp only [Option.bind_some] at e
      cases q2 : minI ns with
      | none => rw [q2] at e; cases e
      | some m =>
        rw [q2] at e; cases e
        obtain ⟨v, rfl, h1⟩ := rd.one
        obtain ⟨a, ws, rfl, ha, ra⟩ := h1.lst z
        rw [ints_eq q] at ra
        obtain ⟨m1, m2⟩ := minI_spec q2
        refine ⟨.int m, fun _ => rfl, fun Q k => .inl ⟨a, ns, rfl, .of (by rw [ha, ra.ints]), List.length_pos_of_mem m1, fun m' h1 h2 => ?_⟩⟩
        have : m' = m := Int.le_antisymm (h2 m m1) (m2 m' h1)
        rw [this]; exact k
  · rename_i i j
    cases e
    obtain ⟨v, w, rfl, h1, h2⟩ := rd.two
    exact ⟨_, fun _ => rfl, fun Q k => .inr ⟨i, j, by rw [h1.int, h2.int], k⟩⟩
  · cases e
theorem call_maxA {X : Cx} (hc : X.calm = true) : CallR X (.builtin "max") (fun xs H Q => rMax X.K xs H Q ∨ ∃ i j, xs = [.int i, .int j] ∧ Q (.int (if j > i then j else i)) H) := (cr_max hc).or (call_max2 hc)
theorem call_minA {X : Cx} (hc : X.calm = true) : CallR X (.builtin "min") (fun xs H Q => rMin X.K xs H Q ∨ ∃ i j, xs = [.int i, .int j] ∧ Q (.int (if j < i then j else i)) H) := (cr_min hc).or (call_min2 hc)
def fAll : List D → Option D
  | [.lst ds] => (boolsD ds).map fun bs => .bl (bs.all id)
  | _ => none
def fAny : List D → Option D
  | [.lst ds] => (boolsD ds).map fun bs => .bl (bs.any id)
  | _ => none
theorem s_all {X : Cx} : FlatSound X (rAll X.K) fAll := fun ds vs d H Z z rd e => by
  unfold fAll at e
  split at e
  · rename_i xs
    cases q : boolsD xs with
    | none => rw [q] at e; cases e
    | some ns =>
      rw [q] at e; cases e
      obtain ⟨v, rfl, h1⟩ := rd.one
      obtain ⟨a, ws, rfl, ha, ra⟩ := h1.lst z
      rw [bools_eq q] at ra
      exact ⟨_, fun _ => rfl, fun Q k => ⟨a, ns, rfl, .of (by rw [ha, ra.bls]), k⟩⟩
  · cases e
theorem s_any {X : Cx} : FlatSound X (rAny X.K) fAny := fun ds vs d H Z z rd e => by
  unfold fAny at e
  split at e
  · rename_i xs
    cases q : boolsD xs with
    | none => rw [q] at e; cases e
    | some ns =>
      rw [q] at e; cases e
      obtain ⟨v, rfl, h1⟩ := rd.one
      obtain ⟨a, ws, rfl, ha, ra⟩ := h1.lst z
      rw [bools_eq q] at ra
      exact ⟨_, fun _ => rfl, fun Q k => ⟨a, ns, rfl, .of (by rw [ha, ra.bls]), k⟩⟩
  · cases e
/-! ### abs, int -/
def fAbs : List D → Option D
  | [.int i] => some (.int (if i < 0 then -i else i))
  | _ => none
theorem s_abs {X : Cx} : FlatSound X (fun xs H Q => ∃ i, xs = [.int i] ∧ Q (.int (if i < 0 then -i else i)) H) fAbs := fun ds vs d H Z z rd e => by
  unfold fAbs at e
  split at e
  · rename_i i
    cases e
    obtain ⟨v, rfl, h1⟩ := rd.one
    exact ⟨_, fun _ => rfl, fun Q k => ⟨i, by rw [h1.int], k⟩⟩
  · cases e
def fInt : List D → Option D
  | [.int i] => some (.int i)
  | [.bl k] => some (.int (if k then 1 else 0))
  | _ => none
theorem s_int {X : Cx} : FlatSound X (fun xs H Q => (∃ i, xs = [.int i] ∧ Q (.int i) H) ∨ ∃ k, xs = [.bl k] ∧ Q (.int (if k then 1 else 0)) H) fInt := fun ds vs d H Z z rd e => by
  unfold fInt at e
  split at e
  · rename_i i
    cases e
    obtain ⟨v, rfl, h1⟩ := rd.one
    exact ⟨_, fun _ => rfl, fun Q k => .inl ⟨i, by rw [h1.int], k⟩⟩
  · rename_i i
    cases e
    obtain ⟨v, rfl, h1⟩ := rd.one
    exact ⟨_, fun _ => rfl, fun Q k => .inr ⟨i, by rw [h1.bl], k⟩⟩
  · cases e

/-! ### list, tuple, dict -/
def fList : List D → Option (List D)
  | [.lst ds] => some ds
  | [.tup ds] => some ds
  | [.dk kvs] => some (kvs.map fun p => kD p.1)
  | _ => none
def rListA (K : PySem.W.Frag) : List V → Hp → VK → Prop := fun xs H Q => (∃ p ys, xs = [.ref p] ∧ (SqL K H p ys ∨ SqT K H p ys) ∧ ∀ l, H l = none → Q (.ref l) (upd H l (.lst ys))) ∨
  (∃ (a : Addr) (kvs : List (Key × V)), xs = [.ref a] ∧ Rd H a (.dK kvs) ∧ ∀ p, H p = none → Q (.ref p) (upd H p (.lst (kvs.map fun kv => kV kv.1))))
theorem call_listA {X : Cx} (hc : X.calm = true) : CallR X (.type "list") (rListA X.K) := call_list_of.or (call_listD hc)
theorem reps_keys {K : PySem.W.Frag} {Z : Hp} {ks : List (Key × D)} {ws : List (Key × V)} (h : RepG K Z ks ws) : Reps K Z (ks.map fun p => kD p.1) (ws.map fun p => kV p.1) := by
  unfold RepG at h
  induction h with
  | nil => rfl
  | @cons p q ps qs hr t ih => exact ⟨_, _, rfl, by show Rep K Z (kD p.1) (kV q.1); rw [hr.1]; exact rep_kD _, ih⟩
theorem s_list {X : Cx} : OpsSound X (rListA X.K) (fun ds => (fList ds).map T.ol) := ops_ol fun ds vs es H Z z rd e => by
  unfold fList at e
  split at e
  · cases e
    obtain ⟨v, rfl, h1⟩ := rd.one
    obtain ⟨a, ws, rfl, ha, ra⟩ := h1.lst z
    exact ⟨ws, ra, fun Q k => .inl ⟨a, ws, rfl, .inl (.of ha), k⟩⟩
  · cases e
    obtain ⟨v, rfl, h1⟩ := rd.one
    obtain ⟨a, ws, rfl, ha, ra⟩ := h1.tup z
    exact ⟨ws, ra, fun Q k => .inl ⟨a, ws, rfl, .inr (.of ha), k⟩⟩
  · cases e
    obtain ⟨v, rfl, h1⟩ := rd.one
    obtain ⟨a, ws, rfl, ha, ra⟩ := h1.dk z
    exact ⟨_, reps_keys ra.g, fun Q k => .inr ⟨a, ws, rfl, ha, k⟩⟩
  · cases e
/-- list(d) of tuple keys -/
def fListT : List D → Option (List D)
  | [.dt kvs] => some (kvs.map fun p => .tup (p.1.map kD))
  | _ => none
theorem known_all {K : PySem.W.Frag} {H : Hp} : ∀ {ws : List (List Key × V)} {bs : List Addr} {Z : Hp}, IsKeys H ws bs → ZOk Z H → ∃ Z', ZOk Z' H ∧ Step NoA H Z H Z' ∧ Reps K Z' (ws.map fun p => .tup (p.1.map kD)) (bs.map V.ref)
  | _, _, Z, .nil, z => ⟨Z, z, .refl, rfl⟩
  | p :: ws, b :: bs, Z, .cons h t, z => by
    obtain ⟨Z1, e1, l1, z1, s1⟩ := tup_known z h
    obtain ⟨Z2, z2, s2, r2⟩ := known_all (K := K) t z1
    exact ⟨Z2, z2, s1.trans s2 (fun _ h => h.elim), _, _, rfl, ⟨b, _, rfl, s2.zle _ _ e1, reps_kD _⟩, r2⟩
theorem Reps.congr {K : PySem.W.Frag} {Z : Hp} {ds es : List D} {vs : List V} (h : Reps K Z ds vs) (e : es = ds) : Reps K Z es vs := e ▸ h
theorem s_listT {X : Cx} : OpsSound X (fun xs H Q => ∃ d kvs, xs = [V.ref d] ∧ Rd H d (.dT kvs) ∧ ∀ p bs, H p = none → IsKeys H kvs bs → Q (.ref p) (upd H p (.lst (bs.map V.ref)))) (fun ds => (fListT ds).map T.ol) := fun ds vs t H Z Q z rd e k => by
  replace e : (fListT ds).map T.ol = some t := e
  unfold fListT at e
  split at e
  · rename_i kvs
    simp only [Option.map_some, Option.some.injEq] at e
    subst e
    obtain ⟨v, rfl, h1⟩ := rd.one
    obtain ⟨a, ws, rfl, ha, ra⟩ := h1.dt z
    refine ⟨a, ws, rfl, ha, fun p bs hp hb => ?_⟩
    obtain ⟨Z2, z2, s2, r2⟩ := known_all (K := X.K) hb z
    have er : (kvs.map fun p => (.tup (p.1.map kD) : D)) = ws.map fun p => .tup (p.1.map kD) := by
      have := congrArg (List.map fun k : List Key => (.tup (k.map kD) : D)) ra.g.keys
      simpa [List.map_map, Function.comp_def] using this
    exact k (.ref p) _ Z2 [p] (zok_new z2 hp) (new_ol z2 hp (r2.congr er)) (s2.trans (step_new (A := NoA) hp) (fun _ h => h.elim)) fun a ha => by rw [List.mem_singleton.mp ha]; exact hp
  · cases e
def rListB (K : PySem.W.Frag) : List V → Hp → VK → Prop := fun xs H Q => rListA K xs H Q ∨ ∃ d kvs, xs = [V.ref d] ∧ Rd H d (.dT kvs) ∧ ∀ p bs, H p = none → IsKeys H kvs bs → Q (.ref p) (upd H p (.lst (bs.map V.ref)))
theorem call_listB {X : Cx} (hc : X.calm = true) : CallR X (.type "list") (rListB X.K) := (call_listA hc).or (call_list_dT hc)
def fListB : List D → Option T := fun ds => match fList ds with
  | some es => some (.ol es)
  | none => (fListT ds).map .ol
theorem s_listB {X : Cx} : OpsSound X (rListB X.K) fListB := fun ds vs t H Z Q z rd e k => by
  unfold fListB at e
  cases q : fList ds with
  | some es => rw [q] at e; exact .inl (s_list ds vs t H Z Q z rd (by show (fList ds).map T.ol = _; rw [q]; exact e) k)
  | none => rw [q] at e; exact .inr (s_listT ds vs t H Z Q z rd e k)
def fTuple : List D → Option T
  | [.lst ds] => some (.fz (.tup ds))
  | [.tup ds] => some (.fz (.tup ds))
  | _ => none
theorem s_tuple {X : Cx} : OpsSound X (fun xs H Q => ∃ p ys, xs = [.ref p] ∧ ((SqL X.K H p ys ∧ ∀ l, H l = none → Q (.ref l) (upd H l (.tup ys))) ∨ (SqT X.K H p ys ∧ Q (.ref p) H))) fTuple := fun ds vs t H Z Q z rd e k => by
  unfold fTuple at e
  split at e
  · cases e
    obtain ⟨v, rfl, h1⟩ := rd.one
    obtain ⟨a, ws, rfl, ha, ra⟩ := h1.lst z
    refine ⟨a, ws, rfl, .inl ⟨.of ha, fun p hp => ?_⟩⟩
    obtain ⟨n1, n2, n3⟩ := new_tup z hp ra
    exact k (.ref p) _ _ [] n2 ⟨rfl, n1⟩ n3 (by simp)
  · rename_i xs
    cases e
    obtain ⟨v, rfl, t, fr, r, et⟩ := rd.one
    cases t with
    | fz d =>
      simp only [T.d] at et; subst et
      obtain ⟨a, ws, rfl, ha, ra⟩ := r.2
      exact ⟨a, ws, rfl, .inr ⟨.of (z.tup ha), k _ H Z [] z ⟨rfl, a, ws, rfl, ha, ra⟩ .refl (by simp)⟩⟩
    | _ => cases et
  · cases e
/-! ### isinstance -/
def D.ty : D → String
  | .non => "NoneType" | .bl _ => "bool" | .int _ => "int" | .str _ => "str" | .lst _ => "list" | .tup _ => "tuple" | .scr _ => "list" | .kt _ => "tuple" | .dk _ => "dict" | .dt _ => "dict"
def subTy (a b : String) : Bool := a == b || (a == "bool" && b == "int")
def fIsi (t : String) : List D → Option D
  | [d] => some (.bl (subTy d.ty t))
  | _ => none
/-- a value's type, a locked dict of tuple keys too -/
def TyY (K : PySem.W.Frag) (H : Hp) (v : V) (n : String) : Prop := TyX K H v (.type n) ∨ (n = "dict" ∧ ∃ a o kvs, v = .ref a ∧ H a = some (.frz o (.dT kvs)))
theorem RdD.tyx {K : PySem.W.Frag} {H Z : Hp} (z : ZOk Z H) : ∀ {d : D} {v : V}, RdD K H Z d v → TyY K H v d.ty
  | .non, v, h => by rw [h.non]; exact .inl (.base .non)
  | .bl b, v, h => by rw [h.bl]; exact .inl (.base (.bl b))
  | .int b, v, h => by rw [h.int]; exact .inl (.base (.int b))
  | .str b, v, h => by rw [h.str]; exact .inl (.base (.str b))
  | .lst b, v, h => by
    obtain ⟨a, ws, rfl, ha, _⟩ := h.lst z
    exact .inl (.base (.lst ha))
  | .tup b, v, h => by
    obtain ⟨a, ws, rfl, ha, _⟩ := h.tup z
    exact .inl (.base (.tup ha))
  | .scr b, v, h => by
    obtain ⟨a, rfl, ha⟩ := h.scr z
    rcases ha with (h | ⟨o, h⟩) | ⟨o, its, n, h, hc, _⟩
    · exact .inl (.base (.lst h))
    · exact .inl (.base (.frz h))
    · exact .inl (.kList h hc)
  | .kt b, v, h => by
    obtain ⟨a, rfl, ha⟩ := h.kt z
    rcases ha with (h | ⟨o, h⟩) | ⟨o, its, n, h, hc, _⟩
    · exact .inl (.base (.tup h))
    · exact .inl (.fTuple h)
    · exact .inl (.kTuple h hc)
  | .dk b, v, h => by
    obtain ⟨a, ws, rfl, ha, _⟩ := h.dk z
    rcases ha with h | ⟨o, h⟩
    · exact .inl (.base (.dK h))
    · exact .inl (.fDict h)
  | .dt b, v, h => by
    obtain ⟨a, ws, rfl, ha, _⟩ := h.dt z
    rcases ha with h | ⟨o, h⟩
    · exact .inl (.base (.dT h))
    · exact .inr ⟨rfl, a, o, ws, rfl, h⟩
theorem tyy_kit {X : Cx} {pins : List (Addr × Obj)} {σ : St} {H : Hp} {s : Shared} {v : V} {u : Value} {n : String} (I : Inv X pins σ H s) (r : RelV v u) (ty : TyY X.K H v n) : ∃ P : Heap → Prop, PySem.W.KitX X.K u (.type n) P ∧ P s.heap ∧ u ≠ .builtin "__main__.__loader__#opaque" := by
  rcases ty with ty | ⟨rfl, a, o, kvs, rfl, ha⟩
  · exact kit_of I r ty
  · obtain rfl : u = Value.ref a := r
    obtain ⟨hs, h1, h2, _⟩ := Inv.frzT I ha
    exact ⟨_, PySem.W.kitx_dict, ⟨o, h1, h2.1⟩, fun z => nomatch z⟩
def rIsiY (K : PySem.W.Frag) (t : String) : List V → Hp → VK → Prop := fun xs H Q => ∃ x n, xs = [x, .ty t] ∧ TyY K H x n ∧ PySem.W.kitOne K (.type n) (.type t) = some (subTy n t) ∧ Q (.bl (subTy n t)) H
theorem call_isiY {X : Cx} {t : String} : CallR X (.builtin "isinstance") (rIsiY X.K t) := by
  intro pins s σ H xs us Q I r h
  obtain ⟨x, n, rfl, ty, e, q⟩ := h
  obtain ⟨u1, u2, rfl, r1, r2⟩ := vals2 r
  obtain rfl : u2 = Value.type t := r2
  obtain ⟨P, Z, p, hx⟩ := tyy_kit I r1 ty
  exact PySem.W.kia_one Z I.kIn p e hx fun tk => ⟨.bl _, H, I.tok tk, rfl, q⟩
def KitT (K : PySem.W.Frag) (t : String) : Prop := ∀ d : D, PySem.W.kitOne K (.type d.ty) (.type t) = some (subTy d.ty t)
theorem kitT_of {K : PySem.W.Frag} {t : String} (h : ["NoneType", "bool", "int", "str", "list", "tuple", "dict"].all (fun n => kitB n t == some (subTy n t)) = true) : KitT K t := fun d => by
  have h1 : ∀ n ∈ ["NoneType", "bool", "int", "str", "list", "tuple", "dict"], kitB n t = some (subTy n t) := fun n hn => beq_iff_eq.mp (List.all_eq_true.mp h n hn)
  refine kit_ty (h1 d.ty ?_)
  cases d <;> simp [D.ty]
theorem kit_int {K : PySem.W.Frag} : KitT K "int" := kitT_of (by decide +kernel)
theorem kit_bool {K : PySem.W.Frag} : KitT K "bool" := kitT_of (by decide +kernel)
theorem kit_str {K : PySem.W.Frag} : KitT K "str" := kitT_of (by decide +kernel)
theorem kit_list {K : PySem.W.Frag} : KitT K "list" := kitT_of (by decide +kernel)
theorem kit_tuple {K : PySem.W.Frag} : KitT K "tuple" := kitT_of (by decide +kernel)
theorem kit_dict {K : PySem.W.Frag} : KitT K "dict" := kitT_of (by decide +kernel)
section
variable {X : Cx} {a b e : Expr} {o : Op} {x tn tm : Str} {p p1 p2 p3 pos : Pos} {t t2 : String}
theorem Gl.blt (hg : Gl X tn) (hm : X.mg tn = none) (hv : bootBuiltins tn = some (.type t)) (hn : tn ≠ "__name__" := by decide) (hd : (tn == ("__debug__" : Str)) = false := by decide) : PE X (.Name tn p) (tC (.ty t)) := pe_bltn hg hm hv rfl hn hd
theorem de_isi (hg : Gl X "isinstance") (hm : X.mg "isinstance" = none) (ho : DO X a o) (ht : PE X b (tC (.ty t))) (hk : KitT X.K t) (he : starEach [a, b] X.env = (false, eval a X.env) :: starEach [b] X.env := by rfl) (he2 : starEach [b] X.env = [(false, eval b X.env)] := by rfl) (hpl : (backTo pos (starEach [b] X.env)).any (·.1) = false := by rfl) :
    DE X (.Call (.Name "isinstance" p) [a, b] [] pos) (mOps (fF (fIsi t)) [o]) := PE.weak (pe_callB (call_isiY (t := t)) hg hm (by decide +kernel) (pa_cons ho (pa_cons ht pa_nil he2) he) (by decide) (by decide) he hpl) fun σ H Q q => by
  have s : OpsSound X (one fun x H Q => ∃ n, TyY X.K H x n ∧ PySem.W.kitOne X.K (.type n) (.type t) = some (subTy n t) ∧ Q (.bl (subTy n t)) H) (fF (fIsi t)) := FlatSound.ops fun ds vs d H Z z rd e => by
    unfold fIsi at e
    split at e
    · rename_i d
      cases e
      obtain ⟨v, rfl, h1⟩ := rd.one
      exact ⟨.bl _, fun _ => rfl, fun Q k => ⟨v, rfl, _, h1.tyx z, hk d, k⟩⟩
    · cases e
  exact tO_mono o (fun v H1 ⟨x', e, n, h1, h2, h3⟩ => by cases e; exact ⟨v, n, rfl, h1, h2, h3⟩) (ops_read s q)
/-- isinstance(x, (T1, T2)) -/
def fIsi2 (t t2 : String) : List D → Option D
  | [d] => some (.bl (subTy d.ty t || subTy d.ty t2))
  | _ => none
def rIsiY2 (K : PySem.W.Frag) (t t2 : String) : List V → Hp → VK → Prop := fun xs H Q => ∃ x tp n, xs = [x, .ref tp] ∧ H tp = some (.tup [.ty t, .ty t2]) ∧ TyY K H x n ∧ PySem.W.kitOne K (.type n) (.type t) = some (subTy n t) ∧ PySem.W.kitOne K (.type n) (.type t2) = some (subTy n t2) ∧ Q (.bl (subTy n t || subTy n t2)) H
theorem call_isiY2 {t t2 : String} : CallR X (.builtin "isinstance") (rIsiY2 X.K t t2) := by
  intro pins s σ H xs us Q I r h
  obtain ⟨x, tp, n, rfl, hT, ty, e1, e2, q⟩ := h
  obtain ⟨u1, u2, rfl, r1, r2⟩ := vals2 r
  obtain rfl : u2 = Value.ref tp := r2
  obtain ⟨P, Z, p, hx⟩ := tyy_kit I r1 ty
  obtain ⟨_, its, rv, o, h1, h2, n', h3⟩ := (show ObjOk X.prog X.w H s.heap tp (.tup [.ty t, .ty t2]) from I.hok tp _ hT)
  have e3 : its = [Value.type t, Value.type t2] := by
    obtain ⟨w1, w2, rfl, a1, a2⟩ := vals2 rv
    rw [show w1 = Value.type t from a1, show w2 = Value.type t2 from a2]
  subst e3
  have ek : PySem.W.kitAny X.K (.type n) [.type t, .type t2] = some (subTy n t || subTy n t2) := by
    refine kitAny_cons e1 (fun hb => ?_) (fun hb => by rw [hb]; rfl)
    rw [hb, Bool.false_or]
    exact kitAny_cons e2 (fun hb2 => by rw [hb2]; rfl) (fun hb2 => hb2)
  obtain ⟨oc, od, dt, sl⟩ := o
  simp only at h2 h3
  subst h2 h3
  exact PySem.W.kia_tup Z I.kIn p h1 ek hx fun tk => ⟨.bl _, H, I.tok tk, rfl, q⟩
theorem de_isi2 {k1 : Nat} {ps : Pos} (hg : Gl X "isinstance") (hm : X.mg "isinstance" = none) (ho : DO X a o) (ht : PE X b (tC (.ty t))) (ht2 : PE X e (tC (.ty t2))) (hk : KitT X.K t) (hk2 : KitT X.K t2) (he : starEach [a, .Tuple [b, e] k1 ps] X.env = (false, eval a X.env) :: starEach [.Tuple [b, e] k1 ps] X.env := by rfl) (he2 : starEach [b, e] X.env = (false, eval b X.env) :: starEach [e] X.env := by rfl) (he3 : starEach [e] X.env = [(false, eval e X.env)] := by rfl) (hpl : (backTo pos (starEach [.Tuple [b, e] k1 ps] X.env)).any (·.1) = false := by rfl) :
    DE X (.Call (.Name "isinstance" p) [a, .Tuple [b, e] k1 ps] [] pos) (mOps (fF (fIsi2 t t2)) [o]) := PE.weak (pe_callB (call_isiY2 (t := t) (t2 := t2)) hg hm (by decide +kernel) (pa_cons ho (pa_cons (pe_tup (pa_cons ht (pa_cons ht2 pa_nil he3) he2)) pa_nil) he) (by decide) (by decide) he hpl) fun σ H Q q => by
  have s : OpsSound X (one fun x H Q => ∀ p, H p = none → rIsiY2 X.K t t2 [x, .ref p] (upd H p (.tup [.ty t, .ty t2])) Q) (fF (fIsi2 t t2)) := fun ds vs t' H Z Q z rd e k => by
    replace e : (fIsi2 t t2 ds).map T.fz = some t' := e
    unfold fIsi2 at e
    split at e
    · rename_i d
      simp only [Option.map_some, Option.some.injEq] at e
      subst e
      obtain ⟨v, rfl, h1⟩ := rd.one
      refine ⟨v, rfl, fun p hp => ?_⟩
      have z' := zok_new (o := .tup [.ty t, .ty t2]) z hp
      have st := step_new (A := NoA) (Z := Z) (o := .tup [.ty t, .ty t2]) hp
      have h1' : RdD X.K (upd H p (.tup [.ty t, .ty t2])) Z d v := by
        obtain ⟨t0, fr, r, e0⟩ := h1
        exact ⟨t0, fr, r.keep st (fun _ _ h => h), e0⟩
      exact ⟨v, p, d.ty, rfl, upd_same, h1'.tyx z', hk d, hk2 d, k _ _ Z [] z' ⟨rfl, rfl⟩ st (by simp)⟩
    · cases e
  refine tO_mono o (fun v H1 h => ?_) (ops_read s q)
  obtain ⟨x', e, h⟩ := h
  cases e
  exact ⟨by show 2 ≤ sizeLine; decide, fun p hp => h p hp⟩
end
end Dn

set_option Elab.async false
set_option linter.all false
set_option maxRecDepth 100000
/-! Dn11: sorted, dict(..), displays of dicts, methods, stores. -/
namespace Dn
open PySem PySem.Spec L2
open PyProof.Rows hiding St

/-! ### texts in order -/
theorem ltc_irrefl : ∀ a : List Nat, ltCps a a = false
  | [] => rfl
  | a :: r => by simp [ltCps, ltc_irrefl r]
theorem ltc_trans : ∀ {a b c : List Nat}, ltCps a b = true → ltCps b c = true → ltCps a c = true
  | [], [], _, h, _ => by simp [ltCps] at h
  | [], _ :: _, [], _, h => by simp [ltCps] at h
  | [], _ :: _, _ :: _, _, _ => rfl
  | _ :: _, [], _, h, _ => by simp [ltCps] at h
  | _ :: _, _ :: _, [], _, h => by simp [ltCps] at h
  | a :: r, b :: s, c :: t, h1, h2 => by
    simp only [ltCps, Bool.or_eq_true, decide_eq_true_eq, Bool.and_eq_true, beq_iff_eq] at h1 h2 ⊢
    rcases h1 with h1 | ⟨e1, h1⟩
    · rcases h2 with h2 | ⟨e2, h2⟩
      · exact .inl (by omega)
      · exact .inl (by omega)
    · rcases h2 with h2 | ⟨e2, h2⟩
      · exact .inl (by omega)
      · exact .inr ⟨by omega, ltc_trans h1 h2⟩
theorem ltc_tri : ∀ (a b : List Nat), ltCps a b = true ∨ a = b ∨ ltCps b a = true
  | [], [] => .inr (.inl rfl)
  | [], _ :: _ => .inl rfl
  | _ :: _, [] => .inr (.inr rfl)
  | a :: r, b :: s => by
    simp only [ltCps, Bool.or_eq_true, decide_eq_true_eq, Bool.and_eq_true, beq_iff_eq, List.cons.injEq]
    rcases Nat.lt_trichotomy a b with h | h | h
    · exact .inl (.inl h)
    · rcases ltc_tri r s with h' | h' | h'
      · exact .inl (.inr ⟨h, h'⟩)
      · exact .inr (.inl ⟨h, h'⟩)
      · exact .inr (.inr (.inr ⟨h.symm, h'⟩))
    · exact .inr (.inr (.inl h))
def leS (a b : Str) : Bool := !ltCps b.cps.toList a.cps.toList
theorem str_ext {a b : Str} (h : a.cps.toList = b.cps.toList) : a = b := by
  obtain ⟨x⟩ := a; obtain ⟨y⟩ := b
  exact congrArg Str.mk (Array.toList_inj.mp h)
theorem leS_total (a b : Str) : (leS a b || leS b a) = true := by
  unfold leS
  rcases ltc_tri a.cps.toList b.cps.toList with h | h | h
  · cases q : ltCps b.cps.toList a.cps.toList with
    | false => simp
    | true => have := ltc_trans h q; rw [ltc_irrefl] at this; cases this
  · rw [h, ltc_irrefl]; rfl
  · cases q : ltCps a.cps.toList b.cps.toList with
    | false => simp
    | true => have := ltc_trans h q; rw [ltc_irrefl] at this; cases this
theorem leS_trans (a b c : Str) (h1 : leS a b = true) (h2 : leS b c = true) : leS a c = true := by
  unfold leS at *
  cases q : ltCps c.cps.toList a.cps.toList with
  | false => rfl
  | true =>
    rcases ltc_tri a.cps.toList b.cps.toList with h | h | h
    · have := ltc_trans q h
      rw [this] at h2; cases h2
    · rw [h] at q; rw [q] at h2; cases h2
    · rw [h] at h1; cases h1
theorem leS_anti {a b : Str} (h1 : leS a b = true) (h2 : leS b a = true) : a = b := by
  unfold leS at *
  rcases ltc_tri a.cps.toList b.cps.toList with h | h | h
  · rw [h] at h2; cases h2
  · exact str_ext h
  · rw [h] at h1; cases h1
/-- sorted by insertion -/
def insL {α : Type} (le : α → α → Bool) (a : α) : List α → List α
  | [] => [a]
  | b :: l => bif le a b then a :: b :: l else b :: insL le a l
def isort {α : Type} (le : α → α → Bool) : List α → List α
  | [] => []
  | a :: l => insL le a (isort le l)
theorem insL_perm {α : Type} (le : α → α → Bool) (a : α) : ∀ l : List α, (insL le a l).Perm (a :: l)
  | [] => .refl _
  | b :: l => by
    unfold insL
    cases le a b with
    | true => exact .refl _
    | false => exact ((insL_perm le a l).cons b).trans (.swap a b l)
theorem isort_perm {α : Type} (le : α → α → Bool) : ∀ l : List α, (isort le l).Perm l
  | [] => .refl _
  | a :: l => (insL_perm le a _).trans ((isort_perm le l).cons a)
theorem insL_sorted {α : Type} {le : α → α → Bool} (ht : ∀ a b c, le a b = true → le b c = true → le a c = true) (hl : ∀ a b, (le a b || le b a) = true) (a : α) : ∀ {l : List α}, l.Pairwise (fun a b => le a b = true) → (insL le a l).Pairwise fun a b => le a b = true
  | [], _ => by simp [insL]
  | b :: l, h => by
    unfold insL
    obtain ⟨h1, h2⟩ := List.pairwise_cons.mp h
    cases q : le a b with
    | true =>
      refine List.pairwise_cons.mpr ⟨fun z hz => ?_, h⟩
      rcases List.mem_cons.mp hz with rfl | hz
      · exact q
      · exact ht _ _ _ q (h1 z hz)
    | false =>
      refine List.pairwise_cons.mpr ⟨fun z hz => ?_, insL_sorted ht hl a h2⟩
      rcases List.mem_cons.mp ((insL_perm le a l).mem_iff.mp hz) with rfl | hz
      · have := hl z b; rw [q] at this; simpa using this
      · exact h1 z hz
theorem isort_sorted {α : Type} {le : α → α → Bool} (ht : ∀ a b c, le a b = true → le b c = true → le a c = true) (hl : ∀ a b, (le a b || le b a) = true) : ∀ l : List α, (isort le l).Pairwise fun a b => le a b = true
  | [] => .nil
  | a :: l => insL_sorted ht hl a (isort_sorted ht hl l)
def sortS (xs : List Str) : List Str := isort leS xs
def sortI (xs : List Int) : List Int := isort (fun a b => decide (a ≤ b)) xs
theorem sortS_perm (xs : List Str) : (sortS xs).Perm xs := isort_perm leS xs
theorem sortS_sorted (xs : List Str) : (sortS xs).Pairwise fun a b => leS a b = true := isort_sorted leS_trans leS_total xs
theorem sortI_perm (xs : List Int) : (sortI xs).Perm xs := isort_perm _ xs
theorem sortI_sorted (xs : List Int) : (sortI xs).Pairwise fun a b => a ≤ b := by
  have := isort_sorted (le := fun a b : Int => decide (a ≤ b)) (fun a b c h1 h2 => by
    simp only [decide_eq_true_eq] at *; omega) (fun a b => by
    simp only [Bool.or_eq_true, decide_eq_true_eq]; omega) xs
  exact this.imp fun h => of_decide_eq_true h
theorem rising_pairwise : ∀ (ys : List Str) (p : Str), risingS p ys = true → (p :: ys).Pairwise fun a b => leS a b = true
  | [], p, _ => by simp
  | y :: ys, p, h => by
    have h' : (leS p y && risingS y ys) = true := h
    rw [Bool.and_eq_true] at h'
    have ih := rising_pairwise ys y h'.2
    refine List.Pairwise.cons (fun z hz => ?_) ih
    rcases List.mem_cons.mp hz with rfl | hz
    · exact h'.1
    · exact leS_trans _ _ _ h'.1 ((List.pairwise_cons.mp ih).1 z hz)
theorem sortedS_pairwise : ∀ {ys : List Str}, sortedS ys = true → ys.Pairwise fun a b => leS a b = true
  | [], _ => .nil
  | y :: ys, h => rising_pairwise ys y h
theorem sortS_uniq {xs ys : List Str} (p : ys.Perm xs) (h : sortedS ys = true) : ys = sortS xs :=
  List.Perm.eq_of_pairwise (le := fun a b => leS a b = true) (fun _ _ _ _ h1 h2 => leS_anti h1 h2) (sortedS_pairwise h) (sortS_sorted xs) (p.trans (sortS_perm xs).symm)
theorem sortI_uniq {xs ys : List Int} (p : ys.Perm xs) (h : ys.Pairwise (· ≤ ·)) : ys = sortI xs :=
  List.Perm.eq_of_pairwise (le := fun a b : Int => a ≤ b) (fun _ _ _ _ h1 h2 => Int.le_antisymm h1 h2) h (sortI_sorted xs) (p.trans (sortI_perm xs).symm)
def keyStrs : List (Key × D) → Option (List Str)
  | [] => some []
  | (.inr x, _) :: r => (keyStrs r).map (x :: ·)
  | _ => none
theorem keyStrs_eq : ∀ {kvs : List (Key × D)} {ks : List Str}, keyStrs kvs = some ks → kvs.map (·.1) = ks.map Sum.inr
  | [], ks, h => by simp only [keyStrs, Option.some.injEq] at h; subst h; rfl
  | (.inl i, d) :: r, ks, h => by simp [keyStrs] at h
  | (.inr x, d) :: r, ks, h => by
    simp only [keyStrs, Option.map_eq_some_iff] at h
    obtain ⟨r', h1, rfl⟩ := h
    rw [List.map_cons, List.map_cons, keyStrs_eq h1]
/-- sorted -/
def fSorted : List D → Option (List D)
  | [.lst ds] => match strsD ds with
    | some xs => if xs.length < 64 then some ((sortS xs).map .str) else none
    | none => (intsD ds).bind fun ns => if ns.length < 64 then some ((sortI ns).map .int) else none
  | [.dk kvs] => (keyStrs kvs).bind fun xs => if xs.length < 64 then some ((sortS xs).map .str) else none
  | _ => none
def rSortA (K : PySem.W.Frag) : List V → Hp → VK → Prop := fun xs H Q => rSorted K xs H Q ∨ rSortedS K xs H Q ∨ (∃ (a : Addr) (kvs : List (Key × V)) (ks : List Str), xs = [.ref a] ∧ Rd H a (.dK kvs) ∧ kvs.map (·.1) = ks.map Sum.inr ∧ ks.length < 64 ∧
    ∀ ys p, ys.Perm ks → sortedS ys = true → H p = none → Q (.ref p) (upd H p (.lst (ys.map V.str))))
theorem call_sortA {X : Cx} (hc : X.calm = true) : CallR X (.builtin "sorted") (rSortA X.K) := cr_sorted.or (cr_sortedS.or (call_sortedD hc))
theorem s_sorted {X : Cx} : OpsSound X (rSortA X.K) (fun ds => (fSorted ds).map T.ol) := ops_ol fun ds vs es H Z z rd e => by
  unfold fSorted at e
  split at e
  · rename_i xs
    obtain ⟨v, rfl, h1⟩ := rd.one
    obtain ⟨a, ws, rfl, ha, ra⟩ := h1.lst z
    split at e
    · rename_i ss q
      split at e
      · rename_i h64
        cases e
        rw [strs_eq q] at ra
        refine ⟨_, reps_strs _, fun Q k => .inr (.inl ⟨a, ss, rfl, .of (by rw [ha, ra.strs]), h64, fun ys p hp hs hn => ?_⟩)⟩
        rw [sortS_uniq hp hs]; exact k p hn
      · cases e
    · cases q : intsD xs with
      | none => rw [q] at e; cases e
      | some ns =>
        rw [q] at e
        simp only [Option.bind_some] at e
        split at e
        · rename_i h64
          cases e
          rw [ints_eq q] at ra
          refine ⟨_, reps_ints _, fun Q k => .inl ⟨a, ns, rfl, .of (by rw [ha, ra.ints]), h64, fun ys p hp hs hn => ?_⟩⟩
          rw [sortI_uniq hp hs]; exact k p hn
        · cases e
  · rename_i kvs
    obtain ⟨v, rfl, h1⟩ := rd.one
    obtain ⟨a, ws, rfl, ha, ra⟩ := h1.dk z
    cases q : keyStrs kvs with
    | none => rw [q] at e; cases e
    | some ss =>
      rw [q] at e
      simp only [Option.bind_some] at e
      split at e
      · rename_i h64
        cases e
        refine ⟨_, reps_strs _, fun Q k => .inr (.inr ⟨a, ws, ss, rfl, ha, by rw [← ra.g.keys]; exact keyStrs_eq q, h64, fun ys p hp hs hn => ?_⟩)⟩
        rw [sortS_uniq hp hs]; exact k p hn
      · cases e
  · cases e

/-! ### dict(..) -/
def mergeD (kvs more : List (Key × D)) : List (Key × D) := more.foldl (fun acc kv => putD acc kv.1 kv.2) kvs
theorem RepG.merge {K : PySem.W.Frag} {Z : Hp} {more : List (Key × D)} {ws : List (Key × V)} (hm : RepG K Z more ws) {ks : List (Key × D)} {us : List (Key × V)} (h : RepG K Z ks us) : RepG K Z (mergeD ks more) (mergeK us ws) := by
  unfold RepG at hm
  induction hm generalizing ks us with
  | nil => exact h
  | @cons p q ps qs r t ih =>
    have h1 : RepG K Z (putD ks p.1 p.2) (putK us q.1 q.2) := by rw [← r.1]; exact RepG.put h p.1 r.2
    exact ih h1
def pairsD : List D → Option (List (Key × D))
  | [] => some []
  | .tup [k, d] :: r => match k.key, pairsD r with
    | some k', some r' => some ((k', d) :: r')
    | _, _ => none
  | _ :: _ => none
def fDict : List D → Option T
  | [.dk kvs] => some (.od kvs)
  | [.lst ds] => (pairsD ds).map fun kvs => .od (mergeD [] kvs)
  | _ => none
theorem pairs_ok {K : PySem.W.Frag} {H Z : Hp} (z : ZOk Z H) : ∀ {ds : List D} {vs : List V} {kvs : List (Key × D)}, Reps K Z ds vs → pairsD ds = some kvs → ∃ (ps : List Addr) (ws : List (Key × V)), vs = ps.map V.ref ∧ RepG K Z kvs ws ∧ Paired (fun p kv => SqT K H p [kV kv.1, kv.2]) ps ws
  | [], vs, kvs, h, e => by
    simp only [pairsD, Option.some.injEq] at e
    subst e
    exact ⟨[], [], h, .nil, .nil⟩
  | d :: ds, vs, kvs, h, e => by
    obtain ⟨v, r, rfl, h1, h2⟩ := h
    unfold pairsD at e
    split at e
    · rename_i h0; cases h0
    · rename_i k d' r' heq
      cases heq
      split at e
      · rename_i k' kvs' q1 q2
        cases e
        obtain ⟨a, us, rfl, ha, u1, r1, rfl, hu1, u2, r2, rfl, hu2, hr⟩ := h1
        have hr : r2 = [] := hr
        subst hr
        obtain ⟨ps, ws, rfl, g, pp⟩ := pairs_ok z h2 q2
        have := hu1.key q1
        subst this
        exact ⟨a :: ps, (k', u2) :: ws, rfl, .cons ⟨rfl, hu2⟩ g, .cons (.of (z.tup ha)) pp⟩
      · cases e
    · cases e
def rDictA (K : PySem.W.Frag) : List V → Hp → VK → Prop := fun xs H Q => (∃ (a : Addr) (kvs : List (Key × V)), xs = [.ref a] ∧ Rd H a (.dK kvs) ∧ ∀ p, H p = none → Q (.ref p) (upd H p (.dK kvs))) ∨
  ∃ (a : Addr) (ps : List Addr) (kvs : List (Key × V)), xs = [.ref a] ∧ SqL K H a (ps.map V.ref) ∧ Paired (fun p kv => SqT K H p [kV kv.1, kv.2]) ps kvs ∧ ∀ p, H p = none → Q (.ref p) (upd H p (.dK (mergeK [] kvs)))
theorem call_dictA {X : Cx} (hc : X.calm = true) : CallR X (.type "dict") (rDictA X.K) := call_dictD.or (call_dictP hc)
theorem s_dict {X : Cx} : OpsSound X (rDictA X.K) fDict := fun ds vs t H Z Q z rd e k => by
  unfold fDict at e
  split at e
  · cases e
    obtain ⟨v, rfl, h1⟩ := rd.one
    obtain ⟨a, ws, rfl, ha, ra⟩ := h1.dk z
    exact .inl ⟨a, ws, rfl, ha, fun p hp => k (.ref p) _ Z [p] (zok_new z hp) (new_od z hp ra) (step_new hp) fun a ha => by rw [List.mem_singleton.mp ha]; exact hp⟩
  · rename_i xs
    cases q : pairsD xs with
    | none => rw [q] at e; cases e
    | some kvs =>
      rw [q] at e
      simp only [Option.map_some, Option.some.injEq] at e
      subst e
      obtain ⟨v, rfl, h1⟩ := rd.one
      obtain ⟨a, vs', rfl, ha, ra⟩ := h1.lst z
      obtain ⟨ps, ws, rfl, g, pp⟩ := pairs_ok z ra q
      refine .inr ⟨a, ps, ws, rfl, .of ha, pp, fun p hp => ?_⟩
      exact k (.ref p) _ Z [p] (zok_new z hp) (new_od z hp (g.merge .nil).k) (step_new hp) fun a ha => by rw [List.mem_singleton.mp ha]; exact hp
  · cases e

/-! ### {}, {k: v, ..} -/
def mNewK : M T := fun ρ => .ok (.od []) ρ
def mNewT : M T := fun ρ => .ok (.odt []) ρ
section
variable {X : Cx} {pos : Pos}
theorem de_newK : DE X (.Dict [] [] pos) mNewK := PE.weak pe_dnewK fun σ H Q q => by
  obtain ⟨ρ, fp, Z, W, E, tk, o⟩ := q
  exact fun p hp => o (.ref p) _ Z fp [p] ((Bk.refl E).pure (step_new hp) (zok_new E.zok hp)) (new_od (ds := []) E.zok hp rfl) (fun a ha hn => (E.live hn).1 (by rw [List.mem_singleton.mp ha]; exact hp)) fun a ha => .inr (by rw [List.mem_singleton.mp ha]; exact hp)
theorem de_newT : DE X (.Dict [] [] pos) mNewT := PE.weak pe_dnewT fun σ H Q q => by
  obtain ⟨ρ, fp, Z, W, E, tk, o⟩ := q
  exact fun p hp => o (.ref p) _ Z fp [p] ((Bk.refl E).pure (step_new hp) (zok_new E.zok hp)) (new_odt (ds := []) E.zok hp rfl) (fun a ha hn => (E.live hn).1 (by rw [List.mem_singleton.mp ha]; exact hp)) fun a ha => .inr (by rw [List.mem_singleton.mp ha]; exact hp)
/-- the pairs of a display -/
def mPrs : List (M T × M T) → M (List (Key × D))
  | [] => fun ρ => .ok [] ρ
  | (mk, mv) :: r => fun ρ => (mk ρ).bind fun k ρ1 => (mv ρ1).bind fun v ρ2 => (mPrs r ρ2).bind fun ps ρ3 => match k.d.key with
    | some k' => .ok ((k', v.d) :: ps) ρ3
    | none => .no
def mDisp (prs : List (M T × M T)) : M T := fun ρ => (mPrs prs ρ).bind fun ps ρ' => if ps.length ≤ 15 then .ok (.od (mergeD [] ps)) ρ' else .no
def trsOf (X : Cx) (prs : List (M T × M T)) : List (TE × TE) := prs.map fun p => (tD X p.1, tD X p.2)
def OutP (X : Cx) (A : Addr → Prop) (σ : St) (H Z : Hp) (r : R Env (List (Key × D))) (Q : List (V × V) → Hp → Prop) (W : WX) : Prop := match r with
  | .ok kvs ρ' => ∀ ws H' Z' fp', Bk X.K A σ H Z ρ' σ H' Z' fp' → RepG X.K Z' kvs ws → Q (ws.map fun kv => (kV kv.1, kv.2)) H'
  | .ex x ρ' => ∀ cls d H' Z' fp', Bk X.K A σ H Z ρ' σ H' Z' fp' → ExOk X.mg X.K Z' x cls d → W cls d σ H'
  | .no => False
theorem RepG.mono {K : PySem.W.Frag} {Z Z' : Hp} {κ : Type} (l : Zle Z Z') : ∀ {ks : List (κ × D)} {ws : List (κ × V)}, RepG K Z ks ws → RepG K Z' ks ws
  | _, _, .nil => .nil
  | _, _, .cons h t => .cons ⟨h.1, Rep.mono l _ _ h.2⟩ (RepG.mono l t)
theorem prs_run {σ : St} {W : WX} (tk : Takes X W) : ∀ (prs : List (M T × M T)) (ρ : Env) (H Z : Hp) (fp : Fp) (Q : List (V × V) → Hp → Prop), EnvOk X.K ρ σ H Z fp → OutP X (FpA fp) σ H Z (mPrs prs ρ) Q W → tPairs (trsOf X prs) σ H Q
  | [], ρ, H, Z, fp, Q, E, o => o [] H Z fp (Bk.refl E) .nil
  | (mk, mv) :: r, ρ, H, Z, fp, Q, E, o => by
    refine ⟨ρ, fp, Z, W, E, tk, ?_⟩
    have o0 : OutP X (FpA fp) σ H Z ((mk ρ).bind fun k ρ1 => (mv ρ1).bind fun v ρ2 => (mPrs r ρ2).bind fun ps ρ3 => match k.d.key with
      | some k' => .ok ((k', v.d) :: ps) ρ3
      | none => .no) Q W := o
    show OutE X (FpA fp) σ H Z (mk ρ) (fun x H1 => tD X mv σ H1 fun y H2 => tPairs (trsOf X r) σ H2 fun ps H3 => Q ((x, y) :: ps) H3) W
    cases q : mk ρ with
    | no => rw [q] at o0; exact o0.elim
    | ex x ρ' => rw [q] at o0; exact o0
    | ok k ρ1 =>
      rw [q] at o0
      intro x H1 Z1 fp1 fr1 b1 rt1 dj1 nw1
      obtain ⟨Z2, r2, b2⟩ := b1.frz rt1 dj1 nw1
      refine ⟨ρ1, fp1, Z2, W, b2.env, tk, ?_⟩
      have o1 : OutP X (FpA fp) σ H Z ((mv ρ1).bind fun v ρ2 => (mPrs r ρ2).bind fun ps ρ3 => match k.d.key with
        | some k' => .ok ((k', v.d) :: ps) ρ3
        | none => .no) Q W := o0
      cases q2 : mv ρ1 with
      | no => rw [q2] at o1; exact o1.elim
      | ex x ρ' =>
        rw [q2] at o1
        exact fun cls d H' Z' fp' b e => o1 cls d H' Z' fp' (b2.then b) e
      | ok v ρ2 =>
        rw [q2] at o1
        intro y H3 Z3 fp3 fr3 b3 rt3 dj3 nw3
        obtain ⟨Z4, r4, b4⟩ := b3.frz rt3 dj3 nw3
        have b5 := b2.then b4
        refine prs_run tk r ρ2 H3 Z4 fp3 _ b5.env ?_
        have o2 : OutP X (FpA fp) σ H Z ((mPrs r ρ2).bind fun ps ρ3 => match k.d.key with
          | some k' => .ok ((k', v.d) :: ps) ρ3
          | none => .no) Q W := o1
        cases q3 : mPrs r ρ2 with
        | no => rw [q3] at o2; exact o2.elim
        | ex x ρ' =>
          rw [q3] at o2
          exact fun cls d H' Z' fp' b e => o2 cls d H' Z' fp' (b5.then b) e
        | ok ps ρ3 =>
          rw [q3] at o2
          intro ws H' Z' fp' b g
          have o3 : OutP X (FpA fp) σ H Z (match k.d.key with
            | some k' => .ok ((k', v.d) :: ps) ρ3
            | none => .no) Q W := o2
          cases q4 : k.d.key with
          | none => rw [q4] at o3; exact o3.elim
          | some k' =>
            rw [q4] at o3
            have := r2.key q4
            subst this
            exact o3 ((k', y) :: ws) H' Z' fp' (b5.then b) (.cons ⟨rfl, Rep.mono b.step.zle _ _ r4⟩ g)
/-- the display's keys and values, one after another -/
inductive DPs (X : Cx) (pos : Pos) : List (Option Expr) → List Expr → List (M T × M T) → Prop
  | nil : DPs X pos [] [] []
  | cons {k v : Expr} {ks vs mk mv r} (hk : DE X k mk) (hv : DE X v mv) (t : DPs X pos ks vs r) : DPs X pos (some k :: ks) (v :: vs) ((mk, mv) :: r)
theorem DPs.pps {pos : Pos} : ∀ {ks vs r}, DPs X pos ks vs r → PPs X pos ks vs (trsOf X r)
  | _, _, _, .nil => pps_nil
  | _, _, _, .cons hk hv t => pps_cons hk hv t.pps
theorem de_disp {keys : List (Option Expr)} {values : List Expr} {prs : List (M T × M T)} (h : DPs X pos keys values prs) (hall : keys.all (·.isSome) = true := by rfl) (hl : keys.length = values.length := by rfl) (h0 : keys ≠ [] := by simp) (h15 : keys.length ≤ 15 := by decide) : DE X (.Dict keys values pos) (mDisp prs) := PE.weak (pe_disp h.pps hall hl h0 h15) fun σ H Q q => by
  obtain ⟨ρ, fp, Z, W, E, tk, o⟩ := q
  intro p hp
  have E1 : EnvOk X.K ρ σ (upd H p (.dK [])) Z fp := E.keep (step_new (A := NoA) hp) (fun _ _ h => h) (zok_new E.zok hp)
  refine prs_run tk prs ρ _ Z fp _ E1 ?_
  unfold mDisp at o
  have pn : ¬ FpA fp p := fun h => (E.live h).1 hp
  have zp : Z p = none := E.zok.none hp
  have o1 := o.first (A1 := FpA fp) (step_new (A := FpA fp) (Z := Z) (o := .dK []) hp) (fun a ha => .inl ha)
  cases q : mPrs prs ρ with
  | no => rw [q] at o1; exact o1.elim
  | ex x ρ' => rw [q] at o1; exact o1
  | ok ps ρ' =>
    rw [q] at o1
    have o2 : OutE X (FpA fp) σ H Z (if ps.length ≤ 15 then .ok (.od (mergeD [] ps)) ρ' else .no) Q W := by rw [q] at o; exact o
    by_cases hl : ps.length ≤ 15
    · rw [if_pos hl] at o2
      intro ws H2 Z2 fp2 b g
      obtain ⟨k1, k2⟩ := b.step.keep p pn (by rw [upd_same]; simp)
      have h2 : H2 p = some (.dK []) := k1.trans upd_same
      have z2 : Z2 p = none := k2 zp (by rw [upd_same]; simp)
      have b0 : Bk X.K (FpA fp) σ H Z ρ' σ H2 Z2 fp2 := b.first (step_new hp) (fun a ha => .inl ha)
      refine ⟨h2, ws, rfl, by rw [← g.length]; exact hl, ?_⟩
      have np : ¬ FpA fp2 p := fun h => (b.new p h).elim pn (fun z => by rw [upd_same] at z; cases z)
      have st : Step (fun a => a = p) H2 Z2 (upd H2 p (.dK (mergeK [] ws))) Z2 := ⟨.refl _, fun a ha _ => ⟨upd_ne ha, fun h _ => h⟩, fun a ha => by
        by_cases e : a = p
        · rw [e, upd_same]; simp
        · rw [upd_ne e]; exact ha⟩
      have zok3 : ZOk Z2 (upd H2 p (.dK (mergeK [] ws))) := fun a u e => by
        have : a ≠ p := fun z => by rw [z, z2] at e; cases e
        rw [upd_ne this]; exact b0.env.zok a u e
      exact o2 (.ref p) _ Z2 fp2 [p] ⟨b0.env.keep st (fun a ha e => np (by rw [← e]; exact ha)) zok3, b0.step.trans st (fun a ha => .inr (by rw [ha]; exact hp)), b0.new⟩ ⟨p, _, rfl, rfl, upd_same, z2, (g.merge .nil).k⟩ (fun a ha hn => np (by rw [← List.mem_singleton.mp ha]; exact hn)) fun a ha => .inr (by rw [List.mem_singleton.mp ha]; exact hp)
    · rw [if_neg hl] at o2; exact o2.elim
end
end Dn

set_option Elab.async false
set_option linter.all false
set_option maxRecDepth 100000
/-! Dn12: methods, stores, dict comprehensions, several targets. -/
namespace Dn
open PySem PySem.Spec L2
open PyProof.Rows hiding St

/-! ### d.get -/
def isDcAt (i : Nat) (ρ : Env) : Bool := match ρ[i]? with
  | some (some t) => t.d.isDc
  | _ => false
def mDc (m : M T) : M T := fun ρ => (m ρ).bind fun t ρ' => if t.d.isDc then .ok t ρ' else .no
/-- the receiver is seen to be a dict first -/
def Op.dc : Op → Op
  | .tmp m => .tmp (mDc m)
  | .var i => .var i
def mGuard (o : Op) (m : M T) : M T := fun ρ => match o with
  | .var i => if isDcAt i ρ then m ρ else .no
  | .tmp _ => m ρ
theorem isD_of {K : PySem.W.Frag} {H Z : Hp} {t : T} {v : V} {fr : List Addr} (z : ZOk Z H) (r : RepT K H Z t v fr) (h : t.d.isDc = true) : ∃ a, v = .ref a ∧ IsD H a := by
  have rd : RdD K H Z t.d v := ⟨t, fr, r, rfl⟩
  cases ht : t.d with
  | dk kvs =>
    rw [ht] at rd
    obtain ⟨a, ws, rfl, ha, _⟩ := rd.dk z
    exact ⟨a, rfl, .inl ⟨ws, ha⟩⟩
  | dt kvs =>
    rw [ht] at rd
    obtain ⟨a, ws, rfl, ha, _⟩ := rd.dt z
    exact ⟨a, rfl, .inr ⟨ws, ha⟩⟩
  | _ => rw [ht] at h; cases h
section
variable {X : Cx} {a b c : Expr} {o o1 o2 : Op} {apos cpos : Pos}
theorem dc_read {f : List D → Option T} {os : List Op} {σ : St} {H : Hp} {Q : VK} {r : List V → Hp → VK → Prop} (s : OpsSound X r f) (q : tD X (mGuard o (mOps f (o.dc :: os))) σ H Q) :
    tO X o σ H fun x H1 => ∃ a, x = .ref a ∧ IsD H1 a ∧ tOs X os σ H1 fun ys H2 => r (x :: ys) H2 Q := by
  obtain ⟨ρ, fp, Z, W, E, tk, ou⟩ := q
  cases o with
  | var i =>
    have o' : OutE X (FpA fp) σ H Z (if isDcAt i ρ then mOps f (.var i :: os) ρ else .no) Q W := ou
    cases hd : isDcAt i ρ with
    | false => rw [hd] at o'; exact o'.elim
    | true =>
      rw [hd, if_pos rfl] at o'
      obtain ⟨v, hv, k⟩ := ops_read (os := .var i :: os) s ⟨ρ, fp, Z, W, E, tk, o'⟩
      refine ⟨v, hv, ?_⟩
      unfold isDcAt at hd
      cases hr : ρ[i]? with
      | none => rw [hr] at hd; cases hd
      | some u =>
        cases u with
        | none => rw [hr] at hd; cases hd
        | some t =>
          rw [hr] at hd
          obtain ⟨v', hv', rt⟩ := E.at_ i t hr
          rw [hv] at hv'
          cases hv'
          obtain ⟨a, e, h⟩ := isD_of E.zok rt hd
          exact ⟨a, e, h, k⟩
  | tmp m =>
    have q' : tD X (mOps f (.tmp (mDc m) :: os)) σ H Q := ⟨ρ, fp, Z, W, E, tk, ou⟩
    obtain ⟨ρ, fp, Z, W, E, tk, h⟩ := ops_read s q'
    refine ⟨ρ, fp, Z, W, E, tk, ?_⟩
    unfold mDc at h
    cases qm : m ρ with
    | no => rw [qm] at h; exact h
    | ex x ρ' => rw [qm] at h; exact h
    | ok t ρ' =>
      rw [qm] at h
      have h' : OutE X (FpA fp) σ H Z (if t.d.isDc then .ok t ρ' else .no) _ W := h
      cases hd : t.d.isDc with
      | false => rw [hd] at h'; exact h'.elim
      | true =>
        rw [hd, if_pos rfl] at h'
        intro v H' Z' fp' fr b rt dj nw
        obtain ⟨a, e, hD⟩ := isD_of b.env.zok rt hd
        exact ⟨a, e, hD, h' v H' Z' fp' fr b rt dj nw⟩
def fGet2 : List D → Option D
  | [c, k, d] => (getD0 c k).map fun o => o.getD d
  | _ => none
def fGet1 : List D → Option D
  | [c, k] => (getD0 c k).map fun o => o.getD .non
  | _ => none
/-- data that lean on no heap, or stand still -/
def rGet2 : List V → Hp → VK → Prop := fun vs H Q => ∃ a y z o, vs = [.ref a, y, z] ∧ DGet H a y o ∧ Q (o.getD z) H
def rGet1 : List V → Hp → VK → Prop := fun vs H Q => ∃ a y o, vs = [.ref a, y] ∧ DGet H a y o ∧ Q (o.getD .non) H
theorem rd_flat {K : PySem.W.Frag} {H Z : Hp} {d : D} {v : V} {w : V} (h : RdD K H Z d v) (e : toV d = some w) : ∀ Z', Rep K Z' d v := fun Z' => by
  cases d <;> simp only [toV, Option.some.injEq, reduceCtorEq] at e
  · exact h.non
  · exact h.bl
  · exact h.int
  · exact h.str
def fGet2f : List D → Option D
  | [c, k, d] => if (toV d).isSome then fGet2 [c, k, d] else none
  | _ => none
theorem s_get2 : OpsSound X rGet2 (fF fGet2f) := ops_child fun ds vs d H Z z rd e => by
  unfold fGet2f at e
  split at e
  · rename_i c k d0
    split at e
    · rename_i hf
      obtain ⟨w0, hw0⟩ := Option.isSome_iff_exists.mp hf
      obtain ⟨v, w, u, rfl, h1, h2, h3⟩ := rd.three
      simp only [fGet2] at e
      cases q : getD0 c k with
      | none => rw [q] at e; cases e
      | some r =>
        rw [q] at e
        simp only [Option.map_some, Option.some.injEq] at e
        subst e
        cases getD0_ok z h1 h2 q with
        | none g => exact ⟨u, rd_flat h3 hw0 Z, fun Q h => ⟨_, _, _, _, rfl, g, h⟩⟩
        | some g rr => exact ⟨_, rr, fun Q h => ⟨_, _, _, _, rfl, g, h⟩⟩
    · cases e
  · cases e
theorem s_get1 : OpsSound X rGet1 (fF fGet1) := ops_child fun ds vs d H Z z rd e => by
  unfold fGet1 at e
  split at e
  · rename_i c k
    obtain ⟨v, w, rfl, h1, h2⟩ := rd.two
    cases q : getD0 c k with
    | none => rw [q] at e; cases e
    | some r =>
      rw [q] at e
      simp only [Option.map_some, Option.some.injEq] at e
      subst e
      cases getD0_ok z h1 h2 q with
      | none g => exact ⟨.non, rfl, fun Q h => ⟨_, _, _, rfl, g, h⟩⟩
      | some g rr => exact ⟨_, rr, fun Q h => ⟨_, _, _, rfl, g, h⟩⟩
  · cases e
theorem de_get2 (hu : X.A.units + 1 < cLine) (ho : DO X a o) (h1 : DO X b o1) (h2 : DO X c o2) (m : M2 X a "get" apos b c cpos := by exact ⟨rfl, rfl, rfl, rfl⟩) : DE X (.Call (.Attribute a "get" apos) [b, c] [] cpos) (mGuard o (mOps (fF fGet2f) [o.dc, o1, o2])) := PE.weak (pe_dget2 hu ho h1 h2 m) fun σ H Q q => by
  refine tO_mono o (fun x H1 ⟨a', e, hD, h⟩ => ⟨a', e, hD, ?_⟩) (dc_read s_get2 q)
  refine tO_mono o1 (fun y H2 h => ?_) h
  exact tO_mono o2 (fun w H3 ⟨a2, y2, z2, oo, e2, g, k⟩ => by cases e; cases e2; exact ⟨oo, g, k⟩) h
theorem de_get1 (hu : X.A.units + 1 < cLine) (ho : DO X a o) (h1 : DO X b o1) (m : M1 X a "get" apos b cpos := by exact ⟨rfl, rfl, rfl, rfl⟩) : DE X (.Call (.Attribute a "get" apos) [b] [] cpos) (mGuard o (mOps (fF fGet1) [o.dc, o1])) := PE.weak (pe_dget1 hu ho h1 m) fun σ H Q q => by
  refine tO_mono o (fun x H1 ⟨a', e, hD, h⟩ => ⟨a', e, hD, ?_⟩) (dc_read s_get1 q)
  exact tO_mono o1 (fun w H3 ⟨a2, y2, oo, e2, g, k⟩ => by cases e; cases e2; exact ⟨oo, g, k⟩) h

/-! ### a list's methods: the receiver is a name -/
def olAt (i : Nat) (ρ : Env) : Option (List D) := match ρ[i]? with
  | some (some (.ol ds)) => some ds
  | _ => none
theorem olAt_eq {i : Nat} {ρ : Env} {ds : List D} (h : olAt i ρ = some ds) : ρ[i]? = some (some (.ol ds)) := by
  unfold olAt at h
  split at h
  · rename_i e; cases h; exact e
  · cases h
def mAppend (i : Nat) (m : M T) : M T := fun ρ => match olAt i ρ with
  | some _ => (m ρ).bind fun t ρ1 => match olAt i ρ1 with
    | some ds => if ds.length < LIM then .ok (.fz .non) (ρ1.set i (some (.ol (ds ++ [t.d])))) else .no
    | none => .no
  | none => .no
/-- an owned list in a slot is changed in its place -/
theorem Bk.store {K : PySem.W.Frag} {A : Addr → Prop} {σ σ1 : St} {H Z H1 Z1 : Hp} {ρ1 : Env} {fp1 : Fp} {i : Nat} {p : Addr} {t t' : T} {ob : HO} (b : Bk K A σ H Z ρ1 σ1 H1 Z1 fp1) (h : ρ1[i]? = some (some t)) (hσ : σ1[i]? = some (some (.ref p))) (hf : fp1 i = [p]) (r : RepT K (upd H1 p ob) Z1 t' (.ref p) [p]) :
    Bk K A σ H Z (ρ1.set i (some t')) σ1 (upd H1 p ob) Z1 (fset fp1 i [p]) := by
  have hp : H1 p ≠ none ∧ Z1 p = none := b.env.live ⟨i, by rw [hf]; simp⟩
  have st : Step (fun a => a = p) H1 Z1 (upd H1 p ob) Z1 := ⟨.refl _, fun a ha _ => ⟨upd_ne ha, fun h _ => h⟩, fun a ha => by
    by_cases e : a = p
    · rw [e, upd_same]; simp
    · rw [upd_ne e]; exact ha⟩
  have zok : ZOk Z1 (upd H1 p ob) := fun a u e => by
    have : a ≠ p := fun z => by rw [z, hp.2] at e; cases e
    rw [upd_ne this]; exact b.env.zok a u e
  have E1 := (b.env.drop i).keep st (fun a ⟨j, hj⟩ e => by
    by_cases ej : j = i
    · subst ej; rw [fset_same] at hj; simp at hj
    · rw [fset_ne ej] at hj
      exact b.env.dis j i a ej hj (by rw [hf, e]; simp)) zok
  have E2 := E1.set' (i := i) hσ r (fun a ha j hj hin => by
    rw [fset_ne hj] at hin
    exact b.env.dis j i a hj hin (by rw [hf]; exact ha))
  rw [List.set_set] at E2
  have e : fset (fset fp1 i []) i [p] = fset fp1 i [p] := by
    funext j; unfold fset; split <;> rfl
  rw [e] at E2
  refine ⟨E2, b.step.trans st (fun a ha => b.new a ⟨i, by rw [hf, ha]; simp⟩), fun a ha => ?_⟩
  rcases fset_A ha with z | z
  · exact b.new a ⟨i, by rw [hf]; exact z⟩
  · exact b.new a z
theorem EnvOk.ol {K : PySem.W.Frag} {ρ : Env} {σ : St} {H Z : Hp} {fp : Fp} (E : EnvOk K ρ σ H Z fp) {i : Nat} {ds : List D} (h : olAt i ρ = some ds) : ∃ p vs, σ[i]? = some (some (.ref p)) ∧ fp i = [p] ∧ H p = some (.lst vs) ∧ Z p = none ∧ Reps K Z ds vs := by
  obtain ⟨v, hv, p, vs, rfl, h2, h3, h4, h5⟩ := E.at_ i _ (olAt_eq h)
  exact ⟨p, vs, hv, h2, h3, h4, h5⟩
theorem de_append {i : Nat} {m : M T} (hv : PE X a (tVar i)) (h : DE X b m)
    (hbase : attributeBase a "append" X.env (eval a X.env) = eval a X.env := by rfl)
    (hfew : ((backTo cpos (starEach [b] X.env)).all (fun x => !x.1) && (backToKw cpos (keywordEach [] X.env)).all (fun x => x.1.isSome)
      && decide (([b] : List Expr).length + ([] : List Keyword).length + (if ([] : List Keyword).isEmpty then 0 else 1) < 30)) = true := by rfl)
    (hline : (apos.endLine == cpos.line) = true := by rfl) (hs : starEach [b] X.env = [(false, eval b X.env)] := by rfl) (hplain : (backTo cpos (starEach [] X.env)).any (·.1) = false := by rfl) :
    DE X (.Call (.Attribute a "append" apos) [b] [] cpos) (mAppend i m) := PE.weak (pe_bm PySem.F.plainAttrs_list PySem.F.slot_list_append PySem.F.type_list_append mt_append hv (pa_cons h pa_nil hs) hbase hfew hline hs hplain) fun σ H Q q => by
  obtain ⟨ρ, fp, Z, W, E, tk, o⟩ := q
  unfold mAppend at o
  cases q0 : olAt i ρ with
  | none => rw [q0] at o; exact o.elim
  | some ds0 =>
    rw [q0] at o
    obtain ⟨p, vs0, hp, hf, hH, _, _⟩ := E.ol q0
    refine ⟨_, hp, .inl ⟨rfl, vs0, .of hH⟩, ρ, fp, Z, W, E, tk, ?_⟩
    have o0 : OutE X (FpA fp) σ H Z ((m ρ).bind fun t ρ1 => match olAt i ρ1 with
      | some ds => if ds.length < LIM then .ok (.fz .non) (ρ1.set i (some (.ol (ds ++ [t.d])))) else .no
      | none => .no) Q W := o
    cases q : m ρ with
    | no => rw [q] at o0; exact o0
    | ex x ρ' => rw [q] at o0; exact o0
    | ok t ρ1 =>
      rw [q] at o0
      intro y H1 Z1 fp1 fr b rt dj nw
      obtain ⟨Z2, r2, b2⟩ := b.frz rt dj nw
      have o1 : OutE X (FpA fp) σ H Z (match olAt i ρ1 with
        | some ds => if ds.length < LIM then .ok (.fz .non) (ρ1.set i (some (.ol (ds ++ [t.d])))) else .no
        | none => .no) Q W := o0
      cases q1 : olAt i ρ1 with
      | none => rw [q1] at o1; exact o1.elim
      | some ds =>
        rw [q1] at o1
        have o2 : OutE X (FpA fp) σ H Z (if ds.length < LIM then .ok (.fz .non) (ρ1.set i (some (.ol (ds ++ [t.d])))) else .no) Q W := o1
        by_cases hl : ds.length < LIM
        · rw [if_pos hl] at o2
          obtain ⟨p', vs, hp', hf', hH', hZ', rr⟩ := b2.env.ol q1
          rw [hp] at hp'
          cases hp'
          refine ⟨p, vs, y, rfl, rfl, hH', by rw [← rr.length]; exact Nat.lt_of_lt_of_le hl limS, ?_⟩
          exact o2 .non _ Z2 _ [] (b2.store (olAt_eq q1) hp hf' ⟨p, _, rfl, rfl, upd_same, hZ', rr.snoc r2⟩) ⟨rfl, rfl⟩ (by simp) (by simp)
        · rw [if_neg hl] at o2; exact o2.elim
def mExtend (i : Nat) (m : M T) : M T := fun ρ => match olAt i ρ with
  | some _ => (m ρ).bind fun t ρ1 => match olAt i ρ1, t.d with
    | some ds, .lst es => if ds.length + es.length ≤ LIM then .ok (.fz .non) (ρ1.set i (some (.ol (ds ++ es)))) else .no
    | _, _ => .no
  | none => .no
theorem de_extend {i : Nat} {m : M T} (hv : PE X a (tVar i)) (h : DE X b m)
    (hbase : attributeBase a "extend" X.env (eval a X.env) = eval a X.env := by rfl)
    (hfew : ((backTo cpos (starEach [b] X.env)).all (fun x => !x.1) && (backToKw cpos (keywordEach [] X.env)).all (fun x => x.1.isSome)
      && decide (([b] : List Expr).length + ([] : List Keyword).length + (if ([] : List Keyword).isEmpty then 0 else 1) < 30)) = true := by rfl)
    (hline : (apos.endLine == cpos.line) = true := by rfl) (hs : starEach [b] X.env = [(false, eval b X.env)] := by rfl) (hplain : (backTo cpos (starEach [] X.env)).any (·.1) = false := by rfl) :
    DE X (.Call (.Attribute a "extend" apos) [b] [] cpos) (mExtend i m) := PE.weak (pe_bm PySem.F.plainAttrs_list PySem.F.slot_list_extend PySem.F.type_list_extend mt_extend hv (pa_cons h pa_nil hs) hbase hfew hline hs hplain) fun σ H Q q => by
  obtain ⟨ρ, fp, Z, W, E, tk, o⟩ := q
  unfold mExtend at o
  cases q0 : olAt i ρ with
  | none => rw [q0] at o; exact o.elim
  | some ds0 =>
    rw [q0] at o
    obtain ⟨p, vs0, hp, hf, hH, _, _⟩ := E.ol q0
    refine ⟨_, hp, .inl ⟨rfl, vs0, .of hH⟩, ρ, fp, Z, W, E, tk, ?_⟩
    cases q : m ρ with
    | no => rw [q] at o; exact o
    | ex x ρ' => rw [q] at o; exact o
    | ok t ρ1 =>
      rw [q] at o
      intro y H1 Z1 fp1 fr b rt dj nw
      obtain ⟨Z2, r2, b2⟩ := b.frz rt dj nw
      have o1 : OutE X (FpA fp) σ H Z (match olAt i ρ1, t.d with
        | some ds, .lst es => if ds.length + es.length ≤ LIM then .ok (.fz .non) (ρ1.set i (some (.ol (ds ++ es)))) else .no
        | _, _ => .no) Q W := o
      split at o1
      · rename_i ds es q1 q2
        by_cases hl : ds.length + es.length ≤ LIM
        · rw [if_pos hl] at o1
          obtain ⟨p', vs, hp', hf', hH', hZ', rr⟩ := b2.env.ol q1
          rw [hp] at hp'
          cases hp'
          rw [q2] at r2
          obtain ⟨c, ws, rfl, hc, rc⟩ := r2
          refine ⟨p, c, vs, ws, rfl, rfl, hH', b2.env.zok.lst hc, by rw [← rr.length, ← rc.length]; exact Nat.le_trans hl limS, ?_⟩
          exact o1 .non _ Z2 _ [] (b2.store (olAt_eq q1) hp hf' ⟨p, _, rfl, rfl, upd_same, hZ', rr.append rc⟩) ⟨rfl, rfl⟩ (by simp) (by simp)
        · rw [if_neg hl] at o1; exact o1.elim
      · exact o1.elim
/-- xs.pop(k) -/
def mPop (i : Nat) (m : M T) : M T := fun ρ => match olAt i ρ with
  | some _ => (m ρ).bind fun t ρ1 => match olAt i ρ1, t.d with
    | some ds, .int k => if 0 ≤ k ∧ k < 1048576 then (match ds[k.toNat]? with
      | some d => .ok (.fz d) (ρ1.set i (some (.ol (ds.eraseIdx k.toNat))))
      | none => .no) else .no
    | _, _ => .no
  | none => .no
theorem de_pop {i : Nat} {m : M T} (hv : PE X a (tVar i)) (h : DE X b m)
    (hbase : attributeBase a "pop" X.env (eval a X.env) = eval a X.env := by rfl)
    (hfew : ((backTo cpos (starEach [b] X.env)).all (fun x => !x.1) && (backToKw cpos (keywordEach [] X.env)).all (fun x => x.1.isSome)
      && decide (([b] : List Expr).length + ([] : List Keyword).length + (if ([] : List Keyword).isEmpty then 0 else 1) < 30)) = true := by rfl)
    (hline : (apos.endLine == cpos.line) = true := by rfl) (hs : starEach [b] X.env = [(false, eval b X.env)] := by rfl) (hplain : (backTo cpos (starEach [] X.env)).any (·.1) = false := by rfl) :
    DE X (.Call (.Attribute a "pop" apos) [b] [] cpos) (mPop i m) := PE.weak (pe_bm PySem.F.plainAttrs_list PySem.F.slot_list_pop PySem.F.type_list_pop mt_popAt hv (pa_cons h pa_nil hs) hbase hfew hline hs hplain) fun σ H Q q => by
  obtain ⟨ρ, fp, Z, W, E, tk, o⟩ := q
  unfold mPop at o
  cases q0 : olAt i ρ with
  | none => rw [q0] at o; exact o.elim
  | some ds0 =>
    rw [q0] at o
    obtain ⟨p, vs0, hp, hf, hH, _, _⟩ := E.ol q0
    refine ⟨_, hp, .inl ⟨rfl, vs0, .of hH⟩, ρ, fp, Z, W, E, tk, ?_⟩
    cases q : m ρ with
    | no => rw [q] at o; exact o
    | ex x ρ' => rw [q] at o; exact o
    | ok t ρ1 =>
      rw [q] at o
      intro y H1 Z1 fp1 fr b rt dj nw
      obtain ⟨Z2, r2, b2⟩ := b.frz rt dj nw
      have o1 : OutE X (FpA fp) σ H Z (match olAt i ρ1, t.d with
        | some ds, .int k => if 0 ≤ k ∧ k < 1048576 then (match ds[k.toNat]? with
          | some d => .ok (.fz d) (ρ1.set i (some (.ol (ds.eraseIdx k.toNat))))
          | none => .no) else .no
        | _, _ => .no) Q W := o
      split at o1
      · rename_i ds k q1 q2
        by_cases hk : 0 ≤ k ∧ k < 1048576
        · rw [if_pos hk] at o1
          cases qd : ds[k.toNat]? with
          | none => rw [qd] at o1; exact o1.elim
          | some d =>
            rw [qd] at o1
            obtain ⟨p', vs, hp', hf', hH', hZ', rr⟩ := b2.env.ol q1
            rw [hp] at hp'
            cases hp'
            rw [q2] at r2
            have r2 : y = .int k := r2
            subst r2
            obtain ⟨v, hv1, hv2⟩ := rr.get qd
            have hlt : k.toNat < vs.length := (List.getElem?_eq_some_iff.mp hv1).1
            refine ⟨p, vs, k, k.toNat, v, rfl, rfl, hH', by omega, by omega, seqIndex_of hk.1 (by omega), hv1, ?_⟩
            exact o1 v _ Z2 _ [] (b2.store (olAt_eq q1) hp hf' ⟨p, _, rfl, rfl, upd_same, hZ', rr.eraseIdx _⟩) ⟨rfl, hv2⟩ (by simp) (by simp)
        · rw [if_neg hk] at o1; exact o1.elim
      · exact o1.elim
/-! ### x.index(y) -/
def idxV (y : V) : List V → Option Nat
  | [] => none
  | z :: r => if eqV z y then some 0 else (idxV y r).map (· + 1)
def fIndex : List D → Option D
  | [.lst ds, d] => match toV d, toVs ds with
    | some v, some vs => (idxV v vs).map fun n => .int (n : Int)
    | _, _ => none
  | _ => none
theorem idxV_spec {y : V} : ∀ {vs : List V} {n : Nat}, idxV y vs = some n → (∃ z, vs[n]? = some z ∧ eqV z y = true) ∧ ∀ (m : Nat) (z : V), m < n → vs[m]? = some z → eqV z y = false
  | [], n, h => by cases h
  | z :: r, n, h => by
    unfold idxV at h
    split at h
    · rename_i hz
      cases h
      exact ⟨⟨z, rfl, hz⟩, fun m _ hm => absurd hm (Nat.not_lt_zero m)⟩
    · rename_i hz
      simp only [Option.map_eq_some_iff] at h
      obtain ⟨k, hk, rfl⟩ := h
      obtain ⟨⟨w, h1, h2⟩, h3⟩ := idxV_spec hk
      refine ⟨⟨w, by simpa using h1, h2⟩, fun m u hm hu => ?_⟩
      cases m with
      | zero => simp at hu; subst hu; simpa using hz
      | succ m => exact h3 m u (by omega) (by simpa using hu)
def lstAt (i : Nat) (ρ : Env) : Bool := match ρ[i]? with
  | some (some t) => (match t.d with | .lst _ => true | _ => false)
  | _ => false
def mIdx (i : Nat) (o : Op) : M T := fun ρ => if lstAt i ρ then mOps (fF fIndex) [.var i, o] ρ else .no
theorem de_index {i : Nat} (hv : PE X a (tVar i)) (h : DO X b o)
    (hbase : attributeBase a "index" X.env (eval a X.env) = eval a X.env := by rfl)
    (hfew : ((backTo cpos (starEach [b] X.env)).all (fun x => !x.1) && (backToKw cpos (keywordEach [] X.env)).all (fun x => x.1.isSome)
      && decide (([b] : List Expr).length + ([] : List Keyword).length + (if ([] : List Keyword).isEmpty then 0 else 1) < 30)) = true := by rfl)
    (hline : (apos.endLine == cpos.line) = true := by rfl) (hs : starEach [b] X.env = [(false, eval b X.env)] := by rfl) (hplain : (backTo cpos (starEach [] X.env)).any (·.1) = false := by rfl) :
    DE X (.Call (.Attribute a "index" apos) [b] [] cpos) (mIdx i o) := PE.weak (pe_bm PySem.F.plainAttrs_list PySem.F.slot_list_index PySem.F.type_list_index mt_index hv (pa_cons h pa_nil hs) hbase hfew hline hs hplain) fun σ H Q q => by
  have s : OpsSound X (fun vs H Q => ∃ x y, vs = [x, y] ∧ rIndex X.K x [y] H Q) (fF fIndex) := FlatSound.ops fun ds vs d H Z z rd e => by
    unfold fIndex at e
    split at e
    · rename_i xs d0
      split at e
      · rename_i v' vs' q1 q2
        cases q3 : idxV v' vs' with
        | none => rw [q3] at e; cases e
        | some n =>
          rw [q3] at e; cases e
          obtain ⟨v, w, rfl, h1, h2⟩ := rd.two
          obtain ⟨p, ws, rfl, hp, rp⟩ := h1.lst z
          obtain ⟨e1, f1⟩ := toV_rd h2 q1
          obtain ⟨e2, f2⟩ := toVs_ok rp q2
          subst e1 e2
          obtain ⟨⟨u, h3, h4⟩, h5⟩ := idxV_spec q3
          exact ⟨.int n, fun _ => rfl, fun Q k => ⟨_, _, rfl, p, _, _, n, u, rfl, rfl, .of hp, f1, f2, h3, h4, h5, k⟩⟩
      · cases e
    · cases e
  obtain ⟨ρ, fp, Z, W, E, tk, ou⟩ := q
  unfold mIdx at ou
  cases hl : lstAt i ρ with
  | false => rw [hl] at ou; exact ou.elim
  | true =>
    rw [hl, if_pos rfl] at ou
    obtain ⟨v, hv, k⟩ := ops_read (os := [.var i, o]) s ⟨ρ, fp, Z, W, E, tk, ou⟩
    refine ⟨v, hv, ?_, tO_mono o (fun y H2 ⟨x', y', e, r⟩ => by cases e; exact r) k⟩
    unfold lstAt at hl
    cases hr : ρ[i]? with
    | none => rw [hr] at hl; cases hl
    | some u =>
      cases u with
      | none => rw [hr] at hl; cases hl
      | some t =>
        rw [hr] at hl
        obtain ⟨v', hv', rt⟩ := E.at_ i t hr
        rw [hv] at hv'
        cases hv'
        have rd : RdD X.K H Z t.d v := ⟨t, _, rt, rfl⟩
        simp only at hl
        cases ht : t.d with
        | lst ds =>
          rw [ht] at rd
          obtain ⟨p, ws, rfl, hp, _⟩ := rd.lst E.zok
          exact .inl ⟨rfl, ws, .of hp⟩
        | _ => simp only [ht] at hl; cases hl
end
/-! ### x[k] = e -/
def storeT (k : D) (d : D) : T → Option T
  | .ol ds => match k with
    | .int n => (ixN ds.length n).map fun j => .ol (ds.set j d)
    | _ => none
  | .od kvs => match k.key with
    | some k' => if kvs.length < LIM then some (.od (putD kvs k' d)) else none
    | none => none
  | .odt kvs => match k.keyT with
    | some k' => if kvs.length < LIM then some (.odt (putD kvs k' d)) else none
    | none => none
  | .fz _ => none
def setAt (i : Nat) (ρ : Env) : Bool := match ρ[i]? with
  | some (some _) => true
  | _ => false
def mStore (i : Nat) (o : Op) (m : M T) : M Fl := fun ρ => (m ρ).bind fun t ρ1 => if !setAt i ρ1 then .no else (evs [o] ρ1).bind fun ts ρ2 => match resAll ρ2 [o] ts with
  | some [k] => (match ρ2[i]? with
    | some (some u) => (match storeT k t.d u with
      | some u' => .ok .nx (ρ2.set i (some u'))
      | none => .no)
    | _ => .no)
  | _ => .no
def rSetD : TSet := fun o i v H Q => ∃ a H', o = .ref a ∧ DPut H a i v H' ∧ Q H'
theorem set_dict {X : Cx} (hu : X.A.units + 1 < cLine) : PSet X rSetD := by
  intro pins s σ H o i v ov iv u Q I ro ri rv h
  obtain ⟨a, H', rfl, g, q⟩ := h
  obtain rfl : ov = Value.ref a := ro
  exact d_setItem hu I g ri rv fun s' I' => ⟨H', I', q⟩
def rSetA : TSet := fun o i v H Q => rSetL o i v H Q ∨ rSetD o i v H Q
theorem set_any {X : Cx} (hu : X.A.units + 1 < cLine) : PSet X rSetA := fun pins s σ H o i v ov iv u Q I ro ri rv h => h.elim (set_list pins s σ H o i v ov iv u Q I ro ri rv) (set_dict hu pins s σ H o i v ov iv u Q I ro ri rv)
theorem key_tup {K : PySem.W.Frag} {H Z : Hp} {k : D} {w : V} {ks : List Key} (z : ZOk Z H) (h : RdD K H Z k w) (e : k.keyT = some ks) : ∃ b, w = .ref b ∧ H b = some (.tup (ks.map kV)) := by
  cases k <;> simp only [D.keyT, reduceCtorEq] at e
  obtain ⟨b, us, rfl, hb, rb⟩ := h.tup z
  rw [rb.keys e] at hb
  exact ⟨b, rfl, hb⟩
theorem ds_store {X : Cx} {a b e : Expr} {o : Op} {i : Nat} {m : M T} {pin : List Nat} {pos tpos : Pos} (hu : X.A.units + 1 < cLine) (hv : PE X a (tVar i)) (hk : DO X b o) (he : DE X e m)
    (ha : ∀ v, assign (.Subscript a b tpos) X.env v = (do
      let ov ← holding [v] (eval a X.env)
      let iv ← holding [v, ov] (eval b X.env)
      standAt tpos
      holding [v, ov, iv] (setItem ov iv v)
      release [v, ov, iv] []) := by intro _; rfl)
    (hs : swapsWithSole [.Subscript a b tpos] e pos.line X.env = pure false := by rfl) (hw : swappedStores [.Subscript a b tpos] e X.env = pure none := by rfl)
    (h1 : (assignEach [.Subscript a b tpos] X.env).map (·.2) = [assign (.Subscript a b tpos) X.env] := by rfl) : DS X pin (.Assign [.Subscript a b tpos] e pos) (mStore i o m) := PS.weak (ps_asg he (pg_sub hv hk (set_any hu) ha) hs hw h1) fun D σ H q => by
  obtain ⟨ρ, fp, Z, W, E, tk, ou⟩ := q
  refine ⟨ρ, fp, Z, W, E, tk, ?_⟩
  unfold mStore at ou
  cases q : m ρ with
  | no => rw [q] at ou; exact ou
  | ex x ρ' => rw [q] at ou; exact fun cls d H' Z' fp' b e => ou cls d σ H' Z' fp' b .refl e
  | ok t ρ1 =>
    rw [q] at ou
    intro v H1 Z1 fp1 fr b rt dj nw
    obtain ⟨Z2, r2, b2⟩ := b.frz rt dj nw
    have o01 : OutS X pin (FpA fp) σ H Z (if !setAt i ρ1 then .no else (evs [o] ρ1).bind fun ts ρ2 => match resAll ρ2 [o] ts with
      | some [k] => (match ρ2[i]? with
        | some (some u) => (match storeT k t.d u with
          | some u' => .ok .nx (ρ2.set i (some u'))
          | none => .no)
        | _ => .no)
      | _ => .no) D W := ou
    obtain ⟨v00, hv00⟩ : ∃ v0, σ[i]? = some (some v0) := by
      cases hs : setAt i ρ1 with
      | false => rw [hs] at o01; exact o01.elim
      | true =>
        unfold setAt at hs
        cases hr : ρ1[i]? with
        | none => rw [hr] at hs; cases hs
        | some u =>
          cases u with
          | none => rw [hr] at hs; cases hs
          | some t =>
            obtain ⟨v0, h0, _⟩ := b2.env.at_ i t hr
            exact ⟨v0, h0⟩
    have o1 : OutS X pin (FpA fp) σ H Z ((evs [o] ρ1).bind fun ts ρ2 => match resAll ρ2 [o] ts with
      | some [k] => (match ρ2[i]? with
        | some (some u) => (match storeT k t.d u with
          | some u' => .ok .nx (ρ2.set i (some u'))
          | none => .no)
        | _ => .no)
      | _ => .no) D W := by
      cases hs : setAt i ρ1 with
      | false => rw [hs] at o01; exact o01.elim
      | true => rw [hs] at o01; exact o01
    -- the name's own place is in any case the same
    have run : tOs X [o] σ H1 fun ks H2 => ∃ k p, ks = [k] ∧ σ[i]? = some (some (.ref p)) ∧ rSetA (.ref p) k v H2 (fun H3 => D.nx σ H3) := by
      refine ops_run tk [o] ρ1 H1 Z2 fp1 _ b2.env ?_
      cases q2 : evs [o] ρ1 with
      | no => rw [q2] at o1; exact o1
      | ex x ρ' =>
        rw [q2] at o1
        exact fun cls d H' Z' fp' b e => o1 cls d σ H' Z' fp' (b2.then b) .refl e
      | ok ts ρ2 =>
        rw [q2] at o1
        intro ks H3 Z3 fp3 b3 kk
        have b4 := b2.then b3
        have o2 : OutS X pin (FpA fp) σ H Z (match resAll ρ2 [o] ts with
          | some [k] => (match ρ2[i]? with
            | some (some u) => (match storeT k t.d u with
              | some u' => .ok .nx (ρ2.set i (some u'))
              | none => .no)
            | _ => .no)
          | _ => .no) D W := o1
        split at o2
        · rename_i k qk
          obtain ⟨w, rfl, hw⟩ := (kk.res b4.env qk).one
          split at o2
          · rename_i u qu
            split at o2
            · rename_i u' qs
              obtain ⟨v0, hv0, ru⟩ := b4.env.at_ i u qu
              have r3 := Rep.mono b3.step.zle _ _ r2
              cases u with
              | fz _ => cases qs
              | ol ds =>
                obtain ⟨p, vs, rfl, hf, hH, hZ, rr⟩ := ru
                unfold storeT at qs
                cases k <;> simp only [reduceCtorEq] at qs
                rename_i n
                cases qj : ixN ds.length n with
                | none => rw [qj] at qs; cases qs
                | some j =>
                  rw [qj] at qs
                  simp only [Option.map_some, Option.some.injEq] at qs
                  subst qs
                  refine ⟨w, p, rfl, hv0, .inl ⟨p, vs, n, j, rfl, hw.int, hH, by rw [← rr.length]; exact qj, ?_⟩⟩
                  exact o2 σ _ Z3 _ (b4.store qu hv0 hf ⟨p, _, rfl, rfl, upd_same, hZ, Reps.set r3 j rr⟩) .refl
              | od kvs =>
                obtain ⟨p, ws, rfl, hf, hH, hZ, rr⟩ := ru
                unfold storeT at qs
                simp only at qs
                split at qs
                · rename_i k' qk'
                  split at qs
                  · rename_i hl
                    cases qs
                    have := hw.key qk'
                    subst this
                    refine ⟨_, p, rfl, hv0, .inr ⟨p, _, rfl, .k hH (by rw [← rr.g.length]; exact Nat.lt_of_lt_of_le hl limS), ?_⟩⟩
                    exact o2 σ _ Z3 _ (b4.store qu hv0 hf ⟨p, _, rfl, rfl, upd_same, hZ, (rr.g.put k' r3).k⟩) .refl
                  · cases qs
                · cases qs
              | odt kvs =>
                obtain ⟨p, ws, rfl, hf, hH, hZ, rr⟩ := ru
                unfold storeT at qs
                simp only at qs
                split at qs
                · rename_i k' qk'
                  split at qs
                  · rename_i hl
                    cases qs
                    obtain ⟨bb, rfl, hb⟩ := key_tup b4.env.zok hw qk'
                    refine ⟨_, p, rfl, hv0, .inr ⟨p, _, rfl, .t hH hb (by rw [← rr.g.length]; exact Nat.lt_of_lt_of_le hl limS), ?_⟩⟩
                    exact o2 σ _ Z3 _ (b4.store qu hv0 hf ⟨p, _, rfl, rfl, upd_same, hZ, (rr.g.put k' r3).t⟩) .refl
                  · cases qs
                · cases qs
            · exact o2.elim
          · exact o2.elim
        · exact o2.elim
    refine ⟨v00, hv00, tO_mono o (fun y H2 h => ?_) run⟩
    obtain ⟨k, p', e, hp', r⟩ := h
    cases e
    rw [hv00] at hp'
    cases hp'
    exact r
end Dn

set_option Elab.async false
set_option linter.all false
set_option maxRecDepth 100000
/-! Dn13: chains, module constants, several targets. -/
namespace Dn
open PySem PySem.Spec L2
open PyProof.Rows hiding St

/-! ### a op b op c, of numbers -/
def mChain (c c' : Int → Int → Bool) (o1 o2 o3 : Op) : M T := fun ρ => (evs [o1, o2] ρ).bind fun ts ρ1 => match resAll ρ1 [o1, o2] ts with
  | some [.int i, .int j] => if c i j = true then ((evs [o3] ρ1).bind fun us ρ2 => match resAll ρ2 [o3] us with
    | some [.int k] => .ok (.fz (.bl (c' j k))) ρ2
    | _ => .no) else .ok (.fz (.bl false)) ρ1
  | _ => .no
theorem tO_one {X : Cx} {o : Op} {σ : St} {H : Hp} {K : List V → Hp → Prop} (h : tOs X [o] σ H K) : tO X o σ H fun v H' => K [v] H' := h
theorem chain_two {X : Cx} {o1 o2 o3 : Op} {r r' : R2} {σ : St} {H : Hp} {Q : VK} (h : tOs X [o1, o2] σ H fun vs H' => ∃ x y, vs = [x, y] ∧ r x y H' fun z H3 => ∃ k, z = .bl k ∧ (if k = true then tO X o3 σ H3 fun w' H4 => r' y w' H4 Q else Q (.bl false) H3)) : tChain r r' (tO X o1) (tO X o2) (tO X o3) σ H Q := by
  refine tO_mono o1 (fun x H1 h1 => tO_mono o2 (fun y H2 h2 => ?_) h1) h
  obtain ⟨x', y', e, q⟩ := h2
  cases e
  exact q
section
variable {X : Cx} {a b c : Expr} {o1 o2 o3 : Op} {f f' : Int → Int → Bool} {op op' : CmpOp} {pos : Pos}
theorem chain_read {σ : St} {H : Hp} {Q : VK} (q : tD X (mChain f f' o1 o2 o3) σ H Q) : tChain (rI0 fun i j => .bl (f i j)) (rI0 fun i j => .bl (f' i j)) (tO X o1) (tO X o2) (tO X o3) σ H Q := by
  obtain ⟨ρ, fp, Z, W, E, tk, o⟩ := q
  refine chain_two ?_
  refine ops_run tk [o1, o2] ρ H Z fp _ E ?_
  unfold mChain at o
  cases q : evs [o1, o2] ρ with
  | no => rw [q] at o; exact o
  | ex x ρ' => rw [q] at o; exact o
  | ok ts ρ1 =>
    rw [q] at o
    intro vs H1 Z1 fp1 b1 k
    simp only [R.bind] at o
    split at o
    · rename_i i j hres
      have rd := k.res b1.env hres
      obtain ⟨v, w, rfl, h1, h2⟩ := rd.two
      refine ⟨v, w, rfl, i, j, h1.int, h2.int, f i j, rfl, ?_⟩
      cases hc : f i j with
      | false =>
        rw [hc] at o
        rw [if_neg (by decide)]
        exact o (.bl false) H1 Z1 fp1 [] b1 ⟨rfl, rfl⟩ (by simp) (by simp)
      | true =>
        rw [hc, if_pos rfl] at o
        rw [if_pos rfl]
        refine tO_one (ops_run tk [o3] ρ1 H1 Z1 fp1 (fun vs H' => ∃ v, vs = [v] ∧ rI0 (fun i j => .bl (f' i j)) w v H' Q) b1.env ?_) |> tO_mono o3 (fun v H' h => by
          obtain ⟨v', e, h⟩ := h
          cases e
          exact h)
        cases q3 : evs [o3] ρ1 with
        | no => rw [q3] at o; exact o
        | ex x ρ' =>
          rw [q3] at o
          exact fun cls d H' Z' fp' b e => o cls d H' Z' fp' (b1.then b) e
        | ok us ρ2 =>
          rw [q3] at o
          intro ws H2 Z2 fp2 b2 k2
          simp only [R.bind] at o
          split at o
          · rename_i k3 hres2
            have rd2 := k2.res b2.env hres2
            obtain ⟨u, rfl, h3⟩ := rd2.one
            exact ⟨u, rfl, j, k3, h2.int, h3.int, o _ H2 Z2 fp2 [] (b1.then b2) ⟨rfl, rfl⟩ (by simp) (by simp)⟩
          · exact o.elim
    · exact o.elim
theorem de_chain (ho : OpR X (compareOp op) (rI0 fun i j => .bl (f i j))) (ho' : OpR X (compareOp op') (rI0 fun i j => .bl (f' i j))) (ha : DO X a o1) (hb : DO X b o2) (hc : DO X c o3) (hm : lastMarks [op, op'] [b, c] = false := by with_unfolding_all rfl) :
    DE X (.Compare a [op, op'] [b, c] pos) (mChain f f' o1 o2 o3) := PE.weak (pe_chain ho ho' ha hb hc hm) fun _ _ _ q => chain_read q
theorem dt_chain (ho : OpR X (compareOp op) (rI0 fun i j => .bl (f i j))) (ho' : OpR X (compareOp op') (rI0 fun i j => .bl (f' i j))) (ha : DO X a o1) (hb : DO X b o2) (hc : DO X c o3) (hm : lastMarks [op, op'] [b, c] = false := by with_unfolding_all rfl) :
    DT X (.Compare a [op, op'] [b, c] pos) (mBool (mChain f f' o1 o2 o3)) := PT.weak (pt_chain ho ho' ha hb hc hm) fun _ _ _ q => chain_read (tD_bool q)
end

/-! ### the module's constants -/
def GloV (K : PySem.W.Frag) (mg : Str → Option Value) (x : Str) (v : V) : Prop := ∃ u, mg x = some u ∧ RelV v u
theorem de_globI {X : Cx} {x : Str} {i : Int} {pos : Pos} (hg : Gl X x) (h : GloV X.K X.mg x (.int i)) (hd : (x == ("__debug__" : Str)) = false := by decide) : DE X (.Name x pos) (mC (.int i)) := by
  obtain ⟨u, hm, r⟩ := h
  exact de_const' (pe_glob hg hm r hd) fun _ => rfl
theorem de_globS {X : Cx} {x : Str} {i : Str} {pos : Pos} (hg : Gl X x) (h : GloV X.K X.mg x (.str i)) (hd : (x == ("__debug__" : Str)) = false := by decide) : DE X (.Name x pos) (mC (.str i)) := by
  obtain ⟨u, hm, r⟩ := h
  exact de_const' (pe_glob hg hm r hd) fun _ => rfl
/-- a tuple of the module -/
def GloT (K : PySem.W.Frag) (mg : Str → Option Value) (x : Str) (vs : List V) : Prop := ∃ a, mg x = some (.ref a) ∧ ∃ (o : Obj) (its : Array Value) (n : Nat), K.lookup a = some o ∧ o.cls = .type "tuple" ∧ o.data = .seq its n ∧ its.size ≤ sizeLine ∧ Vals vs its.toList
theorem de_globT {X : Cx} {x : Str} {vs : List V} {pos : Pos} (hg : Gl X x) (h : GloT X.K X.mg x vs) (hd : (x == ("__debug__" : Str)) = false := by decide) : DE X (.Name x pos) (mC (.kt vs)) := by
  obtain ⟨a, hm, h⟩ := h
  exact de_const' (v := .ref a) (pe_glob hg hm rfl hd) fun _ => ⟨a, rfl, .inr h⟩

/-! ### several targets -/
def mPar2 (i j : Nat) (m1 m2 : M T) : M Fl := fun ρ => (m1 ρ).bind fun t1 ρ1 => (m2 ρ1).bind fun t2 ρ2 => if i < ρ2.length ∧ j < ρ2.length then .ok .nx ((ρ2.set i (some t1)).set j (some t2)) else .no
def mPar3 (i j l : Nat) (m1 m2 m3 : M T) : M Fl := fun ρ => (m1 ρ).bind fun t1 ρ1 => (m2 ρ1).bind fun t2 ρ2 => (m3 ρ2).bind fun t3 ρ3 => if i < ρ3.length ∧ j < ρ3.length ∧ l < ρ3.length then .ok .nx (((ρ3.set i (some t1)).set j (some t2)).set l (some t3)) else .no
/-- what is held beside the environment is kept by a further step -/
theorem Bk.beside {K : PySem.W.Frag} {σ σ1 σ2 : St} {H Z H1 Z1 H2 Z2 : Hp} {ρ1 ρ2 : Env} {fp1 fp2 : Fp} {A : Addr → Prop} {t : T} {v : V} {fr : List Addr} (r : RepT K H1 Z1 t v fr) (dj : ∀ a ∈ fr, ¬ FpA fp1 a) (b2 : Bk K (FpA fp1) σ1 H1 Z1 ρ2 σ2 H2 Z2 fp2) :
    RepT K H2 Z2 t v fr ∧ (∀ a ∈ fr, ¬ FpA fp2 a) ∧ ∀ fr2 : List Addr, (∀ a ∈ fr2, FpA fp1 a ∨ H1 a = none) → ∀ a ∈ fr2, a ∉ fr := by
  refine ⟨r.keep b2.step dj, fun a ha hn => ?_, fun fr2 h a ha h1 => ?_⟩
  · rcases b2.new a hn with z | z
    · exact dj a ha z
    · exact (r.live a ha).1 z
  · rcases h a ha with z | z
    · exact dj a h1 z
    · exact (r.live a h1).1 z
section
variable {X : Cx} {a b c : Expr} {m1 m2 m3 : M T} {i j l : Nat} {x y z : Str} {px py pz pt pos : Pos} {kt k2 : Nat} {pt2 : Pos} {pin : List Nat}
theorem par2_read {D : Ends} {σ : St} {H : Hp} (hi : i ∉ pin) (hj : j ∉ pin) (q : tDS X pin (mPar2 i j m1 m2) D σ H) : tPar i j (tCons (tD X m1) (tCons (tD X m2) tNil)) D σ H := by
  obtain ⟨ρ, fp, Z, W, E, tk, o⟩ := q
  refine ⟨ρ, fp, Z, W, E, tk, ?_⟩
  unfold mPar2 at o
  cases q1 : m1 ρ with
  | no => rw [q1] at o; exact o
  | ex x ρ' => rw [q1] at o; exact fun cls d H' Z' fp' b e => o cls d σ H' Z' fp' b .refl e
  | ok t1 ρ1 =>
    rw [q1] at o
    intro v1 H1 Z1 fp1 fr1 b1 r1 dj1 nw1
    refine ⟨ρ1, fp1, Z1, W, b1.env, tk, ?_⟩
    simp only [R.bind] at o
    cases q2 : m2 ρ1 with
    | no => rw [q2] at o; exact o
    | ex x ρ' => rw [q2] at o; exact fun cls d H' Z' fp' b e => o cls d σ H' Z' fp' (b1.then b) .refl e
    | ok t2 ρ2 =>
      rw [q2] at o
      intro v2 H2 Z2 fp2 fr2 b2 r2 dj2 nw2
      have o1 : OutS X pin (FpA fp) σ H Z (if i < ρ2.length ∧ j < ρ2.length then .ok .nx ((ρ2.set i (some t1)).set j (some t2)) else .no) D W := o
      by_cases hl : i < ρ2.length ∧ j < ρ2.length
      · rw [if_pos hl] at o1
        obtain ⟨k1, k2, k3⟩ := Bk.beside (K := X.K) (σ := σ) (H := H) (Z := Z) (ρ1 := ρ1) (A := FpA fp) r1 dj1 b2
        have p1 := (b1.then b2).put k1 k2 nw1 hl.1
        have p2 := p1.put r2 (fun a ha hn => (fset_A hn).elim (k3 fr2 nw2 a ha) (dj2 a ha)) (fun a ha => b1.new' (nw2 a ha)) (by rw [List.length_set]; exact hl.2)
        exact ⟨v1, v2, rfl, o1 _ H2 Z2 _ p2 ((PinOk.set hi).trans (.set hj))⟩
      · rw [if_neg hl] at o1; exact o1.elim
theorem ds_par2 (hc : X.calm = true) (hN : X.N.Nodup) (ha : DE X a m1) (hb : DE X b m2) (hpi : i ∉ pin := by decide) (hpj : j ∉ pin := by decide) (hi : X.N[i]? = some x := by rfl) (hj : X.N[j]? = some y := by rfl) (hij : i ≠ j := by decide)
    (hx : X.env.scope.names.lookup x = some .local := by rfl) (hy : X.env.scope.names.lookup y = some .local := by rfl) (hs1 : starEach [a, b] X.env = (false, eval a X.env) :: starEach [b] X.env := by rfl) (hs2 : starEach [b] X.env = (false, eval b X.env) :: starEach [] X.env := by rfl)
    (hw : swappedStores [.Tuple [.Name x px, .Name y py] kt pt] (.Tuple [a, b] k2 pt2) X.env = pure (some [x, y]) := by rfl)
    (hs : swapsWithSole [.Tuple [.Name x px, .Name y py] kt pt] (.Tuple [a, b] k2 pt2) pos.line X.env = pure false := by rfl) :
    DS X pin (.Assign [.Tuple [.Name x px, .Name y py] kt pt] (.Tuple [a, b] k2 pt2) pos) (mPar2 i j m1 m2) :=
  PS.weak (ps_par hc hN hi hj hij hx hy (pa_cons ha (pa_cons hb pa_nil hs2) hs1) hw hs) fun D σ H q => par2_read hpi hpj q
theorem par3_read {D : Ends} {σ : St} {H : Hp} (hi : i ∉ pin) (hj : j ∉ pin) (hl : l ∉ pin) (q : tDS X pin (mPar3 i j l m1 m2 m3) D σ H) : tPar3 i j l (tCons (tD X m1) (tCons (tD X m2) (tCons (tD X m3) tNil))) D σ H := by
  obtain ⟨ρ, fp, Z, W, E, tk, o⟩ := q
  refine ⟨ρ, fp, Z, W, E, tk, ?_⟩
  unfold mPar3 at o
  cases q1 : m1 ρ with
  | no => rw [q1] at o; exact o
  | ex x ρ' => rw [q1] at o; exact fun cls d H' Z' fp' b e => o cls d σ H' Z' fp' b .refl e
  | ok t1 ρ1 =>
    rw [q1] at o
    intro v1 H1 Z1 fp1 fr1 b1 r1 dj1 nw1
    refine ⟨ρ1, fp1, Z1, W, b1.env, tk, ?_⟩
    simp only [R.bind] at o
    cases q2 : m2 ρ1 with
    | no => rw [q2] at o; exact o
    | ex x ρ' => rw [q2] at o; exact fun cls d H' Z' fp' b e => o cls d σ H' Z' fp' (b1.then b) .refl e
    | ok t2 ρ2 =>
      rw [q2] at o
      intro v2 H2 Z2 fp2 fr2 b2 r2 dj2 nw2
      have b12 := b1.then b2
      refine ⟨ρ2, fp2, Z2, W, b12.env, tk, ?_⟩
      simp only at o
      cases q3 : m3 ρ2 with
      | no => rw [q3] at o; exact o
      | ex x ρ' => rw [q3] at o; exact fun cls d H' Z' fp' b e => o cls d σ H' Z' fp' (b12.then b) .refl e
      | ok t3 ρ3 =>
        rw [q3] at o
        intro v3 H3 Z3 fp3 fr3 b3 r3 dj3 nw3
        have o1 : OutS X pin (FpA fp) σ H Z (if i < ρ3.length ∧ j < ρ3.length ∧ l < ρ3.length then .ok .nx (((ρ3.set i (some t1)).set j (some t2)).set l (some t3)) else .no) D W := o
        by_cases hll : i < ρ3.length ∧ j < ρ3.length ∧ l < ρ3.length
        · rw [if_pos hll] at o1
          obtain ⟨k1, k2, k3⟩ := Bk.beside (K := X.K) (σ := σ) (H := H) (Z := Z) (ρ1 := ρ1) (A := FpA fp) r1 dj1 b2
          obtain ⟨k4, k5, k6⟩ := Bk.beside (K := X.K) (σ := σ) (H := H) (Z := Z) (ρ1 := ρ1) (A := FpA fp) r2 dj2 b3
          obtain ⟨k7, k8, k9⟩ := Bk.beside (K := X.K) (σ := σ) (H := H) (Z := Z) (ρ1 := ρ1) (A := FpA fp) k1 k2 b3
          have p1 := (b12.then b3).put k7 k8 nw1 hll.1
          have p2 := p1.put k4 (fun a ha hn => (fset_A hn).elim (k3 fr2 nw2 a ha) (k5 a ha)) (fun a ha => b1.new' (nw2 a ha)) (by rw [List.length_set]; exact hll.2.1)
          have p3 := p2.put r3 (fun a ha hn => (fset_A hn).elim (k6 fr3 nw3 a ha) fun hn => (fset_A hn).elim (k9 fr3 nw3 a ha) (dj3 a ha)) (fun a ha => b12.new' (nw3 a ha)) (by rw [List.length_set, List.length_set]; exact hll.2.2)
          exact ⟨v1, v2, v3, rfl, o1 _ H3 Z3 _ p3 (((PinOk.set hi).trans (.set hj)).trans (.set hl))⟩
        · rw [if_neg hll] at o1; exact o1.elim
theorem ds_par3 (hc : X.calm = true) (hN : X.N.Nodup) (ha : DE X a m1) (hb : DE X b m2) (hcc : DE X c m3) (hpi : i ∉ pin := by decide) (hpj : j ∉ pin := by decide) (hpl : l ∉ pin := by decide) (hi : X.N[i]? = some x := by rfl) (hj : X.N[j]? = some y := by rfl) (hl : X.N[l]? = some z := by rfl)
    (hij : i ≠ j := by decide) (hil : i ≠ l := by decide) (hjl : j ≠ l := by decide) (hx : X.env.scope.names.lookup x = some .local := by rfl) (hy : X.env.scope.names.lookup y = some .local := by rfl) (hz : X.env.scope.names.lookup z = some .local := by rfl)
    (hs1 : starEach [a, b, c] X.env = (false, eval a X.env) :: starEach [b, c] X.env := by rfl) (hs2 : starEach [b, c] X.env = (false, eval b X.env) :: starEach [c] X.env := by rfl) (hs3 : starEach [c] X.env = (false, eval c X.env) :: starEach [] X.env := by rfl)
    (hw : swappedStores [.Tuple [.Name x px, .Name y py, .Name z pz] kt pt] (.Tuple [a, b, c] k2 pt2) X.env = pure (some [x, y, z]) := by rfl)
    (hs : swapsWithSole [.Tuple [.Name x px, .Name y py, .Name z pz] kt pt] (.Tuple [a, b, c] k2 pt2) pos.line X.env = pure false := by rfl) :
    DS X pin (.Assign [.Tuple [.Name x px, .Name y py, .Name z pz] kt pt] (.Tuple [a, b, c] k2 pt2) pos) (mPar3 i j l m1 m2 m3) :=
  PS.weak (ps_par3 hc hN hi hj hl hij hil hjl hx hy hz (pa_cons ha (pa_cons hb (pa_cons hcc pa_nil hs3) hs2) hs1) hw hs) fun D σ H q => par3_read hpi hpj hpl q
end
/-- a, b = e -/
def mAsgT (g : D → Env → Option Env) (m : M T) : M Fl := fun ρ => (m ρ).bind fun t ρ1 => match g t.d ρ1 with
  | some ρ2 => .ok .nx ρ2
  | none => .no
theorem ds_asgT {X : Cx} {tg e : Expr} {g : D → Env → Option Env} {sls : List Nat} {m : M T} {pin : List Nat} {pos : Pos} (he : DE X e m) (hg : DG X tg g sls) (hps : ∀ i ∈ sls, i ∉ pin := by decide)
    (hs : swapsWithSole [tg] e pos.line X.env = pure false := by rfl) (hw : swappedStores [tg] e X.env = pure none := by rfl) (h1 : (assignEach [tg] X.env).map (·.2) = [assign tg X.env] := by rfl) : DS X pin (.Assign [tg] e pos) (mAsgT g m) :=
  PS.weak (ps_asg he hg hs hw h1) fun D σ H q => by
    obtain ⟨ρ, fp, Z, W, E, tk, o⟩ := q
    refine ⟨ρ, fp, Z, W, E, tk, ?_⟩
    unfold mAsgT at o
    cases q : m ρ with
    | no => rw [q] at o; exact o
    | ex x ρ' => rw [q] at o; exact fun cls d H' Z' fp' b e => o cls d σ H' Z' fp' b .refl e
    | ok t ρ1 =>
      rw [q] at o
      intro v H1 Z1 fp1 fr b1 rt dj nw
      obtain ⟨Z2, r2, b2⟩ := b1.frz rt dj nw
      have o1 : OutS X pin (FpA fp) σ H Z (match g t.d ρ1 with
        | some ρ2 => .ok .nx ρ2
        | none => .no) D W := o
      cases qg : g t.d ρ1 with
      | none => rw [qg] at o1; exact o1.elim
      | some ρ2 =>
        rw [qg] at o1
        refine ⟨ρ1, fp1, Z2, t.d, ρ2, b2.env, r2, qg, fun σ' fp' E' s' j' l' => ?_⟩
        exact o1 σ' H1 Z2 fp' ⟨E', b2.step, fun a ha => b2.new a (s' a ha)⟩ fun j hj => j' j fun z => hps j z hj
end Dn

set_option Elab.async false
set_option linter.all false
set_option maxRecDepth 100000
/-! Dn14: dict comprehensions. -/
namespace Dn
open PySem PySem.Spec L2
open PyProof.Rows hiding St

def compD (g : D → Env → Option Env) (mt : M Bool) (mk me : M T) (own : List Nat) : List D → List (Key × D) → M (List (Key × D))
  | [], acc => fun ρ => .ok acc ρ
  | d :: ds, acc => fun ρ => match g d ρ with
    | none => .no
    | some ρ1 => (mt ρ1).bind fun b ρ2 => if b = true then ((mk ρ2).bind fun k ρ4 => (me ρ4).bind fun t ρ5 => match k.d.key with
      | some k' => compD g mt mk me own ds (putD acc k' t.d) (wipeE ρ5 own)
      | none => .no) else compD g mt mk me own ds acc (wipeE ρ2 own)
def mDcm (it : M (List D)) (g : D → Env → Option Env) (mt : M Bool) (mk me : M T) (own : List Nat) : M T := fun ρ => (it ρ).bind fun ds ρ0 => match compD g mt mk me own ds [] (wipeE ρ0 own) with
  | .ok acc ρ1 => .ok (.od acc) (restE ρ0 ρ1 own)
  | _ => .no
structure DcSt (X : Cx) (σ : St) (own : List Nat) (D0 : Addr) (B : Addr → Prop) (H0 Z0 : Hp) (i : Nat) (ρ : Env) (acc : List (Key × D)) (H : Hp) : Prop where
  ex : ∃ fp Z vs, EnvOk X.K ρ (L2.wipe σ own) H Z fp ∧ Step B H0 Z0 H Z ∧ (∀ a, FpA fp a → B a ∨ H0 a = none) ∧ H D0 = some (.dK vs) ∧ Z D0 = none ∧ ¬ FpA fp D0 ∧ RepG X.K Z acc vs ∧ vs.length ≤ i
section
variable {X : Cx} {kx elt tg iter : Expr} {ifs : List Expr} {scope : Scope} {own : List (Str × Nat)} {pos : Pos}
theorem dc_readP {P : PreP} {it : M (List D)} {g : D → Env → Option Env} {mt : M Bool} {mk me : M T} {slots : List Nat} (hsl : ∀ i ∈ slots, i ∈ own.map (·.2)) {σ : St} {H : Hp} {Q : VK} {ρ : Env} {fp : Fp} {Z : Hp} {W : WX} (E : EnvOk X.K ρ σ H Z fp) (tk : Takes X W) (hP : P ρ σ H) (o : OutE X (FpA fp) σ H Z (mDcm it g mt mk me (own.map (·.2)) ρ) Q W) :
    tDc (iDP X P it) (gD X g slots) (tDT0 X mt) (tD0 X mk) (tD0 X me) (own.map (·.2)) σ H Q := by
  refine ⟨ρ, fp, Z, W, E, tk, hP, ?_⟩
  unfold mDcm at o
  cases q : it ρ with
  | no => rw [q] at o; exact o
  | ex x ρ' => rw [q] at o; exact o
  | ok ds ρ0 =>
    rw [q] at o
    have o0 : OutE X (FpA fp) σ H Z (match compD g mt mk me (own.map (·.2)) ds [] (wipeE ρ0 (own.map (·.2))) with
      | .ok acc ρ1 => .ok (.od acc) (restE ρ0 ρ1 (own.map (·.2)))
      | _ => .no) Q W := o
    generalize hvs : own.map (·.2) = vs at *
    intro J H0 Z0 fp0 b0 J0 D0 hD0
    have hz0 : Z0 D0 = none := b0.env.zok.none hD0
    refine ⟨fun i m H1 => m = ds.length - i ∧ i ≤ ds.length ∧ ∃ ρ1 acc, DcSt X σ vs D0 (FpA (fwipe fp0 vs)) H0 Z0 i ρ1 acc H1 ∧ compD g mt mk me vs (ds.drop i) acc ρ1 = compD g mt mk me vs ds [] (wipeE ρ0 vs), ⟨_, rfl, Nat.zero_le _, wipeE ρ0 vs, [], ⟨fwipe fp0 vs, Z0, [], ?_, step_new hD0, fun a ha => .inl ha, upd_same, hz0, fun h => ?_, .nil, Nat.zero_le _⟩, by rw [List.drop_zero]⟩, ?_⟩
    · exact (b0.env.wipe vs).keep (step_new (A := NoA) hD0) (fun _ _ h => h) (zok_new b0.env.zok hD0)
    · exact (b0.env.live (fwipe_sub h)).1 hD0
    · rintro i m H1 ⟨rfl, hi', ρ1, acc, ⟨fp1, Z1, vs1, E1, s1, n1, hD1, hzD1, nD1, r1, l1⟩, hc⟩
      obtain ⟨go, stop, yld⟩ := J0.at_ H1 Z1 E1.zok (s1.mono fun a ha => (b0.env.live (fwipe_sub ha)).2)
      by_cases hlt : i < ds.length
      · refine .inr ⟨go i hlt, fun H2 => ∃ ρ2 acc2, DcSt X σ vs D0 (FpA (fwipe fp0 vs)) H0 Z0 (i + 1) ρ2 acc2 H2 ∧ compD g mt mk me vs (ds.drop (i + 1)) acc2 ρ2 = compD g mt mk me vs ds [] (wipeE ρ0 vs), fun H' h => ⟨_, by omega, rfl, hlt, h⟩, fun x H2 y => ?_⟩
        obtain ⟨Z2, d, hd, z2, st2, rd⟩ := yld i x H2 hlt y
        have hdr : ds.drop i = d :: ds.drop (i + 1) := by
          rw [List.drop_eq_getElem_cons hlt]
          have := (List.getElem?_eq_some_iff.mp hd).2
          rw [this]
        rw [hdr] at hc
        have E2 := E1.keep st2 (fun _ _ h => h) z2
        have s2 : Step (FpA (fwipe fp0 vs)) H0 Z0 H2 Z2 := s1.trans st2 fun _ h => h.elim
        obtain ⟨hD2, hzD2⟩ := st2.keep D0 (fun h => h) (by rw [hD1]; simp)
        have hD2 : H2 D0 = some (.dK vs1) := hD2.trans hD1
        have hzD2 : Z2 D0 = none := hzD2 hzD1 (by rw [hD1]; simp)
        have r2 := RepG.mono st2.zle r1
        cases qg : g d ρ1 with
        | none =>
          rw [show compD g mt mk me vs (d :: ds.drop (i + 1)) acc ρ1 = .no by unfold compD; simp only [qg]] at hc
          rw [← hc] at o0; exact o0.elim
        | some ρ2 =>
          have hf : compD g mt mk me vs (d :: ds.drop (i + 1)) acc ρ1 = (mt ρ2).bind fun b ρ2 => if b = true then ((mk ρ2).bind fun k ρ4 => (me ρ4).bind fun t ρ5 => match k.d.key with
              | some k' => compD g mt mk me vs (ds.drop (i + 1)) (putD acc k' t.d) (wipeE ρ5 vs)
              | none => .no) else compD g mt mk me vs (ds.drop (i + 1)) acc (wipeE ρ2 vs) := by
            conv => lhs; unfold compD
            simp only [qg]
          rw [hf] at hc
          refine ⟨ρ1, fp1, Z2, d, ρ2, E2, rd, qg, fun σ2 fp2 E3 sb3 j3 l3 => ⟨wipe_eq (fun j hj => j3 j fun z => hj (hsl j z)) l3, ρ2, fp2, Z2, E3, ?_⟩⟩
          have w3 : L2.wipe σ2 vs = L2.wipe σ vs := wipe_eq (fun j hj => j3 j fun z => hj (hsl j z)) l3
          cases qt : mt ρ2 with
          | no => rw [qt] at hc; rw [← hc] at o0; exact o0.elim
          | ex x ρ' => rw [qt] at hc; rw [← hc] at o0; exact o0.elim
          | ok b ρ3 =>
            rw [qt] at hc
            intro H4 Z4 fp4 b4
            have s4 : Step (FpA (fwipe fp0 vs)) H0 Z0 H4 Z4 := s2.trans b4.step fun a ha => n1 a (sb3 a ha)
            have n4 : ∀ a, FpA fp4 a → FpA (fwipe fp0 vs) a ∨ H0 a = none := fun a ha => new_first s2 (fun a ha => n1 a (sb3 a ha)) (b4.new a ha)
            have nA2 : ¬ FpA fp2 D0 := fun h => nD1 (sb3 _ h)
            obtain ⟨k1, k2⟩ := b4.step.keep D0 nA2 (by rw [hD2]; simp)
            have hD4 : H4 D0 = some (.dK vs1) := k1.trans hD2
            have hzD4 : Z4 D0 = none := k2 hzD2 (by rw [hD2]; simp)
            have nA4 : ¬ FpA fp4 D0 := fun h => (b4.new _ h).elim nA2 (fun z => by rw [hD2] at z; cases z)
            have r4 := RepG.mono b4.step.zle r2
            cases b with
            | false =>
              rw [if_neg (by decide)]
              have hc' : compD g mt mk me vs (ds.drop (i + 1)) acc (wipeE ρ3 vs) = compD g mt mk me vs ds [] (wipeE ρ0 vs) := hc
              refine ⟨wipeE ρ3 vs, acc, ⟨fwipe fp4 vs, Z4, vs1, ?_, s4, fun a ha => n4 a (fwipe_sub ha), hD4, hzD4, fun h => nA4 (fwipe_sub h), r4, Nat.le_succ_of_le l1⟩, hc'⟩
              have := b4.env.wipe vs
              rw [w3] at this; exact this
            | true =>
              rw [if_pos rfl]
              have hc1 : ((mk ρ3).bind fun k ρ4 => (me ρ4).bind fun t ρ5 => match k.d.key with
                | some k' => compD g mt mk me vs (ds.drop (i + 1)) (putD acc k' t.d) (wipeE ρ5 vs)
                | none => .no) = compD g mt mk me vs ds [] (wipeE ρ0 vs) := hc
              refine ⟨ρ3, fp4, Z4, b4.env, ?_⟩
              cases qk : mk ρ3 with
              | no => rw [qk] at hc1; rw [← hc1] at o0; exact o0.elim
              | ex x ρ' => rw [qk] at hc1; rw [← hc1] at o0; exact o0.elim
              | ok tk ρk =>
                rw [qk] at hc1
                intro y H4' Z4' fp4' frk b4' rtk djk nwk
                obtain ⟨Zk, rk, bk⟩ := b4'.frz rtk djk nwk
                refine ⟨ρk, fp4', Zk, bk.env, ?_⟩
                simp only [R.bind] at hc1
                cases qe : me ρk with
                | no => rw [qe] at hc1; rw [← hc1] at o0; exact o0.elim
                | ex x ρ' => rw [qe] at hc1; rw [← hc1] at o0; exact o0.elim
                | ok t ρ4 =>
                  rw [qe] at hc1
                  intro v H5 Z5 fp5 fr b5' rt dj nw
                  obtain ⟨Z6, r6, b6'⟩ := b5'.frz rt dj nw
                  have b6 := bk.then b6'
                  obtain ⟨k3, k4⟩ := b6.step.keep D0 nA4 (by rw [hD4]; simp)
                  have hD6 : H5 D0 = some (.dK vs1) := k3.trans hD4
                  have hzD6 : Z6 D0 = none := k4 hzD4 (by rw [hD4]; simp)
                  have nA6 : ¬ FpA fp5 D0 := fun h => (b6.new _ h).elim nA4 (fun z => by rw [hD4] at z; cases z)
                  have r7 := RepG.mono b6.step.zle r4
                  have s6 : Step (FpA (fwipe fp0 vs)) H0 Z0 H5 Z6 := s4.trans b6.step n4
                  have n6 : ∀ a, FpA fp5 a → FpA (fwipe fp0 vs) a ∨ H0 a = none := fun a ha => new_first s4 n4 (b6.new a ha)
                  have hc2 : (match tk.d.key with
                    | some k' => compD g mt mk me vs (ds.drop (i + 1)) (putD acc k' t.d) (wipeE ρ4 vs)
                    | none => .no) = compD g mt mk me vs ds [] (wipeE ρ0 vs) := hc1
                  cases qq : tk.d.key with
                  | none => rw [qq] at hc2; rw [← hc2] at o0; exact o0.elim
                  | some k' =>
                    rw [qq] at hc2
                    have hc3 : compD g mt mk me vs (ds.drop (i + 1)) (putD acc k' t.d) (wipeE ρ4 vs) = compD g mt mk me vs ds [] (wipeE ρ0 vs) := hc2
                    have zok7 : ZOk Z6 (upd H5 D0 (.dK (putK vs1 k' v))) := fun a u e => by
                      have : a ≠ D0 := fun z => by rw [z, hzD6] at e; cases e
                      rw [upd_ne this]; exact b6.env.zok a u e
                    have s7 : Step (fun a => a = D0) H5 Z6 (upd H5 D0 (.dK (putK vs1 k' v))) Z6 := ⟨.refl _, fun a ha _ => ⟨upd_ne ha, fun hz _ => hz⟩, fun a ha => by
                      by_cases e : a = D0
                      · rw [e, upd_same]; simp
                      · rw [upd_ne e]; exact ha⟩
                    refine ⟨vs1, k', rk.key qq, hD6, Nat.lt_of_lt_of_le (Nat.lt_of_le_of_lt l1 hlt) J0.len, wipeE ρ4 vs, putD acc k' t.d, ⟨fwipe fp5 vs, Z6, putK vs1 k' v, ?_, s6.trans s7 (fun a ha => .inr (by rw [ha]; exact hD0)), fun a ha => n6 a (fwipe_sub ha), upd_same, hzD6, fun h => nA6 (fwipe_sub h), r7.put k' r6, by have := length_putK vs1 k' v; omega⟩, hc3⟩
                    have E7 := (b6.env.wipe vs).keep s7 (fun a ha e => nA6 (by rw [← e]; exact fwipe_sub ha)) zok7
                    rw [w3] at E7
                    exact E7
      · have e : i = ds.length := by omega
        subst e
        rw [List.drop_length] at hc
        have hc' : compD g mt mk me vs ds [] (wipeE ρ0 vs) = .ok acc ρ1 := hc.symm
        rw [hc'] at o0
        refine .inl ⟨stop, o0 (.ref D0) H1 Z1 (fun j => if j ∈ vs then fp0 j else fp1 j) [D0] ⟨b0.env.restore E1 s1 n1, b0.step.trans s1 (fun a ha => b0.new a (fwipe_sub ha)), fun a ⟨j, hj⟩ => ?_⟩ ⟨D0, vs1, rfl, rfl, hD1, hzD1, r1.k⟩ (fun a ha ⟨j, hj⟩ => ?_) fun a ha => b0.new' (.inr (by rw [List.mem_singleton.mp ha]; exact hD0))⟩
        · have hj : a ∈ (if j ∈ vs then fp0 j else fp1 j) := hj
          by_cases e : j ∈ vs
          · rw [if_pos e] at hj; exact b0.new a ⟨j, hj⟩
          · rw [if_neg e] at hj
            rcases n1 a ⟨j, hj⟩ with z | z
            · exact b0.new a (fwipe_sub z)
            · exact b0.new' (.inr z)
        · have e0 := List.mem_singleton.mp ha
          subst e0
          have hj : a ∈ (if j ∈ vs then fp0 j else fp1 j) := hj
          by_cases e : j ∈ vs
          · rw [if_pos e] at hj; exact (b0.env.live ⟨j, hj⟩).1 hD0
          · rw [if_neg e] at hj; exact nD1 ⟨j, hj⟩
/-- over what a name holds: its dict is locked meanwhile -/
theorem lock_gen {i : Nat} {f : D → Option (List D)} {k : List D → M T} {τ : TE} (hne : ∀ ds ρ x ρ', k ds ρ ≠ .ex x ρ')
    (hread : ∀ {σ H Q ρ fp Z W}, EnvOk X.K ρ σ H Z fp → Takes X W → Lk i ρ σ H → OutE X (FpA fp) σ H Z ((mIt f (mVar i) ρ).bind k) Q W → τ σ H Q) {σ : St} {H : Hp} {Q : VK} (q : tD X (fun ρ => (mIt f (mVar i) ρ).bind k) σ H Q) : τ σ H Q ∨ tLockE τ σ H Q := by
  obtain ⟨ρ, fp, Z, W, E, tk, o⟩ := q
  have o : OutE X (FpA fp) σ H Z ((mIt f (mVar i) ρ).bind k) Q W := o
  cases q : mVar i ρ with
  | no =>
    have : mIt f (mVar i) ρ = .no := by unfold mIt; rw [q]; rfl
    rw [this] at o; exact o.elim
  | ex x ρ' => exact (mVar_ex q).elim
  | ok t ρ' =>
    rcases lk_cases E q with h | ⟨d, u, Z', hv, hd, hz, hu, b⟩
    · exact .inl (hread E tk h o)
    · refine .inr ⟨d, u, hd, by cases u <;> first | exact trivial | exact hu.elim, fun od => ?_⟩
      obtain ⟨t0, ht0, et0⟩ := mVar_get q
      have e1 : ρ' = ρ.set i (some (.fz t0.d)) ∧ t = .fz t0.d := by
        unfold mVar at q; rw [ht0] at q; cases q; exact ⟨rfl, rfl⟩
      have hi : i < ρ.length := (List.getElem?_eq_some_iff.mp ht0).1
      have q' : mVar i ρ' = .ok t ρ' := by
        unfold mVar
        rw [e1.1, List.getElem?_set_self hi]
        show R.ok (T.fz t0.d) ((ρ.set i (some (T.fz t0.d))).set i (some (T.fz t0.d))) = _
        rw [List.set_set, e1.2]
      have same : (mIt f (mVar i) ρ').bind k = (mIt f (mVar i) ρ).bind k := by
        unfold mIt; rw [q, q']
      have E1 := b.env.lockd hz hu od
      have hA : ¬ FpA (fset fp i []) d := fun ha => by
        have := (b.env.live ha).2
        rw [hz] at this; cases this
      refine hread (W := W) E1 tk (fun t1 a1 h1 _ h2 u1 h3 h4 => ?_) ?_
      · rw [hv] at h2; cases h2
        rw [upd_same] at h3; cases h3; exact h4
      · rw [same]
        have o1 := o.first (A1 := FpA (fset fp i [])) b.step b.new
        cases qr : (mIt f (mVar i) ρ).bind k with
        | no => rw [qr] at o1; exact o1
        | ex x ρx =>
          exfalso
          have e2 : mIt f (mVar i) ρ = (match f t.d with | some ds => R.ok ds ρ' | none => .no) := by unfold mIt; rw [q]; rfl
          rw [e2] at qr
          cases hf : f t.d with
          | none => rw [hf] at qr; cases qr
          | some ds =>
            rw [hf] at qr
            exact hne ds ρ' x ρx qr
        | ok t1 ρ1 =>
          rw [qr] at o1
          intro v H' Z'' fp' fr b1 rt dj nw
          obtain ⟨h1, b2⟩ := b1.unlock hd hz hA
          refine ⟨h1, o1 v _ Z'' fp' fr b2 ?_ dj fun a ha => ?_⟩
          · refine rt.keep (A := fun a => a = d) ⟨.refl _, fun a ha _ => ⟨upd_ne ha, fun h _ => h⟩, fun a ha => ?_⟩ fun a ha e => ?_
            · by_cases e : a = d
              · rw [e, upd_same]; simp
              · rw [upd_ne e]; exact ha
            · have := (rt.live a ha).2
              rw [e, b2.step.zle d u hz] at this; cases this
          · rcases nw a ha with z | z
            · exact .inl z
            · by_cases e : a = d
              · rw [e, upd_same] at z; cases z
              · rw [upd_ne e] at z; exact .inr z
theorem tDc_var {i : Nat} {f : D → Option (List D)} {g : D → Env → Option Env} {mt : M Bool} {mk me : M T} {slots : List Nat} (hsl : ∀ i ∈ slots, i ∈ own.map (·.2)) {σ : St} {H : Hp} {Q : VK} (q : tD X (mDcm (mIt f (mVar i)) g mt mk me (own.map (·.2))) σ H Q) :
    tDc (iDP X (Lk i) (mIt f (mVar i))) (gD X g slots) (tDT0 X mt) (tD0 X mk) (tD0 X me) (own.map (·.2)) σ H Q ∨ tLockE (tDc (iDP X (Lk i) (mIt f (mVar i))) (gD X g slots) (tDT0 X mt) (tD0 X mk) (tD0 X me) (own.map (·.2))) σ H Q :=
  lock_gen (f := f) (i := i) (k := fun ds ρ0 => match compD g mt mk me (own.map (·.2)) ds [] (wipeE ρ0 (own.map (·.2))) with
    | .ok acc ρ1 => .ok (.od acc) (restE ρ0 ρ1 (own.map (·.2)))
    | _ => .no) (fun ds ρ x ρ' h => by split at h <;> cases h) (fun E tk lk o => dc_readP hsl E tk lk o) q
theorem ps_setDc {i : Nat} {y : Str} {py : Pos} {spos : Pos} {wi : TI} {g : TG} {tt : TT} {tk tv : TE} (hc : X.calm = true) (hN : X.N.Nodup) (hy : X.N[i]? = some y) (hyl : X.env.scope.names.lookup y = some .local)
    (hsw : swapsWith (.DictComp kx elt [⟨tg, iter, ifs, 0⟩] scope pos) (some (.Name y py)) spos.line X.env = pure true) (hi : PI X tg iter wi) (ok : BlkOk X.N X.env.scope scope own)
    (hg : Blks X scope fun Y => PG Y tg g) (ht : Blks X scope fun Y => PTs Y ifs tt) (hk : Blks X scope fun Y => PE Y kx tk) (he : Blks X scope fun Y => PE Y elt tv) (hs : ∀ x, foldedSetIterable iter X.env x = pure x := by intro _; rfl) :
    PS X (.Assign [.Name y py] (.DictComp kx elt [⟨tg, iter, ifs, 0⟩] scope pos) spos) (tAsg (tDc wi g tt tk tv (own.map (·.2))) (gName i)) := by
  refine ⟨fun pins s σ H D I h => ?_⟩
  rw [exec_Assign_Name_used _ _ _ _ hsw]
  refine wpAny_bind (wpAny_standAt (wpAny_bind ?_))
  show wpAny _ X.A (do let _ ← comprehension (.DictComp kx elt [⟨tg, iter, ifs, 0⟩] scope pos) scope X.env (firstIterPos [⟨tg, iter, ifs, 0⟩] pos) newDict false (eval iter X.env) (some (assign (.Name y py) X.env))) _ _ s
  have h : tDc wi g tt tk tv (own.map (·.2)) σ H (fun x H1 => gName i x σ H1 D.nx) := h
  refine wpAny_bind (thn (dc_core (Qf := fun _ s' => SP X pins D .next s') hc hN I hi ok hg ht hk he hs h fun L C s' m H' I' q hn f => ?_) fun _ s' hq => wpAny_pure (wpAny_pure hq))
  show wpAny _ _ (assign (.Name y py) X.env (.ref L)) _ _ _
  refine wpAny_assign_Name (store_ok2 (v := V.ref L) I' hN hy (.inl hyl) rfl (fun s2 I2 ⟨a, sb, ha⟩ => ?_) (.inr hyl))
  obtain ⟨f0, f1, f2, f3, f4, f5⟩ := f
  have haC : C ≠ a := by
    rcases ha with z | z
    · rw [z]; exact f1
    · exact fun e => f4 y a z e.symm
  refine ⟨m, hn.sameBut sb haC, fun h3 sb3 => ?_⟩
  exact ⟨_, H', I2.turned (t' := s2.toks) (fun b o hb e => (sb3.2 b hb).trans e) f0 f1 f3 f4 f5, q⟩
section
variable {it : M (List D)} {g : D → Env → Option Env} {mt : M Bool} {mk me : M T} {slots : List Nat} {i j : Nat} {y : Str} {py spos : Pos} {pin : List Nat} {f : D → Option (List D)}
theorem de_dc (hc : X.calm = true) (hN : X.N.Nodup) (ok : BlkOk X.N X.env.scope scope own) (hi : DI X tg iter it) (hg : Blks X scope fun Y => DG Y tg g slots) (ht : Blks X scope fun Y => DTs Y ifs mt) (hk : Blks X scope fun Y => DE Y kx mk) (he : Blks X scope fun Y => DE Y elt me)
    (hsl : ∀ i ∈ slots, i ∈ own.map (·.2) := by decide) (hs : ∀ x, foldedSetIterable iter X.env x = pure x := by intro _; rfl) : DE X (.DictComp kx elt [⟨tg, iter, ifs, 0⟩] scope pos) (mDcm it g mt mk me (own.map (·.2))) :=
  PE.weak (pe_dc hc hN hi ok hg (blk_t ht) (blk_e hk) (blk_e he) hs) fun σ H Q q => by
    obtain ⟨ρ, fp, Z, W, E, tk, o⟩ := q
    exact dc_readP hsl E tk trivial o
theorem de_dcV (hc : X.calm = true) (hN : X.N.Nodup) (ok : BlkOk X.N X.env.scope scope own) (hi : PI X tg iter (iDP X (Lk i) (mIt f (mVar i)))) (hg : Blks X scope fun Y => DG Y tg g slots) (ht : Blks X scope fun Y => DTs Y ifs mt) (hk : Blks X scope fun Y => DE Y kx mk) (he : Blks X scope fun Y => DE Y elt me)
    (hsl : ∀ i ∈ slots, i ∈ own.map (·.2) := by decide) (hs : ∀ x, foldedSetIterable iter X.env x = pure x := by intro _; rfl) : DE X (.DictComp kx elt [⟨tg, iter, ifs, 0⟩] scope pos) (mDcm (mIt f (mVar i)) g mt mk me (own.map (·.2))) := by
  have h := pe_dc (g := gD X g slots) hc hN hi ok hg (blk_t ht) (blk_e hk) (blk_e he) hs (pos := pos)
  exact PE.weak (PE.or h (pe_lock h)) fun σ H Q q => tDc_var hsl q
theorem ds_setDc (hc : X.calm = true) (hN : X.N.Nodup) (ok : BlkOk X.N X.env.scope scope own) (hi : DI X tg iter it) (hg : Blks X scope fun Y => DG Y tg g slots) (ht : Blks X scope fun Y => DTs Y ifs mt) (hk : Blks X scope fun Y => DE Y kx mk) (he : Blks X scope fun Y => DE Y elt me)
    (hsw : swapsWith (.DictComp kx elt [⟨tg, iter, ifs, 0⟩] scope pos) (some (.Name y py)) spos.line X.env = pure true) (hy : X.N[j]? = some y := by rfl) (hyl : X.env.scope.names.lookup y = some .local := by rfl)
    (hsl : ∀ i ∈ slots, i ∈ own.map (·.2) := by decide) (hs : ∀ x, foldedSetIterable iter X.env x = pure x := by intro _; rfl) (hp : j ∉ pin := by decide) : DS X pin (.Assign [.Name y py] (.DictComp kx elt [⟨tg, iter, ifs, 0⟩] scope pos) spos) (mSet j (mDcm it g mt mk me (own.map (·.2)))) := by
  refine ds_set' (PS.weak (ps_setDc (g := gD X g slots) hc hN hy hyl hsw hi ok hg (blk_t ht) (blk_e hk) (blk_e he) hs) fun D σ H q => ?_) hp
  obtain ⟨ρ, fp, Z, W, E, tk, o⟩ := q
  exact dc_readP hsl E tk trivial o
theorem ds_setDcV (hc : X.calm = true) (hN : X.N.Nodup) (ok : BlkOk X.N X.env.scope scope own) (hi : PI X tg iter (iDP X (Lk i) (mIt f (mVar i)))) (hg : Blks X scope fun Y => DG Y tg g slots) (ht : Blks X scope fun Y => DTs Y ifs mt) (hk : Blks X scope fun Y => DE Y kx mk) (he : Blks X scope fun Y => DE Y elt me)
    (hsw : swapsWith (.DictComp kx elt [⟨tg, iter, ifs, 0⟩] scope pos) (some (.Name y py)) spos.line X.env = pure true) (hy : X.N[j]? = some y := by rfl) (hyl : X.env.scope.names.lookup y = some .local := by rfl)
    (hsl : ∀ i ∈ slots, i ∈ own.map (·.2) := by decide) (hs : ∀ x, foldedSetIterable iter X.env x = pure x := by intro _; rfl) (hp : j ∉ pin := by decide) : DS X pin (.Assign [.Name y py] (.DictComp kx elt [⟨tg, iter, ifs, 0⟩] scope pos) spos) (mSet j (mDcm (mIt f (mVar i)) g mt mk me (own.map (·.2)))) := by
  have h := ps_setDc (g := gD X g slots) hc hN hy hyl hsw hi ok hg (blk_t ht) (blk_e hk) (blk_e he) hs
  refine ds_set' (PS.weak (PS.or h (ps_lock h)) fun D σ H q => ?_) hp
  rcases tDc_var hsl q with h | h
  · exact .inl h
  · exact .inr h
end
end
end Dn

set_option Elab.async false
set_option linter.all false
set_option maxRecDepth 100000
/-! Dn15: list comprehensions of two clauses. -/
namespace Dn
open PySem PySem.Spec L2
open PyProof.Rows hiding St

def compB (g : D → Env → Option Env) (mt : M Bool) (me : M T) (own : List Nat) : List D → List D → M (List D)
  | [], acc => fun ρ => .ok acc ρ
  | d :: ds, acc => fun ρ => match g d ρ with
    | none => .no
    | some ρ1 => (mt ρ1).bind fun b ρ2 => if b = true then ((me ρ2).bind fun t ρ3 => if acc.length < LIM then compB g mt me own ds (acc ++ [t.d]) (wipeE ρ3 own) else .no) else compB g mt me own ds acc (wipeE ρ2 own)
/-- the second clause's loop -/
def inL (it1 : M (List D)) (g1 : D → Env → Option Env) (mt1 : M Bool) (me : M T) (vs1 : List Nat) (acc : List D) : M (List D) := fun ρ => (it1 ρ).bind fun ds1 ρ3 => compB g1 mt1 me vs1 ds1 acc (wipeE ρ3 vs1)
def comp2 (g : D → Env → Option Env) (mt : M Bool) (inn : List D → M (List D)) (own : List Nat) : List D → List D → M (List D)
  | [], acc => fun ρ => .ok acc ρ
  | d :: ds, acc => fun ρ => match g d ρ with
    | none => .no
    | some ρ1 => (mt ρ1).bind fun b ρ2 => if b = true then ((inn acc ρ2).bind fun acc' ρ3 => comp2 g mt inn own ds acc' (wipeE ρ3 own)) else comp2 g mt inn own ds acc (wipeE ρ2 own)
def mLc2 (it : M (List D)) (g : D → Env → Option Env) (mt : M Bool) (inn : List D → M (List D)) (own : List Nat) : M T := fun ρ => (it ρ).bind fun ds ρ0 => match comp2 g mt inn own ds [] (wipeE ρ0 own) with
  | .ok acc ρ1 => .ok (.ol acc) (restE ρ0 ρ1 own)
  | _ => .no
def iD0 (X : Cx) (m : M (List D)) : TI := fun σ H Q => ∃ ρ fp Z, EnvOk X.K ρ σ H Z fp ∧ OutI X (FpA fp) σ H Z (m ρ) Q W0
section
variable {X : Cx} {elt tg iter tg1 iter1 : Expr} {ifs ifs1 : List Expr} {scope : Scope} {own : List (Str × Nat)} {pos : Pos}
abbrev stepB (fp : Fp) (D0 : Addr) : Addr → Prop := fun a => FpA fp a ∨ a = D0
theorem in_read {it1 : M (List D)} {g1 : D → Env → Option Env} {mt1 : M Bool} {me : M T} {vs1 slots1 : List Nat} (hsl : ∀ i ∈ slots1, i ∈ vs1) {σ : St} {H : Hp} {ρ : Env} {fp : Fp} {Z : Hp} (E : EnvOk X.K ρ σ H Z fp) {D0 : Addr} {ws : List V} {acc0 : List D}
    (hD : H D0 = some (.lst ws)) (hz : Z D0 = none) (nD : ¬ FpA fp D0) (r : Reps X.K Z acc0 ws) {acc' : List D} {ρ' : Env} (hok : inL it1 g1 mt1 me vs1 acc0 ρ = .ok acc' ρ') {Nx : Hp → Prop}
    (hk : ∀ H' Z' fp' ws', EnvOk X.K ρ' (L2.wipe σ vs1) H' Z' fp' → Step (stepB fp D0) H Z H' Z' → (∀ a, FpA fp' a → FpA fp a ∨ H a = none) → H' D0 = some (.lst ws') → Z' D0 = none → ¬ FpA fp' D0 → Reps X.K Z' acc' ws' → Nx H') :
    iD0 X it1 σ H fun J1 H4 => ∃ W1 : Nat → Nat → Hp → Prop, (∃ m, W1 0 m H4) ∧ ∀ j k H, W1 j k H →
      (J1.stop j H ∧ Nx H) ∨ (J1.go j H ∧ ∃ Nx1 : Hp → Prop, (∀ H', Nx1 H' → ∃ k', k' < k ∧ W1 (j + 1) k' H') ∧ ∀ x H', J1.yld j H x H' → gD X g1 slots1 x (L2.wipe σ vs1) H' fun σ3 H5 => L2.wipe σ3 vs1 = L2.wipe σ vs1 ∧ tDT0 X mt1 σ3 H5 fun b H6 =>
        if b = true then tD0 X me σ3 H6 fun y H7 => ∃ acc, H7 D0 = some (.lst acc) ∧ acc.length < sizeLine ∧ Nx1 (upd H7 D0 (.lst (acc ++ [y]))) else Nx1 H6) := by
  refine ⟨ρ, fp, Z, E, ?_⟩
  unfold inL at hok
  cases q : it1 ρ with
  | no => rw [q] at hok; cases hok
  | ex x ρ' => rw [q] at hok; cases hok
  | ok ds ρ0 =>
    rw [q] at hok
    have hok : compB g1 mt1 me vs1 ds acc0 (wipeE ρ0 vs1) = .ok acc' ρ' := hok
    intro J H0 Z0 fp0 b0 J0
    obtain ⟨kd1, kd2⟩ := b0.step.keep D0 nD (by rw [hD]; simp)
    have hD0 : H0 D0 = some (.lst ws) := kd1.trans hD
    have hz0 : Z0 D0 = none := kd2 hz (by rw [hD]; simp)
    have nD0 : ¬ FpA fp0 D0 := fun h => (b0.new _ h).elim nD (fun z => by rw [hD] at z; cases z)
    have r0 := Reps.mono b0.step.zle _ _ r
    have sub : ∀ a, (fun a => FpA (fwipe fp0 vs1) a ∨ a = D0) a → Z0 a = none := fun a ha => ha.elim (fun ha => (b0.env.live (fwipe_sub ha)).2) fun e => by rw [e]; exact hz0
    refine ⟨fun i m H1 => m = ds.length - i ∧ i ≤ ds.length ∧ ∃ ρ1 acc fp1 Z1 vs, EnvOk X.K ρ1 (L2.wipe σ vs1) H1 Z1 fp1 ∧ Step (fun a => FpA (fwipe fp0 vs1) a ∨ a = D0) H0 Z0 H1 Z1 ∧ (∀ a, FpA fp1 a → FpA (fwipe fp0 vs1) a ∨ H0 a = none) ∧ H1 D0 = some (.lst vs) ∧ Z1 D0 = none ∧ ¬ FpA fp1 D0 ∧ Reps X.K Z1 acc vs ∧
        compB g1 mt1 me vs1 (ds.drop i) acc ρ1 = .ok acc' ρ', ⟨_, rfl, Nat.zero_le _, wipeE ρ0 vs1, acc0, fwipe fp0 vs1, Z0, ws, b0.env.wipe vs1, .refl, fun a ha => .inl ha, hD0, hz0, fun h => nD0 (fwipe_sub h), r0, by rw [List.drop_zero]; exact hok⟩, ?_⟩
    rintro i m H1 ⟨rfl, hi', ρ1, acc, fp1, Z1, vs, E1, s1, n1, hD1, hzD1, nD1, r1, hc⟩
    obtain ⟨go, stop, yld⟩ := J0.at_ H1 Z1 E1.zok (s1.mono sub)
    by_cases hlt : i < ds.length
    · refine .inr ⟨go i hlt, fun H2 => ∃ ρ2 acc2 fp2 Z2 vs2, EnvOk X.K ρ2 (L2.wipe σ vs1) H2 Z2 fp2 ∧ Step (fun a => FpA (fwipe fp0 vs1) a ∨ a = D0) H0 Z0 H2 Z2 ∧ (∀ a, FpA fp2 a → FpA (fwipe fp0 vs1) a ∨ H0 a = none) ∧ H2 D0 = some (.lst vs2) ∧ Z2 D0 = none ∧ ¬ FpA fp2 D0 ∧ Reps X.K Z2 acc2 vs2 ∧
        compB g1 mt1 me vs1 (ds.drop (i + 1)) acc2 ρ2 = .ok acc' ρ', fun H' h => ⟨_, by omega, rfl, hlt, h⟩, fun x H2 y => ?_⟩
      obtain ⟨Z2, d, hd, z2, st2, rd⟩ := yld i x H2 hlt y
      have hdr : ds.drop i = d :: ds.drop (i + 1) := by
        rw [List.drop_eq_getElem_cons hlt]
        have := (List.getElem?_eq_some_iff.mp hd).2
        rw [this]
      rw [hdr] at hc
      have E2 := E1.keep st2 (fun _ _ h => h) z2
      have s2 := s1.trans st2 fun _ h => h.elim
      obtain ⟨hD2, hzD2⟩ := st2.keep D0 (fun h => h) (by rw [hD1]; simp)
      have hD2 : H2 D0 = some (.lst vs) := hD2.trans hD1
      have hzD2 : Z2 D0 = none := hzD2 hzD1 (by rw [hD1]; simp)
      have r2 := Reps.mono st2.zle _ _ r1
      cases qg : g1 d ρ1 with
      | none =>
        rw [show compB g1 mt1 me vs1 (d :: ds.drop (i + 1)) acc ρ1 = .no by unfold compB; simp only [qg]] at hc
        cases hc
      | some ρ2 =>
        have hf : compB g1 mt1 me vs1 (d :: ds.drop (i + 1)) acc ρ1 = (mt1 ρ2).bind fun b ρ2 => if b = true then ((me ρ2).bind fun t ρ3 => if acc.length < LIM then compB g1 mt1 me vs1 (ds.drop (i + 1)) (acc ++ [t.d]) (wipeE ρ3 vs1) else .no) else compB g1 mt1 me vs1 (ds.drop (i + 1)) acc (wipeE ρ2 vs1) := by
          conv => lhs; unfold compB
          simp only [qg]
        rw [hf] at hc
        refine ⟨ρ1, fp1, Z2, d, ρ2, E2, rd, qg, fun σ2 fp2 E3 sb3 j3 l3 => ⟨wipe_eq (fun j hj => j3 j fun z => hj (hsl j z)) l3, ρ2, fp2, Z2, E3, ?_⟩⟩
        have w3 : L2.wipe σ2 vs1 = L2.wipe σ vs1 := wipe_eq (fun j hj => j3 j fun z => hj (hsl j z)) l3
        cases qt : mt1 ρ2 with
        | no => rw [qt] at hc; cases hc
        | ex x ρ' => rw [qt] at hc; cases hc
        | ok b ρ3 =>
          rw [qt] at hc
          intro H4 Z4 fp4 b4
          have n1' : ∀ a, FpA fp2 a → (FpA (fwipe fp0 vs1) a ∨ a = D0) ∨ H0 a = none := fun a ha => (n1 a (sb3 a ha)).imp .inl id
          have s4 := s2.trans b4.step n1'
          have nA2 : ¬ FpA fp2 D0 := fun h => nD1 (sb3 _ h)
          obtain ⟨k1, k2⟩ := b4.step.keep D0 nA2 (by rw [hD2]; simp)
          have hD4 : H4 D0 = some (.lst vs) := k1.trans hD2
          have hzD4 : Z4 D0 = none := k2 hzD2 (by rw [hD2]; simp)
          have nA4 : ¬ FpA fp4 D0 := fun h => (b4.new _ h).elim nA2 (fun z => by rw [hD2] at z; cases z)
          have n4 : ∀ a, FpA fp4 a → FpA (fwipe fp0 vs1) a ∨ H0 a = none := fun a ha => (new_first s2 n1' (b4.new a ha)).elim (fun h => h.elim .inl fun e => absurd ha (by rw [e]; exact nA4)) .inr
          have r4 := Reps.mono b4.step.zle _ _ r2
          cases b with
          | false =>
            rw [if_neg (by decide)]
            have hc' : compB g1 mt1 me vs1 (ds.drop (i + 1)) acc (wipeE ρ3 vs1) = .ok acc' ρ' := hc
            refine ⟨wipeE ρ3 vs1, acc, fwipe fp4 vs1, Z4, vs, ?_, s4, fun a ha => n4 a (fwipe_sub ha), hD4, hzD4, fun h => nA4 (fwipe_sub h), r4, hc'⟩
            have := b4.env.wipe vs1
            rw [w3] at this; exact this
          | true =>
            rw [if_pos rfl]
            have hc1 : ((me ρ3).bind fun t ρ3 => if acc.length < LIM then compB g1 mt1 me vs1 (ds.drop (i + 1)) (acc ++ [t.d]) (wipeE ρ3 vs1) else .no) = .ok acc' ρ' := hc
            refine ⟨ρ3, fp4, Z4, b4.env, ?_⟩
            cases qe : me ρ3 with
            | no => rw [qe] at hc1; cases hc1
            | ex x ρ' => rw [qe] at hc1; cases hc1
            | ok t ρ4 =>
              rw [qe] at hc1
              have hc2 : (if acc.length < LIM then compB g1 mt1 me vs1 (ds.drop (i + 1)) (acc ++ [t.d]) (wipeE ρ4 vs1) else .no) = .ok acc' ρ' := hc1
              intro v H5 Z5 fp5 fr b5 rt dj nw
              obtain ⟨Z6, r6, b6⟩ := b5.frz rt dj nw
              by_cases hlim : acc.length < LIM
              · rw [if_pos hlim] at hc2
                obtain ⟨k3, k4⟩ := b6.step.keep D0 nA4 (by rw [hD4]; simp)
                have hD6 : H5 D0 = some (.lst vs) := k3.trans hD4
                have hzD6 : Z6 D0 = none := k4 hzD4 (by rw [hD4]; simp)
                have nA6 : ¬ FpA fp5 D0 := fun h => (b6.new _ h).elim nA4 (fun z => by rw [hD4] at z; cases z)
                have r7 := Reps.mono b6.step.zle _ _ r4
                have s6 := s4.trans b6.step fun a ha => (n4 a ha).imp .inl id
                have n6 : ∀ a, FpA fp5 a → FpA (fwipe fp0 vs1) a ∨ H0 a = none := fun a ha => (new_first s4 (fun a ha => (n4 a ha).imp (.inl : _ → FpA (fwipe fp0 vs1) a ∨ a = D0) id) (b6.new a ha)).elim (fun h => h.elim .inl fun e => absurd ha (by rw [e]; exact nA6)) .inr
                have zok7 : ZOk Z6 (upd H5 D0 (.lst (vs ++ [v]))) := fun a u e => by
                  have : a ≠ D0 := fun z => by rw [z, hzD6] at e; cases e
                  rw [upd_ne this]; exact b6.env.zok a u e
                have s7 : Step (fun a => a = D0) H5 Z6 (upd H5 D0 (.lst (vs ++ [v]))) Z6 := ⟨.refl _, fun a ha _ => ⟨upd_ne ha, fun hz _ => hz⟩, fun a ha => by
                  by_cases e : a = D0
                  · rw [e, upd_same]; simp
                  · rw [upd_ne e]; exact ha⟩
                refine ⟨vs, hD6, by rw [← r7.length]; exact Nat.lt_of_lt_of_le hlim limS, wipeE ρ4 vs1, acc ++ [t.d], fwipe fp5 vs1, Z6, vs ++ [v], ?_, s6.trans s7 (fun a ha => .inl (.inr ha)), fun a ha => n6 a (fwipe_sub ha), upd_same, hzD6, fun h => nA6 (fwipe_sub h), r7.snoc r6, hc2⟩
                have E7 := (b6.env.wipe vs1).keep s7 (fun a ha e => nA6 (by rw [← e]; exact fwipe_sub ha)) zok7
                rw [w3] at E7
                exact E7
              · rw [if_neg hlim] at hc2; cases hc2
    · have e : i = ds.length := by omega
      subst e
      rw [List.drop_length] at hc
      have hc' : (R.ok acc ρ1 : R Env (List D)) = .ok acc' ρ' := hc
      cases hc'
      refine .inl ⟨stop, hk H1 Z1 fp1 vs E1 ?_ (fun a ha => ?_) hD1 hzD1 nD1 r1⟩
      · refine (b0.step.mono (A' := stepB fp D0) fun a ha => .inl ha).trans s1 fun a ha => ?_
        rcases ha with ha | ha
        · exact (b0.new a (fwipe_sub ha)).imp .inl id
        · exact .inl (.inr ha)
      · exact new_first b0.step b0.new ((n1 a ha).imp fwipe_sub id)
structure Lc2St (X : Cx) (σ : St) (own : List Nat) (D0 : Addr) (B : Addr → Prop) (H0 Z0 : Hp) (i : Nat) (ρ : Env) (acc : List D) (H : Hp) : Prop where
  ex : ∃ fp Z vs, EnvOk X.K ρ (L2.wipe σ own) H Z fp ∧ Step B H0 Z0 H Z ∧ (∀ a, FpA fp a → B a ∨ H0 a = none) ∧ H D0 = some (.lst vs) ∧ Z D0 = none ∧ ¬ FpA fp D0 ∧ Reps X.K Z acc vs
theorem wipe_wipe {σ : St} {vs vs1 : List Nat} (hv : ∀ i ∈ vs1, i ∈ vs) : L2.wipe (L2.wipe σ vs1) vs = L2.wipe σ vs :=
  wipe_eq (fun j hj => by rw [wipe_out fun z => hj (hv j z), wipe_out hj]) (by rw [wipe_length, wipe_length])
theorem lc2_readP {P : PreP} {it : M (List D)} {g : D → Env → Option Env} {mt : M Bool} {it1 : M (List D)} {g1 : D → Env → Option Env} {mt1 : M Bool} {me : M T} {us1 slots slots1 : List Nat} (hv : ∀ i ∈ us1, i ∈ own.map (·.2)) (hsl1 : ∀ i ∈ slots1, i ∈ us1) (hsl : ∀ i ∈ slots, i ∈ own.map (·.2)) {σ : St} {H : Hp} {Q : VK} {ρ : Env} {fp : Fp} {Z : Hp} {W : WX} (E : EnvOk X.K ρ σ H Z fp) (tk : Takes X W) (hP : P ρ σ H) (o : OutE X (FpA fp) σ H Z (mLc2 it g mt (inL it1 g1 mt1 me us1) (own.map (·.2)) ρ) Q W) :
    tLc2 (iDP X P it) (gD X g slots) (tDT0 X mt) (iD0 X it1) (gD X g1 slots1) (tDT0 X mt1) (tD0 X me) (own.map (·.2)) us1 σ H Q := by
  refine ⟨ρ, fp, Z, W, E, tk, hP, ?_⟩
  unfold mLc2 at o
  cases q : it ρ with
  | no => rw [q] at o; exact o
  | ex x ρ' => rw [q] at o; exact o
  | ok ds ρ0 =>
    rw [q] at o
    have o0 : OutE X (FpA fp) σ H Z (match comp2 g mt (inL it1 g1 mt1 me us1) (own.map (·.2)) ds [] (wipeE ρ0 (own.map (·.2))) with
      | .ok acc ρ1 => .ok (.ol acc) (restE ρ0 ρ1 (own.map (·.2)))
      | _ => .no) Q W := o
    generalize hvs : own.map (·.2) = vs at *
    intro J H0 Z0 fp0 b0 J0 D0 hD0
    have hz0 : Z0 D0 = none := b0.env.zok.none hD0
    refine ⟨fun i m H1 => m = ds.length - i ∧ i ≤ ds.length ∧ ∃ ρ1 acc, Lc2St X σ vs D0 (FpA (fwipe fp0 vs)) H0 Z0 i ρ1 acc H1 ∧ comp2 g mt (inL it1 g1 mt1 me us1) vs (ds.drop i) acc ρ1 = comp2 g mt (inL it1 g1 mt1 me us1) vs ds [] (wipeE ρ0 vs), ⟨_, rfl, Nat.zero_le _, wipeE ρ0 vs, [], ⟨fwipe fp0 vs, Z0, [], ?_, step_new hD0, fun a ha => .inl ha, upd_same, hz0, fun h => ?_, rfl⟩, by rw [List.drop_zero]⟩, ?_⟩
    · exact (b0.env.wipe vs).keep (step_new (A := NoA) hD0) (fun _ _ h => h) (zok_new b0.env.zok hD0)
    · exact (b0.env.live (fwipe_sub h)).1 hD0
    · rintro i m H1 ⟨rfl, hi', ρ1, acc, ⟨fp1, Z1, vs1, E1, s1, n1, hD1, hzD1, nD1, r1⟩, hc⟩
      obtain ⟨go, stop, yld⟩ := J0.at_ H1 Z1 E1.zok (s1.mono fun a ha => (b0.env.live (fwipe_sub ha)).2)
      by_cases hlt : i < ds.length
      · refine .inr ⟨go i hlt, fun H2 => ∃ ρ2 acc2, Lc2St X σ vs D0 (FpA (fwipe fp0 vs)) H0 Z0 (i + 1) ρ2 acc2 H2 ∧ comp2 g mt (inL it1 g1 mt1 me us1) vs (ds.drop (i + 1)) acc2 ρ2 = comp2 g mt (inL it1 g1 mt1 me us1) vs ds [] (wipeE ρ0 vs), fun H' h => ⟨_, by omega, rfl, hlt, h⟩, fun x H2 y => ?_⟩
        obtain ⟨Z2, d, hd, z2, st2, rd⟩ := yld i x H2 hlt y
        have hdr : ds.drop i = d :: ds.drop (i + 1) := by
          rw [List.drop_eq_getElem_cons hlt]
          have := (List.getElem?_eq_some_iff.mp hd).2
          rw [this]
        rw [hdr] at hc
        have E2 := E1.keep st2 (fun _ _ h => h) z2
        have s2 : Step (FpA (fwipe fp0 vs)) H0 Z0 H2 Z2 := s1.trans st2 fun _ h => h.elim
        obtain ⟨hD2, hzD2⟩ := st2.keep D0 (fun h => h) (by rw [hD1]; simp)
        have hD2 : H2 D0 = some (.lst vs1) := hD2.trans hD1
        have hzD2 : Z2 D0 = none := hzD2 hzD1 (by rw [hD1]; simp)
        have r2 := Reps.mono st2.zle _ _ r1
        cases qg : g d ρ1 with
        | none =>
          rw [show comp2 g mt (inL it1 g1 mt1 me us1) vs (d :: ds.drop (i + 1)) acc ρ1 = .no by unfold comp2; simp only [qg]] at hc
          rw [← hc] at o0; exact o0.elim
        | some ρ2 =>
          have hf : comp2 g mt (inL it1 g1 mt1 me us1) vs (d :: ds.drop (i + 1)) acc ρ1 = (mt ρ2).bind fun b ρ2 => if b = true then ((inL it1 g1 mt1 me us1 acc ρ2).bind fun acc' ρ3 => comp2 g mt (inL it1 g1 mt1 me us1) vs (ds.drop (i + 1)) acc' (wipeE ρ3 vs)) else comp2 g mt (inL it1 g1 mt1 me us1) vs (ds.drop (i + 1)) acc (wipeE ρ2 vs) := by
            conv => lhs; unfold comp2
            simp only [qg]
          rw [hf] at hc
          refine ⟨ρ1, fp1, Z2, d, ρ2, E2, rd, qg, fun σ2 fp2 E3 sb3 j3 l3 => ⟨wipe_eq (fun j hj => j3 j fun z => hj (hsl j z)) l3, ρ2, fp2, Z2, E3, ?_⟩⟩
          have w3 : L2.wipe σ2 vs = L2.wipe σ vs := wipe_eq (fun j hj => j3 j fun z => hj (hsl j z)) l3
          cases qt : mt ρ2 with
          | no => rw [qt] at hc; rw [← hc] at o0; exact o0.elim
          | ex x ρ' => rw [qt] at hc; rw [← hc] at o0; exact o0.elim
          | ok b ρ3 =>
            rw [qt] at hc
            intro H4 Z4 fp4 b4
            have s4 : Step (FpA (fwipe fp0 vs)) H0 Z0 H4 Z4 := s2.trans b4.step fun a ha => n1 a (sb3 a ha)
            have n4 : ∀ a, FpA fp4 a → FpA (fwipe fp0 vs) a ∨ H0 a = none := fun a ha => new_first s2 (fun a ha => n1 a (sb3 a ha)) (b4.new a ha)
            have nA2 : ¬ FpA fp2 D0 := fun h => nD1 (sb3 _ h)
            obtain ⟨k1, k2⟩ := b4.step.keep D0 nA2 (by rw [hD2]; simp)
            have hD4 : H4 D0 = some (.lst vs1) := k1.trans hD2
            have hzD4 : Z4 D0 = none := k2 hzD2 (by rw [hD2]; simp)
            have nA4 : ¬ FpA fp4 D0 := fun h => (b4.new _ h).elim nA2 (fun z => by rw [hD2] at z; cases z)
            have r4 := Reps.mono b4.step.zle _ _ r2
            cases b with
            | false =>
              rw [if_neg (by decide)]
              have hc' : comp2 g mt (inL it1 g1 mt1 me us1) vs (ds.drop (i + 1)) acc (wipeE ρ3 vs) = comp2 g mt (inL it1 g1 mt1 me us1) vs ds [] (wipeE ρ0 vs) := hc
              refine ⟨wipeE ρ3 vs, acc, ⟨fwipe fp4 vs, Z4, vs1, ?_, s4, fun a ha => n4 a (fwipe_sub ha), hD4, hzD4, fun h => nA4 (fwipe_sub h), r4⟩, hc'⟩
              have := b4.env.wipe vs
              rw [w3] at this; exact this
            | true =>
              rw [if_pos rfl]
              have hc1 : ((inL it1 g1 mt1 me us1 acc ρ3).bind fun acc' ρ3 => comp2 g mt (inL it1 g1 mt1 me us1) vs (ds.drop (i + 1)) acc' (wipeE ρ3 vs)) = comp2 g mt (inL it1 g1 mt1 me us1) vs ds [] (wipeE ρ0 vs) := hc
              cases qe : inL it1 g1 mt1 me us1 acc ρ3 with
              | no => rw [qe] at hc1; rw [← hc1] at o0; exact o0.elim
              | ex x ρ' => rw [qe] at hc1; rw [← hc1] at o0; exact o0.elim
              | ok acc' ρ4 =>
                rw [qe] at hc1
                have hc2 : comp2 g mt (inL it1 g1 mt1 me us1) vs (ds.drop (i + 1)) acc' (wipeE ρ4 vs) = comp2 g mt (inL it1 g1 mt1 me us1) vs ds [] (wipeE ρ0 vs) := hc1
                refine in_read hsl1 b4.env hD4 hzD4 nA4 r4 qe fun H6 Z6 fp6 ws6 E6 st6 n6 hD6 hz6 nD6 r6 => ?_
                refine ⟨wipeE ρ4 vs, acc', ⟨fwipe fp6 vs, Z6, ws6, ?_, s4.trans st6 (fun a ha => ha.elim (n4 a) fun e => .inr (by rw [e]; exact hD0)), fun a ha => new_first s4 n4 (n6 a (fwipe_sub ha)), hD6, hz6, fun h => nD6 (fwipe_sub h), r6⟩, hc2⟩
                have := E6.wipe vs
                rw [wipe_wipe hv, w3] at this; exact this
      · have e : i = ds.length := by omega
        subst e
        rw [List.drop_length] at hc
        have hc' : comp2 g mt (inL it1 g1 mt1 me us1) vs ds [] (wipeE ρ0 vs) = .ok acc ρ1 := hc.symm
        rw [hc'] at o0
        refine .inl ⟨stop, o0 (.ref D0) H1 Z1 (fun j => if j ∈ vs then fp0 j else fp1 j) [D0] ⟨b0.env.restore E1 s1 n1, b0.step.trans s1 (fun a ha => b0.new a (fwipe_sub ha)), fun a ⟨j, hj⟩ => ?_⟩ ⟨D0, vs1, rfl, rfl, hD1, hzD1, r1⟩ (fun a ha ⟨j, hj⟩ => ?_) fun a ha => b0.new' (.inr (by rw [List.mem_singleton.mp ha]; exact hD0))⟩
        · have hj : a ∈ (if j ∈ vs then fp0 j else fp1 j) := hj
          by_cases e : j ∈ vs
          · rw [if_pos e] at hj; exact b0.new a ⟨j, hj⟩
          · rw [if_neg e] at hj
            rcases n1 a ⟨j, hj⟩ with z | z
            · exact b0.new a (fwipe_sub z)
            · exact b0.new' (.inr z)
        · have e0 := List.mem_singleton.mp ha
          subst e0
          have hj : a ∈ (if j ∈ vs then fp0 j else fp1 j) := hj
          by_cases e : j ∈ vs
          · rw [if_pos e] at hj; exact (b0.env.live ⟨j, hj⟩).1 hD0
          · rw [if_neg e] at hj; exact nD1 ⟨j, hj⟩
theorem blk_i {m : M (List D)} (h : Blks X scope fun Y => DI Y tg1 iter1 m) : Blks X scope fun Y => PI Y tg1 iter1 (iD0 X m) := fun s H C cl fp => PI.weak (h s H C cl fp) fun σ H Q q => by
  obtain ⟨ρ, fp', Z, E, o⟩ := q
  exact ⟨ρ, fp', Z, W0, E, takes0, trivial, o⟩
section
variable {it it1 : M (List D)} {g g1 : D → Env → Option Env} {mt mt1 : M Bool} {me : M T} {vs1 slots slots1 : List Nat} {i j : Nat} {y : Str} {py spos : Pos} {pin : List Nat} {f : D → Option (List D)}
theorem de_lc2 (hc : X.calm = true) (hN : X.N.Nodup) (ok : BlkOk X.N X.env.scope scope own) (hv : ∀ i ∈ vs1, i ∈ own.map (·.2)) (hi : DI X tg iter it) (hg : Blks X scope fun Y => DG Y tg g slots) (ht : Blks X scope fun Y => DTs Y ifs mt)
    (hi1 : Blks X scope fun Y => DI Y tg1 iter1 it1) (hg1 : Blks X scope fun Y => DG Y tg1 g1 slots1) (ht1 : Blks X scope fun Y => DTs Y ifs1 mt1) (he : Blks X scope fun Y => DE Y elt me)
    (hsl : ∀ i ∈ slots, i ∈ own.map (·.2) := by decide) (hsl1 : ∀ i ∈ slots1, i ∈ vs1 := by decide) (hs : ∀ x, foldedSetIterable iter X.env x = pure x := by intro _; rfl) (hs1 : ∀ env x, foldedSetIterable iter1 env x = pure x := by intro _ _; rfl) :
    DE X (.ListComp elt [⟨tg, iter, ifs, 0⟩, ⟨tg1, iter1, ifs1, 0⟩] scope pos) (mLc2 it g mt (inL it1 g1 mt1 me vs1) (own.map (·.2))) :=
  PE.weak (pe_lc2 hc hN hi ok hv hg (blk_t ht) (blk_i hi1) hg1 (blk_t ht1) (blk_e he) hs hs1) fun σ H Q q => by
    obtain ⟨ρ, fp, Z, W, E, tk, o⟩ := q
    exact lc2_readP hv hsl1 hsl E tk trivial o
theorem ds_setLc2 (hc : X.calm = true) (hN : X.N.Nodup) (ok : BlkOk X.N X.env.scope scope own) (hv : ∀ i ∈ vs1, i ∈ own.map (·.2)) (hi : DI X tg iter it) (hg : Blks X scope fun Y => DG Y tg g slots) (ht : Blks X scope fun Y => DTs Y ifs mt)
    (hi1 : Blks X scope fun Y => DI Y tg1 iter1 it1) (hg1 : Blks X scope fun Y => DG Y tg1 g1 slots1) (ht1 : Blks X scope fun Y => DTs Y ifs1 mt1) (he : Blks X scope fun Y => DE Y elt me)
    (hsw : swapsWith (.ListComp elt [⟨tg, iter, ifs, 0⟩, ⟨tg1, iter1, ifs1, 0⟩] scope pos) (some (.Name y py)) spos.line X.env = pure true) (hy : X.N[j]? = some y := by rfl) (hyl : X.env.scope.names.lookup y = some .local := by rfl)
    (hsl : ∀ i ∈ slots, i ∈ own.map (·.2) := by decide) (hsl1 : ∀ i ∈ slots1, i ∈ vs1 := by decide) (hs : ∀ x, foldedSetIterable iter X.env x = pure x := by intro _; rfl) (hs1 : ∀ env x, foldedSetIterable iter1 env x = pure x := by intro _ _; rfl) (hp : j ∉ pin := by decide) :
    DS X pin (.Assign [.Name y py] (.ListComp elt [⟨tg, iter, ifs, 0⟩, ⟨tg1, iter1, ifs1, 0⟩] scope pos) spos) (mSet j (mLc2 it g mt (inL it1 g1 mt1 me vs1) (own.map (·.2)))) := by
  refine ds_set' (PS.weak (ps_setLc2 (g := gD X g slots) (g1 := gD X g1 slots1) hc hN hy hyl hsw hi ok hv hg (blk_t ht) (blk_i hi1) hg1 (blk_t ht1) (blk_e he) hs hs1) fun D σ H q => ?_) hp
  obtain ⟨ρ, fp, Z, W, E, tk, o⟩ := q
  exact lc2_readP hv hsl1 hsl E tk trivial o
end
end
end Dn

set_option Elab.async false
set_option linter.all false
set_option maxRecDepth 100000
/-! Dn16: sorted(set(..)) of texts. -/
namespace Dn
open PySem PySem.Spec L2
open PyProof.Rows hiding St

def SetTO (P : Program) (w : World) (a : Addr) (l : List Str) : HO := .ext fun h => DnS.SetTx P w h a l
theorem setTO_ok {P : Program} {w : World} {H : Hp} {h : Heap} {a : Addr} {l : List Str} (R : DnS.SetTx P w h a l) : ObjOk P w H h a (SetTO P w a l) :=
  ⟨R, let ⟨_, e, _⟩ := R; ⟨_, e⟩, fun h1 h2 z k => z.at k⟩
section
variable {X : Cx}
theorem setTO_get {pins : List (Addr × Obj)} {σ : St} {H : Hp} {s : Shared} {a : Addr} {l : List Str} (I : Inv X pins σ H s) (ha : H a = some (SetTO X.prog X.w a l)) : DnS.SetTx X.prog X.w s.heap a l := by
  have x : ObjOk X.prog X.w H s.heap a (.ext fun h => DnS.SetTx X.prog X.w h a l) := I.hok a _ ha
  exact x.1
def rSetS (X : Cx) : List V → Hp → VK → Prop := fun vs H Q => ∃ (p : Addr) (ns : List Str), vs = [.ref p] ∧ SqL X.K H p (ns.map V.str) ∧ ns.length < 1000 ∧
  ∀ q l, l.Nodup → (∀ x, x ∈ l ↔ x ∈ ns) → l.length ≤ ns.length → H q = none → Q (.ref q) (upd H q (SetTO X.prog X.w q l))
theorem call_setS (hc : X.calm = true) : CallR X (.type "set") (rSetS X) := by
  intro pins s σ H vs us Q I r h
  obtain ⟨p, ns, rfl, hs, hl, q⟩ := h
  obtain ⟨its, rv, pl, _⟩ := I.list hs
  rw [Vals.ref1 r]
  refine DnS.call_strs (P := X.prog) (w := X.w) (I.ok.hd hc) pl.isList (by simpa using rv.strs) (by unfold scanBound; omega) fun s2 m => ?_
  obtain ⟨h', tk, l, rfl, R, hm, hz, hk⟩ := m
  have nd : l.Nodup := let ⟨_, _, _, nd, _⟩ := R; nd
  exact ⟨.ref s.heap.objs.size, _, I.laid (t' := tk) hk (Nat.le_refl _) (setTO_ok R), rfl, q _ l nd hm hz (I.hok.fresh (Nat.le_refl _))⟩
def rSortT (X : Cx) : List V → Hp → VK → Prop := fun vs H Q => ∃ (a : Addr) (l : List Str), vs = [.ref a] ∧ H a = some (SetTO X.prog X.w a l) ∧ l.length < 64 ∧
  ∀ ys p, ys.Perm l → sortedS ys = true → H p = none → Q (.ref p) (upd H p (.lst (ys.map V.str)))
theorem call_sortT (hc : X.calm = true) : CallR X (.builtin "sorted") (rSortT X) := by
  intro pins s σ H vs us Q I r h
  obtain ⟨a, l, rfl, ha, h64, q⟩ := h
  rw [Vals.ref1 r]
  refine DnS.sorted_tx (setTO_get I ha) (I.ok.hd hc) h64 fun s' p out c ns k g o hp hg hi hm hs => ?_
  have hn : H p = none := I.hok.fresh hp
  have hl : (ns.map V.str).length ≤ sizeLine := by rw [List.length_map, hm.length_eq]; exact Nat.le_trans (Nat.le_of_lt h64) (by decide)
  have e : s' = { s with heap := s'.heap, gens := s'.gens, drawn := s'.drawn, toks := s'.toks } := by
    obtain ⟨h1, h2, h3, h4, h5⟩ := s'
    obtain rfl : h5 = s.os := o
    rfl
  rw [e]
  exact ⟨.ref p, upd H p (.lst (ns.map V.str)), I.call (ch := []) (Un.laid k hp hn) (I.hok.laid k hp (show ObjOk X.prog X.w _ _ p (.lst (ns.map V.str)) from ⟨hl, out.toList, c, vals_of_strs hi, hg⟩)) (by rw [g]; exact I.bare) (fun _ z => nomatch z), rfl, q ns p hm hs hn⟩
def dedS : List Str → List Str
  | [] => []
  | x :: r => if x ∈ r then dedS r else x :: dedS r
theorem dedS_mem (x : Str) : ∀ l : List Str, x ∈ dedS l ↔ x ∈ l
  | [] => Iff.rfl
  | y :: r => by
    unfold dedS
    split
    · rename_i h
      rw [dedS_mem x r, List.mem_cons]
      exact ⟨.inr, fun z => z.elim (fun e => e ▸ h) id⟩
    · rw [List.mem_cons, List.mem_cons, dedS_mem x r]
theorem dedS_nodup : ∀ l : List Str, (dedS l).Nodup
  | [] => List.nodup_nil
  | y :: r => by
    unfold dedS
    split
    · exact dedS_nodup r
    · rename_i h
      exact List.nodup_cons.mpr ⟨fun z => h ((dedS_mem y r).mp z), dedS_nodup r⟩
theorem nodup_perm {l m : List Str} (h1 : l.Nodup) (h2 : m.Nodup) (h : ∀ x, x ∈ l ↔ x ∈ m) : l.Perm m :=
  (List.perm_ext_iff_of_nodup h1 h2).mpr h
def fSortSet : List D → Option T
  | [.lst ds] => match strsD ds with
    | some xs => if xs.length < 64 then some (.ol ((sortS (dedS xs)).map .str)) else none
    | none => none
  | _ => none
theorem s_sortSet : OpsSound X (fun vs H Q => rSetS X vs H fun v H' => rSortT X [v] H' Q) fSortSet := fun ds vs t H Z Q z rd e k => by
  unfold fSortSet at e
  split at e
  · rename_i xs
    obtain ⟨v, rfl, h1⟩ := rd.one
    obtain ⟨a, ws, rfl, ha, ra⟩ := h1.lst z
    split at e
    · rename_i ss q
      split at e
      · rename_i h64
        cases e
        have hx := strs_eq q
        subst hx
        obtain rfl := ra.strs
        refine ⟨a, ss, rfl, .of ha, by omega, fun q l nd hm hl hq => ⟨q, l, rfl, upd_same, by omega, fun ys p hp hs hn => ?_⟩⟩
        have hn1 : H p = none := by
          by_cases e : p = q
          · rw [e]; exact hq
          · rwa [upd_ne e] at hn
        have hperm : ys.Perm (dedS ss) := hp.trans (nodup_perm nd (dedS_nodup ss) fun x => by rw [hm, dedS_mem])
        have hy := sortS_uniq hperm hs
        subst hy
        have z1 := zok_new (o := SetTO X.prog X.w q l) z hq
        have st : Step NoA H Z (upd (upd H q (SetTO X.prog X.w q l)) p (.lst ((sortS (dedS ss)).map V.str))) Z := (step_new (A := NoA) hq).trans (step_new (A := NoA) hn) fun _ h => h.elim
        exact k (.ref p) _ Z [p] (zok_new z1 hn) (new_ol z1 hn (reps_strs _)) st fun a ha => by rw [List.mem_singleton.mp ha]; exact hn1
      · cases e
    · cases e
  · cases e
theorem de_sortSet {e : Expr} {o : Op} {p p2 pos pos2 : Pos} (hc : X.calm = true) (hg : Gl X "sorted") (hm : X.mg "sorted" = none) (hg2 : Gl X "set") (hm2 : X.mg "set" = none) (ha : DO X e o)
    (hs : starEach [e] X.env = (false, eval e X.env) :: starEach [] X.env := by rfl) (hpl : (backTo pos2 (starEach [] X.env)).any (·.1) = false := by rfl)
    (hs' : starEach [.Call (.Name "set" p2) [e] [] pos2] X.env = (false, eval (.Call (.Name "set" p2) [e] [] pos2) X.env) :: starEach [] X.env := by rfl) (hpl' : (backTo pos (starEach [] X.env)).any (·.1) = false := by rfl) :
    DE X (.Call (.Name "sorted" p) [.Call (.Name "set" p2) [e] [] pos2] [] pos) (mOps fSortSet [o]) :=
  PE.weak (pe_callB (call_sortT hc) hg hm (by decide +kernel) (pa_cons (pe_callTy (call_setS hc) hg2 hm2 (by decide +kernel) (pa_cons ha pa_nil hs) (by decide) (by decide) hs hpl) pa_nil hs') (by decide) (by decide) hs' hpl') fun σ H Q q =>
    tO_mono o (fun v H' h => h) (ops_read s_sortSet q)
end
end Dn

set_option Elab.async false
set_option linter.all false
set_option maxRecDepth 100000
/-! Dn17: zip of lists and tuples, starred displays. -/
namespace Dn
open PySem PySem.Spec L2
open PyProof.Rows hiding St

/-! ### zip -/
def rowT : D → Option (Bool × List D)
  | .lst ds => some (false, ds)
  | .tup ds => some (true, ds)
  | _ => none
def mZipB (ms : M (List D)) : M (List D) := fun ρ => (ms ρ).bind fun ds ρ' => match ds with
  | [x, y] => (match rowT x, rowT y with
    | some (_, xs), some (_, ys) => .ok (zipD xs ys) ρ'
    | _, _ => .no)
  | _ => .no
theorem rowT_at {K : PySem.W.Frag} {H Z : Hp} {d : D} {v : V} {t : Bool} {xs : List D} (z : ZOk Z H) (r : Rep K Z d v) (e : rowT d = some (t, xs)) : ∃ a ws, v = .ref a ∧ Reps K Z xs ws ∧ ∀ H2 Z2, ZOk Z2 H2 → Zle Z Z2 → SqB K t H2 a ws := by
  cases d <;> simp only [rowT, Option.some.injEq, Prod.mk.injEq, reduceCtorEq] at e
  · obtain ⟨rfl, rfl⟩ := e
    obtain ⟨a, ws, rfl, h1, h2⟩ := r
    exact ⟨a, ws, rfl, h2, fun H2 Z2 z2 l => .of (z2.lst (l _ _ h1))⟩
  · obtain ⟨rfl, rfl⟩ := e
    obtain ⟨a, ws, rfl, h1, h2⟩ := r
    exact ⟨a, ws, rfl, h2, fun H2 Z2 z2 l => .of (z2.tup (l _ _ h1))⟩
section
variable {X : Cx} {e e2 : Expr} {ms : M (List D)} {p pos tpos : Pos} {elts : List Expr} {kk : Nat}
theorem sqB_len {pins : List (Addr × Obj)} {σ : St} {H : Hp} {s : Shared} (I : Inv X pins σ H s) {t : Bool} {a : Addr} {xs : List V} (h : SqB X.K t H a xs) : xs.length ≤ sizeLine := let ⟨_, _, _, z⟩ := sqB_inv I h; z
theorem di_zipB (hg : Gl X "zip") (hm : X.mg "zip" = none) (ha : DA X [e, e2] ms) (hs : starEach [e, e2] X.env = (false, eval e X.env) :: starEach [e2] X.env := by rfl) (hpl : (backTo pos (starEach [e2] X.env)).any (·.1) = false := by rfl) :
    DI X (.Tuple elts kk tpos) (.Call (.Name "zip" p) [e, e2] [] pos) (mZipB ms) := PI.weak (PI.inv (pi_zipB hg hm ha hs hpl)) fun σ H Rq q => by
  obtain ⟨ρ, fp, Z, W, E, tk, _, o⟩ := q
  refine ⟨ρ, fp, Z, W, E, tk, ?_⟩
  unfold mZipB at o
  cases q : ms ρ with
  | no => rw [q] at o; exact o
  | ex x ρ' => rw [q] at o; exact o
  | ok ds ρ' =>
    rw [q] at o
    intro vs H' Z' fp' b r
    simp only [R.bind] at o
    split at o
    · rename_i x y
      obtain ⟨v, r1, rfl, h1, v2, r2, rfl, h2, h3⟩ := r
      have h3 : r2 = [] := h3
      subst h3
      split at o
      · rename_i t xs u ys e1 e2
        obtain ⟨a, ws, rfl, ra, ha⟩ := rowT_at b.env.zok h1 e1
        obtain ⟨c, us, rfl, rc, hc⟩ := rowT_at b.env.zok h2 e2
        have qa := ha H' Z' b.env.zok (.refl _)
        have qc := hc H' Z' b.env.zok (.refl _)
        refine ⟨a, c, ws, us, t, u, rfl, qa, qc, fun ⟨pins, s, I⟩ => o _ H' Z' fp' b ⟨?_, fun H2 Z2 z2 s2 => ?_⟩⟩
        · rw [zipD_len, ra.length]
          exact Nat.le_trans (Nat.min_le_left _ _) (sqB_len I qa)
        · have pa := ha H2 Z2 z2 s2.zle
          have pc := hc H2 Z2 z2 s2.zle
          refine ⟨fun i hi => ?_, ⟨ws, us, pa, pc, ?_⟩, fun i x H3 hi y => ?_⟩
          · rw [zipD_len, ra.length, rc.length] at hi
            exact ⟨ws, us, ws[i]'(by omega), us[i]'(by omega), pa, pc, List.getElem?_eq_getElem _, List.getElem?_eq_getElem _⟩
          · rw [zipD_len, ra.length, rc.length]; omega
          · obtain ⟨T, y1, y2, rfl, hT, rfl, e3, e4⟩ := y
            rw [zipD_len] at hi
            have hd1 : i < xs.length := by omega
            have hd2 : i < ys.length := by omega
            obtain ⟨v, h3, h4⟩ := ra.get (List.getElem?_eq_getElem hd1)
            obtain ⟨w, h5, h6⟩ := rc.get (List.getElem?_eq_getElem hd2)
            rw [e3 ws pa] at h3
            rw [e4 us pc] at h5
            cases h3; cases h5
            obtain ⟨n1, n2, n3⟩ := new_tup (K := X.K) (ds := [xs[i], ys[i]]) z2 hT ⟨_, _, rfl, Rep.mono s2.zle _ _ h4, _, _, rfl, Rep.mono s2.zle _ _ h6, rfl⟩
            exact ⟨_, .tup [xs[i], ys[i]], by rw [zipD_get, List.getElem?_eq_getElem hd1, List.getElem?_eq_getElem hd2]; simp, n2, n3, n1⟩
      · exact o.elim
    · exact o.elim
end

/-! ### *e in a display -/
theorem reps_keysC {K : PySem.W.Frag} {Z : Hp} : ∀ kvs : List (Key × D), Reps K Z (kvs.map fun kv => kD kv.1) (kvs.map (kV ∘ fun kv => kv.1))
  | [] => rfl
  | kv :: r => ⟨_, _, rfl, rep_kD _, reps_keysC r⟩
def starD : D → Option (List D)
  | .lst ds => some ds
  | .tup ds => some ds
  | .dk kvs => some (kvs.map fun kv => kD kv.1)
  | _ => none
def mAS (m : M T) (ms : M (List D)) : M (List D) := fun ρ => (m ρ).bind fun t ρ1 => match starD t.d with
  | some es => (ms ρ1).bind fun ds ρ2 => .ok (es ++ ds) ρ2
  | none => .no
section
variable {X : Cx} {e : Expr} {es : List Expr} {p : Pos} {te : TE} {t : TA}
/-- a dict's keys, gathered -/
theorem collect_keys {pins : List (Addr × Obj)} {σ : St} {H : Hp} {s : Shared} {a : Addr} {kvs : List (Key × V)} {E : Value → Shared → Prop} {Q : List Value → Shared → Prop} (hc : X.calm = true) (I : Inv X pins σ H s) (h : Rd H a (.dK kvs))
    (k : ∀ us s', Inv X pins σ H s' → Vals (kvs.map fun kv => kV kv.1) us → Q us s') : PySem.W.StarOf (model X.prog X.w) X.A E (.ref a) Q s := by
  obtain ⟨z, lo, vs, rel, dd⟩ := dk_rd I.hok h
  obtain ⟨ep, at0⟩ := dd.dictAt
  have ek : (kvs.map fun kv => kV kv.1) = vs.map fun p => kV p.1 := by
    have e := congrArg (List.map kV) rel.keys
    rwa [List.map_map, List.map_map] at e
  have lt : a < s.heap.objs.size := at0.lt_size
  have nS : s.heap.objs.size ≠ a := Nat.ne_of_gt lt
  have src := PySem.W.kdl_dict (prog := X.prog) (w := X.w) (knd := mixKind X.prog X.w) (kvs := vs) (ep := ep) lo
  have go : wpAny (model X.prog X.w) X.A (collect (.ref a)) Q E s := by
    unfold collect
    refine wpAny_bind (wpAny_runValue (codeAny_builtin F.entry_proto_collect (by
      rw [Around.under_plainId F.plain_proto_collect _]
      show wpAny _ X.A.in1 (newList [] >>= fun l => again (.builtin "list.__iadd__" ⟨[l, .ref a], []⟩)) _ _ s
      refine wpAny_bind (wpAny_newObj_type (wpAny_pure ⟨plainId_quiet F.plain_list_iadd _, codeAny_builtin F.entry_list_iadd (by
        rw [Around.under_plainId F.plain_list_iadd _]
        show wpAny _ X.A.in1 (Builtin.List.listExtendWith (.ref s.heap.objs.size) (.ref a) (.ref s.heap.objs.size)) _ _ _
        have hS : (s.heap.push { cls := .type "list", data := .seq ([] : List Value).toArray }).get? s.heap.objs.size = some { cls := .type "list", data := .seq #[] 0 } := Heap.get?_push_size _ rfl
        refine PySem.W.kdl_extend (R := wants (fun v s' => wpAny (model X.prog X.w) X.A (match v with
          | .ref a => do
            match (← load a).data with
            | .seq xs _ => pure xs.toList
            | _ => unsupported "internal:collect"
          | _ => unsupported "internal:collect") Q E s') E) (s := { s with heap := s.heap.push { cls := .type "list", data := .seq ([] : List Value).toArray } }) src (I.ok.hd hc) (src.keep _ _ at0 fun b _ o e => Heap.get?_push_of_some _ e) _ nS nS _ 0 hS (fun h' tk acc c hk hD hacc => ?_) (by rw [← rel.length]; exact z)
        show wpAny _ X.A (load s.heap.objs.size >>= _) _ _ _
        refine wpAny_bind (wpAny_load hD (wpAny_pure (k acc.toList _ (I.kept (t' := tk) fun b o e => hk b o (Nat.ne_of_lt (Heap.lt_size e)) (Heap.get?_push_of_some _ e)) ?_)))
        rw [ek]
        exact keys_at (by rw [Array.length_toList]; exact hacc.1) fun j v e => hacc.2 j v (by rw [← Array.getElem?_toList]; exact e))⟩)))))
  unfold PySem.W.StarOf notIterableAtAll
  exact wpAny_bind (wpAny_specialOf dd.typeIs F.slot_dict_iter.lookup (wpAny_pure ⟨rfl, go⟩))
def tStarA (K : PySem.W.Frag) (te : TE) (t : TA) : TA := fun σ H Q => te σ H fun x H1 => ∃ a xs, x = .ref a ∧ ((SqT K H1 a xs ∨ SqL K H1 a xs) ∨ ∃ kvs : List (Key × V), Rd H1 a (.dK kvs) ∧ xs = kvs.map fun kv => kV kv.1) ∧ t σ H1 fun ys H2 => Q (xs ++ ys) H2
theorem pa_starA (hc : X.calm = true) (he : PE X e te) (hr : PA X es t) (hs : starEach (.Starred e p :: es) X.env = (true, eval e X.env) :: starEach es X.env := by rfl) : PA X (.Starred e p :: es) (tStarA X.K te t) := by
  refine ⟨fun pos pins s σ H Q I h => PySem.W.items_star (thn (he.run pins s σ H _ I h) fun v s1 ⟨y, H1, I1, ry, a, xs, ey, hx, q⟩ => ?_) hs⟩
  subst ey
  obtain rfl : v = Value.ref a := ry
  have go : ∀ us s2, Inv X pins σ H1 s2 → Vals xs us → _ := fun us s2 I2 rv => thn (hr.run pos pins s2 σ H1 _ I2 q) fun ws s3 ⟨vs, H3, I3, r3, q3⟩ => (⟨xs ++ vs, H3, I3, rv.append r3, q3⟩ : ∃ vs' H', Inv X pins σ H' s3 ∧ Vals vs' (us ++ ws) ∧ Q vs' H')
  rcases hx with hx | ⟨kvs, hx, rfl⟩
  · exact StX.star_any I1 hx go
  · exact collect_keys hc I1 hx go
theorem da_star {m : M T} {ms : M (List D)} (hc : X.calm = true) (h : DE X e m) (k : DA X es ms) (hs : starEach (.Starred e p :: es) X.env = (true, eval e X.env) :: starEach es X.env := by rfl) : DA X (.Starred e p :: es) (mAS m ms) :=
  PA.weak (pa_starA hc h k hs) fun σ H Q q => by
    obtain ⟨ρ, fp, Z, W, E, tk, o⟩ := q
    refine ⟨ρ, fp, Z, W, E, tk, ?_⟩
    unfold mAS at o
    cases q1 : m ρ with
    | no => rw [q1] at o; exact o
    | ex x ρ' => rw [q1] at o; exact o
    | ok t ρ1 =>
      rw [q1] at o
      intro v H1 Z1 fp1 fr b1 rt dj nw
      obtain ⟨Z2, r2, b2⟩ := b1.frz rt dj nw
      simp only [R.bind] at o
      cases q2 : starD t.d with
      | none => rw [q2] at o; exact o.elim
      | some es' =>
        rw [q2] at o
        have o1 : OutA X (FpA fp) σ H Z ((ms ρ1).bind fun ds ρ2 => .ok (es' ++ ds) ρ2) Q W := o
        have key : ∃ a xs, v = V.ref a ∧ ((SqT X.K H1 a xs ∨ SqL X.K H1 a xs) ∨ ∃ kvs : List (Key × V), Rd H1 a (.dK kvs) ∧ xs = kvs.map fun kv => kV kv.1) ∧ Reps X.K Z2 es' xs := by
          cases hd : t.d <;> rw [hd] at q2 r2 <;> simp only [starD, Option.some.injEq, reduceCtorEq] at q2
          · subst q2
            obtain ⟨a, vs, rfl, h1, h2⟩ := r2
            exact ⟨a, vs, rfl, .inl (.inr (.of (b2.env.zok.lst h1))), h2⟩
          · subst q2
            obtain ⟨a, vs, rfl, h1, h2⟩ := r2
            exact ⟨a, vs, rfl, .inl (.inl (.of (b2.env.zok.tup h1))), h2⟩
          · subst q2
            obtain ⟨a, ws, rfl, h1, h2⟩ := r2
            refine ⟨a, _, rfl, .inr ⟨ws, b2.env.zok.rd (.of h1), rfl⟩, ?_⟩
            have e := h2.g.keys
            rw [show ws.map (fun kv => kV kv.1) = (ws.map (·.1)).map kV by rw [List.map_map]; rfl, ← e, List.map_map]
            exact reps_keysC _
        obtain ⟨a, xs, rfl, h1, h2⟩ := key
        refine ⟨a, xs, rfl, h1, ρ1, fp1, Z2, W, b2.env, tk, ?_⟩
        cases q3 : ms ρ1 with
        | no => rw [q3] at o1; exact o1
        | ex x ρ' =>
          rw [q3] at o1
          exact fun cls d H' Z' fp' b e => o1 cls d H' Z' fp' (b2.then b) e
        | ok ds ρ2 =>
          rw [q3] at o1
          exact fun vs H' Z' fp' b r => o1 (xs ++ vs) H' Z' fp' (b2.then b) ((Reps.mono b.step.zle _ _ h2).append r)
end
end Dn

set_option Elab.async false
set_option linter.all false
set_option maxRecDepth 100000
/-! Dn18: own exceptions: their making, several except clauses, e.f. -/
namespace Dn
open PySem PySem.Spec L2
open PyProof.Rows hiding St

/-! ### the classes -/
/-- C.__init__ read off the class C, which has none of its own -/
structure BaseI (K : PySem.W.Frag) (C : Addr) : Prop where
  rd : PySem.W.readsIn K C (.type "type") = true
  ga : PySem.W.specialIn K (.ref C) "__getattribute__" = some (some (.builtin "type.__getattribute__"))
  at_ : PySem.W.findCls K (.ref C) (.type "type") "__init__" = some (.val (.builtin "ValueError.__init__"))
section
variable {X : Cx} {x : Str} {CM : Addr} {e : Expr} {es : List Expr} {ta : TA} {p1 p2 pos : Pos}
theorem pe_ownInit {pl : Sem Bool} (B : BaseI X.K CM) (hg : Gl X x) (hm : X.mg x = some (.ref CM)) (ha : PA X (e :: es) ta) (hdb : (x == ("__debug__" : Str)) = false := by decide)
    (hc : eval (.Call (.Attribute (.Name x p1) "__init__" p2) (e :: es) [] pos) X.env = (do
      let ov ← eval (.Name x p1) X.env
      standAt p2.atName
      let (f, first) ← holding [ov] (getMethod ov "__init__" pl)
      callWith pos f first (backTo pos (starEach (e :: es) X.env)) (backToKw pos (keywordEach [] X.env))) := by rfl)
    (he : starEach (e :: es) X.env = (false, eval e X.env) :: starEach es X.env := by rfl) (hpl : (backTo pos (starEach es X.env)).any (·.1) = false := by rfl) :
    PE X (.Call (.Attribute (.Name x p1) "__init__" p2) (e :: es) [] pos) (tVeI X.K ta) := by
  refine ⟨fun pins s σ H Q I h => PySem.W.methodCall_KW (ld_glob I hg hm (PySem.W.method_cls I.kIn B.ga (PySem.W.cls_value I.kIn B.rd B.at_ (by decide +kernel) ?_)) hdb) hc⟩
  show wpAny _ _ (callWith pos (Value.builtin "ValueError.__init__") [] (backTo pos (starEach (e :: es) X.env)) []) _ _ _
  refine PyProof.Rows.callWith_method1 (thn (ha.run pos pins _ σ H _ (I.tok _) h) fun us s1 ⟨vs, H1, I1, r1, a, C, ws, ev, hl, T, ea, q⟩ => ?_) he hpl
  subst ev
  cases r1 with
  | @cons _ u0 _ ur ra rw' =>
    obtain rfl : u0 = Value.ref a := ra
    exact oinit_ok T I1 ea (by rw [← Paired.length rw', sizeLine_eq]; omega) fun s' J => ⟨.non, H1, J, rfl, q⟩
end
section
variable {P : Program} {w : World} {K : PySem.W.Frag} {mg : Str → Option Value} {base : Heap} {k : Nat} {x qual prm fld : Str} {st : Stmt} {C f : Addr} {fd : FuncData}
theorem excBinds (F : Fun K "__init__" qual st f fd) (h : ∀ (kV doc pm : Value) (an : Option Addr) (cdv ct : Value) (us : List Value), us.length = 2 → bindArgs (PySem.W.fnOf "__init__" qual (defArgs st) (defBody st) (defScope st) .none kV doc pm an cdv ct) ⟨us, []⟩ = pure ((["self", prm] : List Str).zip us)) : Binds K fd ["self", prm] [] :=
  F.binds fun kV doc pm an cdv ct us hl => h kV doc pm an cdv ct us hl
/-- self.f = given alone -/
theorem XCls.plain (hm : mg x = some (.ref C)) (T : OexC K C) (hf : PySem.W.findIn K (.ref C) "__init__" = some (some (.ref f))) (ht : PySem.W.typeIn K (.ref f) = some (.type "function")) (F : Fun K "__init__" qual st f fd) (hb : Binds K fd ["self", prm] [])
    (S : FnScope ["self", prm] ["self", prm] (defScope st)) (hno : PySem.W.findIn K (.ref C) fld = some none)
    (h : ∀ (cdv : Value) (A : Around) (outer : List PySem.Env) (s : Shared) (H : Hp) (E : XK), PSs (cxOf (L2.CX P w) P w K mg base ["self", prm] qual (defScope st) f cdv A outer s H E) (defBody st) (tOst K fld (tVar 0) (tVar 1))) : XCls P w K mg base (k + 1) x fld := by
  refine ⟨C, f, fd, _, hm, T, hf, ht, hb, F.okX S (fun vs H Q E q => by obtain ⟨_, _, rfl, _⟩ := q; rfl) fun cdv A outer s H vs Q E hr q => ⟨_, h cdv A outer s H E, ?_⟩⟩
  obtain ⟨p, y, rfl, hp, kk⟩ := q
  exact ⟨y, rfl, .ref p, rfl, p, C, rfl, T, hno, .inl ⟨hp, kk⟩⟩
/-- Base.__init__(self, text), then self.f = given -/
theorem XCls.based {msg : Str} (hm : mg x = some (.ref C)) (T : OexC K C) (hf : PySem.W.findIn K (.ref C) "__init__" = some (some (.ref f))) (ht : PySem.W.typeIn K (.ref f) = some (.type "function")) (F : Fun K "__init__" qual st f fd) (hb : Binds K fd ["self", prm] [])
    (S : FnScope ["self", prm] ["self", prm] (defScope st)) (hno : PySem.W.findIn K (.ref C) fld = some none)
    (h : ∀ (cdv : Value) (A : Around) (outer : List PySem.Env) (s : Shared) (H : Hp) (E : XK), PSs (cxOf (L2.CX P w) P w K mg base ["self", prm] qual (defScope st) f cdv A outer s H E) (defBody st) (fun D σ H => tDrop (tVeI K (tCons (tVar 0) (tCons (tC (.str msg)) tNil))) { D with nx := fun σ H => tOst K fld (tVar 0) (tVar 1) D σ H } σ H)) : XCls P w K mg base (k + 1) x fld := by
  refine ⟨C, f, fd, _, hm, T, hf, ht, hb, F.okX S (fun vs H Q E q => by obtain ⟨_, _, rfl, _⟩ := q; rfl) fun cdv A outer s H vs Q E hr q => ⟨_, h cdv A outer s H E, ?_⟩⟩
  obtain ⟨p, y, rfl, hp, kk⟩ := q
  refine ⟨.ref p, rfl, p, C, _, rfl, (show 1 ≤ 1000 by decide), T, hp, ?_⟩
  exact ⟨y, rfl, .ref p, rfl, p, C, rfl, T, hno, .inl ⟨hp, kk⟩⟩
/-- super().__init__(text), then self.f = given -/
theorem XCls.super {msg : Str} (hm : mg x = some (.ref C)) (T : OexC K C) (hf : PySem.W.findIn K (.ref C) "__init__" = some (some (.ref f))) (ht : PySem.W.typeIn K (.ref f) = some (.type "function")) (G : SupF P K qual st C f fd) (S : SupT st prm fld msg)
    (hb : ∀ (kV doc pm : Value) (an : Option Addr) (cda cc : Addr) (ct : Value) (us : List Value), us.length = 2 → bindArgs (PySem.W.ksFn "__init__" qual (defArgs st) (defBody st) (defScope st) .none kV doc pm an (.ref cda) ct cc) ⟨us, []⟩ = pure ((["self", prm] : List Str).zip us))
    (hno : PySem.W.findIn K (.ref C) fld = some none) (hs : mg "super" = none) : XCls P w K mg base (k + 1) x fld := by
  refine ⟨C, f, fd, _, hm, T, hf, ht, ?_, super_ok T G S hno hs⟩
  obtain ⟨oc, od, kV, doc, pm, an, cda, cc, ct, osl, rfl, _⟩ := G.ex
  exact .all fun us hl => hb kV doc pm an cda cc ct us hl
end

/-! ### several clauses «except X as n» -/
abbrev Clause := Value × Nat × (Addr → Value → Option Addr → TS)
def unslot (i : Nat) (D : Ends) : Ends := { nx := fun σ H => D.nx (σ.set i none) H, rt := D.rt, bk := fun σ H => D.bk (σ.set i none) H, ct := fun σ H => D.ct (σ.set i none) H }
def wMs (K : PySem.W.Frag) (Wout : WX) (D : Ends) : List Clause → WX
  | [] => Wout
  | (c, i, ts) :: r => fun cls d σ H => ∃ b, PySem.W.exmOne K cls c = some b ∧ (b = true → ∀ a, H a = none → ts a cls d (unslot i D) (σ.set i (some (.ref a))) H) ∧ (b = false → wMs K Wout D r cls d σ H)
inductive HdsAs (X : Cx) : List ExceptHandler → List Clause → Prop
  | nil : HdsAs X [] []
  | cons {x n : Str} {c : Value} {i : Nat} {ts : Addr → Value → Option Addr → TS} {b0 : Stmt} {suite : List Stmt} {np hp : Pos} {hds : List ExceptHandler} {l : List Clause} (hc : Names X x c) (hi : X.N[i]? = some n) (hl : X.env.kindOf n = some .local)
      (hsu : ∀ (a : Addr) (oe : Obj) (cls : Value) (d : Option Addr) (pn : List (Addr × Obj)), Zc cls d oe → (∃ vs, oe.data = .fields vs) → PSs (X.suite a ((a, oe) :: pn)) (b0 :: suite) (ts a cls d)) (r : HdsAs X hds l) :
      HdsAs X (.ExceptHandler (some (.Name x np)) (some n) (b0 :: suite) hp :: hds) ((c, i, ts) :: l)
section
variable {X : Cx} {Wout : WX} {pins : List (Addr × Obj)} {D : Ends}
/-- an exception that was caught and noted at this frame, the state below it -/
structure Held (X : Cx) (pins : List (Addr × Obj)) (σ : St) (H : Hp) (sI s : Shared) (B : Heap) (a : Addr) (cls : Value) (d : Option Addr) : Prop where
  inv : Inv X pins σ H sI
  nb : ∀ b o, sI.heap.get? b = some o → b ∉ frs X.stack → B.get? b = some o
  up : sI.heap.UpToSlots s.heap
  fly : HandSPX.FlyingZ B (X.env :: X.outer) a (Zc cls d) s.heap
  na : H a = none
  os : s.os = sI.os
  ag : AllBare s.gens
variable {σ : St} {H : Hp} {sI s : Shared} {B : Heap} {a : Addr} {cls : Value} {d : Option Addr}
theorem Held.suite (h : Held X pins σ H sI s B a cls d) (hf : X.env.frame = some X.env.locals) : ∃ oe, s.heap.get? a = some oe ∧ Zc cls d oe ∧ (∃ vs, oe.data = .fields vs) ∧ Inv (X.suite a ((a, oe) :: (X.pn ++ pins))) [] σ H s ∧ Inv X pins σ H s := by
  have J := h.inv.landed h.nb h.fly.1 h.up h.os h.ag
  obtain ⟨oe, vs, he, hz, hd⟩ := h.fly.there
  have nf : a ∉ frs (X.env :: X.outer) := fun hm => by
    obtain ⟨_, o', e', hno⟩ := h.fly.2.2.1.mem hm
    rw [he] at e'; cases e'
    exact hno _ hd
  refine ⟨oe, he, hz, ⟨vs, hd⟩, J.suite he hd h.na (fun z => nf (List.mem_filterMap.mpr ⟨X.env, List.mem_cons_self, by rw [hf, z]⟩)) fun hm => ?_, J⟩
  obtain ⟨e, he, q⟩ := List.mem_filterMap.mp hm
  exact nf (List.mem_filterMap.mpr ⟨e, List.mem_cons_of_mem _ he, q⟩)
theorem Held.on (hs : X.stack = X.env :: X.outer) (hf : X.env.frame = some X.env.locals) (hN : X.N.Nodup) (tk : Takes X Wout) (h : Held X pins σ H sI s B a cls d) : ∀ (hds : List ExceptHandler) (l : List Clause), HdsAs X hds l → wMs X.K Wout D l cls d σ H →
    wpAny (model X.prog X.w) X.A (handleBy (.ref a) X.env hds) (SP X pins D) X.xe s
  | _, _, .nil, w => by
    refine wpAny_handleBy_nil ?_
    obtain ⟨_, _, _, oe, vs, T, oT, ts, he, hz, hd, h1, _⟩ := id h.fly
    unfold PySem.passOn
    refine wpAny_bind (wpAny_field he hd h1 ?_)
    rw [if_neg (show ¬ ((Value.ref T == Value.none) = true) by simp)]
    have go : wpAny (model X.prog X.w) X.A (setFlight (.ref a) X.env.frame) (fun _ s4 => wpAny (model X.prog X.w) X.A (throw (.ref a) : Sem Flow) (SP X pins D) X.xe s4) X.xe s := by
      rw [hf]
      exact HandSPX.setFlight_upZ h.fly fun h4 hh up4 => wpAny_throw (tk _ _ ⟨a, B, sI, pins, σ, H, cls, d, rfl, h.inv, h.nb, h.up.trans up4, .inr (.inr (by rw [hs]; exact hh)), h.na, h.os, h.ag, w⟩)
    first
      | exact wpAny_bind (wpAny_pure (wpAny_bind go))
      | exact wpAny_bind go
  | _, _, .cons (x := x) (n := n) (c := c) (i := i) (np := np) (hp := hpos) (hds := hds) (l := l) hc hi hl hsu r, w => by
    obtain ⟨b, hb, yes, no⟩ := w
    obtain ⟨oe, he, hz, hd, S, J⟩ := h.suite hf
    refine wpAny_handleBy_cons (codeAny_handlers_test ?_) (by intro q; cases q)
    have look := PySem.W.exm_one (M := model X.prog X.w) J.kIn (fun A Q E s k q => wpAny_typeOf_ref (k _ _ he) (by rw [hz.1]; exact q)) hb
    have test : ∀ {Q : Value → Shared → Prop} {E : Value → Shared → Prop}, Q c s → wpAny (model X.prog X.w) (X.A.mark (some (.ref a))) (eval (.Name x np) X.env) Q E s := fun {Q E} q => by
      obtain ⟨g, db, hm | ⟨hm, hv, nn⟩⟩ := hc
      · exact ld_glob (X := X.suite a ((a, oe) :: (X.pn ++ pins))) S g hm q db
      · exact ld_blt (X := X.suite a ((a, oe) :: (X.pn ++ pins))) S g hm hv q nn db
    refine test (look.here ?_)
    cases b with
    | false =>
      show wpAny _ X.A (handleBy (.ref a) X.env hds) _ _ _
      exact Held.on hs hf hN tk h hds l r (no rfl)
    | true =>
      refine codeAny_handlers_suite_as (HandSPX.lands_againZ h.fly fun h4 fl4 up4 => ?_)
      obtain ⟨oe4, he4, hz4, hd4, S4, J4⟩ := Held.suite (s := { s with heap := h4 }) ⟨h.inv, h.nb, h.up.trans up4, fl4, h.na, h.os, h.ag⟩ hf
      refine store_ok (X := X.suite a ((a, oe4) :: (X.pn ++ pins))) (v := .ref a) S4 hN hi (.inl hl) rfl (fun s5 S5 => ?_) (.inr hl)
      refine wpAny_mono ((hsu a oe4 cls d (X.pn ++ pins) hz4 hd4).run [] s5 _ H _ S5 (yes rfl a h.na)) (fun f s6 q => ?_) fun _ _ z => False.elim z
      have done : ∀ {σ6 : St} {H6 : Hp} {Q : Shared → Prop}, Inv (X.suite a ((a, oe4) :: (X.pn ++ pins))) [] σ6 H6 s6 → (∀ s7, Inv X pins (σ6.set i none) H6 s7 → Q s7) → wpAny (model X.prog X.w) X.A (do bindName X.env n .none; unbindBehindTheSuite X.env n hpos) (fun _ s7 => Q s7) X.xe s6 :=
        fun {σ6 H6 Q} S6 hq => gone_ok (S6.unsuite h.inv.ok) hN hi hl hq
      cases f with
      | ret u => obtain ⟨v6, σ6, H6, S6, r6, q6⟩ := q; exact done S6 fun s7 J7 => ⟨_, _, _, J7, r6, q6⟩
      | next => obtain ⟨σ6, H6, S6, q6⟩ := q; exact done S6 fun s7 J7 => ⟨_, _, J7, q6⟩
      | brk => obtain ⟨σ6, H6, S6, q6⟩ := q; exact done S6 fun s7 J7 => ⟨_, _, J7, q6⟩
      | cont => obtain ⟨σ6, H6, S6, q6⟩ := q; exact done S6 fun s7 J7 => ⟨_, _, J7, q6⟩
theorem ps_try_ms {body : List Stmt} {h0 : ExceptHandler} {hds : List ExceptHandler} {l : List Clause} {pos : Pos} {tb : WX → TS} (hs : X.stack = X.env :: X.outer) (hf : X.env.frame = some X.env.locals) (hN : X.N.Nodup) (tk : Takes X Wout)
    (hb : ∀ (W : WX) (pn : List (Addr × Obj)) (xe : Value → Shared → Prop), Takes (X.tr pn xe) W → PassesOwn (model X.prog X.w) X.A X.env xe → PSs (X.tr pn xe) body (tb W)) (hh : HdsAs X (h0 :: hds) l) :
    PS X (.Try body (h0 :: hds) [] [] pos) (fun D σ H => tb (wMs X.K Wout D l) D σ H) := by
  refine ⟨fun pins s σ H D I h => wpAny_Try_except ?_⟩
  refine wpAny_mono ((hb (wMs X.K Wout D l) (X.pn ++ pins) (fun e s1 => wpAny (model X.prog X.w) X.A (noteFrame e X.env) (fun _ s2 => wpAny (model X.prog X.w) X.A (setFlight e none) (fun _ s3 => wpAny (model X.prog X.w) X.A (handleBy e X.env (h0 :: hds)) (SP X pins D) X.xe s3) X.xe s2) X.xe s1)
    (fun u s' xx => ?_) PassesOwn.looking).run [] s σ H D (I.toTry _) h) (fun f s1 q => ?_) fun e s1 he => he
  · obtain ⟨a, B, sI, pins', σ', H', cls, d, rfl, J', nb, up, sky, na, os, ag, w⟩ := xx
    have sk : Sky B (X.env :: X.outer) a (Zc cls d) X.env.locals s'.heap := by rw [← hs]; exact sky
    show wpAny (model X.prog X.w) X.A (noteFrame (.ref a) X.env) _ _ _
    exact Sky.land Zc.steady (by rw [I.ok.frames, hs]) hf sk fun h3 fl up3 => Held.on (s := { s' with heap := h3 }) hs hf hN tk ⟨J'.ofTry I.ok, nb, up.trans up3, fl, na, os, ag⟩ _ _ hh w
  · cases f with
    | ret u => obtain ⟨v, σ', H', J, r, q⟩ := q; exact ⟨v, σ', H', J.ofTry I.ok, r, q⟩
    | next => obtain ⟨σ', H', J, q⟩ := q; exact wpAny_execs_nil ⟨σ', H', J.ofTry I.ok, q⟩
    | brk => obtain ⟨σ', H', J, q⟩ := q; exact ⟨σ', H', J.ofTry I.ok, q⟩
    | cont => obtain ⟨σ', H', J, q⟩ := q; exact ⟨σ', H', J.ofTry I.ok, q⟩
end
end Dn

set_option Elab.async false
set_option linter.all false
set_option maxRecDepth 100000
/-! Dn19: try with clauses that give back a field; defaults; recursion; odds and ends. -/
namespace Dn
open PySem PySem.Spec L2
open PyProof.Rows hiding St

/-- what is never reached -/
theorem ds_dead {X : Cx} {pin : List Nat} {st : Stmt} : DS X pin st (fun _ => .no) := ⟨fun pins s σ H D I ⟨_, _, _, _, _, _, h⟩ => h.elim⟩
theorem de_dead {X : Cx} {e : Expr} : DE X e (fun _ => .no) := ⟨fun pins s σ H Q I ⟨_, _, _, _, _, _, h⟩ => h.elim⟩

/-! ### try: body, except X as n: return (tag, n.f) -/
structure ClauseT where
  cls : Str
  slot : Nat
  tag : Str
  fld : Str
/-- the classes that are raised, each unlike the others -/
def ExTab (K : PySem.W.Frag) (mg : Str → Option Value) (L : List Str) : Prop := ∀ y ∈ L, ∀ c ∈ L, ∀ Cy Cc, mg y = some (.ref Cy) → mg c = some (.ref Cc) → PySem.W.exmOne K (.ref Cy) (.ref Cc) = some (decide (y = c))
def pickT (x : Ex) (ρ : Env) : List ClauseT → R Env Fl
  | [] => .ex x ρ
  | c :: cs => if x.cls = c.cls then (match x.fs.lookup c.fld with
    | some d => if c.slot < ρ.length then .ok (.rt (.fz (.tup [.str c.tag, d]))) ρ else .no
    | none => .no) else pickT x ρ cs
def mTry (cs : List ClauseT) (L : List Str) (mb : M Fl) : M Fl := fun ρ => match mb ρ with
  | .ex x ρ' => if x.cls ∈ L then pickT x ρ' cs else .no
  | r => r
def tClause (K : PySem.W.Frag) (C : Addr) (c : ClauseT) : Addr → Value → Option Addr → TS := fun a cls d => tRet (tTup (tCons (tC (.str c.tag)) (tCons (tXf a cls d C c.fld (tVar c.slot)) tNil)))
inductive Cs (X : Cx) : List ExceptHandler → List ClauseT → List Clause → Prop
  | nil : Cs X [] [] []
  | cons {x n tag f : Str} {i : Nat} {C : Addr} {np hp hp2 p1 p2 p3 p4 : Pos} {j k : Nat} {hds cs l} (hg : Gl X x) (hdb : (x == ("__debug__" : Str)) = false) (hm : X.mg x = some (.ref C)) (hi : X.N[i]? = some n) (hl : X.env.kindOf n = some .local)
      (T : XfC X.K C) (hno : PySem.W.findIn X.K (.ref C) f = some none) (hd1 : (n == ("__debug__" : Str)) = false) (hd2 : (n == ("__classdict__" : Str)) = false) (r : Cs X hds cs l) :
      Cs X (.ExceptHandler (some (.Name x np)) (some n) [.Return (some (.Tuple [.Constant (.str tag) j p1, .Attribute (.Name n p2) f p3] k p4)) hp2] hp :: hds) (⟨x, i, tag, f⟩ :: cs) ((.ref C, i, tClause X.K C ⟨x, i, tag, f⟩) :: l)
section
variable {X : Cx} {pin : List Nat}
theorem lookup_rep {K : PySem.W.Frag} {Z : Hp} {f : Str} : ∀ {ks : List (Str × D)} {fs : List (Str × V)} {d : D}, fs.map (·.1) = ks.map (·.1) → Reps K Z (ks.map (·.2)) (fs.map (·.2)) → ks.lookup f = some d → ∃ v, fs.lookup f = some v ∧ Rep K Z d v
  | [], fs, d, _, _, h => by cases h
  | (k, e) :: ks, [], d, h, _, _ => by cases h
  | (k, e) :: ks, (g, v) :: fs, d, h, r, hl => by
    simp only [List.map_cons, List.cons.injEq] at h
    obtain ⟨h1, h2⟩ := h
    obtain ⟨v0, r0, e0, e1, e2⟩ := r
    simp only [List.map_cons, List.cons.injEq] at e0
    obtain ⟨rfl, rfl⟩ := e0
    have h1 : g = k := h1
    subst h1
    simp only [List.lookup] at hl ⊢
    split at hl
    · cases hl; exact ⟨v, rfl, e1⟩
    · exact lookup_rep h2 e2 hl
theorem clause_ok {a C : Addr} {oe : Obj} {cls : Value} {d : Option Addr} {pn : List (Addr × Obj)} {c : ClauseT} {n : Str} {p1 p2 p3 p4 hp : Pos} {j k : Nat} (hz : Zc cls d oe) (hf : ∃ vs, oe.data = .fields vs) (hi : X.N[c.slot]? = some n) (hl : X.env.kindOf n = some .local)
    (T : XfC X.K C) (hno : PySem.W.findIn X.K (.ref C) c.fld = some none) (hd1 : (n == ("__debug__" : Str)) = false) (hd2 : (n == ("__classdict__" : Str)) = false) :
    PSs (X.suite a ((a, oe) :: pn)) [.Return (some (.Tuple [.Constant (.str c.tag) j p1, .Attribute (.Name n p2) c.fld p3] k p4)) hp] (tClause X.K C c a cls d) :=
  pss_one (ps_ret (pe_tup (pa_cons pe_str (pa_cons (pe_xf T hno hz hf (pe_var hi (.inl hl) hd1 hd2)) pa_nil))))
theorem Cs.hds {hds : List ExceptHandler} {cs : List ClauseT} {l : List Clause} (h : Cs X hds cs l) : HdsAs X hds l := by
  induction h with
  | nil => exact .nil
  | cons hg hdb hm hi hl T hno hd1 hd2 r ih => exact .cons ⟨hg, hdb, .inl hm⟩ hi hl (fun a oe cls d pn hz hf => clause_ok (c := ⟨_, _, _, _⟩) hz hf hi hl T hno hd1 hd2) ih
theorem Cs.read {L : List Str} (hT : ExTab X.K X.mg L) {hds : List ExceptHandler} {cs : List ClauseT} {l : List Clause} (h : Cs X hds cs l) (hL : ∀ c ∈ cs, c.cls ∈ L) {A : Addr → Prop} {σ : St} {H Z : Hp} {D : Ends} {W : WX} (tk : Takes X W) {x : Ex} (hx : x.cls ∈ L) {ρ' : Env}
    (o : OutS X pin A σ H Z (pickT x ρ' cs) D W) : ∀ cls d σ' H' Z' fp', Bk X.K A σ H Z ρ' σ' H' Z' fp' → PinOk pin σ σ' → ExOk X.mg X.K Z' x cls d → wMs X.K (Wu X) D l cls d σ' H' := by
  induction h with
  | nil => exact fun cls d σ' H' Z' fp' b p e => ⟨W, tk, o cls d σ' H' Z' fp' b p e⟩
  | @cons y n tag f i C np hp hp2 p1 p2 p3 p4 j k hds cs l hg hdb hm hi hl T hno hd1 hd2 r ih =>
    intro cls d σ' H' Z' fp' b p e
    obtain ⟨C0, hC0, rfl, dd, fs, rfl, hdd, e1, e2⟩ := id e
    have hy : y ∈ L := hL ⟨y, i, tag, f⟩ List.mem_cons_self
    refine ⟨_, hT x.cls hx y hy C0 C hC0 hm, fun hb a ha => ?_, fun hb => ?_⟩
    · have hxy : x.cls = y := of_decide_eq_true hb
      have hCC : C0 = C := by
        rw [hxy] at hC0
        rw [hC0] at hm; cases hm; rfl
      subst hCC
      unfold pickT at o
      rw [if_pos hxy] at o
      cases q : x.fs.lookup f with
      | none =>
        have o' : OutS X pin A σ H Z (match x.fs.lookup f with
          | some d => if i < ρ'.length then .ok (.rt (.fz (.tup [.str tag, d]))) ρ' else .no
          | none => .no) D W := o
        rw [q] at o'; exact o'.elim
      | some v0 =>
        have o' : OutS X pin A σ H Z (match x.fs.lookup f with
          | some d => if i < ρ'.length then .ok (.rt (.fz (.tup [.str tag, d]))) ρ' else .no
          | none => .no) D W := o
        rw [q] at o'
        have o2 : OutS X pin A σ H Z (if i < ρ'.length then .ok (.rt (.fz (.tup [.str tag, v0]))) ρ' else .no) D W := o'
        by_cases hlen : i < ρ'.length
        · rw [if_pos hlen] at o2
          obtain ⟨v, hv, rv⟩ := lookup_rep e1 e2 q
          have hdH : H' dd = some (.xd fs) := by
            rcases b.env.zok dd _ hdd with h | ⟨h, _⟩
            · exact h
            · exact h.elim
          refine ⟨.ref a, by rw [List.getElem?_set_self (by rw [← b.env.len]; exact hlen)], rfl, rfl, dd, fs, v, rfl, hdH, hv, show 2 ≤ sizeLine by decide, fun t ht => ?_⟩
          obtain ⟨n1, n2, n3⟩ := new_tup (K := X.K) (ds := [.str tag, v0]) b.env.zok ht ⟨_, _, rfl, rfl, _, _, rfl, rv, rfl⟩
          exact o2 (.ref t) σ' _ _ fp' [] (b.pure n3 n2) p ⟨rfl, n1⟩ (by simp) (by simp)
        · rw [if_neg hlen] at o2; exact o2.elim
    · have hxy : x.cls ≠ y := of_decide_eq_false hb
      unfold pickT at o
      rw [if_neg hxy] at o
      exact ih (fun c hc => hL c (List.mem_cons_of_mem _ hc)) o (.ref C0) (some dd) σ' H' Z' fp' b p e
theorem ds_try {L : List Str} {body : List Stmt} {h0 : ExceptHandler} {hds : List ExceptHandler} {cs : List ClauseT} {l : List Clause} {pos : Pos} {mb : M Fl} (hs : X.stack = X.env :: X.outer) (hf : X.env.frame = some X.env.locals) (hN : X.N.Nodup)
    (hb : ∀ (pn : List (Addr × Obj)) (xe : Value → Shared → Prop), PassesOwn (model X.prog X.w) X.A X.env xe → DSs (X.tr pn xe) pin body mb) (hc : Cs X (h0 :: hds) cs l) (hT : ExTab X.K X.mg L) (hL : ∀ c ∈ cs, c.cls ∈ L := by decide) :
    DS X pin (.Try body (h0 :: hds) [] [] pos) (mTry cs L mb) :=
  PS.weak (ps_try_ms (Wout := Wu X) (tb := fun W D σ H => ∃ ρ fp Z, EnvOk X.K ρ σ H Z fp ∧ OutS X pin (FpA fp) σ H Z (mb ρ) D W) hs hf hN takes_u (fun W pn xe tk hp => PSs.weak (hb pn xe hp) fun D σ H q => by
      obtain ⟨ρ, fp, Z, E, o⟩ := q
      exact ⟨ρ, fp, Z, W, E, tk, o⟩) hc.hds) fun D σ H q => by
    obtain ⟨ρ, fp, Z, W, E, tk, o⟩ := q
    refine ⟨ρ, fp, Z, E, ?_⟩
    unfold mTry at o
    cases qb : mb ρ with
    | no => rw [qb] at o; exact o
    | ok fl ρ' =>
      rw [qb] at o
      cases fl <;> exact o
    | ex x ρ' =>
      rw [qb] at o
      have o1 : OutS X pin (FpA fp) σ H Z (if x.cls ∈ L then pickT x ρ' cs else .no) D W := o
      by_cases hx : x.cls ∈ L
      · rw [if_pos hx] at o1
        exact hc.read hT hL tk hx o1
      · rw [if_neg hx] at o1; exact o1.elim
end

/-! ### how many arguments -/
theorem mA0_len {ρ : Env} {ds : List D} {ρ' : Env} (h : mA0 ρ = .ok ds ρ') : ds.length = 0 := by cases h; rfl
theorem mA1_len {m : M T} {ms : M (List D)} {n : Nat} (hm : ∀ {ρ ds ρ'}, ms ρ = .ok ds ρ' → ds.length = n) {ρ : Env} {ds : List D} {ρ' : Env} (h : mA1 m ms ρ = .ok ds ρ') : ds.length = n + 1 := by
  unfold mA1 at h
  cases q : m ρ with
  | no => rw [q] at h; cases h
  | ex x ρ1 => rw [q] at h; cases h
  | ok t ρ1 =>
    rw [q] at h
    have h : ((ms ρ1).bind fun ds ρ2 => R.ok (t.d :: ds) ρ2) = .ok ds ρ' := h
    cases q2 : ms ρ1 with
    | no => rw [q2] at h; cases h
    | ex x ρ2 => rw [q2] at h; cases h
    | ok es ρ2 =>
      rw [q2] at h
      cases h
      rw [List.length_cons, hm q2]

/-! ### defs with defaults; a def that is never entered -/
section
variable {P : Program} {w : World} {K : PySem.W.Frag} {mg : Str → Option Value} {base : Heap} {x qual : Str} {st : Stmt} {f : Addr} {fd : FuncData} {N ps : List Str} {k : Nat} {m : M Fl}
theorem body_D {cdv : Value} {A : Around} {outer : List PySem.Env} {s : Shared} {H : Hp} {vs : List V} {Q : VK} {E : XK} (hN : ps.length ≤ N.length) (h : DSs (cxOf (L2.CX P w) P w K mg base N qual (defScope st) f cdv A outer s H E) [] (defBody st) m) (q : spD K mg ps.length (runD N.length m) vs H Q E) :
    ∃ t, PSs (cxOf (L2.CX P w) P w K mg base N qual (defScope st) f cdv A outer s H E) (defBody st) t ∧ t { nx := fun _ H' => Q .non H', rt := Q } (start N vs) H := by
  obtain ⟨hl, ds, Z, z, r, o⟩ := q
  refine ⟨_, h, _, _, Z, _, env_start z r (by rw [hl]; exact hN), takes_of rfl rfl rfl rfl, ?_⟩
  have hA : ∀ a, ¬ FpA (fun _ => []) a := fun a ⟨i, hi⟩ => by simp at hi
  have st0 : ∀ {H' Z' : Hp}, Step (FpA fun _ => []) H Z H' Z' → Step NoA H Z H' Z' := fun s => s.mono fun a ha => hA a ha
  unfold runD at o
  cases q : m (env0 N.length (ds.map T.fz)) with
  | no => rw [q] at o; exact o
  | ex x ρ =>
    rw [q] at o
    exact fun cls d σ' H' Z' fp' b _ e => o cls d H' Z' b.env.zok e (st0 b.step)
  | ok fl ρ =>
    rw [q] at o
    cases fl with
    | nx => exact fun σ' H' Z' fp' b _ => o .non H' Z' [] b.env.zok ⟨rfl, rfl⟩ (st0 b.step) (by simp)
    | bk => exact o.elim
    | ct => exact o.elim
    | rt t => exact fun v σ' H' Z' fp' fr b _ rt dj nw => o v H' Z' fr b.env.zok rt (st0 b.step) fun a ha => (nw a ha).resolve_left (hA a)
theorem FnScope.le {sc : Scope} (S : FnScope N ps sc) : ps.length ≤ N.length := by
  have := congrArg List.length S.pre
  rw [List.length_take] at this; omega
/-- every argument is written -/
theorem FnD.ofD {dvs : List V} {kws : List (Str × V)} (hm : mg x = some (.ref f)) (G : FunD K x qual (defArgs st) (defBody st) (defScope st) dvs kws f fd) (S : FnScope N ps (defScope st)) (b : ∃ ds, Vals [] ds ∧ Binds K fd ps ds)
    (h : ∀ (cdv : Value) (A : Around) (outer : List PySem.Env) (s : Shared) (H : Hp) (E : XK), Room k (A.deeper (envOfC qual (defScope st) s.heap.objs.size f cdv)) →
      DSs (cxOf (L2.CX P w) P w K mg base N qual (defScope st) f cdv A outer s H E) [] (defBody st) m) : FnD P w K mg base (k + 1) x ps.length (runD N.length m) := by
  obtain ⟨ds, hv, b⟩ := b
  cases hv
  exact ⟨f, fd, ps, hm, G.kp, b, G.ok S (fun vs H Q E q => q.1) fun cdv A outer s H vs Q E hr q => body_D (FnScope.le S) (h cdv A outer s H E hr) q⟩
/-- the last arguments are left out; nothing is raised -/
structure FnE (P : Program) (w : World) (K : PySem.W.Frag) (mg : Str → Option Value) (base : Heap) (k : Nat) (x : Str) (n : Nat) (F : List D → R Unit T) (es : List D) : Prop where
  ex : ∃ f fd ps dvs ds, mg x = some (.ref f) ∧ PySem.W.keepIn K (.ref f) = true ∧ (∀ Z, Reps K Z es dvs) ∧ Vals dvs ds ∧ Binds K fd ps ds ∧ FnOk P w K mg base (L2.CX P w) k f fd ps (spD K mg n F)
theorem FnE.mono {j n : Nat} {F : List D → R Unit T} {es : List D} (h : FnE P w K mg base j x n F es) (hjk : j ≤ k) : FnE P w K mg base k x n F es := by
  obtain ⟨f, fd, ps, dvs, ds, h1, h2, h3, h4, h5, h6⟩ := h.ex
  exact ⟨f, fd, ps, dvs, ds, h1, h2, h3, h4, h5, h6.mono hjk⟩
theorem FnE.ofD {dvs dv2 : List V} {kws : List (Str × V)} {es : List D} (hm : mg x = some (.ref f)) (G : FunD K x qual (defArgs st) (defBody st) (defScope st) dvs kws f fd) (S : FnScope N ps (defScope st)) (b : ∃ ds, Vals dv2 ds ∧ Binds K fd ps ds) (he : ∀ Z, Reps K Z es dv2)
    (h : ∀ (cdv : Value) (A : Around) (outer : List PySem.Env) (s : Shared) (H : Hp) (E : XK), Room k (A.deeper (envOfC qual (defScope st) s.heap.objs.size f cdv)) →
      DSs (cxOf (L2.CX P w) P w K mg base N qual (defScope st) f cdv A outer s H E) [] (defBody st) m) : FnE P w K mg base (k + 1) x ps.length (runD N.length m) es := by
  obtain ⟨ds, hv, b⟩ := b
  exact ⟨f, fd, ps, dv2, ds, hm, G.kp, he, hv, b, G.ok S (fun vs H Q E q => q.1) fun cdv A outer s H vs Q E hr q => body_D (FnScope.le S) (h cdv A outer s H E hr) q⟩
/-- .. and a promise of nothing -/
theorem FnD.no {n : Nat} (hm : mg x = some (.ref f)) (G : Fun K x qual st f fd) (S : FnScope N ps (defScope st)) (b : Binds K fd ps []) (hn : n = ps.length) : FnD P w K mg base (k + 1) x n (fun _ => .no) :=
  ⟨f, fd, ps, hm, G.kp, b, G.okX S (fun vs H Q E q => q.1.trans hn) fun cdv A outer s H vs Q E hr q => by obtain ⟨_, _, _, _, _, h⟩ := q; exact h.elim⟩
end
def mCallE (F : List D → R Unit T) (es : List D) (ms : M (List D)) : M T := fun ρ => (ms ρ).bind fun ds ρ' => match F (ds ++ es) with
  | .ok t _ => .ok t ρ'
  | _ => .no
section
variable {X : Cx} {e : Expr} {es : List Expr} {x : Str} {p pos : Pos} {k n : Nat}
theorem de_callE {F : List D → R Unit T} {des : List D} {ms : M (List D)} (G : FnE X.prog X.w X.K X.mg X.base k x n F des) (hr : Room k X.A) (hg : Gl X x) (ha : DA X (e :: es) ms) (hlen : ∀ ρ ds ρ', ms ρ = .ok ds ρ' → ds.length + des.length = n) (hdb : (x == ("__debug__" : Str)) = false := by decide)
    (he : starEach (e :: es) X.env = (false, eval e X.env) :: starEach es X.env := by rfl) (hpl : (backTo pos (starEach es X.env)).any (·.1) = false := by rfl) : DE X (.Call (.Name x p) (e :: es) [] pos) (mCallE F des ms) := by
  obtain ⟨f, fd, ps, dvs, dd, h1, h2, h3, h4, h5, h6⟩ := G.ex
  refine PE.weak (pe_call (E := fun _ _ _ => False) h6 hr hg h1 h2 h5 h4 (fun _ _ _ _ _ _ _ hh => by
    obtain ⟨_, _, _, _, _, _, _, _, _, _, _, _, z⟩ := hh
    exact z.elim) ha hdb he hpl) fun σ H Q q => ?_
  obtain ⟨ρ, fp, Z, W, E, tk, o⟩ := q
  refine ⟨ρ, fp, Z, W, E, tk, ?_⟩
  unfold mCallE at o
  cases q : ms ρ with
  | no => rw [q] at o; exact o
  | ex x ρ' => rw [q] at o; exact o
  | ok ds ρ1 =>
    rw [q] at o
    intro vs H1 Z1 fp1 b1 r
    have r2 : Reps X.K Z1 (ds ++ des) (vs ++ dvs) := r.append (h3 Z1)
    refine ⟨by rw [← r2.length, List.length_append]; exact hlen _ _ _ q, ds ++ des, Z1, b1.env.zok, r2, ?_⟩
    have o1 : OutE X (FpA fp) σ H Z (match F (ds ++ des) with
      | .ok t _ => .ok t ρ1
      | _ => .no) Q W := o
    cases q2 : F (ds ++ des) with
    | no => rw [q2] at o1; exact o1
    | ex x u => rw [q2] at o1; exact o1.elim
    | ok t u =>
      rw [q2] at o1
      exact fun v H' Z' fr z' rt st nw => o1 v H' Z' fp1 fr (b1.pure st z') rt (fun a ha hn => (b1.env.live hn).1 (nw a ha)) fun a ha => b1.new' (.inr (nw a ha))
end
end Dn

set_option Elab.async false
set_option linter.all false
set_option maxRecDepth 100000
/-! Dn20: list(d.values()); a display whose keys are tuples. -/
namespace Dn
open PySem PySem.Spec L2
open PyProof.Rows hiding St

/-- the view of the values of the dict at d -/
def ValsO (r d : Addr) : HO := .ext fun h => h.IsValuesView r d
theorem valsO_ok {P : Program} {w : World} {H : Hp} {h : Heap} {r d : Addr} (R : h.IsValuesView r d) : ObjOk P w H h r (ValsO r d) :=
  ⟨R, let ⟨o, e, _⟩ := R; ⟨o, e⟩, fun h1 h2 ⟨o, e, q⟩ k => ⟨o, k _ e, q⟩⟩
section
variable {X : Cx} {e : Expr} {td : TE} {apos cpos p pos : Pos} {o : Op}
def tValsO (td : TE) : TE := fun σ H Q => td σ H fun x H1 => ∃ d kvs, x = .ref d ∧ Rd H1 d (.dK kvs) ∧ ∀ r, H1 r = none → Q (.ref r) (upd H1 r (ValsO r d))
theorem pe_valsO (he : PE X e td) (hbase : attributeBase e "values" X.env (eval e X.env) = eval e X.env := by rfl) (hline : (apos.endLine == cpos.line) = true := by rfl) : PE X (.Call (.Attribute e "values" apos) [] [] cpos) (tValsO td) := by
  refine ⟨fun pins s σ H Q I h => wpAny_Call_method (T := "dict") (id := "dict.values") hbase rfl hline F.plainAttrs_dict F.slot_dict_values F.type_dict_values (thn (he.run pins s σ H _ I h) fun u s1 ⟨x, H1, I1, rx, d, kvs, ex, hd, q⟩ => ?_)⟩
  subst ex
  obtain rfl : u = Value.ref d := rx
  obtain ⟨z, lo, vs, rel, dd⟩ := dk_rd I1.hok hd
  obtain ⟨ep, hat⟩ := dd.dictAt
  refine ⟨hat.dictOf.typeIs, hat.dictOf.mapOf.noDict, ?_⟩
  have vw : (s1.heap.push { cls := .type "dict_values", data := .fields #[.ref d] }).IsValuesView s1.heap.objs.size d := ⟨_, Heap.get?_push_size _ rfl, rfl, rfl⟩
  have I2 := I1.laid (t' := s1.toks) (o := ValsO s1.heap.objs.size d) (fun b ob q => Heap.get?_push_of_some { cls := .type "dict_values", data := .fields #[.ref d] } q) (Nat.le_refl _) (valsO_ok vw)
  show wpAny _ _ (callWith cpos (.builtin "dict.values") [.ref d] [] []) _ X.xe s1
  exact method_meetsIn F.slot_dict_values F.entry_dict_values rfl (PySem.evalArgs_none ⟨rfl, hat.dictOf.typeIs, F.args_dict_values_1 _, _, meets_dict_values (mixKind X.prog X.w) d lo, ⟨vs, hat.dictOf⟩, ⟨.ref s1.heap.objs.size, _, I2, rfl, q _ (I1.hok.fresh (Nat.le_refl _))⟩⟩)
def rListV : List V → Hp → VK → Prop := fun xs H Q => ∃ (r d : Addr) (kvs : List (Key × V)), xs = [.ref r] ∧ H r = some (ValsO r d) ∧ Rd H d (.dK kvs) ∧ ∀ p, H p = none → Q (.ref p) (upd H p (.lst (kvs.map (·.2))))
theorem kv_vals {kvs : List (Key × V)} {vs : List (Key × Value)} (r : KV kvs vs) : Vals (kvs.map (·.2)) (vs.map (·.2)) := by
  induction r with
  | nil => exact .nil
  | cons h t ih => exact .cons h.2 ih
theorem call_listV (hc : X.calm = true) : CallR X (.type "list") rListV := by
  intro pins s σ H xs us Q I r q
  obtain ⟨rv, d, kvs, rfl, hv, hd, q⟩ := q
  rw [Vals.ref1 r]
  obtain ⟨z, lo, vs, rel, dd⟩ := dk_rd I.hok hd
  obtain ⟨ep, hat⟩ := dd.dictAt
  have vw : s.heap.IsValuesView rv d := by
    have x : ObjOk X.prog X.w H s.heap rv (.ext fun h => h.IsValuesView rv d) := I.hok rv _ hv
    exact x.1
  refine PySem.W.kdl_call (PySem.W.kdl_values (knd := mixKind X.prog X.w) (kvs := vs) (ep := ep)) (I.ok.hd hc) ⟨vw, hat⟩ (by rw [← rel.length]; exact z) fun h' tk acc c' hk hD hacc => ?_
  have ev : acc.toList = vs.map (·.2) := by
    apply List.ext_getElem?
    intro j
    rw [Array.getElem?_toList, List.getElem?_map]
    cases qa : acc[j]? with
    | none =>
      have := Array.getElem?_eq_none_iff.mp qa
      rw [List.getElem?_eq_none (by rw [hacc.1] at this; exact this)]; rfl
    | some u =>
      obtain ⟨k, hk⟩ := hacc.2 j u qa
      rw [hk]; rfl
  have hl : (kvs.map (·.2)).length ≤ sizeLine := by rw [List.length_map]; exact z
  exact ⟨.ref s.heap.objs.size, _, I.laid (t' := tk) hk (Nat.le_refl _) (show ObjOk X.prog X.w _ _ _ (.lst (kvs.map (·.2))) from ⟨hl, acc.toList, c', by rw [ev]; exact kv_vals rel, by rw [Array.toArray_toList]; exact hD⟩), rfl, q _ (I.hok.fresh (Nat.le_refl _))⟩
def fValsL : List D → Option T
  | [.dk kvs] => some (.ol (kvs.map (·.2)))
  | _ => none
theorem s_valsL : OpsSound X (fun vs H Q => ∃ d kvs, vs = [.ref d] ∧ Rd H d (.dK kvs) ∧ ∀ r, H r = none → rListV [.ref r] (upd H r (ValsO r d)) Q) fValsL := fun ds vs t H Z Q z rd e k => by
  unfold fValsL at e
  split at e
  · rename_i kvs
    cases e
    obtain ⟨v, rfl, h1⟩ := rd.one
    obtain ⟨d, ws, rfl, hd, rw'⟩ := h1.dk z
    refine ⟨d, ws, rfl, hd, fun r hr => ⟨r, d, ws, rfl, upd_same, ?_, fun p hp => ?_⟩⟩
    · rcases hd with h | ⟨ob, h⟩
      · exact .inl (by rw [upd_ne (ne_of_none h hr)]; exact h)
      · exact .inr ⟨ob, by rw [upd_ne (ne_of_none h hr)]; exact h⟩
    · have hp1 : H p = none := by
        by_cases e : p = r
        · rw [e]; exact hr
        · rwa [upd_ne e] at hp
      have z1 := zok_new (o := ValsO r d) z hr
      exact k (.ref p) _ Z [p] (zok_new z1 hp) (new_ol z1 hp rw'.g.vals) ((step_new (A := NoA) hr).trans (step_new (A := NoA) hp) fun _ h => h.elim) fun a ha => by rw [List.mem_singleton.mp ha]; exact hp1
  · cases e
theorem de_listVals (hc : X.calm = true) (hg : Gl X "list") (hm : X.mg "list" = none) (ha : DO X e o) (hbase : attributeBase e "values" X.env (eval e X.env) = eval e X.env := by rfl) (hline : (apos.endLine == cpos.line) = true := by rfl)
    (hs : starEach [.Call (.Attribute e "values" apos) [] [] cpos] X.env = (false, eval (.Call (.Attribute e "values" apos) [] [] cpos) X.env) :: starEach [] X.env := by rfl) (hpl : (backTo pos (starEach [] X.env)).any (·.1) = false := by rfl) :
    DE X (.Call (.Name "list" p) [.Call (.Attribute e "values" apos) [] [] cpos] [] pos) (mOps fValsL [o]) :=
  PE.weak (pe_callTy (call_listV hc) hg hm (by decide +kernel) (pa_cons (pe_valsO ha hbase hline) pa_nil hs) (by decide) (by decide) hs hpl) fun σ H Q q =>
    tO_mono o (fun v H' h => by
      obtain ⟨d, kvs, e, hd, k⟩ := h
      cases e
      exact ⟨d, kvs, rfl, hd, k⟩) (ops_read s_valsL q)
end

/-! ### {t: v}, t a tuple -/
section
variable {X : Cx} {k v : Expr} {tk tv : TE} {pos : Pos}
def tDispT1 (tk tv : TE) : TE := fun σ H Q => ∀ p, H p = none → tk σ (upd H p (.dT [])) fun y H1 => tv σ H1 fun z H2 => ∃ (ks : List Key) (b : Addr), y = .ref b ∧ H2 b = some (.tup (ks.map kV)) ∧ H2 p = some (.dT []) ∧ Q (.ref p) (upd H2 p (.dT [(ks, z)]))
theorem pe_dispT1 (hu : X.A.units + 1 < cLine) (hk : PE X k tk) (hv : PE X v tv) : PE X (.Dict [some k] [v] pos) (tDispT1 tk tv) := by
  refine ⟨fun pins s σ H Q I h => ?_⟩
  rw [arm_eval_Dict, zip_pairTrees [some k] [v] X.env pos rfl rfl, dictDisplay_pairs (pairTrees [some k] [v] X.env pos) (by intro z; cases z) (show (1 : Nat) < 17 by decide)]
  refine wpAny_bind (wpAny_standAt (wpAny_bind ?_))
  unfold subDict
  refine wpAny_bind (wpAny_alloc (wpAny_bind (wpAny_holding ?_)))
  rw [if_pos (show (pairTrees [some k] [v] X.env pos).length ≤ 15 from (show (1 : Nat) ≤ 15 by decide))]
  have I1 := I.laid (a := s.heap.objs.size) (o := .dT []) (h' := s.heap.push { cls := .type "dict", data := .dict #[] }) (t' := s.toks) (fun _ _ q => Heap.get?_push_of_some _ q) (Nat.le_refl _) (dt_empty s.heap I.big)
  have hn := I.hok.fresh (Nat.le_refl s.heap.objs.size)
  refine wpAny_bind (pairTrees_cons_walk (thn (hk.run pins _ σ _ _ I1 (h _ hn)) fun uk s2 ⟨y, H2, I2, ry, q2⟩ => thn (hv.run pins s2 σ H2 _ I2 q2) fun uv s3 ⟨z, H3, I3, rz, ks, b, ey, hb, hp, q⟩ => ?_))
  subst ey
  obtain rfl : uk = Value.ref b := ry
  refine evalPairs_nil ?_
  obtain ⟨zl, hd, xs, rel, dd⟩ := dt_of I3.hok hp
  cases rel
  refine wpAny_holding (wpAny_bind ?_)
  show wpAny _ _ (forIn [(Value.ref b, uv)] PUnit.unit _) _ _ s3
  rw [List.forIn_cons]
  refine wpAny_bind (wpAny_bind (wpAny_dictSet_heap (hsz := Nat.zero_le _) (Nat.lt_of_succ_lt hu) (key_of I3.hok hb) dd fun h' dd' hs' => wpAny_pure ?_))
  dsimp only
  rw [List.forIn_nil]
  refine wpAny_pure (wpAny_pure (wpAny_pure (wpAny_pure ?_)))
  obtain ⟨o, es, ep, ho, h2, h3, h4, _, h5⟩ := dd'
  have hz1 : (1 : Nat) ≤ sizeLine := by decide
  refine ⟨.ref s.heap.objs.size, upd H3 s.heap.objs.size (.dT [(ks, z)]), d_write I3 (by rw [hp]; exact True.intro) hs' ⟨o, ho⟩ ⟨hz1, hd, [(ks, b, uv)], .cons ⟨rfl, ?_, rz⟩ .nil, o, es, ep, ho, h2, h3, h4, h5⟩, rfl, q⟩
  show upd H3 s.heap.objs.size (.dT [(ks, z)]) b = _
  rw [upd_ne (ne_of hb hp (fun z => nomatch z))]
  exact hb
def mDispT1 (mk mv : M T) : M T := fun ρ => (mk ρ).bind fun k ρ1 => (mv ρ1).bind fun v ρ2 => match k.d.keyT with
  | some ks => .ok (.odt [(ks, v.d)]) ρ2
  | none => .no
theorem de_dispT1 {mk mv : M T} (hu : X.A.units + 1 < cLine) (hk : DE X k mk) (hv : DE X v mv) : DE X (.Dict [some k] [v] pos) (mDispT1 mk mv) := PE.weak (pe_dispT1 hu hk hv) fun σ H Q q => by
  obtain ⟨ρ, fp, Z, W, E, tk, o⟩ := q
  intro p hp
  have E1 : EnvOk X.K ρ σ (upd H p (.dT [])) Z fp := E.keep (step_new (A := NoA) hp) (fun _ _ h => h) (zok_new E.zok hp)
  have pn : ¬ FpA fp p := fun h => (E.live h).1 hp
  have zp : Z p = none := E.zok.none hp
  have o1 := o.first (A1 := FpA fp) (step_new (A := FpA fp) (Z := Z) (o := .dT []) hp) (fun a ha => .inl ha)
  refine ⟨ρ, fp, Z, W, E1, tk, ?_⟩
  unfold mDispT1 at o1
  cases q1 : mk ρ with
  | no => rw [q1] at o1; exact o1
  | ex x ρ' => rw [q1] at o1; exact o1
  | ok t ρ1 =>
    rw [q1] at o1
    intro y H1 Z1 fp1 fr1 b1 rt1 dj1 nw1
    obtain ⟨Z2, r2, b2⟩ := b1.frz rt1 dj1 nw1
    refine ⟨ρ1, fp1, Z2, W, b2.env, tk, ?_⟩
    simp only [R.bind] at o1
    cases q2 : mv ρ1 with
    | no => rw [q2] at o1; exact o1
    | ex x ρ' =>
      rw [q2] at o1
      exact fun cls d H' Z' fp' b e => o1 cls d H' Z' fp' (b2.then b) e
    | ok u ρ2 =>
      rw [q2] at o1
      intro z H3 Z3 fp3 fr3 b3 rt3 dj3 nw3
      obtain ⟨Z4, r4, b4⟩ := b3.frz rt3 dj3 nw3
      have o2 : OutE X (FpA fp) σ (upd H p (.dT [])) Z (match t.d.keyT with
        | some ks => .ok (.odt [(ks, u.d)]) ρ2
        | none => .no) Q W := o1
      cases q3 : t.d.keyT with
      | none => rw [q3] at o2; exact o2.elim
      | some ks =>
        rw [q3] at o2
        have b5 := b2.then b4
        have r5 := Rep.mono b4.step.zle _ _ r2
        obtain ⟨b, rfl, hb⟩ := key_tup b5.env.zok ⟨.fz t.d, [], ⟨rfl, r5⟩, rfl⟩ q3
        have pA : ¬ FpA fp p := pn
        obtain ⟨k1, k2⟩ := b5.step.keep p pA (by rw [upd_same]; simp)
        have hp3 : H3 p = some (.dT []) := k1.trans upd_same
        have zp3 : Z4 p = none := k2 zp (by rw [upd_same]; simp)
        have pn3 : ¬ FpA fp3 p := fun h => (b5.new p h).elim pn (fun z => by rw [upd_same] at z; cases z)
        refine ⟨ks, b, rfl, hb, hp3, ?_⟩
        have stp : Step (fun a => a = p) H3 Z4 (upd H3 p (.dT [(ks, z)])) Z4 := ⟨.refl _, fun a ha _ => ⟨upd_ne ha, fun hz _ => hz⟩, fun a ha => by
          by_cases e : a = p
          · rw [e, upd_same]; simp
          · rw [upd_ne e]; exact ha⟩
        have zok : ZOk Z4 (upd H3 p (.dT [(ks, z)])) := fun a w e => by
          have : a ≠ p := fun q => by rw [q, zp3] at e; cases e
          rw [upd_ne this]; exact b5.env.zok a w e
        have E6 := b5.env.keep stp (fun a ha e => pn3 (by rw [← e]; exact ha)) zok
        have o3 : OutE X (FpA fp) σ H Z (.ok (.odt [(ks, u.d)]) ρ2) Q W := by
          have e : mDispT1 mk mv ρ = .ok (.odt [(ks, u.d)]) ρ2 := by
            unfold mDispT1
            rw [q1]; simp only [R.bind]
            rw [q2]; simp only [R.bind]
            rw [q3]
          rw [e] at o; exact o
        have b0 : Bk X.K (FpA fp) σ H Z ρ2 σ H3 Z4 fp3 := b5.first (step_new hp) (fun a ha => .inl ha)
        exact o3 (.ref p) _ Z4 fp3 [p] ⟨E6, b0.step.trans stp (fun a ha => .inr (by rw [ha]; exact hp)), b0.new⟩ ⟨p, _, rfl, rfl, upd_same, zp3, ⟨z, [], rfl, r4, rfl⟩⟩ (fun a ha hn => pn3 (by rw [← List.mem_singleton.mp ha]; exact hn)) fun a ha => .inr (by rw [List.mem_singleton.mp ha]; exact hp)
end
end Dn

set_option Elab.async false
set_option linter.all false
namespace Dn
open PySem PySem.Spec L2
open PyProof.Rows hiding St
theorem _root_.L2.Room.u1 {k A} (h : Room k A) : A.units + 1 < cLine := by have := h.un; omega
theorem _root_.L2.Room.u64 {k A} (h : Room k A) : A.units + 64 < cLine := by have := h.un; omega
theorem _root_.L2.Room.u65 {k A} (h : Room k A) : A.units + 65 < cLine := by have := h.un; omega
theorem bb_len : bootBuiltins "len" = some (.builtin "len") := by decide +kernel
theorem bb_all : bootBuiltins "all" = some (.builtin "all") := by decide +kernel
theorem bb_any : bootBuiltins "any" = some (.builtin "any") := by decide +kernel
theorem bb_isinstance : bootBuiltins "isinstance" = some (.builtin "isinstance") := by decide +kernel
theorem bb_sum : bootBuiltins "sum" = some (.builtin "sum") := by decide +kernel
theorem bb_sorted : bootBuiltins "sorted" = some (.builtin "sorted") := by decide +kernel
theorem bb_max : bootBuiltins "max" = some (.builtin "max") := by decide +kernel
theorem bb_min : bootBuiltins "min" = some (.builtin "min") := by decide +kernel

theorem bb_abs : bootBuiltins "abs" = some (.builtin "abs") := by decide +kernel

theorem bb_print : bootBuiltins "print" = some (.builtin "print") := by decide +kernel
theorem bt_list : bootBuiltins "list" = some (.type "list") := by decide +kernel
theorem bt_dict : bootBuiltins "dict" = some (.type "dict") := by decide +kernel
theorem bt_tuple : bootBuiltins "tuple" = some (.type "tuple") := by decide +kernel
theorem bt_set : bootBuiltins "set" = some (.type "set") := by decide +kernel
theorem bt_str : bootBuiltins "str" = some (.type "str") := by decide +kernel
theorem bt_int : bootBuiltins "int" = some (.type "int") := by decide +kernel
theorem bt_bool : bootBuiltins "bool" = some (.type "bool") := by decide +kernel
theorem bt_float : bootBuiltins "float" = some (.type "float") := by decide +kernel
theorem bt_zip : bootBuiltins "zip" = some (.type "zip") := by decide +kernel
theorem bt_range : bootBuiltins "range" = some (.type "range") := by decide +kernel
theorem bt_enumerate : bootBuiltins "enumerate" = some (.type "enumerate") := by decide +kernel
theorem bt_map : bootBuiltins "map" = some (.type "map") := by decide +kernel
end Dn

set_option Elab.async false
set_option linter.all false
namespace Dn
open PySem PySem.Spec L2 PySem.HandSPX
open PyProof.Rows hiding St
section
variable {P : Program} {w : World} {K : PySem.W.Frag} {mg : Str → Option Value} {base h : Heap} {x qual : Str} {st : Stmt} {f C : Addr} {oc : Value} {od an : Option Addr} {osl : Array (Option Value)} {kV doc pm cdv ct : Value}
def DefP (K : PySem.W.Frag) (mg : Str → Option Value) (x : Str) (st : Stmt) : Prop := ∃ f fd, mg x = some (.ref f) ∧ L2.Fun K x x st f fd
def DefD (K : PySem.W.Frag) (mg : Str → Option Value) (x : Str) (st : Stmt) (dvs : List V) : Prop := ∃ f fd, mg x = some (.ref f) ∧ L2.FunD K x x (defArgs st) (defBody st) (defScope st) dvs [] f fd
structure ExY (K : PySem.W.Frag) (mg : Str → Option Value) (x f : Str) (C : Addr) : Prop where
  m : mg x = some (.ref C)
  t : XfC K C
  no : PySem.W.findIn K (.ref C) f = some none
theorem defP_mk (X : K.In h) (G : h.Ns mainGlobals mg) (a : PySem.W.nsIn K mainGlobals x = some (some (.ref f)))
    (l : K.lookup f = some ⟨oc, od, .func (PySem.W.fnOf x x (defArgs st) (defBody st) (defScope st) .none kV doc pm an cdv ct), osl⟩)
    (c : PySem.W.codeIn K cdv x = true) (k : PySem.W.keepIn K (.ref f) = true) : DefP K mg x st := ⟨f, _, PySem.W.mg_of X G a, fun_mk l c k⟩
theorem defD1_mk {T : Addr} {to : Value} {td : Option Addr} {tsl : Array (Option Value)} {u : Value} {n : Nat} {v : V} (X : K.In h) (G : h.Ns mainGlobals mg) (a : PySem.W.nsIn K mainGlobals x = some (some (.ref f)))
    (l : K.lookup f = some ⟨oc, od, .func (PySem.W.fnOf x x (defArgs st) (defBody st) (defScope st) (.ref T) kV doc pm an cdv ct), osl⟩)
    (c : PySem.W.codeIn K cdv x = true) (k : PySem.W.keepIn K (.ref f) = true) (t : K.lookup T = some ⟨to, td, .seq #[u] n, tsl⟩) (r : RelV v u) : DefD K mg x st [v] :=
  ⟨f, _, PySem.W.mg_of X G a, ⟨⟨_, _, _, _, _, _, _, _, _, _, rfl, l, c, .inr ⟨by simp, T, _, [u], n, rfl, t, rfl, .cons r .nil⟩, .inl rfl⟩, k⟩⟩
theorem gloI_mk {i : Int} {t : _} (X : K.In h) (G : h.Ns mainGlobals mg) (a : PySem.W.nsIn K mainGlobals x = some (some (.int i t))) : GloV K mg x (.int i) := ⟨_, PySem.W.mg_of X G a, _, rfl⟩
theorem gloS_mk {i : Str} {t : _} (X : K.In h) (G : h.Ns mainGlobals mg) (a : PySem.W.nsIn K mainGlobals x = some (some (.str i t))) : GloV K mg x (.str i) := ⟨_, PySem.W.mg_of X G a, _, rfl⟩
theorem gloT_mk {vs : List V} {T : Addr} {td : Option Addr} {tsl : Array (Option Value)} {its : Array Value} {n : Nat} (X : K.In h) (G : h.Ns mainGlobals mg) (a : PySem.W.nsIn K mainGlobals x = some (some (.ref T)))
    (t : K.lookup T = some ⟨.type "tuple", td, .seq its n, tsl⟩) (hs : its.size ≤ sizeLine) (r : Vals vs its.toList) : GloT K mg x vs := ⟨T, PySem.W.mg_of X G a, _, its, n, t, rfl, rfl, hs, r⟩
theorem oexC_mk {nm q : Str} {N : Addr} {bs bm : List Value} {sn : List Str} {sub : List Value} {ab : Bool} {col : Option Bool} {dd : Option Addr} {k0 k1 k2 k3 k5 : Option Value}
    (l : K.lookup C = some (excClassObj nm q C N bs bm true sn sub ab col dd k0 k1 k2 k3 k5 "ValueError.__new__")) (hb : refsVE bm = true)
    (sa : PySem.W.findIn K (.ref C) "__setattr__" = some (some (.builtin "object.__setattr__"))) (eC : PySem.W.subIn K (.ref C) (.type "BaseException") = some true)
    (tC : PySem.W.typeIn K (.ref C) = some (.type "type")) (kC : PySem.W.keepIn K (.ref C) = true) : OexC K C := ⟨⟨_, _, _, _, _, _, _, _, _, _, _, _, _, _, _, l, hb⟩, sa, eC, tC, kC⟩
theorem fnOk_of {N ps : List Str} {k : Nat} {m : M Fl} {fd : FuncData} (G : Fun K x qual st f fd) (S : FnScope N ps (defScope st))
    (h : ∀ (cdv : Value) (A : Around) (outer : List PySem.Env) (s : Shared) (H : Hp) (E : XK), Room k (A.deeper (envOfC qual (defScope st) s.heap.objs.size f cdv)) →
      DSs (cxOf (L2.CX P w) P w K mg base N qual (defScope st) f cdv A outer s H E) [] (defBody st) m) : FnOk P w K mg base (L2.CX P w) (k + 1) f fd ps (spD K mg ps.length (runD N.length m)) :=
  G.okX S (fun vs H Q E q => q.1) fun cdv A outer s H vs Q E hr q => body_D (FnScope.le S) (h cdv A outer s H E hr) q
end
/-- law's: a list of at most 63 ints is handed in, True comes out -/
def spLaw (K : PySem.W.Frag) : Sp := fun vs H Q _ => ∃ (a : Addr) (ns : List Int), vs = [.ref a] ∧ SqL K H a (ns.map V.int) ∧ ns.length ≤ 63 ∧ ∀ H', Q (.bl true) H'
theorem spLaw_imp {K : PySem.W.Frag} {mg : Str → Option Value} {F : List D → R Unit T} (hF : ∀ ns : List Int, ns.length ≤ 63 → F [.scr ns] = .ok (.fz (.bl true)) ()) : ∀ vs H Q E, spLaw K vs H Q E → spD K mg 1 F vs H Q E := by
  rintro vs H Q E ⟨a, ns, rfl, hs, hl, hq⟩
  refine ⟨rfl, [.scr ns], H, fun a o e => .inl e, ⟨.ref a, [], rfl, ⟨a, rfl, hs⟩, rfl⟩, ?_⟩
  rw [hF ns hl]
  intro v H' Z' fr _ r _ _
  have e : v = .bl true := r.2
  rw [e]
  exact hq H'
theorem walk_law {l : PySem.W.OpenLaw} {q : Program} {loose : List Str} {XP : (Str → Option Value) → Heap → Prop} {YP : World → Heap → Prop} {d : DefRec} {K : Params → PySem.W.Frag} {F : List D → R Unit T} {k : Nat} {st : Stmt} (hn : l.most = some 63) (hdf : d.params.defaults = []) (hr : Room k callerA)
    (hY : ∀ (w : World) (h : Heap), YP w h → (K w.params).In h) (hF : ∀ ns : List Int, ns.length ≤ 63 → F [.scr ns] = .ok (.fz (.bl true)) ()) (hd : d.name = "law")
    (hb : ∀ (s : Shared) (u kV doc pm cdv ct : Value) (an : Option Addr), BindsTo s (PySem.W.fnOf "law" "law" (defArgs st) (defBody st) (defScope st) .none kV doc pm an cdv ct) ⟨[u], []⟩ [("script", u)])
    (F1 : ∀ (w : World) (mg : Str → Option Value) (h : Heap), (K w.params).In h → h.Ns mainGlobals mg → DefP (K w.params) mg "law" st)
    (F2 : ∀ (w : World) (mg : Str → Option Value) (h base : Heap) (f : Addr) (fd : FuncData), (K w.params).In h → h.Ns mainGlobals mg → L2.Fun (K w.params) "law" "law" st f fd → FnOk l.prog w (K w.params) mg base (L2.CX l.prog w) k f fd ["script"] (spD (K w.params) mg 1 F)) :
    PySem.W.WalkO q loose XP YP l.row.toRowW d [] (fun f vs => PySem.call f vs) := by
  refine L2.walk_of (n := 63) (k := k) (x := "script") (CX := fun w => L2.CX l.prog w) (sp := fun w => spLaw (K w.params)) hn (by decide) hdf hr hY (fun w mg fa h KX G hm => ?_) (fun _ _ a ns hl _ hS => ⟨a, ns, rfl, hS, hl, fun _ => rfl⟩) ?_
  · obtain ⟨f, fd, hm', Gf⟩ := F1 w mg h KX G
    rw [hd, hm'] at hm
    have e : f = fa := by injection (Option.some.inj hm)
    subst e
    refine ⟨fd, ?_, fun base _ _ => (F2 w mg h base f fd KX G Gf).imp (spLaw_imp hF)⟩
    obtain ⟨⟨oc, od, kV, doc, pm, an, cdv, ct, osl, rfl, _, _⟩, _⟩ := Gf
    exact fun s u => hb s u _ _ _ _ _ _
  · rintro w H s e s' ⟨a, B, H', cls, d, rfl, _, _, _, _, _, _, z⟩
    exact z
end Dn

set_option Elab.async false
set_option linter.all false
namespace Dn
open PySem PySem.Spec L2 PySem.HandSPX
open PyProof.Rows hiding St
section
variable {P : Program} {w : World} {K : PySem.W.Frag} {mg : Str → Option Value} {base h : Heap} {x qual prm fld : Str} {st : Stmt} {f C : Addr} {oc : Value} {od an : Option Addr} {osl : Array (Option Value)} {kV doc pm cdv ct : Value}
/-- an own class over ValueError and its __init__, as the top has made them -/
structure ExcC (K : PySem.W.Frag) (mg : Str → Option Value) (x : Str) (C f : Addr) : Prop where
  hm : mg x = some (.ref C)
  T : OexC K C
  X : XfC K C
  hf : PySem.W.findIn K (.ref C) "__init__" = some (some (.ref f))
  ht : PySem.W.typeIn K (.ref f) = some (.type "function")
theorem excC_mk {nm q : Str} {N : Addr} {bs bm : List Value} {sn : List Str} {sub : List Value} {ab : Bool} {col : Option Bool} {dd : Option Addr} {k0 k1 k2 k3 k5 : Option Value} (X : K.In h) (G : h.Ns mainGlobals mg)
    (a : PySem.W.nsIn K mainGlobals x = some (some (.ref C)))
    (l : K.lookup C = some (excClassObj nm q C N bs bm true sn sub ab col dd k0 k1 k2 k3 k5 "ValueError.__new__")) (hb : refsVE bm = true)
    (sa : PySem.W.findIn K (.ref C) "__setattr__" = some (some (.builtin "object.__setattr__"))) (eC : PySem.W.subIn K (.ref C) (.type "BaseException") = some true)
    (tC : PySem.W.typeIn K (.ref C) = some (.type "type")) (kC : PySem.W.keepIn K (.ref C) = true)
    (ga : PySem.W.findIn K (.ref C) "__getattribute__" = some (some (.builtin "BaseException.__getattribute__"))) (gg : PySem.W.findIn K (.ref C) "__getattr__" = some none) (hd : PySem.W.hasDictIn K C = true)
    (hf : PySem.W.findIn K (.ref C) "__init__" = some (some (.ref f))) (ht : PySem.W.typeIn K (.ref f) = some (.type "function")) : ExcC K mg x C f :=
  ⟨PySem.W.mg_of X G a, oexC_mk l hb sa eC tC kC, ⟨ga, gg, eC, hd⟩, hf, ht⟩
theorem ExcC.y (E : ExcC K mg x C f) (no : PySem.W.findIn K (.ref C) fld = some none) : ∃ C, ExY K mg x fld C := ⟨C, E.hm, E.X, no⟩
inductive TabR (mg : Str → Option Value) : List Str → List Addr → Prop where
  | nil : TabR mg [] []
  | cons {x : Str} {C : Addr} {l : List Str} {a : List Addr} (h : mg x = some (.ref C)) (t : TabR mg l a) : TabR mg (x :: l) (C :: a)
inductive TabRow (K : PySem.W.Frag) (x : Str) (C : Addr) : List Str → List Addr → Prop where
  | nil : TabRow K x C [] []
  | cons {y : Str} {D : Addr} {l : List Str} {a : List Addr} (h : PySem.W.exmOne K (.ref C) (.ref D) = some (decide (x = y))) (t : TabRow K x C l a) : TabRow K x C (y :: l) (D :: a)
inductive TabRows (K : PySem.W.Frag) (l0 : List Str) (a0 : List Addr) : List Str → List Addr → Prop where
  | nil : TabRows K l0 a0 [] []
  | cons {x : Str} {C : Addr} {l : List Str} {a : List Addr} (h : TabRow K x C l0 a0) (t : TabRows K l0 a0 l a) : TabRows K l0 a0 (x :: l) (C :: a)
theorem TabRow.all {x : Str} {C : Addr} : ∀ {l : List Str} {a : List Addr}, TabRow K x C l a → TabR mg l a → ∀ y ∈ l, ∀ D, mg y = some (.ref D) → PySem.W.exmOne K (.ref C) (.ref D) = some (decide (x = y))
  | _, _, .nil, .nil, y, hy, D, m => absurd hy List.not_mem_nil
  | _, _, .cons h t, .cons h' t', y, hy, D, m => by
    rcases List.mem_cons.mp hy with rfl | hy
    · rw [h'] at m
      injection (Option.some.inj m) with e
      rw [← e]; exact h
    · exact t.all t' y hy D m
theorem TabRows.all {l0 : List Str} {a0 : List Addr} (T0 : TabR mg l0 a0) : ∀ {l : List Str} {a : List Addr}, TabRows K l0 a0 l a → TabR mg l a → ∀ x ∈ l, ∀ y ∈ l0, ∀ C D, mg x = some (.ref C) → mg y = some (.ref D) → PySem.W.exmOne K (.ref C) (.ref D) = some (decide (x = y))
  | _, _, .nil, .nil, x, hx, y, hy, C, D, m, n => absurd hx List.not_mem_nil
  | _, _, .cons h t, .cons h' t', x, hx, y, hy, C, D, m, n => by
    rcases List.mem_cons.mp hx with rfl | hx
    · rw [h'] at m
      injection (Option.some.inj m) with e
      rw [← e]; exact h.all T0 y hy D n
    · exact t.all T0 t' x hx y hy C D m n
theorem tab_mk {l : List Str} {a : List Addr} (T : TabR mg l a) (R : TabRows K l a l a) : ExTab K mg l := fun y hy c hc Cy Cc my mc => R.all T T y hy c hc Cy Cc my mc
theorem superF_mk {cda cc : Addr} {ccl : Value} {cdd : Option Addr} {vs : Array Value} {ccs : Array (Option Value)} {file : Str} {tf : _} {cl : Value} {cld : Option Addr} {csl : Array (Option Value)}
    (l : K.lookup f = some ⟨oc, od, .func (PySem.W.ksFn "__init__" qual (defArgs st) (defBody st) (defScope st) .none kV doc pm an (.ref cda) ct cc), osl⟩) (c : PySem.W.codeIn K (.ref cda) qual = true)
    (lc : K.lookup cda = some ⟨ccl, cdd, .fields vs, ccs⟩) (hv : vs[2]? = some (.str file tf)) (hfl : ((P.main.file : Str) == file) = true) (ll : K.lookup cc = some ⟨cl, cld, .cell (some (.ref C)), csl⟩)
    (sup : PySem.W.ks_superIn K C C "__init__" = some (some (.builtin "ValueError.__init__"))) (sub : PySem.W.subIn K (.ref C) (.type "ValueError") = some true) (own : PySem.W.mroIn K C (.ref C) = some true)
    (op : PySem.W.nsIn K cStatics "thirdparty.any" = some none) (top : (P.main.scope.names.lookup ("super" : Str)).isSome = false) :
    SupF P K qual st C f (PySem.W.ksFn "__init__" qual (defArgs st) (defBody st) (defScope st) .none kV doc pm an (.ref cda) ct cc) :=
  ⟨⟨_, _, _, _, _, _, _, _, _, _, rfl, l, c, ⟨_, _, _, _, _, _, lc, hv, hfl⟩, _, _, _, ll⟩, sup, sub, own, op, top⟩
end
end Dn

set_option Elab.async false
set_option linter.all false
set_option maxRecDepth 100000
/-! Dn24: evaluating meanings in plain Lean. -/
namespace Dn
open PySem PySem.Spec L2
open PyProof.Rows hiding St
section
variable {β α γ : Type}
@[simp] theorem bind_ok (a : α) (b : β) (f : α → β → R β γ) : (R.ok a b).bind f = f a b := rfl
@[simp] theorem bind_ex (x : Ex) (b : β) (f : α → β → R β γ) : (R.ex x b : R β α).bind f = .ex x b := rfl
@[simp] theorem bind_no (f : α → β → R β γ) : (R.no : R β α).bind f = .no := rfl
end
section
variable {ρ ρ1 ρ2 ρ3 ρ0 ρw : Env} {m n : M Fl} {own : List Nat}
/-- a comprehension whose elements all come -/
theorem compL_map {g : D → Env → Option Env} {mt : M Bool} {me : M T} (v : D → D) : ∀ (ds acc : List D), (∀ d ∈ ds, ∃ ρ1 ρ2 ρ3 t, g d ρ = some ρ1 ∧ mt ρ1 = .ok true ρ2 ∧ me ρ2 = .ok t ρ3 ∧ wipeE ρ3 own = ρ ∧ t.d = v d) → compL g mt me own ds acc ρ = .ok (acc ++ ds.map v) ρ
  | [], acc, h => by simp [compL]
  | d :: ds, acc, h => by
    obtain ⟨ρ1, ρ2, ρ3, t, h1, h2, h3, h4, h5⟩ := h d (by simp)
    have ih := compL_map v ds (acc ++ [v d]) (fun x hx => h x (List.mem_cons_of_mem _ hx))
    simp only [compL, h1, h2, bind_ok, if_true, h3, h4, h5, ih]
    simp
theorem lc_map {it : M (List D)} {g : D → Env → Option Env} {mt : M Bool} {me : M T} {ds : List D} (v : D → D) (hi : it ρ = .ok ds ρ0) (hw : wipeE ρ0 own = ρw)
    (h : ∀ d ∈ ds, ∃ ρ1 ρ2 ρ3 t, g d ρw = some ρ1 ∧ mt ρ1 = .ok true ρ2 ∧ me ρ2 = .ok t ρ3 ∧ wipeE ρ3 own = ρw ∧ t.d = v d) : mLc it g mt me own ρ = .ok (.ol (ds.map v)) (restE ρ0 ρw own) := by
  unfold mLc
  rw [hi]
  simp only [bind_ok, hw]
  rw [compL_map v ds [] h]
  rfl
theorem lc_ex {it : M (List D)} {g : D → Env → Option Env} {mt : M Bool} {me : M T} {ds : List D} (Q : D → D → Prop) (hi : it ρ = .ok ds ρ0) (hw : wipeE ρ0 own = ρw)
    (h : ∀ d ∈ ds, ∃ ρ1 ρ2 ρ3 t, g d ρw = some ρ1 ∧ mt ρ1 = .ok true ρ2 ∧ me ρ2 = .ok t ρ3 ∧ wipeE ρ3 own = ρw ∧ Q d t.d) : ∃ v : D → D, (∀ d ∈ ds, Q d (v d)) ∧ mLc it g mt me own ρ = .ok (.ol (ds.map v)) (restE ρ0 ρw own) := by
  have hc : ∀ d, ∃ w, d ∈ ds → (∃ ρ1 ρ2 ρ3 t, g d ρw = some ρ1 ∧ mt ρ1 = .ok true ρ2 ∧ me ρ2 = .ok t ρ3 ∧ wipeE ρ3 own = ρw ∧ t.d = w) ∧ Q d w := fun d => by
    by_cases hd : d ∈ ds
    · obtain ⟨ρ1, ρ2, ρ3, t, h1, h2, h3, h4, h5⟩ := h d hd
      exact ⟨t.d, fun _ => ⟨⟨ρ1, ρ2, ρ3, t, h1, h2, h3, h4, rfl⟩, h5⟩⟩
    · exact ⟨.non, fun z => absurd z hd⟩
  obtain ⟨v, hv⟩ := Classical.axiomOfChoice hc
  exact ⟨v, fun d hd => (hv d hd).2, lc_map v hi hw fun d hd => (hv d hd).1⟩
/-- with a condition -/
theorem compL_filter {g : D → Env → Option Env} {mt : M Bool} {me : M T} (p : D → Bool) (v : D → D) : ∀ (ds acc : List D), (∀ d ∈ ds, ∃ ρ1 ρ2, g d ρ = some ρ1 ∧ mt ρ1 = .ok (p d) ρ2 ∧ (if p d = true then ∃ ρ3 t, me ρ2 = .ok t ρ3 ∧ wipeE ρ3 own = ρ ∧ t.d = v d else wipeE ρ2 own = ρ)) → compL g mt me own ds acc ρ = .ok (acc ++ (ds.filter p).map v) ρ
  | [], acc, h => by simp [compL]
  | d :: ds, acc, h => by
    obtain ⟨ρ1, ρ2, h1, h2, h3⟩ := h d (by simp)
    have ih := fun acc => compL_filter p v ds acc (fun x hx => h x (List.mem_cons_of_mem _ hx))
    cases q : p d with
    | true =>
      rw [q, if_pos rfl] at h3
      obtain ⟨ρ3, t, h3, h4, h5⟩ := h3
      simp only [compL, h1, h2, q, bind_ok, if_true, h3, h4, h5, ih]
      simp [q]
    | false =>
      rw [q, if_neg (by simp)] at h3
      simp only [compL, h1, h2, q, bind_ok, h3, ih, Bool.false_eq_true, if_false]
      simp [q]
theorem lc_filter {it : M (List D)} {g : D → Env → Option Env} {mt : M Bool} {me : M T} {ds : List D} (p : D → Bool) (v : D → D) (hi : it ρ = .ok ds ρ0) (hw : wipeE ρ0 own = ρw)
    (h : ∀ d ∈ ds, ∃ ρ1 ρ2, g d ρw = some ρ1 ∧ mt ρ1 = .ok (p d) ρ2 ∧ (if p d = true then ∃ ρ3 t, me ρ2 = .ok t ρ3 ∧ wipeE ρ3 own = ρw ∧ t.d = v d else wipeE ρ2 own = ρw)) : mLc it g mt me own ρ = .ok (.ol ((ds.filter p).map v)) (restE ρ0 ρw own) := by
  unfold mLc
  rw [hi]
  simp only [bind_ok, hw]
  rw [compL_filter p v ds [] h]
  rfl
/-- a dict comprehension -/
theorem compD_map {g : D → Env → Option Env} {mt : M Bool} {mk me : M T} (kf : D → Key) (v : D → D) : ∀ (ds : List D) (acc : List (Key × D)), (∀ d ∈ ds, ∃ ρ1 ρ2 ρ3 ρ4 tk t, g d ρ = some ρ1 ∧ mt ρ1 = .ok true ρ2 ∧ mk ρ2 = .ok tk ρ3 ∧ me ρ3 = .ok t ρ4 ∧ tk.d.key = some (kf d) ∧ wipeE ρ4 own = ρ ∧ t.d = v d) → compD g mt mk me own ds acc ρ = .ok (ds.foldl (fun acc d => putD acc (kf d) (v d)) acc) ρ
  | [], acc, h => by simp [compD]
  | d :: ds, acc, h => by
    obtain ⟨ρ1, ρ2, ρ3, ρ4, tk, t, h1, h2, h3, h4, h5, h6, h7⟩ := h d (by simp)
    have ih := compD_map kf v ds (putD acc (kf d) (v d)) (fun x hx => h x (List.mem_cons_of_mem _ hx))
    simp only [compD, h1, h2, bind_ok, if_true, h3, h4, h5, h6, h7, ih]
    simp
theorem dcm_map {it : M (List D)} {g : D → Env → Option Env} {mt : M Bool} {mk me : M T} {ds : List D} (kf : D → Key) (v : D → D) (hi : it ρ = .ok ds ρ0) (hw : wipeE ρ0 own = ρw)
    (h : ∀ d ∈ ds, ∃ ρ1 ρ2 ρ3 ρ4 tk t, g d ρw = some ρ1 ∧ mt ρ1 = .ok true ρ2 ∧ mk ρ2 = .ok tk ρ3 ∧ me ρ3 = .ok t ρ4 ∧ tk.d.key = some (kf d) ∧ wipeE ρ4 own = ρw ∧ t.d = v d) : mDcm it g mt mk me own ρ = .ok (.od (ds.foldl (fun acc d => putD acc (kf d) (v d)) [])) (restE ρ0 ρw own) := by
  unfold mDcm
  rw [hi]
  simp only [bind_ok, hw]
  rw [compD_map kf v ds [] h]
theorem dcm_ex {it : M (List D)} {g : D → Env → Option Env} {mt : M Bool} {mk me : M T} {ds : List D} (Q : D → Key → D → Prop) (hi : it ρ = .ok ds ρ0) (hw : wipeE ρ0 own = ρw)
    (h : ∀ d ∈ ds, ∃ ρ1 ρ2 ρ3 ρ4 tk t k, g d ρw = some ρ1 ∧ mt ρ1 = .ok true ρ2 ∧ mk ρ2 = .ok tk ρ3 ∧ me ρ3 = .ok t ρ4 ∧ tk.d.key = some k ∧ wipeE ρ4 own = ρw ∧ Q d k t.d) : ∃ (kf : D → Key) (v : D → D), (∀ d ∈ ds, Q d (kf d) (v d)) ∧ mDcm it g mt mk me own ρ = .ok (.od (ds.foldl (fun acc d => putD acc (kf d) (v d)) [])) (restE ρ0 ρw own) := by
  have hc : ∀ d, ∃ w : Key × D, d ∈ ds → (∃ ρ1 ρ2 ρ3 ρ4 tk t, g d ρw = some ρ1 ∧ mt ρ1 = .ok true ρ2 ∧ mk ρ2 = .ok tk ρ3 ∧ me ρ3 = .ok t ρ4 ∧ tk.d.key = some w.1 ∧ wipeE ρ4 own = ρw ∧ t.d = w.2) ∧ Q d w.1 w.2 := fun d => by
    by_cases hd : d ∈ ds
    · obtain ⟨ρ1, ρ2, ρ3, ρ4, tk, t, k, h1, h2, h3, h4, h5, h6, h7⟩ := h d hd
      exact ⟨(k, t.d), fun _ => ⟨⟨ρ1, ρ2, ρ3, ρ4, tk, t, h1, h2, h3, h4, h5, h6, rfl⟩, h7⟩⟩
    · exact ⟨(.inl 0, .non), fun z => absurd z hd⟩
  obtain ⟨v, hv⟩ := Classical.axiomOfChoice hc
  exact ⟨fun d => (v d).1, fun d => (v d).2, fun d hd => (hv d hd).2, dcm_map _ _ hi hw fun d hd => (hv d hd).1⟩
/-- a for loop by an invariant of the environment; every turn goes on -/
theorem forL_inv {g : D → Env → Option Env} {body : M Fl} (I : List D → Env → Prop) : ∀ (ds : List D) (ρ : Env), I ds ρ → (∀ d ds ρ, I (d :: ds) ρ → ∃ ρ1 ρ2, g d ρ = some ρ1 ∧ body ρ1 = .ok .nx ρ2 ∧ I ds ρ2) → ∃ ρ', forL g body ds ρ = .ok .nx ρ' ∧ I [] ρ'
  | [], ρ, h, _ => ⟨ρ, rfl, h⟩
  | d :: ds, ρ, h, st => by
    obtain ⟨ρ1, ρ2, h1, h2, h3⟩ := st d ds ρ h
    obtain ⟨ρ', h4, h5⟩ := forL_inv I ds ρ2 h3 st
    refine ⟨ρ', ?_, h5⟩
    simp only [forL, h1, h2, bind_ok]
    exact h4
/-- a for loop whose turns go on or return -/
theorem forL_ret {g : D → Env → Option Env} {body : M Fl} (I : List D → Env → Prop) (Q : T → Prop) : ∀ (ds : List D) (ρ : Env), I ds ρ → (∀ d ds ρ, I (d :: ds) ρ → ∃ ρ1 ρ2, g d ρ = some ρ1 ∧ ((body ρ1 = .ok .nx ρ2 ∧ I ds ρ2) ∨ ∃ t, body ρ1 = .ok (.rt t) ρ2 ∧ Q t)) → (∃ ρ', forL g body ds ρ = .ok .nx ρ' ∧ I [] ρ') ∨ ∃ t ρ', forL g body ds ρ = .ok (.rt t) ρ' ∧ Q t
  | [], ρ, h, _ => .inl ⟨ρ, rfl, h⟩
  | d :: ds, ρ, h, st => by
    obtain ⟨ρ1, ρ2, h1, ⟨h2, h3⟩ | ⟨t, h2, h3⟩⟩ := st d ds ρ h
    · rcases forL_ret I Q ds ρ2 h3 st with ⟨ρ', h4, h5⟩ | ⟨t, ρ', h4, h5⟩
      · refine .inl ⟨ρ', ?_, h5⟩
        simp only [forL, h1, h2, bind_ok]
        exact h4
      · refine .inr ⟨t, ρ', ?_, h5⟩
        simp only [forL, h1, h2, bind_ok]
        exact h4
    · refine .inr ⟨t, ρ2, ?_, h3⟩
      simp only [forL, h1, h2, bind_ok]
/-- a for loop whose turns append to a list -/
theorem forL_app {g : D → Env → Option Env} {body : M Fl} (E : List D → Option T → Env) (v : D → D) (N : Nat) (hg : ∀ d a x, g d (E a x) = some (E a (some (.fz d)))) : ∀ (ds a : List D) (x : Option T), (∀ d ∈ ds, ∀ a : List D, a.length < N → body (E a (some (.fz d))) = .ok .nx (E (a ++ [v d]) (some (.fz d)))) → a.length + ds.length ≤ N → ∃ y, forL g body ds (E a x) = .ok .nx (E (a ++ ds.map v) y)
  | [], a, x, _, _ => ⟨x, by simp [forL, mNx]⟩
  | d :: ds, a, x, hb, hl => by
    simp only [List.length_cons] at hl
    obtain ⟨y, e⟩ := forL_app E v N hg ds (a ++ [v d]) (some (.fz d)) (fun d' h => hb d' (List.mem_cons_of_mem _ h)) (by simp; omega)
    refine ⟨y, ?_⟩
    simp only [forL, hg, hb d (by simp) a (by omega), bind_ok]
    rw [e]; simp
theorem seq_nx {m n : M Fl} {ρ ρ' : Env} (h : m ρ = .ok .nx ρ') : mSeq m n ρ = n ρ' := by simp [mSeq, h]
theorem seq_rt {m n : M Fl} {ρ ρ' : Env} {t : T} (h : m ρ = .ok (.rt t) ρ') : mSeq m n ρ = .ok (.rt t) ρ' := by simp [mSeq, h]
theorem for_by {it : M (List D)} {g : D → Env → Option Env} {b : M Fl} {ρ ρ' : Env} {ds : List D} {r : R Env Fl} (h : it ρ = .ok ds ρ') (h' : forL g b ds ρ' = r) : mFor it g b ρ = r := by simp [mFor, h, h']
theorem runI_by {n : Nat} {m : M Fl} {t0 t t1 : T} {ds : List D} {ρ : Env} (h : m (env0 n (t0 :: ds.map T.fz)) = .ok (.rt t) ρ) (h0 : ρ[0]? = some (some t1)) : Dn.runI n m t0 ds = .ok t t1 := by
  simp [Dn.runI, h, slot0, h0]
theorem runD_by {n : Nat} {m : M Fl} {t : T} {ds : List D} {ρ : Env} (h : m (env0 n (ds.map T.fz)) = .ok (.rt t) ρ) : runD n m ds = .ok t () := by
  simp [runD, h]
theorem d_fz (x : D) : (T.fz x).d = x := rfl
theorem d_ol (x : List D) : (T.ol x).d = .lst x := rfl
theorem d_od (x : List (Key × D)) : (T.od x).d = .dk x := rfl
theorem d_odt (x : List (List Key × D)) : (T.odt x).d = .dt x := rfl
/-- the two-clause comprehension, without conditions -/
theorem compB_map {g : D → Env → Option Env} {mt : M Bool} {me : M T} (v : D → D) : ∀ (ds acc : List D), acc.length + ds.length ≤ LIM → (∀ d ∈ ds, ∃ ρ1 ρ2 ρ3 t, g d ρ = some ρ1 ∧ mt ρ1 = .ok true ρ2 ∧ me ρ2 = .ok t ρ3 ∧ wipeE ρ3 own = ρ ∧ t.d = v d) → compB g mt me own ds acc ρ = .ok (acc ++ ds.map v) ρ
  | [], acc, _, h => by simp [compB]
  | d :: ds, acc, hl, h => by
    obtain ⟨ρ1, ρ2, ρ3, t, h1, h2, h3, h4, h5⟩ := h d (by simp)
    simp only [List.length_cons] at hl
    have ih := compB_map v ds (acc ++ [v d]) (by simp only [List.length_append, List.length_cons, List.length_nil]; omega) (fun x hx => h x (List.mem_cons_of_mem _ hx))
    have hl' : acc.length < LIM := by omega
    simp only [compB, h1, h2, bind_ok, if_true, h3, h4, h5, ih, hl', if_true]
    simp
theorem comp2_map {g : D → Env → Option Env} {mt : M Bool} {inn : List D → M (List D)} (v : D → List D) (LT : Nat) : ∀ (ds acc : List D), acc.length + (ds.flatMap v).length ≤ LT → (∀ d ∈ ds, ∀ acc : List D, acc.length + (v d).length ≤ LT → ∃ ρ1 ρ2 ρ3, g d ρ = some ρ1 ∧ mt ρ1 = .ok true ρ2 ∧ inn acc ρ2 = .ok (acc ++ v d) ρ3 ∧ wipeE ρ3 own = ρ) → comp2 g mt inn own ds acc ρ = .ok (acc ++ ds.flatMap v) ρ
  | [], acc, _, h => by simp [comp2]
  | d :: ds, acc, hl, h => by
    simp only [List.flatMap_cons, List.length_append] at hl
    obtain ⟨ρ1, ρ2, ρ3, h1, h2, h3, h4⟩ := h d (by simp) acc (by omega)
    have ih := comp2_map v LT ds (acc ++ v d) (by simp only [List.length_append]; omega) (fun x hx => h x (List.mem_cons_of_mem _ hx))
    simp only [comp2, h1, h2, bind_ok, if_true, h3, h4, ih]
    simp
theorem fIx_eq (a b : D) : fIx [a, b] = atD a b := rfl
theorem at_lst {ds : List D} {i : Nat} {d : D} (h : ds[i]? = some d) : atD (.lst ds) (.int (i : Int)) = some d := by
  have hi := (List.getElem?_eq_some_iff.mp h).1
  have : ixN ds.length (i : Int) = some i := by unfold ixN; rw [if_pos (by omega), if_pos (by omega)]; simp
  simp [atD, atI, this, h]
theorem at_tup {ds : List D} {i : Nat} {d : D} (h : ds[i]? = some d) : atD (.tup ds) (.int (i : Int)) = some d := by
  have hi := (List.getElem?_eq_some_iff.mp h).1
  have : ixN ds.length (i : Int) = some i := by unfold ixN; rw [if_pos (by omega), if_pos (by omega)]; simp
  simp [atD, atI, this, h]
@[simp] theorem at_lst0 {a : D} {l : List D} : atD (.lst (a::l)) (.int 0) = some a := at_lst (i := 0) rfl
@[simp] theorem at_lst1 {a b : D} {l : List D} : atD (.lst (a::b::l)) (.int 1) = some b := at_lst (i := 1) rfl
@[simp] theorem at_lst2 {a b c : D} {l : List D} : atD (.lst (a::b::c::l)) (.int 2) = some c := at_lst (i := 2) rfl
@[simp] theorem at_lst3 {a b c e : D} {l : List D} : atD (.lst (a::b::c::e::l)) (.int 3) = some e := at_lst (i := 3) rfl
@[simp] theorem at_tup0 {a : D} {l : List D} : atD (.tup (a::l)) (.int 0) = some a := at_tup (i := 0) rfl
@[simp] theorem at_tup1 {a b : D} {l : List D} : atD (.tup (a::b::l)) (.int 1) = some b := at_tup (i := 1) rfl
@[simp] theorem at_tup2 {a b c : D} {l : List D} : atD (.tup (a::b::c::l)) (.int 2) = some c := at_tup (i := 2) rfl
@[simp] theorem at_tup3 {a b c e : D} {l : List D} : atD (.tup (a::b::c::e::l)) (.int 3) = some e := at_tup (i := 3) rfl
theorem valD_pos {κ : Type} [DecidableEq κ] {p : κ × D} {l : List (κ × D)} {k : κ} (h : p.1 = k) : valD (p :: l) k = some p.2 := by
  unfold valD; rw [List.find?_cons_of_pos (by simp [h])]; rfl
theorem valD_neg {κ : Type} [DecidableEq κ] {p : κ × D} {l : List (κ × D)} {k : κ} (h : p.1 ≠ k) : valD (p :: l) k = valD l k := by
  unfold valD; rw [List.find?_cons_of_neg (by simp [h])]
end
end Dn

set_option Elab.async false
set_option linter.all false
set_option maxRecDepth 100000
namespace K90
open PySem PySem.Spec L2 Dn
open PyProof.Rows hiding St
abbrev prg : Program := PySem.Challenge.pw_beforeclose_k90_refused_books_and_shares
def topS (i : Nat) : Stmt := prg.main.body.getD i (.Pass ⟨0, 0, 0, 0⟩)
def exL : List Str := ["BadPrices", "UnknownUnit", "BadMove", "BadCount", "BadOwners", "BadBooks", "BadShares"]
def s_is_integer : Stmt := topS 6
def s_is_name : Stmt := topS 7
def s_is_member : Stmt := topS 8
def s_is_position : Stmt := topS 13
def s_is_price : Stmt := topS 14
def s_check_prices : Stmt := topS 15
def s_summed : Stmt := topS 16
def s_is_move : Stmt := topS 21
def s_check_moves : Stmt := topS 22
def s_loss_by : Stmt := topS 23
def s_is_standing : Stmt := topS 24
def s_check_priced : Stmt := topS 25
def s_unit_loss : Stmt := topS 26
def s_worst_filled : Stmt := topS 27
def s_loss_with : Stmt := topS 28
def s_worst_of : Stmt := topS 29
def s_is_list : Stmt := topS 32
def s_are_owners : Stmt := topS 33
def s_lists_of : Stmt := topS 35
def s_all_lists : Stmt := topS 37
def s_is_book : Stmt := topS 41
def s_are_books : Stmt := topS 42
def s_all_orders : Stmt := topS 43
def s_check_world : Stmt := topS 44
def s_joined_position : Stmt := topS 45
def s_worst_together : Stmt := topS 46
def s_group_need : Stmt := topS 47
def s_loss_of : Stmt := topS 48
def s_sharing : Stmt := topS 49
def s_are_shares : Stmt := topS 50
def s_objecting : Stmt := topS 51
def s_own_needs : Stmt := topS 52
def s_saved : Stmt := topS 53
def s_common_move : Stmt := topS 54
def s__law_tape : Stmt := topS 56
def s__law_pick : Stmt := topS 57
def s__law_shuffled : Stmt := topS 58
def s__law_same : Stmt := topS 59
def s__law_asked : Stmt := topS 60
def s__law_odd_books : Stmt := topS 61
def s__law_odd_moves : Stmt := topS 62
def s__law_odd_prices : Stmt := topS 63
def s__law_members_right : Stmt := topS 64
def s__law_shares_right : Stmt := topS 65
def s_law : Stmt := topS 66
structure Txt (P : Program) (w : World) (K : PySem.W.Frag) (mg : Str → Option Value) (base : Heap) : Prop where
  b_abs : mg "abs" = none
  b_all : mg "all" = none
  b_any : mg "any" = none
  b_bool : mg "bool" = none
  b_dict : mg "dict" = none
  b_enumerate : mg "enumerate" = none
  b_int : mg "int" = none
  b_isinstance : mg "isinstance" = none
  b_len : mg "len" = none
  b_list : mg "list" = none
  b_max : mg "max" = none
  b_min : mg "min" = none
  b_range : mg "range" = none
  b_set : mg "set" = none
  b_sorted : mg "sorted" = none
  b_str : mg "str" = none
  b_sum : mg "sum" = none
  b_tuple : mg "tuple" = none
  b_zip : mg "zip" = none
  c_LETTERS : GloV K mg "LETTERS" (.str "abcdefghijklmnopqrstuvwxyz")
  c_LONGEST : GloV K mg "LONGEST" (.int 8)
  c_MOST_MOVES : GloV K mg "MOST_MOVES" (.int 8)
  c_MOST_PRICE : GloV K mg "MOST_PRICE" (.int 99)
  c_RESERVED : GloT K mg "RESERVED" [.str "house", .str "outside", .str "money"]
  x_BadBooks : XCls P w K mg base 1 "BadBooks" "given"
  x_BadCount : XCls P w K mg base 1 "BadCount" "count"
  x_BadMove : XCls P w K mg base 1 "BadMove" "given"
  x_BadOwners : XCls P w K mg base 1 "BadOwners" "given"
  x_BadPrices : XCls P w K mg base 1 "BadPrices" "given"
  x_BadShares : XCls P w K mg base 1 "BadShares" "given"
  x_UnknownUnit : XCls P w K mg base 1 "UnknownUnit" "given"
  y_BadBooks : ∃ C, ExY K mg "BadBooks" "given" C
  y_BadCount : ∃ C, ExY K mg "BadCount" "count" C
  y_BadMove : ∃ C, ExY K mg "BadMove" "given" C
  y_BadOwners : ∃ C, ExY K mg "BadOwners" "given" C
  y_BadPrices : ∃ C, ExY K mg "BadPrices" "given" C
  y_BadShares : ∃ C, ExY K mg "BadShares" "given" C
  y_UnknownUnit : ∃ C, ExY K mg "UnknownUnit" "given" C
  tab : ExTab K mg exL
  f_is_integer : DefD K mg "is_integer" s_is_integer [.non]
  f_is_name : DefP K mg "is_name" s_is_name
  f_is_member : DefP K mg "is_member" s_is_member
  f_is_position : DefP K mg "is_position" s_is_position
  f_is_price : DefP K mg "is_price" s_is_price
  f_check_prices : DefP K mg "check_prices" s_check_prices
  f_summed : DefP K mg "summed" s_summed
  f_is_move : DefP K mg "is_move" s_is_move
  f_check_moves : DefP K mg "check_moves" s_check_moves
  f_loss_by : DefP K mg "loss_by" s_loss_by
  f_is_standing : DefP K mg "is_standing" s_is_standing
  f_check_priced : DefP K mg "check_priced" s_check_priced
  f_unit_loss : DefP K mg "unit_loss" s_unit_loss
  f_worst_filled : DefP K mg "worst_filled" s_worst_filled
  f_loss_with : DefP K mg "loss_with" s_loss_with
  f_worst_of : DefP K mg "worst_of" s_worst_of
  f_is_list : DefP K mg "is_list" s_is_list
  f_are_owners : DefP K mg "are_owners" s_are_owners
  f_lists_of : DefP K mg "lists_of" s_lists_of
  f_all_lists : DefP K mg "all_lists" s_all_lists
  f_is_book : DefP K mg "is_book" s_is_book
  f_are_books : DefP K mg "are_books" s_are_books
  f_all_orders : DefP K mg "all_orders" s_all_orders
  f_check_world : DefP K mg "check_world" s_check_world
  f_joined_position : DefP K mg "joined_position" s_joined_position
  f_worst_together : DefP K mg "worst_together" s_worst_together
  f_group_need : DefP K mg "group_need" s_group_need
  f_loss_of : DefP K mg "loss_of" s_loss_of
  f_sharing : DefP K mg "sharing" s_sharing
  f_are_shares : DefP K mg "are_shares" s_are_shares
  f_objecting : DefP K mg "objecting" s_objecting
  f_own_needs : DefP K mg "own_needs" s_own_needs
  f_saved : DefP K mg "saved" s_saved
  f_common_move : DefP K mg "common_move" s_common_move
  f__law_tape : DefP K mg "_law_tape" s__law_tape
  f__law_pick : DefP K mg "_law_pick" s__law_pick
  f__law_shuffled : DefP K mg "_law_shuffled" s__law_shuffled
  f__law_same : DefP K mg "_law_same" s__law_same
  f__law_asked : DefP K mg "_law_asked" s__law_asked
  f__law_odd_books : DefP K mg "_law_odd_books" s__law_odd_books
  f__law_odd_moves : DefP K mg "_law_odd_moves" s__law_odd_moves
  f__law_odd_prices : DefP K mg "_law_odd_prices" s__law_odd_prices
  f__law_members_right : DefP K mg "_law_members_right" s__law_members_right
  f__law_shares_right : DefP K mg "_law_shares_right" s__law_shares_right
section
variable {P : Program} {w : World} {K : PySem.W.Frag} {mg : Str → Option Value} {base : Heap}
-- is_integer
def M_is_integer : M Fl := (mSeq (mIfE (mOr (mNot (mBool (mOps (fF (fIsi "int")) [.var 0]))) (mBool (mOps (fF (fIsi "bool")) [.var 0]))) (mRet (mC (.bl false))) mNx)
    (mRet (mOrV (mOps (fF fIsN) [.var 1, .tmp (mC .non)]) (mOps (fF (fIB fun i j => decide (j ≤ i))) [.var 0, .var 1]))))
theorem sc_is_integer : FnScope ["value", "least"] ["value", "least"] (defScope s_is_integer) := ⟨rfl, rfl, rfl, by decide +kernel, rfl, by decide +kernel, by decide +kernel⟩
def F_is_integer : List D → R Unit T := runD 2 M_is_integer
theorem body_is_integer (T : Txt P w K mg base) {f : Addr} : ∀ (cdv : Value) (A : Around) (outer : List PySem.Env) (s : Shared) (H : Hp) (E : XK), Room 0 (A.deeper (envOfC "is_integer" (defScope s_is_integer) s.heap.objs.size f cdv)) →
      DSs (cxOf (L2.CX P w) P w K mg base ["value", "least"] "is_integer" (defScope s_is_integer) f cdv A outer s H E) [] (defBody s_is_integer) M_is_integer := by
    intro cdv A outer s H E hr
    have h1 := hr.u1
    have h64 := hr.u64
    have h65 := hr.u65
    exact (dss_cons (ds_if (dw_or (dt_not (dt_val (de_isi (by rfl) T.b_isinstance (pv 0) (Gl.blt (by rfl) T.b_int bt_int) kit_int))) (dw_or1 (dt_val (de_isi (by rfl) T.b_isinstance (pv 0) (Gl.blt (by rfl) T.b_bool bt_bool) kit_bool)))).pt (dss_one (ds_ret de_bl)) dss_nil)
    (dss_one (ds_ret (de_or (de_cmp op_isN s_isN.ops (pv 1) de_non (nomark _)) (de_one (de_cmp op_ge s_ib.ops (pv 0) (pv 1) (nomark _)))))))
theorem ok_is_integer (T : Txt P w K mg base) : FnD P w K mg base 1 "is_integer" 2 F_is_integer := by
    obtain ⟨f, fd, hm, G⟩ := T.f_is_integer
    exact FnD.ofD hm G sc_is_integer (G.binds1 (ps := ["value", "least"]) 2 1 (by simp) rfl (fun T kV doc pm an cdv ct us its hl hi => match us, its, hl, hi with | [_, _], [_], _, _ => ⟨_, rfl, rfl⟩)) (body_is_integer T)
theorem okE_is_integer (T : Txt P w K mg base) : FnE P w K mg base 1 "is_integer" 2 F_is_integer [.non] := by
    obtain ⟨f, fd, hm, G⟩ := T.f_is_integer
    exact FnE.ofD hm G sc_is_integer (G.binds1 (ps := ["value", "least"]) 1 0 (by simp) rfl (fun T kV doc pm an cdv ct us its hl hi => match us, its, hl, hi with | [_], [_], _, _ => ⟨_, rfl, rfl⟩)) (fun Z => ⟨_, _, rfl, rfl, rfl⟩) (body_is_integer T)
-- is_name
def E_is_name_1 : M T := (mOps (fF fIn) [.var 1, .tmp (mC (.str "abcdefghijklmnopqrstuvwxyz"))])
def L_is_name_1 : M T := mLc (mIt itemsK (mVar 0)) (g1 1) mTrue E_is_name_1 [1]
def M_is_name : M Fl := (mSeq (mIfE (mOr (mNot (mBool (mOps (fF (fIsi "str")) [.var 0]))) (mNot (mBool (mChain (fun i j => decide (i ≤ j)) (fun i j => decide (i ≤ j)) (.tmp (mC (.int 1))) (.tmp (mOps (fF fLen) [.var 0])) (.tmp (mC (.int 8))))))) (mRet (mC (.bl false))) mNx)
    (mRet (mOps (fF fAll) [.tmp L_is_name_1])))
theorem sc_is_name : FnScope ["value", "letter"] ["value"] (defScope s_is_name) := ⟨rfl, rfl, rfl, by decide +kernel, rfl, by decide +kernel, by decide +kernel⟩
def F_is_name : List D → R Unit T := runD 2 M_is_name
theorem ok_is_name (T : Txt P w K mg base) : FnD P w K mg base 1 "is_name" 1 F_is_name := by
    obtain ⟨f, fd, hm, G⟩ := T.f_is_name
    refine FnD.of hm G sc_is_name (G.binds fun _ _ _ _ _ _ us hl => match us, hl with | [_], _ => rfl) fun cdv A outer s H E hr => ?_
    have h1 := hr.u1
    have h64 := hr.u64
    have h65 := hr.u65
    exact (dss_cons (ds_if (dw_or (dt_not (dt_val (de_isi (by rfl) T.b_isinstance (pv 0) (Gl.blt (by rfl) T.b_str bt_str) kit_str))) (dw_or1 (dt_not (dt_chain op_le op_le de_int (de_callB call_lenA s_len.ops (by rfl) T.b_len bb_len (.cons (pv 0) .nil)) (de_globI (by rfl) T.c_LONGEST))))).pt (dss_one (ds_ret de_bl)) dss_nil)
    (dss_one (ds_ret (de_callB (cr_all rfl) s_all.ops (by rfl) T.b_all bb_all (.cons (de_lcV (own := [("letter", 1)]) rfl sc_is_name.nd (blkOk_by (N := ["value", "letter"]) (sc := defScope s_is_name) (by decide +kernel)) (di_varK (pv 0)) (fun _ _ _ _ _ => (dg_name sc_is_name.nd)) (fun _ _ _ _ _ => dts_nil) (fun _ _ _ _ _ => (de_cmp (op_inA h65) s_in.ops (pv 1) (de_globS (by rfl) T.c_LETTERS) (by with_unfolding_all rfl)))) .nil)))))
-- is_member
def M_is_member : M Fl := (mRet (mAndV (mCall F_is_name (mA1 (mVar 0) mA0)) (mOps (fF fNotIn) [.var 0, .tmp (mC (.kt [.str "house", .str "outside", .str "money"]))])))
theorem sc_is_member : FnScope ["value"] ["value"] (defScope s_is_member) := ⟨rfl, rfl, rfl, by decide +kernel, rfl, by decide +kernel, by decide +kernel⟩
def F_is_member : List D → R Unit T := runD 1 M_is_member
theorem ok_is_member (T : Txt P w K mg base) : FnD P w K mg base 2 "is_member" 1 F_is_member := by
    obtain ⟨f, fd, hm, G⟩ := T.f_is_member
    refine FnD.of hm G sc_is_member (G.binds fun _ _ _ _ _ _ us hl => match us, hl with | [_], _ => rfl) fun cdv A outer s H E hr => ?_
    have h1 := hr.u1
    have h64 := hr.u64
    have h65 := hr.u65
    exact (dss_one (ds_ret (de_and (de_call (ok_is_name T) (hr.mono (by decide)) (by rfl) (da_cons (de_var' (pv 0)) da_nil) (hlen := fun _ _ _ h => mA1_len mA0_len h)) (de_one (de_cmp (op_notInA h65) s_notIn.ops (pv 0) (de_globT (by rfl) T.c_RESERVED) (by with_unfolding_all rfl))))))
-- is_position
def E_is_position_1 : M T := (mAndV (mCall F_is_member (mA1 (mVar 1) mA0)) (mAndV (mCallE F_is_integer [.non] (mA1 (mOps (fF fIx) [.var 0, .var 1]) mA0)) (mOps (fF fNe) [.tmp (mOps (fF fIx) [.var 0, .var 1]), .tmp (mC (.int 0))])))
def L_is_position_1 : M T := mLc (mIt itemsK (mVar 0)) (g1 1) mTrue E_is_position_1 [1]
def M_is_position : M Fl := (mSeq (mIfE (mNot (mBool (mOps (fF (fIsi "dict")) [.var 0]))) (mRet (mC (.bl false))) mNx)
    (mRet (mOps (fF fAll) [.tmp L_is_position_1])))
theorem sc_is_position : FnScope ["value", "unit"] ["value"] (defScope s_is_position) := ⟨rfl, rfl, rfl, by decide +kernel, rfl, by decide +kernel, by decide +kernel⟩
def F_is_position : List D → R Unit T := runD 2 M_is_position
theorem ok_is_position (T : Txt P w K mg base) : FnD P w K mg base 3 "is_position" 1 F_is_position := by
    obtain ⟨f, fd, hm, G⟩ := T.f_is_position
    refine FnD.of hm G sc_is_position (G.binds fun _ _ _ _ _ _ us hl => match us, hl with | [_], _ => rfl) fun cdv A outer s H E hr => ?_
    have h1 := hr.u1
    have h64 := hr.u64
    have h65 := hr.u65
    exact (dss_cons (ds_if (dt_not (dt_val (de_isi (by rfl) T.b_isinstance (pv 0) (Gl.blt (by rfl) T.b_dict bt_dict) kit_dict))) (dss_one (ds_ret de_bl)) dss_nil)
    (dss_one (ds_ret (de_callB (cr_all rfl) s_all.ops (by rfl) T.b_all bb_all (.cons (de_lcV (own := [("unit", 1)]) rfl sc_is_position.nd (blkOk_by (N := ["value", "unit"]) (sc := defScope s_is_position) (by decide +kernel)) (di_varK (pv 0)) (fun _ _ _ _ _ => (dg_name sc_is_position.nd)) (fun _ _ _ _ _ => dts_nil) (fun _ _ _ _ _ => (de_and (de_call (ok_is_member T) (hr.mono (by decide)) (by rfl) (da_cons (de_var' (pv 1)) da_nil) (hlen := fun _ _ _ h => mA1_len mA0_len h)) (de_and (de_callE (okE_is_integer T) (hr.mono (by decide)) (by rfl) (da_cons (de_ix (ix_any h1) s_ix (pv 0) (pv 1)) da_nil) (fun _ _ _ h => congrArg (· + 1) (mA1_len mA0_len h))) (de_one (de_cmp (op_neA h64) s_ne.ops (de_ix (ix_any h1) s_ix (pv 0) (pv 1)) de_int (nomark _))))))) .nil)))))
-- is_price
def M_is_price : M Fl := (mRet (mAndV (mCall F_is_integer (mA1 (mVar 0) (mA1 (mC (.int 1)) mA0))) (mOps (fF (fIB fun i j => decide (i ≤ j))) [.var 0, .tmp (mC (.int 99))])))
theorem sc_is_price : FnScope ["value"] ["value"] (defScope s_is_price) := ⟨rfl, rfl, rfl, by decide +kernel, rfl, by decide +kernel, by decide +kernel⟩
def F_is_price : List D → R Unit T := runD 1 M_is_price
theorem ok_is_price (T : Txt P w K mg base) : FnD P w K mg base 2 "is_price" 1 F_is_price := by
    obtain ⟨f, fd, hm, G⟩ := T.f_is_price
    refine FnD.of hm G sc_is_price (G.binds fun _ _ _ _ _ _ us hl => match us, hl with | [_], _ => rfl) fun cdv A outer s H E hr => ?_
    have h1 := hr.u1
    have h64 := hr.u64
    have h65 := hr.u65
    exact (dss_one (ds_ret (de_and (de_call (ok_is_integer T) (hr.mono (by decide)) (by rfl) (da_cons (de_var' (pv 0)) (da_cons de_int da_nil)) (hlen := fun _ _ _ h => mA1_len (mA1_len mA0_len) h)) (de_one (de_cmp op_le s_ib.ops (pv 0) (de_globI (by rfl) T.c_MOST_PRICE) (nomark _))))))
-- check_prices
def E_check_prices_1 : M T := (mAndV (mCall F_is_member (mA1 (mVar 1) mA0)) (mCall F_is_price (mA1 (mOps (fF fIx) [.var 0, .var 1]) mA0)))
def L_check_prices_1 : M T := mLc (mIt itemsK (mVar 0)) (g1 1) mTrue E_check_prices_1 [1]
def M_check_prices : M Fl := (mIfE (mOr (mNot (mBool (mOps (fF (fIsi "dict")) [.var 0]))) (mNot (mBool (mOps (fF fAll) [.tmp L_check_prices_1])))) (mRaise "BadPrices" "given" (mA1 (mVar 0) mA0)) mNx)
theorem sc_check_prices : FnScope ["value", "unit"] ["value"] (defScope s_check_prices) := ⟨rfl, rfl, rfl, by decide +kernel, rfl, by decide +kernel, by decide +kernel⟩
def F_check_prices : List D → R Unit T := runD 2 M_check_prices
theorem ok_check_prices (T : Txt P w K mg base) : FnD P w K mg base 3 "check_prices" 1 F_check_prices := by
    obtain ⟨f, fd, hm, G⟩ := T.f_check_prices
    refine FnD.of hm G sc_check_prices (G.binds fun _ _ _ _ _ _ us hl => match us, hl with | [_], _ => rfl) fun cdv A outer s H E hr => ?_
    have h1 := hr.u1
    have h64 := hr.u64
    have h65 := hr.u65
    exact (dss_one (ds_if (dw_or (dt_not (dt_val (de_isi (by rfl) T.b_isinstance (pv 0) (Gl.blt (by rfl) T.b_dict bt_dict) kit_dict))) (dw_or1 (dt_not (dt_val (de_callB (cr_all rfl) s_all.ops (by rfl) T.b_all bb_all (.cons (de_lcV (own := [("unit", 1)]) rfl sc_check_prices.nd (blkOk_by (N := ["value", "unit"]) (sc := defScope s_check_prices) (by decide +kernel)) (di_varK (pv 0)) (fun _ _ _ _ _ => (dg_name sc_check_prices.nd)) (fun _ _ _ _ _ => dts_nil) (fun _ _ _ _ _ => (de_and (de_call (ok_is_member T) (hr.mono (by decide)) (by rfl) (da_cons (de_var' (pv 1)) da_nil) (hlen := fun _ _ _ h => mA1_len mA0_len h)) (de_one (de_call (ok_is_price T) (hr.mono (by decide)) (by rfl) (da_cons (de_ix (ix_any h1) s_ix (pv 0) (pv 1)) da_nil) (hlen := fun _ _ _ h => mA1_len mA0_len h)))))) .nil)))))).pt (dss_one (ds_raise T.x_BadPrices (hr.mono (by decide)) rfl (by rfl) (da_cons (de_var' (pv 0)) da_nil))) dss_nil))
-- summed
def E_summed_1 : M T := (mOps (fAdd) [.tmp (mGuard (.var 0) (mOps (fF fGet2f) [Op.dc (.var 0), .var 4, .tmp (mC (.int 0))])), .tmp (mGuard (.var 1) (mOps (fF fGet2f) [Op.dc (.var 1), .var 4, .tmp (mC (.int 0))]))])
def L_summed_1 : M T := mDcm (mIt itemsK (mVar 2)) (g1 4) mTrue (mVar 4) E_summed_1 [4]
def C_summed_1 : M Bool := (mBool (mOps (fF fNe) [.tmp (mOps (fF fIx) [.var 3, .var 4]), .tmp (mC (.int 0))]))
def E_summed_2 : M T := (mOps (fF fIx) [.var 3, .var 4])
def L_summed_2 : M T := mDcm (mIt itemsK (mVar 3)) (g1 4) C_summed_1 (mVar 4) E_summed_2 [4]
def M_summed : M Fl := (mSeq (mSet 2 (mOps fSortSet [.tmp (mLst (mAS (mVar 0) (mAS (mVar 1) mA0)))]))
    (mSeq (mSet 3 L_summed_1)
    (mRet L_summed_2)))
theorem sc_summed : FnScope ["one", "other", "units", "both", "unit"] ["one", "other"] (defScope s_summed) := ⟨rfl, rfl, rfl, by decide +kernel, rfl, by decide +kernel, by decide +kernel⟩
def F_summed : List D → R Unit T := runD 5 M_summed
theorem ok_summed (T : Txt P w K mg base) : FnD P w K mg base 1 "summed" 2 F_summed := by
    obtain ⟨f, fd, hm, G⟩ := T.f_summed
    refine FnD.of hm G sc_summed (G.binds fun _ _ _ _ _ _ us hl => match us, hl with | [_, _], _ => rfl) fun cdv A outer s H E hr => ?_
    have h1 := hr.u1
    have h64 := hr.u64
    have h65 := hr.u65
    exact (dss_cons (ds_set sc_summed.nd (de_sortSet rfl (by rfl) T.b_sorted (by rfl) T.b_set (de_lst (da_star rfl (de_var' (pv 0)) (da_star rfl (de_var' (pv 1)) da_nil)))))
    (dss_cons (ds_set sc_summed.nd (de_dcV (own := [("unit", 4)]) rfl sc_summed.nd (blkOk_by (N := ["one", "other", "units", "both", "unit"]) (sc := defScope s_summed) (by decide +kernel)) (di_varK (pv 2)) (fun _ _ _ _ _ => (dg_name sc_summed.nd)) (fun _ _ _ _ _ => dts_nil) (fun _ _ _ _ _ => (de_var' (pv 4))) (fun _ _ _ _ _ => (de_op op_addA s_add (de_get2 h1 (pv 0) (pv 4) de_int) (de_get2 h1 (pv 1) (pv 4) de_int)))))
    (dss_one (ds_ret (de_dcV (own := [("unit", 4)]) rfl sc_summed.nd (blkOk_by (N := ["one", "other", "units", "both", "unit"]) (sc := defScope s_summed) (by decide +kernel)) (di_varK (pv 3)) (fun _ _ _ _ _ => (dg_name sc_summed.nd)) (fun _ _ _ _ _ => (dts_one (dt_cmp (op_neA h64) s_ne.ops (de_ix (ix_any h1) s_ix (pv 3) (pv 4)) de_int (nomark _)))) (fun _ _ _ _ _ => (de_var' (pv 4))) (fun _ _ _ _ _ => (de_ix (ix_any h1) s_ix (pv 3) (pv 4))))))))
-- is_move
def E_is_move_1 : M T := (mAndV (mCall F_is_member (mA1 (mVar 1) mA0)) (mCallE F_is_integer [.non] (mA1 (mOps (fF fIx) [.var 0, .var 1]) mA0)))
def L_is_move_1 : M T := mLc (mIt itemsK (mVar 0)) (g1 1) mTrue E_is_move_1 [1]
def M_is_move : M Fl := (mRet (mAndV (mOps (fF (fIsi "dict")) [.var 0]) (mOps (fF fAll) [.tmp L_is_move_1])))
theorem sc_is_move : FnScope ["value", "unit"] ["value"] (defScope s_is_move) := ⟨rfl, rfl, rfl, by decide +kernel, rfl, by decide +kernel, by decide +kernel⟩
def F_is_move : List D → R Unit T := runD 2 M_is_move
theorem ok_is_move (T : Txt P w K mg base) : FnD P w K mg base 3 "is_move" 1 F_is_move := by
    obtain ⟨f, fd, hm, G⟩ := T.f_is_move
    refine FnD.of hm G sc_is_move (G.binds fun _ _ _ _ _ _ us hl => match us, hl with | [_], _ => rfl) fun cdv A outer s H E hr => ?_
    have h1 := hr.u1
    have h64 := hr.u64
    have h65 := hr.u65
    exact (dss_one (ds_ret (de_and (de_isi (by rfl) T.b_isinstance (pv 0) (Gl.blt (by rfl) T.b_dict bt_dict) kit_dict) (de_one (de_callB (cr_all rfl) s_all.ops (by rfl) T.b_all bb_all (.cons (de_lcV (own := [("unit", 1)]) rfl sc_is_move.nd (blkOk_by (N := ["value", "unit"]) (sc := defScope s_is_move) (by decide +kernel)) (di_varK (pv 0)) (fun _ _ _ _ _ => (dg_name sc_is_move.nd)) (fun _ _ _ _ _ => dts_nil) (fun _ _ _ _ _ => (de_and (de_call (ok_is_member T) (hr.mono (by decide)) (by rfl) (da_cons (de_var' (pv 1)) da_nil) (hlen := fun _ _ _ h => mA1_len mA0_len h)) (de_one (de_callE (okE_is_integer T) (hr.mono (by decide)) (by rfl) (da_cons (de_ix (ix_any h1) s_ix (pv 0) (pv 1)) da_nil) (fun _ _ _ h => congrArg (· + 1) (mA1_len mA0_len h))))))) .nil))))))
-- check_moves
def B_check_moves_1 : M Fl := (mIfE (mNot (mBool (mCall F_is_move (mA1 (mVar 1) mA0)))) (mRaise "BadMove" "given" (mA1 (mVar 1) mA0)) mNx)
def M_check_moves : M Fl := (mSeq (mIfE (mNot (mBool (mChain (fun i j => decide (i ≤ j)) (fun i j => decide (i ≤ j)) (.tmp (mC (.int 1))) (.tmp (mOps (fF fLen) [.var 0])) (.tmp (mC (.int 8)))))) (mRaise "BadCount" "count" (mA1 (mOps (fF fLen) [.var 0]) mA0)) mNx)
    (mSeq (mFor (mIt items (mVar 0)) (g1 1) B_check_moves_1)
    (mIfE (mBool (mOps (fF fNe) [.tmp (mOps (fF fIx) [.var 0, .tmp (mC (.int 0))]), .tmp mNewK])) (mRaise "BadMove" "given" (mA1 (mOps (fF fIx) [.var 0, .tmp (mC (.int 0))]) mA0)) mNx)))
theorem sc_check_moves : FnScope ["moves", "move"] ["moves"] (defScope s_check_moves) := ⟨rfl, rfl, rfl, by decide +kernel, rfl, by decide +kernel, by decide +kernel⟩
def F_check_moves : List D → R Unit T := runD 2 M_check_moves
theorem ok_check_moves (T : Txt P w K mg base) : FnD P w K mg base 4 "check_moves" 1 F_check_moves := by
    obtain ⟨f, fd, hm, G⟩ := T.f_check_moves
    refine FnD.of hm G sc_check_moves (G.binds fun _ _ _ _ _ _ us hl => match us, hl with | [_], _ => rfl) fun cdv A outer s H E hr => ?_
    have h1 := hr.u1
    have h64 := hr.u64
    have h65 := hr.u65
    exact (dss_cons (ds_if (dt_not (dt_chain op_le op_le de_int (de_callB call_lenA s_len.ops (by rfl) T.b_len bb_len (.cons (pv 0) .nil)) (de_globI (by rfl) T.c_MOST_MOVES))) (dss_one (ds_raise T.x_BadCount (hr.mono (by decide)) rfl (by rfl) (da_cons (de_callB call_lenA s_len.ops (by rfl) T.b_len bb_len (.cons (pv 0) .nil)) da_nil))) dss_nil)
    (dss_cons (ds_for (passes_of rfl) rfl (di_gen (de_var' (pv 0))) (dg_name sc_check_moves.nd) (dss_one (ds_if (dt_not (dt_val (de_call (ok_is_move T) (hr.mono (by decide)) (by rfl) (da_cons (de_var' (pv 1)) da_nil) (hlen := fun _ _ _ h => mA1_len mA0_len h)))) (dss_one (ds_raise T.x_BadMove (hr.mono (by decide)) rfl (by rfl) (da_cons (de_var' (pv 1)) da_nil))) dss_nil)))
    (dss_one (ds_if (dt_cmp (op_neA h64) s_ne.ops (de_ix (ix_any h1) s_ix (pv 0) de_int) de_newK (nomark _)) (dss_one (ds_raise T.x_BadMove (hr.mono (by decide)) rfl (by rfl) (da_cons (de_ix (ix_any h1) s_ix (pv 0) de_int) da_nil))) dss_nil))))
-- loss_by
def E_loss_by_1 : M T := (mOps (fMul) [.tmp (mOps (fF fIx) [.var 0, .var 2]), .tmp (mGuard (.var 1) (mOps (fF fGet2f) [Op.dc (.var 1), .var 2, .tmp (mC (.int 0))]))])
def L_loss_by_1 : M T := mLc (mIt itemsK (mVar 0)) (g1 2) mTrue E_loss_by_1 [2]
def M_loss_by : M Fl := (mRet (mOps (fF fNeg) [.tmp (mOps (fF fSum) [.tmp L_loss_by_1])]))
theorem sc_loss_by : FnScope ["position", "move", "unit"] ["position", "move"] (defScope s_loss_by) := ⟨rfl, rfl, rfl, by decide +kernel, rfl, by decide +kernel, by decide +kernel⟩
def F_loss_by : List D → R Unit T := runD 3 M_loss_by
theorem ok_loss_by (T : Txt P w K mg base) : FnD P w K mg base 1 "loss_by" 2 F_loss_by := by
    obtain ⟨f, fd, hm, G⟩ := T.f_loss_by
    refine FnD.of hm G sc_loss_by (G.binds fun _ _ _ _ _ _ us hl => match us, hl with | [_, _], _ => rfl) fun cdv A outer s H E hr => ?_
    have h1 := hr.u1
    have h64 := hr.u64
    have h65 := hr.u65
    exact (dss_one (ds_ret (de_un un_neg s_neg.ops (de_callB (cr_sum rfl) s_sum.ops (by rfl) T.b_sum bb_sum (.cons (de_lcV (own := [("unit", 2)]) rfl sc_loss_by.nd (blkOk_by (N := ["position", "move", "unit"]) (sc := defScope s_loss_by) (by decide +kernel)) (di_varK (pv 0)) (fun _ _ _ _ _ => (dg_name sc_loss_by.nd)) (fun _ _ _ _ _ => dts_nil) (fun _ _ _ _ _ => (de_op op_mulA s_mul (de_ix (ix_any h1) s_ix (pv 0) (pv 2)) (de_get2 h1 (pv 1) (pv 2) de_int)))) .nil)))))
-- is_standing
def M_is_standing : M Fl := (mSeq (mIfE (mOr (mNot (mBool (mOps (fF (fIsi "tuple")) [.var 0]))) (mOr (mBool (mOps (fF fNe) [.tmp (mOps (fF fLen) [.var 0]), .tmp (mC (.int 4))])) (mNot (mBool (mOps (fF (fIsi "str")) [.tmp (mOps (fF fIx) [.var 0, .tmp (mC (.int 0))])]))))) (mRet (mC (.bl false))) mNx)
    (mSeq (mAsgT (gT 4 (gs1 (g1 1) (gs1 (g1 2) (gs1 (g1 3) (gs1 (g1 4) gs0))))) (mVar 0))
    (mRet (mAndV (mOps (fF fIn) [.var 1, .tmp (mTup (mA1 (mC (.str "buy")) (mA1 (mC (.str "sell")) mA0)))]) (mAndV (mCall F_is_member (mA1 (mVar 2) mA0)) (mAndV (mCall F_is_price (mA1 (mVar 3) mA0)) (mCall F_is_integer (mA1 (mVar 4) (mA1 (mC (.int 1)) mA0)))))))))
theorem sc_is_standing : FnScope ["value", "side", "unit", "price", "amount"] ["value"] (defScope s_is_standing) := ⟨rfl, rfl, rfl, by decide +kernel, rfl, by decide +kernel, by decide +kernel⟩
def F_is_standing : List D → R Unit T := runD 5 M_is_standing
theorem ok_is_standing (T : Txt P w K mg base) : FnD P w K mg base 3 "is_standing" 1 F_is_standing := by
    obtain ⟨f, fd, hm, G⟩ := T.f_is_standing
    refine FnD.of hm G sc_is_standing (G.binds fun _ _ _ _ _ _ us hl => match us, hl with | [_], _ => rfl) fun cdv A outer s H E hr => ?_
    have h1 := hr.u1
    have h64 := hr.u64
    have h65 := hr.u65
    exact (dss_cons (ds_if (dw_or (dt_not (dt_val (de_isi (by rfl) T.b_isinstance (pv 0) (Gl.blt (by rfl) T.b_tuple bt_tuple) kit_tuple))) (dw_or (dt_cmp (op_neA h64) s_ne.ops (de_callB call_lenA s_len.ops (by rfl) T.b_len bb_len (.cons (pv 0) .nil)) de_int (nomark _)) (dw_or1 (dt_not (dt_val (de_isi (by rfl) T.b_isinstance (de_ix (ix_any h1) s_ix (pv 0) de_int) (Gl.blt (by rfl) T.b_str bt_str) kit_str)))))).pt (dss_one (ds_ret de_bl)) dss_nil)
    (dss_cons (ds_asgT (de_var' (pv 0)) (dg_tup rfl (dgs_cons (dg_name sc_is_standing.nd) (dgs_cons (dg_name sc_is_standing.nd) (dgs_cons (dg_name sc_is_standing.nd) (dgs_cons (dg_name sc_is_standing.nd) dgs_nil))))))
    (dss_one (ds_ret (de_and (de_cmp (op_inA h65) s_in.ops (pv 1) (de_tup (da_cons de_str (da_cons de_str da_nil))) (by with_unfolding_all rfl)) (de_and (de_call (ok_is_member T) (hr.mono (by decide)) (by rfl) (da_cons (de_var' (pv 2)) da_nil) (hlen := fun _ _ _ h => mA1_len mA0_len h)) (de_and (de_call (ok_is_price T) (hr.mono (by decide)) (by rfl) (da_cons (de_var' (pv 3)) da_nil) (hlen := fun _ _ _ h => mA1_len mA0_len h)) (de_one (de_call (ok_is_integer T) (hr.mono (by decide)) (by rfl) (da_cons (de_var' (pv 4)) (da_cons de_int da_nil)) (hlen := fun _ _ _ h => mA1_len (mA1_len mA0_len) h))))))))))
-- check_priced
def B_check_priced_1 : M Fl := (mIfE (mBool (mOps (fF fNotIn) [.tmp (mOps (fF fIx) [.var 2, .tmp (mC (.int 1))]), .var 1])) (mRaise "UnknownUnit" "given" (mA1 (mOps (fF fIx) [.var 2, .tmp (mC (.int 1))]) mA0)) mNx)
def M_check_priced : M Fl := (mFor (mIt items (mVar 0)) (g1 2) B_check_priced_1)
theorem sc_check_priced : FnScope ["orders", "prices", "order"] ["orders", "prices"] (defScope s_check_priced) := ⟨rfl, rfl, rfl, by decide +kernel, rfl, by decide +kernel, by decide +kernel⟩
def F_check_priced : List D → R Unit T := runD 3 M_check_priced
theorem ok_check_priced (T : Txt P w K mg base) : FnD P w K mg base 3 "check_priced" 2 F_check_priced := by
    obtain ⟨f, fd, hm, G⟩ := T.f_check_priced
    refine FnD.of hm G sc_check_priced (G.binds fun _ _ _ _ _ _ us hl => match us, hl with | [_, _], _ => rfl) fun cdv A outer s H E hr => ?_
    have h1 := hr.u1
    have h64 := hr.u64
    have h65 := hr.u65
    exact (dss_one (ds_for (passes_of rfl) rfl (di_gen (de_var' (pv 0))) (dg_name sc_check_priced.nd) (dss_one (ds_if (dt_cmp (op_notInA h65) s_notIn.ops (de_ix (ix_any h1) s_ix (pv 2) de_int) (pv 1) (by with_unfolding_all rfl)) (dss_one (ds_raise T.x_UnknownUnit (hr.mono (by decide)) rfl (by rfl) (da_cons (de_ix (ix_any h1) s_ix (pv 2) de_int) da_nil))) dss_nil))))
-- unit_loss
def M_unit_loss : M Fl := (mSeq (mSet 3 (mOps (fAdd) [.tmp (mOps (fF fIx) [.var 2, .tmp (mOps (fF fIx) [.var 0, .tmp (mC (.int 1))])]), .tmp (mGuard (.var 1) (mOps (fF fGet2f) [Op.dc (.var 1), .tmp (mOps (fF fIx) [.var 0, .tmp (mC (.int 1))]), .tmp (mC (.int 0))]))]))
    (mRet (mIfE (mBool (mOps (fF fEq) [.tmp (mOps (fF fIx) [.var 0, .tmp (mC (.int 0))]), .tmp (mC (.str "buy"))])) (mOps (fF fSub) [.tmp (mOps (fF fIx) [.var 0, .tmp (mC (.int 2))]), .var 3]) (mOps (fF fSub) [.var 3, .tmp (mOps (fF fIx) [.var 0, .tmp (mC (.int 2))])]))))
theorem sc_unit_loss : FnScope ["order", "move", "prices", "after"] ["order", "move", "prices"] (defScope s_unit_loss) := ⟨rfl, rfl, rfl, by decide +kernel, rfl, by decide +kernel, by decide +kernel⟩
def F_unit_loss : List D → R Unit T := runD 4 M_unit_loss
theorem ok_unit_loss (T : Txt P w K mg base) : FnD P w K mg base 1 "unit_loss" 3 F_unit_loss := by
    obtain ⟨f, fd, hm, G⟩ := T.f_unit_loss
    refine FnD.of hm G sc_unit_loss (G.binds fun _ _ _ _ _ _ us hl => match us, hl with | [_, _, _], _ => rfl) fun cdv A outer s H E hr => ?_
    have h1 := hr.u1
    have h64 := hr.u64
    have h65 := hr.u65
    exact (dss_cons (ds_set sc_unit_loss.nd (de_op op_addA s_add (de_ix (ix_any h1) s_ix (pv 2) (de_ix (ix_any h1) s_ix (pv 0) de_int)) (de_get2 h1 (pv 1) (de_ix (ix_any h1) s_ix (pv 0) de_int) de_int)))
    (dss_one (ds_ret (de_ifE (dt_cmp (op_eqA h64) s_eq.ops (de_ix (ix_any h1) s_ix (pv 0) de_int) de_str (nomark _)) (de_op op_sub s_i0.ops (de_ix (ix_any h1) s_ix (pv 0) de_int) (pv 3)) (de_op op_sub s_i0.ops (pv 3) (de_ix (ix_any h1) s_ix (pv 0) de_int))))))
-- worst_filled
def E_worst_filled_1 : M T := (mIfE (mBool (mOps (fF (fIB fun i j => decide (j < i))) [.tmp (mCall F_unit_loss (mA1 (mVar 3) (mA1 (mVar 1) (mA1 (mVar 2) mA0)))), .tmp (mC (.int 0))])) (mOps (fF fIx) [.var 3, .tmp (mC (.int 3))]) (mC (.int 0)))
def L_worst_filled_1 : M T := mLc (mIt itemsK (mVar 0)) (g1 3) mTrue E_worst_filled_1 [3]
def M_worst_filled : M Fl := (mRet (mOps (fTuple) [.tmp L_worst_filled_1]))
theorem sc_worst_filled : FnScope ["orders", "move", "prices", "order"] ["orders", "move", "prices"] (defScope s_worst_filled) := ⟨rfl, rfl, rfl, by decide +kernel, rfl, by decide +kernel, by decide +kernel⟩
def F_worst_filled : List D → R Unit T := runD 4 M_worst_filled
theorem ok_worst_filled (T : Txt P w K mg base) : FnD P w K mg base 2 "worst_filled" 3 F_worst_filled := by
    obtain ⟨f, fd, hm, G⟩ := T.f_worst_filled
    refine FnD.of hm G sc_worst_filled (G.binds fun _ _ _ _ _ _ us hl => match us, hl with | [_, _, _], _ => rfl) fun cdv A outer s H E hr => ?_
    have h1 := hr.u1
    have h64 := hr.u64
    have h65 := hr.u65
    exact (dss_one (ds_ret (de_callTy call_tuple_of s_tuple (by rfl) T.b_tuple bt_tuple (.cons (de_lcV (own := [("order", 3)]) rfl sc_worst_filled.nd (blkOk_by (N := ["orders", "move", "prices", "order"]) (sc := defScope s_worst_filled) (by decide +kernel)) (di_varK (pv 0)) (fun _ _ _ _ _ => (dg_name sc_worst_filled.nd)) (fun _ _ _ _ _ => dts_nil) (fun _ _ _ _ _ => (de_ifE (dt_cmp op_gt s_ib.ops (de_call (ok_unit_loss T) (hr.mono (by decide)) (by rfl) (da_cons (de_var' (pv 3)) (da_cons (de_var' (pv 1)) (da_cons (de_var' (pv 2)) da_nil))) (hlen := fun _ _ _ h => mA1_len (mA1_len (mA1_len mA0_len)) h)) de_int (nomark _)) (de_ix (ix_any h1) s_ix (pv 3) de_int) de_int))) .nil))))
-- loss_with
def E_loss_with_1 : M T := (mOps (fMul) [.var 7, .tmp (mCall F_unit_loss (mA1 (mVar 6) (mA1 (mVar 2) (mA1 (mVar 3) mA0))))])
def L_loss_with_1 : M T := mLc (mZipB (mA1 (mVar 1) (mA1 (mVar 4) mA0))) (gT 2 (gs1 (g1 6) (gs1 (g1 7) gs0))) mTrue E_loss_with_1 [6, 7]
def M_loss_with : M Fl := (mSeq (mSet 5 L_loss_with_1)
    (mRet (mOps (fAdd) [.tmp (mCall F_loss_by (mA1 (mVar 0) (mA1 (mVar 2) mA0))), .tmp (mOps (fF fSum) [.var 5])])))
theorem sc_loss_with : FnScope ["position", "orders", "move", "prices", "filled", "lost", "order", "number"] ["position", "orders", "move", "prices", "filled"] (defScope s_loss_with) := ⟨rfl, rfl, rfl, by decide +kernel, rfl, by decide +kernel, by decide +kernel⟩
def F_loss_with : List D → R Unit T := runD 8 M_loss_with
theorem ok_loss_with (T : Txt P w K mg base) : FnD P w K mg base 2 "loss_with" 5 F_loss_with := by
    obtain ⟨f, fd, hm, G⟩ := T.f_loss_with
    refine FnD.of hm G sc_loss_with (G.binds fun _ _ _ _ _ _ us hl => match us, hl with | [_, _, _, _, _], _ => rfl) fun cdv A outer s H E hr => ?_
    have h1 := hr.u1
    have h64 := hr.u64
    have h65 := hr.u65
    exact (dss_cons (ds_setLc (own := [("order", 6), ("number", 7)]) rfl sc_loss_with.nd (blkOk_by (N := ["position", "orders", "move", "prices", "filled", "lost", "order", "number"]) (sc := defScope s_loss_with) (by decide +kernel)) (di_zipB (by rfl) T.b_zip (da_cons (de_var' (pv 1)) (da_cons (de_var' (pv 4)) da_nil))) (fun _ _ _ _ _ => (dg_tup rfl (dgs_cons (dg_name sc_loss_with.nd) (dgs_cons (dg_name sc_loss_with.nd) dgs_nil)))) (fun _ _ _ _ _ => dts_nil) (fun _ _ _ _ _ => (de_op op_mulA s_mul (pv 7) (de_call (ok_unit_loss T) (hr.mono (by decide)) (by rfl) (da_cons (de_var' (pv 6)) (da_cons (de_var' (pv 2)) (da_cons (de_var' (pv 3)) da_nil))) (hlen := fun _ _ _ h => mA1_len (mA1_len (mA1_len mA0_len)) h)))) (by rfl))
    (dss_one (ds_ret (de_op op_addA s_add (de_call (ok_loss_by T) (hr.mono (by decide)) (by rfl) (da_cons (de_var' (pv 0)) (da_cons (de_var' (pv 2)) da_nil)) (hlen := fun _ _ _ h => mA1_len (mA1_len mA0_len) h)) (de_callB (cr_sum rfl) s_sum.ops (by rfl) T.b_sum bb_sum (.cons (pv 5) .nil))))))
-- worst_of
def E_worst_of_1 : M T := (mCall F_worst_filled (mA1 (mVar 1) (mA1 (mVar 7) (mA1 (mVar 3) mA0))))
def L_worst_of_1 : M T := mLc (mIt itemsK (mVar 2)) (g1 7) mTrue E_worst_of_1 [7]
def E_worst_of_2 : M T := (mCall F_loss_with (mA1 (mVar 0) (mA1 (mVar 1) (mA1 (mVar 7) (mA1 (mVar 3) (mA1 (mVar 8) mA0))))))
def L_worst_of_2 : M T := mLc (mZipB (mA1 (mVar 2) (mA1 (mVar 4) mA0))) (gT 2 (gs1 (g1 7) (gs1 (g1 8) gs0))) mTrue E_worst_of_2 [7, 8]
def M_worst_of : M Fl := (mSeq (mSet 4 L_worst_of_1)
    (mSeq (mSet 5 L_worst_of_2)
    (mSeq (mSet 6 (mIdx 5 (.tmp (mOps (fF fMax) [.var 5]))))
    (mRet (mTup (mA1 (mOps (fF fIx) [.var 5, .var 6]) (mA1 (mVar 6) (mA1 (mOps (fF fIx) [.var 4, .var 6]) mA0))))))))
theorem sc_worst_of : FnScope ["position", "orders", "moves", "prices", "fills", "lost", "index", "move", "filled"] ["position", "orders", "moves", "prices"] (defScope s_worst_of) := ⟨rfl, rfl, rfl, by decide +kernel, rfl, by decide +kernel, by decide +kernel⟩
def F_worst_of : List D → R Unit T := runD 9 M_worst_of
theorem ok_worst_of (T : Txt P w K mg base) : FnD P w K mg base 3 "worst_of" 4 F_worst_of := by
    obtain ⟨f, fd, hm, G⟩ := T.f_worst_of
    refine FnD.of hm G sc_worst_of (G.binds fun _ _ _ _ _ _ us hl => match us, hl with | [_, _, _, _], _ => rfl) fun cdv A outer s H E hr => ?_
    have h1 := hr.u1
    have h64 := hr.u64
    have h65 := hr.u65
    exact (dss_cons (ds_setLcV (own := [("move", 7)]) rfl sc_worst_of.nd (blkOk_by (N := ["position", "orders", "moves", "prices", "fills", "lost", "index", "move", "filled"]) (sc := defScope s_worst_of) (by decide +kernel)) (di_varK (pv 2)) (fun _ _ _ _ _ => (dg_name sc_worst_of.nd)) (fun _ _ _ _ _ => dts_nil) (fun _ _ _ _ _ => (de_call (ok_worst_filled T) (hr.mono (by decide)) (by rfl) (da_cons (de_var' (pv 1)) (da_cons (de_var' (pv 7)) (da_cons (de_var' (pv 3)) da_nil))) (hlen := fun _ _ _ h => mA1_len (mA1_len (mA1_len mA0_len)) h))) (by rfl))
    (dss_cons (ds_setLc (own := [("move", 7), ("filled", 8)]) rfl sc_worst_of.nd (blkOk_by (N := ["position", "orders", "moves", "prices", "fills", "lost", "index", "move", "filled"]) (sc := defScope s_worst_of) (by decide +kernel)) (di_zipB (by rfl) T.b_zip (da_cons (de_var' (pv 2)) (da_cons (de_var' (pv 4)) da_nil))) (fun _ _ _ _ _ => (dg_tup rfl (dgs_cons (dg_name sc_worst_of.nd) (dgs_cons (dg_name sc_worst_of.nd) dgs_nil)))) (fun _ _ _ _ _ => dts_nil) (fun _ _ _ _ _ => (de_call (ok_loss_with T) (hr.mono (by decide)) (by rfl) (da_cons (de_var' (pv 0)) (da_cons (de_var' (pv 1)) (da_cons (de_var' (pv 7)) (da_cons (de_var' (pv 3)) (da_cons (de_var' (pv 8)) da_nil))))) (hlen := fun _ _ _ h => mA1_len (mA1_len (mA1_len (mA1_len (mA1_len mA0_len)))) h))) (by rfl))
    (dss_cons (ds_set sc_worst_of.nd (de_index (pv 5) (de_callB (call_maxA rfl) s_max.ops (by rfl) T.b_max bb_max (.cons (pv 5) .nil))))
    (dss_one (ds_ret (de_tup (da_cons (de_ix (ix_any h1) s_ix (pv 5) (pv 6)) (da_cons (de_var' (pv 6)) (da_cons (de_ix (ix_any h1) s_ix (pv 4) (pv 6)) da_nil)))))))))
-- is_list
def M_is_list : M Fl := (mRet (mOps (fF (fIsi2 "list" "tuple")) [.var 0]))
theorem sc_is_list : FnScope ["value"] ["value"] (defScope s_is_list) := ⟨rfl, rfl, rfl, by decide +kernel, rfl, by decide +kernel, by decide +kernel⟩
def F_is_list : List D → R Unit T := runD 1 M_is_list
theorem ok_is_list (T : Txt P w K mg base) : FnD P w K mg base 1 "is_list" 1 F_is_list := by
    obtain ⟨f, fd, hm, G⟩ := T.f_is_list
    refine FnD.of hm G sc_is_list (G.binds fun _ _ _ _ _ _ us hl => match us, hl with | [_], _ => rfl) fun cdv A outer s H E hr => ?_
    have h1 := hr.u1
    have h64 := hr.u64
    have h65 := hr.u65
    exact (dss_one (ds_ret (de_isi2 (by rfl) T.b_isinstance (pv 0) (Gl.blt (by rfl) T.b_list bt_list) (Gl.blt (by rfl) T.b_tuple bt_tuple) kit_list kit_tuple)))
-- are_owners
def E_are_owners_1 : M T := (mCall F_is_member (mA1 (mVar 2) mA0))
def L_are_owners_1 : M T := mLc (mIt itemsK (mVar 0)) (g1 2) mTrue E_are_owners_1 [2]
def E_are_owners_2 : M T := (mOps (fF fIn) [.var 2, .tmp (mOps fSl01 [.var 0, .var 1])])
def L_are_owners_2 : M T := mLc (mEnum (mA1 (mVar 0) mA0)) (gT 2 (gs1 (g1 1) (gs1 (g1 2) gs0))) mTrue E_are_owners_2 [1, 2]
def M_are_owners : M Fl := (mSeq (mIfE (mOr (mNot (mBool (mCall F_is_list (mA1 (mVar 0) mA0)))) (mNot (mBool (mOps (fF fAll) [.tmp L_are_owners_1])))) (mRet (mC (.bl false))) mNx)
    (mRet (mNotV (mOps (fF fAny) [.tmp L_are_owners_2]))))
theorem sc_are_owners : FnScope ["value", "at", "item"] ["value"] (defScope s_are_owners) := ⟨rfl, rfl, rfl, by decide +kernel, rfl, by decide +kernel, by decide +kernel⟩
def F_are_owners : List D → R Unit T := runD 3 M_are_owners
theorem ok_are_owners (T : Txt P w K mg base) : FnD P w K mg base 3 "are_owners" 1 F_are_owners := by
    obtain ⟨f, fd, hm, G⟩ := T.f_are_owners
    refine FnD.of hm G sc_are_owners (G.binds fun _ _ _ _ _ _ us hl => match us, hl with | [_], _ => rfl) fun cdv A outer s H E hr => ?_
    have h1 := hr.u1
    have h64 := hr.u64
    have h65 := hr.u65
    exact (dss_cons (ds_if (dw_or (dt_not (dt_val (de_call (ok_is_list T) (hr.mono (by decide)) (by rfl) (da_cons (de_var' (pv 0)) da_nil) (hlen := fun _ _ _ h => mA1_len mA0_len h)))) (dw_or1 (dt_not (dt_val (de_callB (cr_all rfl) s_all.ops (by rfl) T.b_all bb_all (.cons (de_lcV (own := [("item", 2)]) rfl sc_are_owners.nd (blkOk_by (N := ["value", "at", "item"]) (sc := defScope s_are_owners) (by decide +kernel)) (di_varK (pv 0)) (fun _ _ _ _ _ => (dg_name sc_are_owners.nd)) (fun _ _ _ _ _ => dts_nil) (fun _ _ _ _ _ => (de_call (ok_is_member T) (hr.mono (by decide)) (by rfl) (da_cons (de_var' (pv 2)) da_nil) (hlen := fun _ _ _ h => mA1_len mA0_len h)))) .nil)))))).pt (dss_one (ds_ret de_bl)) dss_nil)
    (dss_one (ds_ret (de_not (de_callB (cr_any rfl) s_any.ops (by rfl) T.b_any bb_any (.cons (de_lc (own := [("at", 1), ("item", 2)]) rfl sc_are_owners.nd (blkOk_by (N := ["value", "at", "item"]) (sc := defScope s_are_owners) (by decide +kernel)) (di_enum (by rfl) T.b_enumerate (da_cons (de_var' (pv 0)) da_nil)) (fun _ _ _ _ _ => (dg_tup rfl (dgs_cons (dg_name sc_are_owners.nd) (dgs_cons (dg_name sc_are_owners.nd) dgs_nil)))) (fun _ _ _ _ _ => dts_nil) (fun _ _ _ _ _ => (de_cmp (op_inA h65) s_in.ops (pv 2) (de_sl01 (pv 0) (pv 1)) (by with_unfolding_all rfl)))) .nil))))))
-- lists_of
def E_lists_of_1 (F : List D → R Unit T) : M T := (mLst (mA1 (mVar 4) (mAS (mVar 5) mA0)))
def L_lists_of_1 (F : List D → R Unit T) : M T := mLc (mIt items (mCall F (mA1 (mOps fSl10 [.var 0, .tmp (mOps (fAdd) [.var 3, .tmp (mC (.int 1))])]) (mA1 (mOps (fF fSub) [.var 1, .tmp (mC (.int 1))]) mA0)))) (g1 5) mTrue (E_lists_of_1 F) [5]
def B_lists_of_1 (F : List D → R Unit T) : M Fl := (mExpr (mExtend 2 (L_lists_of_1 F)))
def M_lists_of (F : List D → R Unit T) : M Fl := (mSeq (mIfE (mBool (mOps (fF fEq) [.var 1, .tmp (mC (.int 0))])) (mRet (mLst (mA1 (mLst mA0) mA0))) mNx)
    (mSeq (mSet 2 (mLst mA0))
    (mSeq (mFor (mEnum (mA1 (mVar 0) mA0)) (gT 2 (gs1 (g1 3) (gs1 (g1 4) gs0))) (B_lists_of_1 F))
    (mRet (mMove 2)))))
theorem sc_lists_of : FnScope ["items", "size", "found", "place", "item", "rest"] ["items", "size"] (defScope s_lists_of) := ⟨rfl, rfl, rfl, by decide +kernel, rfl, by decide +kernel, by decide +kernel⟩
def F_lists_of : Nat → List D → R Unit T
  | 0 => fun _ => .no
  | n + 1 => runD 6 (M_lists_of (F_lists_of n))
theorem ok_lists_of (T : Txt P w K mg base) : ∀ n : Nat, FnD P w K mg base (n + 1) "lists_of" 2 (F_lists_of n)
  | 0 => by
    obtain ⟨f, fd, hm, G⟩ := T.f_lists_of
    exact FnD.no hm G sc_lists_of (G.binds fun _ _ _ _ _ _ us hl => match us, hl with | [_, _], _ => rfl) rfl
  | n + 1 => by
    have IH := ok_lists_of T n
    show FnD P w K mg base (n + 1 + 1) "lists_of" 2 (runD 6 (M_lists_of (F_lists_of n)))
    generalize F_lists_of n = F at IH ⊢
    obtain ⟨f, fd, hm, G⟩ := T.f_lists_of
    refine FnD.of hm G sc_lists_of (G.binds fun _ _ _ _ _ _ us hl => match us, hl with | [_, _], _ => rfl) fun cdv A outer s H E hr => ?_
    have h1 := hr.u1
    have h64 := hr.u64
    have h65 := hr.u65
    exact (dss_cons (ds_if (dt_cmp (op_eqA h64) s_eq.ops (pv 1) de_int (nomark _)) (dss_one (ds_ret (de_lst (da_cons (de_lst da_nil) da_nil)))) dss_nil)
    (dss_cons (ds_set sc_lists_of.nd (de_lst da_nil))
    (dss_cons (ds_for (passes_of rfl) rfl (di_enum (by rfl) T.b_enumerate (da_cons (de_var' (pv 0)) da_nil)) (dg_tup rfl (dgs_cons (dg_name sc_lists_of.nd) (dgs_cons (dg_name sc_lists_of.nd) dgs_nil))) (dss_one (ds_expr (de_extend (pv 2) (de_lc (own := [("rest", 5)]) rfl sc_lists_of.nd (blkOk_by (N := ["items", "size", "found", "place", "item", "rest"]) (sc := defScope s_lists_of) (by decide +kernel)) (di_gen (de_call (IH) (hr.mono (by omega)) (by rfl) (da_cons (de_sl10 (pv 0) (de_op op_addA s_add (pv 3) de_int)) (da_cons (de_op op_sub s_i0.ops (pv 1) de_int) da_nil)) (hlen := fun _ _ _ h => mA1_len (mA1_len mA0_len) h))) (fun _ _ _ _ _ => (dg_name sc_lists_of.nd)) (fun _ _ _ _ _ => dts_nil) (fun _ _ _ _ _ => (de_lst (da_cons (de_var' (pv 4)) (da_star rfl (de_var' (pv 5)) da_nil)))))))))
    (dss_one (ds_ret (de_move' (pv 2)))))))
-- all_lists
def E_all_lists_1 : M T := (mVar 2)
def L_all_lists_1 : M T := mLc2 (mRng [.tmp (mOps (fAdd) [.tmp (mOps (fF fLen) [.var 0]), .tmp (mC (.int 1))])]) (g1 1) mTrue (inL (mIt items (mCall (F_lists_of 12) (mA1 (mVar 0) (mA1 (mVar 1) mA0)))) (g1 2) mTrue E_all_lists_1 [2]) [1, 2]
def M_all_lists : M Fl := (mRet L_all_lists_1)
theorem sc_all_lists : FnScope ["names", "size", "row"] ["names"] (defScope s_all_lists) := ⟨rfl, rfl, rfl, by decide +kernel, rfl, by decide +kernel, by decide +kernel⟩
def F_all_lists : List D → R Unit T := runD 3 M_all_lists
theorem ok_all_lists (T : Txt P w K mg base) : FnD P w K mg base 14 "all_lists" 1 F_all_lists := by
    obtain ⟨f, fd, hm, G⟩ := T.f_all_lists
    refine FnD.of hm G sc_all_lists (G.binds fun _ _ _ _ _ _ us hl => match us, hl with | [_], _ => rfl) fun cdv A outer s H E hr => ?_
    have h1 := hr.u1
    have h64 := hr.u64
    have h65 := hr.u65
    exact (dss_one (ds_ret (de_lc2 (own := [("size", 1), ("row", 2)]) (vs1 := [2]) rfl sc_all_lists.nd (blkOk_by (N := ["names", "size", "row"]) (sc := defScope s_all_lists) (by decide +kernel)) (by decide) (di_rng1 (by rfl) T.b_range (.cons (de_op op_addA s_add (de_callB call_lenA s_len.ops (by rfl) T.b_len bb_len (.cons (pv 0) .nil)) de_int) .nil)) (fun _ _ _ _ _ => (dg_name sc_all_lists.nd)) (fun _ _ _ _ _ => dts_nil) (fun _ _ _ _ _ => (di_gen (de_call (ok_lists_of T 12) (hr.mono (by decide)) (by rfl) (da_cons (de_var' (pv 0)) (da_cons (de_var' (pv 1)) da_nil)) (hlen := fun _ _ _ h => mA1_len (mA1_len mA0_len) h)))) (fun _ _ _ _ _ => (dg_name sc_all_lists.nd)) (fun _ _ _ _ _ => dts_nil) (fun _ _ _ _ _ => (de_var' (pv 2))))))
-- is_book
def E_is_book_1 : M T := (mCall F_is_standing (mA1 (mVar 1) mA0))
def L_is_book_1 : M T := mLc (mIt items (mOps (fF fIx) [.var 0, .tmp (mC (.int 1))])) (g1 1) mTrue E_is_book_1 [1]
def M_is_book : M Fl := (mSeq (mIfE (mOr (mNot (mBool (mOps (fF (fIsi "tuple")) [.var 0]))) (mOr (mBool (mOps (fF fNe) [.tmp (mOps (fF fLen) [.var 0]), .tmp (mC (.int 2))])) (mNot (mBool (mCall F_is_position (mA1 (mOps (fF fIx) [.var 0, .tmp (mC (.int 0))]) mA0)))))) (mRet (mC (.bl false))) mNx)
    (mRet (mAndV (mOps (fF (fIsi2 "list" "tuple")) [.tmp (mOps (fF fIx) [.var 0, .tmp (mC (.int 1))])]) (mOps (fF fAll) [.tmp L_is_book_1]))))
theorem sc_is_book : FnScope ["value", "order"] ["value"] (defScope s_is_book) := ⟨rfl, rfl, rfl, by decide +kernel, rfl, by decide +kernel, by decide +kernel⟩
def F_is_book : List D → R Unit T := runD 2 M_is_book
theorem ok_is_book (T : Txt P w K mg base) : FnD P w K mg base 4 "is_book" 1 F_is_book := by
    obtain ⟨f, fd, hm, G⟩ := T.f_is_book
    refine FnD.of hm G sc_is_book (G.binds fun _ _ _ _ _ _ us hl => match us, hl with | [_], _ => rfl) fun cdv A outer s H E hr => ?_
    have h1 := hr.u1
    have h64 := hr.u64
    have h65 := hr.u65
    exact (dss_cons (ds_if (dw_or (dt_not (dt_val (de_isi (by rfl) T.b_isinstance (pv 0) (Gl.blt (by rfl) T.b_tuple bt_tuple) kit_tuple))) (dw_or (dt_cmp (op_neA h64) s_ne.ops (de_callB call_lenA s_len.ops (by rfl) T.b_len bb_len (.cons (pv 0) .nil)) de_int (nomark _)) (dw_or1 (dt_not (dt_val (de_call (ok_is_position T) (hr.mono (by decide)) (by rfl) (da_cons (de_ix (ix_any h1) s_ix (pv 0) de_int) da_nil) (hlen := fun _ _ _ h => mA1_len mA0_len h))))))).pt (dss_one (ds_ret de_bl)) dss_nil)
    (dss_one (ds_ret (de_and (de_isi2 (by rfl) T.b_isinstance (de_ix (ix_any h1) s_ix (pv 0) de_int) (Gl.blt (by rfl) T.b_list bt_list) (Gl.blt (by rfl) T.b_tuple bt_tuple) kit_list kit_tuple) (de_one (de_callB (cr_all rfl) s_all.ops (by rfl) T.b_all bb_all (.cons (de_lc (own := [("order", 1)]) rfl sc_is_book.nd (blkOk_by (N := ["value", "order"]) (sc := defScope s_is_book) (by decide +kernel)) (di_gen (de_ix (ix_any h1) s_ix (pv 0) de_int)) (fun _ _ _ _ _ => (dg_name sc_is_book.nd)) (fun _ _ _ _ _ => dts_nil) (fun _ _ _ _ _ => (de_call (ok_is_standing T) (hr.mono (by decide)) (by rfl) (da_cons (de_var' (pv 1)) da_nil) (hlen := fun _ _ _ h => mA1_len mA0_len h)))) .nil)))))))
-- are_books
def E_are_books_1 : M T := (mCall F_is_member (mA1 (mVar 2) mA0))
def L_are_books_1 : M T := mLc (mIt itemsK (mVar 0)) (g1 2) mTrue E_are_books_1 [2]
def E_are_books_2 : M T := (mCall F_is_book (mA1 (mVar 1) mA0))
def L_are_books_2 : M T := mLc (mIt itemsV (mVar 0)) (g1 1) mTrue E_are_books_2 [1]
def M_are_books : M Fl := (mSeq (mIfE (mOr (mNot (mBool (mOps (fF (fIsi "dict")) [.var 0]))) (mNot (mBool (mOps (fF fAll) [.tmp L_are_books_1])))) (mRet (mC (.bl false))) mNx)
    (mRet (mOps (fF fAll) [.tmp L_are_books_2])))
theorem sc_are_books : FnScope ["value", "book", "member"] ["value"] (defScope s_are_books) := ⟨rfl, rfl, rfl, by decide +kernel, rfl, by decide +kernel, by decide +kernel⟩
def F_are_books : List D → R Unit T := runD 3 M_are_books
theorem ok_are_books (T : Txt P w K mg base) : FnD P w K mg base 5 "are_books" 1 F_are_books := by
    obtain ⟨f, fd, hm, G⟩ := T.f_are_books
    refine FnD.of hm G sc_are_books (G.binds fun _ _ _ _ _ _ us hl => match us, hl with | [_], _ => rfl) fun cdv A outer s H E hr => ?_
    have h1 := hr.u1
    have h64 := hr.u64
    have h65 := hr.u65
    exact (dss_cons (ds_if (dw_or (dt_not (dt_val (de_isi (by rfl) T.b_isinstance (pv 0) (Gl.blt (by rfl) T.b_dict bt_dict) kit_dict))) (dw_or1 (dt_not (dt_val (de_callB (cr_all rfl) s_all.ops (by rfl) T.b_all bb_all (.cons (de_lcV (own := [("member", 2)]) rfl sc_are_books.nd (blkOk_by (N := ["value", "book", "member"]) (sc := defScope s_are_books) (by decide +kernel)) (di_varK (pv 0)) (fun _ _ _ _ _ => (dg_name sc_are_books.nd)) (fun _ _ _ _ _ => dts_nil) (fun _ _ _ _ _ => (de_call (ok_is_member T) (hr.mono (by decide)) (by rfl) (da_cons (de_var' (pv 2)) da_nil) (hlen := fun _ _ _ h => mA1_len mA0_len h)))) .nil)))))).pt (dss_one (ds_ret de_bl)) dss_nil)
    (dss_one (ds_ret (de_callB (cr_all rfl) s_all.ops (by rfl) T.b_all bb_all (.cons (de_lcV (own := [("book", 1)]) rfl sc_are_books.nd (blkOk_by (N := ["value", "book", "member"]) (sc := defScope s_are_books) (by decide +kernel)) (di_varV (pv 0)) (fun _ _ _ _ _ => (dg_name sc_are_books.nd)) (fun _ _ _ _ _ => dts_nil) (fun _ _ _ _ _ => (de_call (ok_is_book T) (hr.mono (by decide)) (by rfl) (da_cons (de_var' (pv 1)) da_nil) (hlen := fun _ _ _ h => mA1_len mA0_len h)))) .nil)))))
-- all_orders
def E_all_orders_1 : M T := (mVar 3)
def L_all_orders_1 : M T := mLc2 (mIt items (mVar 1)) (g1 2) mTrue (inL (mIt items (mOps (fF fIx) [.tmp (mOps (fF fIx) [.var 0, .var 2]), .tmp (mC (.int 1))])) (g1 3) mTrue E_all_orders_1 [3]) [2, 3]
def M_all_orders : M Fl := (mRet L_all_orders_1)
theorem sc_all_orders : FnScope ["books", "members", "member", "order"] ["books", "members"] (defScope s_all_orders) := ⟨rfl, rfl, rfl, by decide +kernel, rfl, by decide +kernel, by decide +kernel⟩
def F_all_orders : List D → R Unit T := runD 4 M_all_orders
theorem ok_all_orders (T : Txt P w K mg base) : FnD P w K mg base 1 "all_orders" 2 F_all_orders := by
    obtain ⟨f, fd, hm, G⟩ := T.f_all_orders
    refine FnD.of hm G sc_all_orders (G.binds fun _ _ _ _ _ _ us hl => match us, hl with | [_, _], _ => rfl) fun cdv A outer s H E hr => ?_
    have h1 := hr.u1
    have h64 := hr.u64
    have h65 := hr.u65
    exact (dss_one (ds_ret (de_lc2 (own := [("member", 2), ("order", 3)]) (vs1 := [3]) rfl sc_all_orders.nd (blkOk_by (N := ["books", "members", "member", "order"]) (sc := defScope s_all_orders) (by decide +kernel)) (by decide) (di_gen (de_var' (pv 1))) (fun _ _ _ _ _ => (dg_name sc_all_orders.nd)) (fun _ _ _ _ _ => dts_nil) (fun _ _ _ _ _ => (di_gen (de_ix (ix_any h1) s_ix (de_ix (ix_any h1) s_ix (pv 0) (pv 2)) de_int))) (fun _ _ _ _ _ => (dg_name sc_all_orders.nd)) (fun _ _ _ _ _ => dts_nil) (fun _ _ _ _ _ => (de_var' (pv 3))))))
-- check_world
def M_check_world : M Fl := (mSeq (mIfE (mNot (mBool (mCall F_are_books (mA1 (mVar 0) mA0)))) (mRaise "BadBooks" "given" (mA1 (mVar 0) mA0)) mNx)
    (mSeq (mExpr (mCall F_check_moves (mA1 (mVar 1) mA0)))
    (mSeq (mExpr (mCall F_check_prices (mA1 (mVar 2) mA0)))
    (mExpr (mCall F_check_priced (mA1 (mCall F_all_orders (mA1 (mVar 0) (mA1 (mOps ((fun ds => (fSorted ds).map T.ol)) [.var 0]) mA0))) (mA1 (mVar 2) mA0)))))))
theorem sc_check_world : FnScope ["books", "moves", "prices"] ["books", "moves", "prices"] (defScope s_check_world) := ⟨rfl, rfl, rfl, by decide +kernel, rfl, by decide +kernel, by decide +kernel⟩
def F_check_world : List D → R Unit T := runD 3 M_check_world
theorem ok_check_world (T : Txt P w K mg base) : FnD P w K mg base 6 "check_world" 3 F_check_world := by
    obtain ⟨f, fd, hm, G⟩ := T.f_check_world
    refine FnD.of hm G sc_check_world (G.binds fun _ _ _ _ _ _ us hl => match us, hl with | [_, _, _], _ => rfl) fun cdv A outer s H E hr => ?_
    have h1 := hr.u1
    have h64 := hr.u64
    have h65 := hr.u65
    exact (dss_cons (ds_if (dt_not (dt_val (de_call (ok_are_books T) (hr.mono (by decide)) (by rfl) (da_cons (de_var' (pv 0)) da_nil) (hlen := fun _ _ _ h => mA1_len mA0_len h)))) (dss_one (ds_raise T.x_BadBooks (hr.mono (by decide)) rfl (by rfl) (da_cons (de_var' (pv 0)) da_nil))) dss_nil)
    (dss_cons (ds_expr (de_call (ok_check_moves T) (hr.mono (by decide)) (by rfl) (da_cons (de_var' (pv 1)) da_nil) (hlen := fun _ _ _ h => mA1_len mA0_len h)))
    (dss_cons (ds_expr (de_call (ok_check_prices T) (hr.mono (by decide)) (by rfl) (da_cons (de_var' (pv 2)) da_nil) (hlen := fun _ _ _ h => mA1_len mA0_len h)))
    (dss_one (ds_expr (de_call (ok_check_priced T) (hr.mono (by decide)) (by rfl) (da_cons (de_call (ok_all_orders T) (hr.mono (by decide)) (by rfl) (da_cons (de_var' (pv 0)) (da_cons (de_callB (call_sortA rfl) s_sorted (by rfl) T.b_sorted bb_sorted (.cons (pv 0) .nil)) da_nil)) (hlen := fun _ _ _ h => mA1_len (mA1_len mA0_len) h)) (da_cons (de_var' (pv 2)) da_nil)) (hlen := fun _ _ _ h => mA1_len (mA1_len mA0_len) h)))))))
-- joined_position
def B_joined_position_1 : M Fl := (mSet 2 (mCall F_summed (mA1 (mVar 2) (mA1 (mOps (fF fIx) [.tmp (mOps (fF fIx) [.var 0, .var 3]), .tmp (mC (.int 0))]) mA0))))
def M_joined_position : M Fl := (mSeq (mSet 2 mNewK)
    (mSeq (mFor (mIt items (mVar 1)) (g1 3) B_joined_position_1)
    (mRet (mMove 2))))
theorem sc_joined_position : FnScope ["books", "members", "found", "member"] ["books", "members"] (defScope s_joined_position) := ⟨rfl, rfl, rfl, by decide +kernel, rfl, by decide +kernel, by decide +kernel⟩
def F_joined_position : List D → R Unit T := runD 4 M_joined_position
theorem ok_joined_position (T : Txt P w K mg base) : FnD P w K mg base 2 "joined_position" 2 F_joined_position := by
    obtain ⟨f, fd, hm, G⟩ := T.f_joined_position
    refine FnD.of hm G sc_joined_position (G.binds fun _ _ _ _ _ _ us hl => match us, hl with | [_, _], _ => rfl) fun cdv A outer s H E hr => ?_
    have h1 := hr.u1
    have h64 := hr.u64
    have h65 := hr.u65
    exact (dss_cons (ds_set sc_joined_position.nd de_newK)
    (dss_cons (ds_for (passes_of rfl) rfl (di_gen (de_var' (pv 1))) (dg_name sc_joined_position.nd) (dss_one (ds_set sc_joined_position.nd (de_call (ok_summed T) (hr.mono (by decide)) (by rfl) (da_cons (de_var' (pv 2)) (da_cons (de_ix (ix_any h1) s_ix (de_ix (ix_any h1) s_ix (pv 0) (pv 3)) de_int) da_nil)) (hlen := fun _ _ _ h => mA1_len (mA1_len mA0_len) h)))))
    (dss_one (ds_ret (de_move' (pv 2))))))
-- worst_together
def M_worst_together : M Fl := (mRet (mOps fSl01 [.tmp (mCall F_worst_of (mA1 (mCall F_joined_position (mA1 (mVar 0) (mA1 (mVar 1) mA0))) (mA1 (mCall F_all_orders (mA1 (mVar 0) (mA1 (mVar 1) mA0))) (mA1 (mVar 2) (mA1 (mVar 3) mA0))))), .tmp (mC (.int 2))]))
theorem sc_worst_together : FnScope ["books", "members", "moves", "prices"] ["books", "members", "moves", "prices"] (defScope s_worst_together) := ⟨rfl, rfl, rfl, by decide +kernel, rfl, by decide +kernel, by decide +kernel⟩
def F_worst_together : List D → R Unit T := runD 4 M_worst_together
theorem ok_worst_together (T : Txt P w K mg base) : FnD P w K mg base 4 "worst_together" 4 F_worst_together := by
    obtain ⟨f, fd, hm, G⟩ := T.f_worst_together
    refine FnD.of hm G sc_worst_together (G.binds fun _ _ _ _ _ _ us hl => match us, hl with | [_, _, _, _], _ => rfl) fun cdv A outer s H E hr => ?_
    have h1 := hr.u1
    have h64 := hr.u64
    have h65 := hr.u65
    exact (dss_one (ds_ret (de_sl01 (de_call (ok_worst_of T) (hr.mono (by decide)) (by rfl) (da_cons (de_call (ok_joined_position T) (hr.mono (by decide)) (by rfl) (da_cons (de_var' (pv 0)) (da_cons (de_var' (pv 1)) da_nil)) (hlen := fun _ _ _ h => mA1_len (mA1_len mA0_len) h)) (da_cons (de_call (ok_all_orders T) (hr.mono (by decide)) (by rfl) (da_cons (de_var' (pv 0)) (da_cons (de_var' (pv 1)) da_nil)) (hlen := fun _ _ _ h => mA1_len (mA1_len mA0_len) h)) (da_cons (de_var' (pv 2)) (da_cons (de_var' (pv 3)) da_nil)))) (hlen := fun _ _ _ h => mA1_len (mA1_len (mA1_len (mA1_len mA0_len))) h)) de_int)))
-- group_need
def E_group_need_1 : M T := (mOps (fF fIn) [.var 4, .var 0])
def L_group_need_1 : M T := mLc (mIt itemsK (mVar 1)) (g1 4) mTrue E_group_need_1 [4]
def M_group_need : M Fl := (mSeq (mIfE (mNot (mBool (mCall F_are_books (mA1 (mVar 0) mA0)))) (mRaise "BadBooks" "given" (mA1 (mVar 0) mA0)) mNx)
    (mSeq (mIfE (mOr (mNot (mBool (mCall F_are_owners (mA1 (mVar 1) mA0)))) (mNot (mBool (mOps (fF fAll) [.tmp L_group_need_1])))) (mRaise "BadOwners" "given" (mA1 (mVar 1) mA0)) mNx)
    (mSeq (mExpr (mCall F_check_world (mA1 (mVar 0) (mA1 (mVar 2) (mA1 (mVar 3) mA0)))))
    (mRet (mOps (fF fIx) [.tmp (mCall F_worst_together (mA1 (mVar 0) (mA1 (mVar 1) (mA1 (mVar 2) (mA1 (mVar 3) mA0))))), .tmp (mC (.int 0))])))))
theorem sc_group_need : FnScope ["books", "members", "moves", "prices", "member"] ["books", "members", "moves", "prices"] (defScope s_group_need) := ⟨rfl, rfl, rfl, by decide +kernel, rfl, by decide +kernel, by decide +kernel⟩
def F_group_need : List D → R Unit T := runD 5 M_group_need
theorem ok_group_need (T : Txt P w K mg base) : FnD P w K mg base 7 "group_need" 4 F_group_need := by
    obtain ⟨f, fd, hm, G⟩ := T.f_group_need
    refine FnD.of hm G sc_group_need (G.binds fun _ _ _ _ _ _ us hl => match us, hl with | [_, _, _, _], _ => rfl) fun cdv A outer s H E hr => ?_
    have h1 := hr.u1
    have h64 := hr.u64
    have h65 := hr.u65
    exact (dss_cons (ds_if (dt_not (dt_val (de_call (ok_are_books T) (hr.mono (by decide)) (by rfl) (da_cons (de_var' (pv 0)) da_nil) (hlen := fun _ _ _ h => mA1_len mA0_len h)))) (dss_one (ds_raise T.x_BadBooks (hr.mono (by decide)) rfl (by rfl) (da_cons (de_var' (pv 0)) da_nil))) dss_nil)
    (dss_cons (ds_if (dw_or (dt_not (dt_val (de_call (ok_are_owners T) (hr.mono (by decide)) (by rfl) (da_cons (de_var' (pv 1)) da_nil) (hlen := fun _ _ _ h => mA1_len mA0_len h)))) (dw_or1 (dt_not (dt_val (de_callB (cr_all rfl) s_all.ops (by rfl) T.b_all bb_all (.cons (de_lcV (own := [("member", 4)]) rfl sc_group_need.nd (blkOk_by (N := ["books", "members", "moves", "prices", "member"]) (sc := defScope s_group_need) (by decide +kernel)) (di_varK (pv 1)) (fun _ _ _ _ _ => (dg_name sc_group_need.nd)) (fun _ _ _ _ _ => dts_nil) (fun _ _ _ _ _ => (de_cmp (op_inA h65) s_in.ops (pv 4) (pv 0) (by with_unfolding_all rfl)))) .nil)))))).pt (dss_one (ds_raise T.x_BadOwners (hr.mono (by decide)) rfl (by rfl) (da_cons (de_var' (pv 1)) da_nil))) dss_nil)
    (dss_cons (ds_expr (de_call (ok_check_world T) (hr.mono (by decide)) (by rfl) (da_cons (de_var' (pv 0)) (da_cons (de_var' (pv 2)) (da_cons (de_var' (pv 3)) da_nil))) (hlen := fun _ _ _ h => mA1_len (mA1_len (mA1_len mA0_len)) h)))
    (dss_one (ds_ret (de_ix (ix_any h1) s_ix (de_call (ok_worst_together T) (hr.mono (by decide)) (by rfl) (da_cons (de_var' (pv 0)) (da_cons (de_var' (pv 1)) (da_cons (de_var' (pv 2)) (da_cons (de_var' (pv 3)) da_nil)))) (hlen := fun _ _ _ h => mA1_len (mA1_len (mA1_len (mA1_len mA0_len))) h)) de_int))))))
-- loss_of
def M_loss_of : M Fl := (mSeq (mAsgT (gT 2 (gs1 (g1 3) (gs1 (g1 4) gs0))) (mVar 0))
    (mRet (mCall F_loss_with (mA1 (mVar 3) (mA1 (mVar 4) (mA1 (mVar 1) (mA1 (mVar 2) (mA1 (mCall F_worst_filled (mA1 (mVar 4) (mA1 (mVar 1) (mA1 (mVar 2) mA0)))) mA0))))))))
theorem sc_loss_of : FnScope ["book", "move", "prices", "position", "orders"] ["book", "move", "prices"] (defScope s_loss_of) := ⟨rfl, rfl, rfl, by decide +kernel, rfl, by decide +kernel, by decide +kernel⟩
def F_loss_of : List D → R Unit T := runD 5 M_loss_of
theorem ok_loss_of (T : Txt P w K mg base) : FnD P w K mg base 3 "loss_of" 3 F_loss_of := by
    obtain ⟨f, fd, hm, G⟩ := T.f_loss_of
    refine FnD.of hm G sc_loss_of (G.binds fun _ _ _ _ _ _ us hl => match us, hl with | [_, _, _], _ => rfl) fun cdv A outer s H E hr => ?_
    have h1 := hr.u1
    have h64 := hr.u64
    have h65 := hr.u65
    exact (dss_cons (ds_asgT (de_var' (pv 0)) (dg_tup rfl (dgs_cons (dg_name sc_loss_of.nd) (dgs_cons (dg_name sc_loss_of.nd) dgs_nil))))
    (dss_one (ds_ret (de_call (ok_loss_with T) (hr.mono (by decide)) (by rfl) (da_cons (de_var' (pv 3)) (da_cons (de_var' (pv 4)) (da_cons (de_var' (pv 1)) (da_cons (de_var' (pv 2)) (da_cons (de_call (ok_worst_filled T) (hr.mono (by decide)) (by rfl) (da_cons (de_var' (pv 4)) (da_cons (de_var' (pv 1)) (da_cons (de_var' (pv 2)) da_nil))) (hlen := fun _ _ _ h => mA1_len (mA1_len (mA1_len mA0_len)) h)) da_nil))))) (hlen := fun _ _ _ h => mA1_len (mA1_len (mA1_len (mA1_len (mA1_len mA0_len)))) h)))))
-- sharing
def E_sharing_1 : M T := (mCall F_loss_of (mA1 (mOps (fF fIx) [.var 0, .var 5]) (mA1 (mOps (fF fIx) [.var 1, .var 4]) (mA1 (mVar 2) mA0))))
def L_sharing_1 : M T := mDcm (mIt itemsK (mVar 3)) (g1 5) mTrue (mVar 5) E_sharing_1 [5]
def M_sharing : M Fl := (mSeq (mExpr (mCall F_check_world (mA1 (mVar 0) (mA1 (mVar 1) (mA1 (mVar 2) mA0)))))
    (mSeq (mSet 3 (mOps ((fun ds => (fSorted ds).map T.ol)) [.var 0]))
    (mSeq (mSet 4 (mOps (fF fIx) [.tmp (mCall F_worst_together (mA1 (mVar 0) (mA1 (mVar 3) (mA1 (mVar 1) (mA1 (mVar 2) mA0))))), .tmp (mC (.int 1))]))
    (mRet L_sharing_1))))
theorem sc_sharing : FnScope ["books", "moves", "prices", "members", "index", "member"] ["books", "moves", "prices"] (defScope s_sharing) := ⟨rfl, rfl, rfl, by decide +kernel, rfl, by decide +kernel, by decide +kernel⟩
def F_sharing : List D → R Unit T := runD 6 M_sharing
theorem ok_sharing (T : Txt P w K mg base) : FnD P w K mg base 7 "sharing" 3 F_sharing := by
    obtain ⟨f, fd, hm, G⟩ := T.f_sharing
    refine FnD.of hm G sc_sharing (G.binds fun _ _ _ _ _ _ us hl => match us, hl with | [_, _, _], _ => rfl) fun cdv A outer s H E hr => ?_
    have h1 := hr.u1
    have h64 := hr.u64
    have h65 := hr.u65
    exact (dss_cons (ds_expr (de_call (ok_check_world T) (hr.mono (by decide)) (by rfl) (da_cons (de_var' (pv 0)) (da_cons (de_var' (pv 1)) (da_cons (de_var' (pv 2)) da_nil))) (hlen := fun _ _ _ h => mA1_len (mA1_len (mA1_len mA0_len)) h)))
    (dss_cons (ds_set sc_sharing.nd (de_callB (call_sortA rfl) s_sorted (by rfl) T.b_sorted bb_sorted (.cons (pv 0) .nil)))
    (dss_cons (ds_set sc_sharing.nd (de_ix (ix_any h1) s_ix (de_call (ok_worst_together T) (hr.mono (by decide)) (by rfl) (da_cons (de_var' (pv 0)) (da_cons (de_var' (pv 3)) (da_cons (de_var' (pv 1)) (da_cons (de_var' (pv 2)) da_nil)))) (hlen := fun _ _ _ h => mA1_len (mA1_len (mA1_len (mA1_len mA0_len))) h)) de_int))
    (dss_one (ds_ret (de_dcV (own := [("member", 5)]) rfl sc_sharing.nd (blkOk_by (N := ["books", "moves", "prices", "members", "index", "member"]) (sc := defScope s_sharing) (by decide +kernel)) (di_varK (pv 3)) (fun _ _ _ _ _ => (dg_name sc_sharing.nd)) (fun _ _ _ _ _ => dts_nil) (fun _ _ _ _ _ => (de_var' (pv 5))) (fun _ _ _ _ _ => (de_call (ok_loss_of T) (hr.mono (by decide)) (by rfl) (da_cons (de_ix (ix_any h1) s_ix (pv 0) (pv 5)) (da_cons (de_ix (ix_any h1) s_ix (pv 1) (pv 4)) (da_cons (de_var' (pv 2)) da_nil))) (hlen := fun _ _ _ h => mA1_len (mA1_len (mA1_len mA0_len)) h)))))))))
-- are_shares
def E_are_shares_1 : M T := (mCall F_is_member (mA1 (mVar 4) mA0))
def L_are_shares_1 : M T := mLc (mIt itemsK (mVar 3)) (g1 4) mTrue E_are_shares_1 [4]
def E_are_shares_2 : M T := (mCallE F_is_integer [.non] (mA1 (mVar 5) mA0))
def L_are_shares_2 : M T := mLc (mIt itemsV (mVar 3)) (g1 5) mTrue E_are_shares_2 [5]
def M_are_shares : M Fl := (mSeq (mIfE (mOr (mNot (mBool (mOps (fF (fIsi "dict")) [.var 3]))) (mNot (mBool (mOps (fF fAll) [.tmp L_are_shares_1])))) (mRet (mC (.bl false))) mNx)
    (mSeq (mIfE (mOr (mBool (mOps (fF fNe) [.tmp (mOps ((fun ds => (fSorted ds).map T.ol)) [.var 3]), .tmp (mOps ((fun ds => (fSorted ds).map T.ol)) [.var 0])])) (mNot (mBool (mOps (fF fAll) [.tmp L_are_shares_2])))) (mRet (mC (.bl false))) mNx)
    (mRet (mOps (fF fEq) [.tmp (mOps (fF fSum) [.tmp (mOps fValsL [.var 3])]), .tmp (mOps (fF fIx) [.tmp (mCall F_worst_together (mA1 (mVar 0) (mA1 (mOps ((fun ds => (fSorted ds).map T.ol)) [.var 0]) (mA1 (mVar 1) (mA1 (mVar 2) mA0))))), .tmp (mC (.int 0))])]))))
theorem sc_are_shares : FnScope ["books", "moves", "prices", "value", "member", "share"] ["books", "moves", "prices", "value"] (defScope s_are_shares) := ⟨rfl, rfl, rfl, by decide +kernel, rfl, by decide +kernel, by decide +kernel⟩
def F_are_shares : List D → R Unit T := runD 6 M_are_shares
theorem ok_are_shares (T : Txt P w K mg base) : FnD P w K mg base 5 "are_shares" 4 F_are_shares := by
    obtain ⟨f, fd, hm, G⟩ := T.f_are_shares
    refine FnD.of hm G sc_are_shares (G.binds fun _ _ _ _ _ _ us hl => match us, hl with | [_, _, _, _], _ => rfl) fun cdv A outer s H E hr => ?_
    have h1 := hr.u1
    have h64 := hr.u64
    have h65 := hr.u65
    exact (dss_cons (ds_if (dw_or (dt_not (dt_val (de_isi (by rfl) T.b_isinstance (pv 3) (Gl.blt (by rfl) T.b_dict bt_dict) kit_dict))) (dw_or1 (dt_not (dt_val (de_callB (cr_all rfl) s_all.ops (by rfl) T.b_all bb_all (.cons (de_lcV (own := [("member", 4)]) rfl sc_are_shares.nd (blkOk_by (N := ["books", "moves", "prices", "value", "member", "share"]) (sc := defScope s_are_shares) (by decide +kernel)) (di_varK (pv 3)) (fun _ _ _ _ _ => (dg_name sc_are_shares.nd)) (fun _ _ _ _ _ => dts_nil) (fun _ _ _ _ _ => (de_call (ok_is_member T) (hr.mono (by decide)) (by rfl) (da_cons (de_var' (pv 4)) da_nil) (hlen := fun _ _ _ h => mA1_len mA0_len h)))) .nil)))))).pt (dss_one (ds_ret de_bl)) dss_nil)
    (dss_cons (ds_if (dw_or (dt_cmp (op_neA h64) s_ne.ops (de_callB (call_sortA rfl) s_sorted (by rfl) T.b_sorted bb_sorted (.cons (pv 3) .nil)) (de_callB (call_sortA rfl) s_sorted (by rfl) T.b_sorted bb_sorted (.cons (pv 0) .nil)) (nomark _)) (dw_or1 (dt_not (dt_val (de_callB (cr_all rfl) s_all.ops (by rfl) T.b_all bb_all (.cons (de_lcV (own := [("share", 5)]) rfl sc_are_shares.nd (blkOk_by (N := ["books", "moves", "prices", "value", "member", "share"]) (sc := defScope s_are_shares) (by decide +kernel)) (di_varV (pv 3)) (fun _ _ _ _ _ => (dg_name sc_are_shares.nd)) (fun _ _ _ _ _ => dts_nil) (fun _ _ _ _ _ => (de_callE (okE_is_integer T) (hr.mono (by decide)) (by rfl) (da_cons (de_var' (pv 5)) da_nil) (fun _ _ _ h => congrArg (· + 1) (mA1_len mA0_len h))))) .nil)))))).pt (dss_one (ds_ret de_bl)) dss_nil)
    (dss_one (ds_ret (de_cmp (op_eqA h64) s_eq.ops (de_callB (cr_sum rfl) s_sum.ops (by rfl) T.b_sum bb_sum (.cons (de_listVals rfl (by rfl) T.b_list (pv 3)) .nil)) (de_ix (ix_any h1) s_ix (de_call (ok_worst_together T) (hr.mono (by decide)) (by rfl) (da_cons (de_var' (pv 0)) (da_cons (de_callB (call_sortA rfl) s_sorted (by rfl) T.b_sorted bb_sorted (.cons (pv 0) .nil)) (da_cons (de_var' (pv 1)) (da_cons (de_var' (pv 2)) da_nil)))) (hlen := fun _ _ _ h => mA1_len (mA1_len (mA1_len (mA1_len mA0_len))) h)) de_int) (nomark _))))))
-- objecting
def E_objecting_1 : M T := (mOps (fF fIx) [.var 3, .var 5])
def L_objecting_1 : M T := mLc (mIt itemsK (mVar 4)) (g1 5) mTrue E_objecting_1 [5]
def B_objecting_1 : M Fl := (mIfE (mBool (mOps (fF (fIB fun i j => decide (j < i))) [.tmp (mOps (fF fSum) [.tmp L_objecting_1]), .tmp (mOps (fF fIx) [.tmp (mCall F_worst_together (mA1 (mVar 0) (mA1 (mVar 4) (mA1 (mVar 1) (mA1 (mVar 2) mA0))))), .tmp (mC (.int 0))])])) (mRet (mVar 4)) mNx)
def M_objecting : M Fl := (mSeq (mExpr (mCall F_check_world (mA1 (mVar 0) (mA1 (mVar 1) (mA1 (mVar 2) mA0)))))
    (mSeq (mIfE (mNot (mBool (mCall F_are_shares (mA1 (mVar 0) (mA1 (mVar 1) (mA1 (mVar 2) (mA1 (mVar 3) mA0))))))) (mRaise "BadShares" "given" (mA1 (mVar 3) mA0)) mNx)
    (mSeq (mFor (mIt items (mCall F_all_lists (mA1 (mOps ((fun ds => (fSorted ds).map T.ol)) [.var 0]) mA0))) (g1 4) B_objecting_1)
    (mRet (mC .non)))))
theorem sc_objecting : FnScope ["books", "moves", "prices", "shares", "group", "member"] ["books", "moves", "prices", "shares"] (defScope s_objecting) := ⟨rfl, rfl, rfl, by decide +kernel, rfl, by decide +kernel, by decide +kernel⟩
def F_objecting : List D → R Unit T := runD 6 M_objecting
theorem ok_objecting (T : Txt P w K mg base) : FnD P w K mg base 15 "objecting" 4 F_objecting := by
    obtain ⟨f, fd, hm, G⟩ := T.f_objecting
    refine FnD.of hm G sc_objecting (G.binds fun _ _ _ _ _ _ us hl => match us, hl with | [_, _, _, _], _ => rfl) fun cdv A outer s H E hr => ?_
    have h1 := hr.u1
    have h64 := hr.u64
    have h65 := hr.u65
    exact (dss_cons (ds_expr (de_call (ok_check_world T) (hr.mono (by decide)) (by rfl) (da_cons (de_var' (pv 0)) (da_cons (de_var' (pv 1)) (da_cons (de_var' (pv 2)) da_nil))) (hlen := fun _ _ _ h => mA1_len (mA1_len (mA1_len mA0_len)) h)))
    (dss_cons (ds_if (dt_not (dt_val (de_call (ok_are_shares T) (hr.mono (by decide)) (by rfl) (da_cons (de_var' (pv 0)) (da_cons (de_var' (pv 1)) (da_cons (de_var' (pv 2)) (da_cons (de_var' (pv 3)) da_nil)))) (hlen := fun _ _ _ h => mA1_len (mA1_len (mA1_len (mA1_len mA0_len))) h)))) (dss_one (ds_raise T.x_BadShares (hr.mono (by decide)) rfl (by rfl) (da_cons (de_var' (pv 3)) da_nil))) dss_nil)
    (dss_cons (ds_for (passes_of rfl) rfl (di_gen (de_call (ok_all_lists T) (hr.mono (by decide)) (by rfl) (da_cons (de_callB (call_sortA rfl) s_sorted (by rfl) T.b_sorted bb_sorted (.cons (pv 0) .nil)) da_nil) (hlen := fun _ _ _ h => mA1_len mA0_len h))) (dg_name sc_objecting.nd) (dss_one (ds_if (dt_cmp op_gt s_ib.ops (de_callB (cr_sum rfl) s_sum.ops (by rfl) T.b_sum bb_sum (.cons (de_lcV (own := [("member", 5)]) rfl sc_objecting.nd (blkOk_by (N := ["books", "moves", "prices", "shares", "group", "member"]) (sc := defScope s_objecting) (by decide +kernel)) (di_varK (pv 4)) (fun _ _ _ _ _ => (dg_name sc_objecting.nd)) (fun _ _ _ _ _ => dts_nil) (fun _ _ _ _ _ => (de_ix (ix_any h1) s_ix (pv 3) (pv 5)))) .nil)) (de_ix (ix_any h1) s_ix (de_call (ok_worst_together T) (hr.mono (by decide)) (by rfl) (da_cons (de_var' (pv 0)) (da_cons (de_var' (pv 4)) (da_cons (de_var' (pv 1)) (da_cons (de_var' (pv 2)) da_nil)))) (hlen := fun _ _ _ h => mA1_len (mA1_len (mA1_len (mA1_len mA0_len))) h)) de_int) (nomark _)) (dss_one (ds_ret (de_var' (pv 4)))) dss_nil)))
    (dss_one (ds_ret de_non)))))
-- own_needs
def E_own_needs_1 : M T := (mOps (fF fIx) [.tmp (mCall F_worst_together (mA1 (mVar 0) (mA1 (mLst (mA1 (mVar 3) mA0)) (mA1 (mVar 1) (mA1 (mVar 2) mA0))))), .tmp (mC (.int 0))])
def L_own_needs_1 : M T := mDcm (mIt items (mOps ((fun ds => (fSorted ds).map T.ol)) [.var 0])) (g1 3) mTrue (mVar 3) E_own_needs_1 [3]
def M_own_needs : M Fl := (mRet L_own_needs_1)
theorem sc_own_needs : FnScope ["books", "moves", "prices", "member"] ["books", "moves", "prices"] (defScope s_own_needs) := ⟨rfl, rfl, rfl, by decide +kernel, rfl, by decide +kernel, by decide +kernel⟩
def F_own_needs : List D → R Unit T := runD 4 M_own_needs
theorem ok_own_needs (T : Txt P w K mg base) : FnD P w K mg base 5 "own_needs" 3 F_own_needs := by
    obtain ⟨f, fd, hm, G⟩ := T.f_own_needs
    refine FnD.of hm G sc_own_needs (G.binds fun _ _ _ _ _ _ us hl => match us, hl with | [_, _, _], _ => rfl) fun cdv A outer s H E hr => ?_
    have h1 := hr.u1
    have h64 := hr.u64
    have h65 := hr.u65
    exact (dss_one (ds_ret (de_dc (own := [("member", 3)]) rfl sc_own_needs.nd (blkOk_by (N := ["books", "moves", "prices", "member"]) (sc := defScope s_own_needs) (by decide +kernel)) (di_gen (de_callB (call_sortA rfl) s_sorted (by rfl) T.b_sorted bb_sorted (.cons (pv 0) .nil))) (fun _ _ _ _ _ => (dg_name sc_own_needs.nd)) (fun _ _ _ _ _ => dts_nil) (fun _ _ _ _ _ => (de_var' (pv 3))) (fun _ _ _ _ _ => (de_ix (ix_any h1) s_ix (de_call (ok_worst_together T) (hr.mono (by decide)) (by rfl) (da_cons (de_var' (pv 0)) (da_cons (de_lst (da_cons (de_var' (pv 3)) da_nil)) (da_cons (de_var' (pv 1)) (da_cons (de_var' (pv 2)) da_nil)))) (hlen := fun _ _ _ h => mA1_len (mA1_len (mA1_len (mA1_len mA0_len))) h)) de_int)))))
-- saved
def M_saved : M Fl := (mSeq (mExpr (mCall F_check_world (mA1 (mVar 0) (mA1 (mVar 1) (mA1 (mVar 2) mA0)))))
    (mSeq (mSet 3 (mCall F_own_needs (mA1 (mVar 0) (mA1 (mVar 1) (mA1 (mVar 2) mA0)))))
    (mRet (mOps (fF fSub) [.tmp (mOps (fF fSum) [.tmp (mOps fValsL [.var 3])]), .tmp (mOps (fF fIx) [.tmp (mCall F_worst_together (mA1 (mVar 0) (mA1 (mOps ((fun ds => (fSorted ds).map T.ol)) [.var 0]) (mA1 (mVar 1) (mA1 (mVar 2) mA0))))), .tmp (mC (.int 0))])]))))
theorem sc_saved : FnScope ["books", "moves", "prices", "needs"] ["books", "moves", "prices"] (defScope s_saved) := ⟨rfl, rfl, rfl, by decide +kernel, rfl, by decide +kernel, by decide +kernel⟩
def F_saved : List D → R Unit T := runD 4 M_saved
theorem ok_saved (T : Txt P w K mg base) : FnD P w K mg base 7 "saved" 3 F_saved := by
    obtain ⟨f, fd, hm, G⟩ := T.f_saved
    refine FnD.of hm G sc_saved (G.binds fun _ _ _ _ _ _ us hl => match us, hl with | [_, _, _], _ => rfl) fun cdv A outer s H E hr => ?_
    have h1 := hr.u1
    have h64 := hr.u64
    have h65 := hr.u65
    exact (dss_cons (ds_expr (de_call (ok_check_world T) (hr.mono (by decide)) (by rfl) (da_cons (de_var' (pv 0)) (da_cons (de_var' (pv 1)) (da_cons (de_var' (pv 2)) da_nil))) (hlen := fun _ _ _ h => mA1_len (mA1_len (mA1_len mA0_len)) h)))
    (dss_cons (ds_set sc_saved.nd (de_call (ok_own_needs T) (hr.mono (by decide)) (by rfl) (da_cons (de_var' (pv 0)) (da_cons (de_var' (pv 1)) (da_cons (de_var' (pv 2)) da_nil))) (hlen := fun _ _ _ h => mA1_len (mA1_len (mA1_len mA0_len)) h)))
    (dss_one (ds_ret (de_op op_sub s_i0.ops (de_callB (cr_sum rfl) s_sum.ops (by rfl) T.b_sum bb_sum (.cons (de_listVals rfl (by rfl) T.b_list (pv 3)) .nil)) (de_ix (ix_any h1) s_ix (de_call (ok_worst_together T) (hr.mono (by decide)) (by rfl) (da_cons (de_var' (pv 0)) (da_cons (de_callB (call_sortA rfl) s_sorted (by rfl) T.b_sorted bb_sorted (.cons (pv 0) .nil)) (da_cons (de_var' (pv 1)) (da_cons (de_var' (pv 2)) da_nil)))) (hlen := fun _ _ _ h => mA1_len (mA1_len (mA1_len (mA1_len mA0_len))) h)) de_int))))))
-- common_move
def E_common_move_1 : M T := (mOps (fF fEq) [.tmp (mCall F_loss_of (mA1 (mOps (fF fIx) [.var 0, .var 6]) (mA1 (mVar 5) (mA1 (mVar 2) mA0)))), .tmp (mOps (fF fIx) [.var 3, .var 6])])
def L_common_move_1 : M T := mLc (mIt itemsK (mVar 3)) (g1 6) mTrue E_common_move_1 [6]
def B_common_move_1 : M Fl := (mIfE (mBool (mOps (fF fAll) [.tmp L_common_move_1])) (mRet (mVar 4)) mNx)
def M_common_move : M Fl := (mSeq (mExpr (mCall F_check_world (mA1 (mVar 0) (mA1 (mVar 1) (mA1 (mVar 2) mA0)))))
    (mSeq (mSet 3 (mCall F_own_needs (mA1 (mVar 0) (mA1 (mVar 1) (mA1 (mVar 2) mA0)))))
    (mSeq (mFor (mEnum (mA1 (mVar 1) mA0)) (gT 2 (gs1 (g1 4) (gs1 (g1 5) gs0))) B_common_move_1)
    (mRet (mC .non)))))
theorem sc_common_move : FnScope ["books", "moves", "prices", "needs", "index", "move", "member"] ["books", "moves", "prices"] (defScope s_common_move) := ⟨rfl, rfl, rfl, by decide +kernel, rfl, by decide +kernel, by decide +kernel⟩
def F_common_move : List D → R Unit T := runD 7 M_common_move
theorem ok_common_move (T : Txt P w K mg base) : FnD P w K mg base 7 "common_move" 3 F_common_move := by
    obtain ⟨f, fd, hm, G⟩ := T.f_common_move
    refine FnD.of hm G sc_common_move (G.binds fun _ _ _ _ _ _ us hl => match us, hl with | [_, _, _], _ => rfl) fun cdv A outer s H E hr => ?_
    have h1 := hr.u1
    have h64 := hr.u64
    have h65 := hr.u65
    exact (dss_cons (ds_expr (de_call (ok_check_world T) (hr.mono (by decide)) (by rfl) (da_cons (de_var' (pv 0)) (da_cons (de_var' (pv 1)) (da_cons (de_var' (pv 2)) da_nil))) (hlen := fun _ _ _ h => mA1_len (mA1_len (mA1_len mA0_len)) h)))
    (dss_cons (ds_set sc_common_move.nd (de_call (ok_own_needs T) (hr.mono (by decide)) (by rfl) (da_cons (de_var' (pv 0)) (da_cons (de_var' (pv 1)) (da_cons (de_var' (pv 2)) da_nil))) (hlen := fun _ _ _ h => mA1_len (mA1_len (mA1_len mA0_len)) h)))
    (dss_cons (ds_for (passes_of rfl) rfl (di_enum (by rfl) T.b_enumerate (da_cons (de_var' (pv 1)) da_nil)) (dg_tup rfl (dgs_cons (dg_name sc_common_move.nd) (dgs_cons (dg_name sc_common_move.nd) dgs_nil))) (dss_one (ds_if (dt_val (de_callB (cr_all rfl) s_all.ops (by rfl) T.b_all bb_all (.cons (de_lcV (own := [("member", 6)]) rfl sc_common_move.nd (blkOk_by (N := ["books", "moves", "prices", "needs", "index", "move", "member"]) (sc := defScope s_common_move) (by decide +kernel)) (di_varK (pv 3)) (fun _ _ _ _ _ => (dg_name sc_common_move.nd)) (fun _ _ _ _ _ => dts_nil) (fun _ _ _ _ _ => (de_cmp (op_eqA h64) s_eq.ops (de_call (ok_loss_of T) (hr.mono (by decide)) (by rfl) (da_cons (de_ix (ix_any h1) s_ix (pv 0) (pv 6)) (da_cons (de_var' (pv 5)) (da_cons (de_var' (pv 2)) da_nil))) (hlen := fun _ _ _ h => mA1_len (mA1_len (mA1_len mA0_len)) h)) (de_ix (ix_any h1) s_ix (pv 3) (pv 6)) (nomark _)))) .nil))) (dss_one (ds_ret (de_var' (pv 4)))) dss_nil)))
    (dss_one (ds_ret de_non)))))
-- _law_tape
def M__law_tape : M Fl := (mSeq (mSet 2 (mOps (fAdd) [.tmp (mC (.int 0)), .tmp (mOps (fF fMod) [.tmp (mOps (fF fSum) [.tmp (mOps fSl01 [.var 0, .tmp (mC (.int 1))])]), .tmp (mC (.int 1000003))])]))
    (mSeq (mIfE (mBool (mOps (fF (fIB fun i j => decide (i < j))) [.var 1, .tmp (mOps (fF fLen) [.var 0])])) (mSet 2 (mOps (fF fIx) [.var 0, .var 1])) mNx)
    (mRet (mLst (mA1 (mOps (fF fAbs) [.var 2]) (mA1 (mOps (fAdd) [.tmp (mC (.int 104729)), .tmp (mOps (fMul) [.tmp (mC (.int 7919)), .var 1])]) (mA1 (mOps (fAdd) [.tmp (mC (.int 15485863)), .tmp (mOps (fMul) [.tmp (mC (.int 1299709)), .var 1])]) mA0)))))))
theorem sc__law_tape : FnScope ["script", "k", "cell"] ["script", "k"] (defScope s__law_tape) := ⟨rfl, rfl, rfl, by decide +kernel, rfl, by decide +kernel, by decide +kernel⟩
def F__law_tape : List D → R Unit T := runD 3 M__law_tape
theorem ok__law_tape (T : Txt P w K mg base) : FnD P w K mg base 1 "_law_tape" 2 F__law_tape := by
    obtain ⟨f, fd, hm, G⟩ := T.f__law_tape
    refine FnD.of hm G sc__law_tape (G.binds fun _ _ _ _ _ _ us hl => match us, hl with | [_, _], _ => rfl) fun cdv A outer s H E hr => ?_
    have h1 := hr.u1
    have h64 := hr.u64
    have h65 := hr.u65
    exact (dss_cons (ds_set sc__law_tape.nd (de_op op_addA s_add de_int (de_op op_mod s_mod.ops (de_callB (cr_sum rfl) s_sum.ops (by rfl) T.b_sum bb_sum (.cons (de_sl01 (pv 0) de_int) .nil)) de_int)))
    (dss_cons (ds_if (dt_cmp op_lt s_ib.ops (pv 1) (de_callB call_lenA s_len.ops (by rfl) T.b_len bb_len (.cons (pv 0) .nil)) (nomark _)) (dss_one (ds_set sc__law_tape.nd (de_ix (ix_any h1) s_ix (pv 0) (pv 1)))) dss_nil)
    (dss_one (ds_ret (de_lst (da_cons (de_callB call_abs s_abs.ops (by rfl) T.b_abs bb_abs (.cons (pv 2) .nil)) (da_cons (de_op op_addA s_add de_int (de_op op_mulA s_mul de_int (pv 1))) (da_cons (de_op op_addA s_add de_int (de_op op_mulA s_mul de_int (pv 1))) da_nil))))))))
-- _law_pick
def M__law_pick : M Fl := (mSeq (mIfE (mBool (mOps (fF (fIB fun i j => decide (j ≤ i))) [.tmp (mOps (fF fIx) [.var 0, .tmp (mC (.int 0))]), .tmp (mOps (fF fPow) [.tmp (mC (.int 10)), .tmp (mC (.int 18))])])) (mSeq (mSet 2 (mOps (fF fMod) [.tmp (mOps (fF fInt) [.tmp (mOps (fF fIx) [.var 0, .tmp (mC (.int 0))])]), .var 1]))
      (mSeq (mStore 0 (.tmp (mC (.int 0))) (mOps (fF fDiv) [.tmp (mOps (fF fIx) [.var 0, .tmp (mC (.int 0))]), .var 1]))
      (mRet (mMove 2)))) mNx)
    (mSeq (mStore 0 (.tmp (mC (.int 1))) (mOps (fF fMod) [.tmp (mOps (fF fInt) [.tmp (mOps (fAdd) [.tmp (mOps (fAdd) [.tmp (mOps (fMul) [.tmp (mOps (fF fIx) [.var 0, .tmp (mC (.int 1))]), .tmp (mC (.int 69069))]), .tmp (mOps (fMul) [.tmp (mOps (fF fIx) [.var 0, .tmp (mC (.int 0))]), .tmp (mC (.int 7177))])]), .tmp (mC (.int 12345))])]), .tmp (mC (.int 2147483629))]))
    (mSeq (mStore 0 (.tmp (mC (.int 2))) (mOps (fF fMod) [.tmp (mOps (fF fInt) [.tmp (mOps (fAdd) [.tmp (mOps (fAdd) [.tmp (mOps (fMul) [.tmp (mOps (fF fIx) [.var 0, .tmp (mC (.int 2))]), .tmp (mC (.int 40014))]), .tmp (mOps (fMul) [.tmp (mOps (fF fIx) [.var 0, .tmp (mC (.int 0))]), .tmp (mC (.int 3571))])]), .tmp (mC (.int 97))])]), .tmp (mC (.int 2147483563))]))
    (mRet (mOps (fF fMod) [.tmp (mOps (fF fInt) [.tmp (mOps (fF fDiv) [.tmp (mOps (fF fMod) [.tmp (mOps (fF fInt) [.tmp (mOps (fAdd) [.tmp (mOps (fMul) [.tmp (mOps (fF fIx) [.var 0, .tmp (mC (.int 1))]), .tmp (mOps (fF fIx) [.var 0, .tmp (mC (.int 2))])]), .tmp (mC (.int 5))])]), .tmp (mC (.int 2147483587))]), .tmp (mC (.int 32))])]), .var 1])))))
theorem sc__law_pick : FnScope ["tape", "many", "digit"] ["tape", "many"] (defScope s__law_pick) := ⟨rfl, rfl, rfl, by decide +kernel, rfl, by decide +kernel, by decide +kernel⟩
def F__law_pick : T → List D → R T T := runI 3 M__law_pick
theorem ok__law_pick (T : Txt P w K mg base) : FnI P w K mg base 1 "_law_pick" 1 F__law_pick := by
    obtain ⟨f, fd, hm, G⟩ := T.f__law_pick
    refine FnI.of hm G sc__law_pick (G.binds fun _ _ _ _ _ _ us hl => match us, hl with | [_, _], _ => rfl) rfl fun cdv A outer s H E hr => ?_
    have h1 := hr.u1
    have h64 := hr.u64
    have h65 := hr.u65
    exact (dss_cons (ds_if (dt_cmp op_ge s_ib.ops (de_ix (ix_any h1) s_ix (pv 0) de_int) (de_op op_pow s_pow.ops de_int de_int) (nomark _)) (dss_cons (ds_set sc__law_pick.nd (de_op op_mod s_mod.ops (de_callTy call_int1 s_int.ops (by rfl) T.b_int bt_int (.cons (de_ix (ix_any h1) s_ix (pv 0) de_int) .nil)) (pv 1)))
      (dss_cons (ds_store h1 (pv 0) de_int (de_op op_fdiv s_div.ops (de_ix (ix_any h1) s_ix (pv 0) de_int) (pv 1)))
      (dss_one (ds_ret (de_move' (pv 2)))))) dss_nil)
    (dss_cons (ds_store h1 (pv 0) de_int (de_op op_mod s_mod.ops (de_callTy call_int1 s_int.ops (by rfl) T.b_int bt_int (.cons (de_op op_addA s_add (de_op op_addA s_add (de_op op_mulA s_mul (de_ix (ix_any h1) s_ix (pv 0) de_int) de_int) (de_op op_mulA s_mul (de_ix (ix_any h1) s_ix (pv 0) de_int) de_int)) de_int) .nil)) de_int))
    (dss_cons (ds_store h1 (pv 0) de_int (de_op op_mod s_mod.ops (de_callTy call_int1 s_int.ops (by rfl) T.b_int bt_int (.cons (de_op op_addA s_add (de_op op_addA s_add (de_op op_mulA s_mul (de_ix (ix_any h1) s_ix (pv 0) de_int) de_int) (de_op op_mulA s_mul (de_ix (ix_any h1) s_ix (pv 0) de_int) de_int)) de_int) .nil)) de_int))
    (dss_one (ds_ret (de_op op_mod s_mod.ops (de_callTy call_int1 s_int.ops (by rfl) T.b_int bt_int (.cons (de_op op_fdiv s_div.ops (de_op op_mod s_mod.ops (de_callTy call_int1 s_int.ops (by rfl) T.b_int bt_int (.cons (de_op op_addA s_add (de_op op_mulA s_mul (de_ix (ix_any h1) s_ix (pv 0) de_int) (de_ix (ix_any h1) s_ix (pv 0) de_int)) de_int) .nil)) de_int) de_int) .nil)) (pv 1)))))))
-- _law_shuffled
def B__law_shuffled_1 : M Fl := (mExpr (mAppend 3 (mPop 2 (mCallI 0 F__law_pick (mA1 (mOps (fF fLen) [.var 2]) mA0)))))
def C__law_shuffled_1 : M Bool := (mBool (mOps (fF fNe) [.var 2, .tmp (mLst mA0)]))
def M__law_shuffled : M Fl := (mSeq (mPar2 2 3 (mOps (fListB) [.var 1]) (mLst mA0))
    (mSeq (whL 8 C__law_shuffled_1 B__law_shuffled_1)
    (mRet (mMove 3))))
theorem sc__law_shuffled : FnScope ["tape", "items", "rest", "found"] ["tape", "items"] (defScope s__law_shuffled) := ⟨rfl, rfl, rfl, by decide +kernel, rfl, by decide +kernel, by decide +kernel⟩
def F__law_shuffled : T → List D → R T T := runI 4 M__law_shuffled
theorem ok__law_shuffled (T : Txt P w K mg base) : FnI P w K mg base 2 "_law_shuffled" 1 F__law_shuffled := by
    obtain ⟨f, fd, hm, G⟩ := T.f__law_shuffled
    refine FnI.of hm G sc__law_shuffled (G.binds fun _ _ _ _ _ _ us hl => match us, hl with | [_, _], _ => rfl) rfl fun cdv A outer s H E hr => ?_
    have h1 := hr.u1
    have h64 := hr.u64
    have h65 := hr.u65
    exact (dss_cons (ds_par2 rfl sc__law_shuffled.nd (de_callTy (call_listB rfl) s_listB (by rfl) T.b_list bt_list (.cons (pv 1) .nil)) (de_lst da_nil))
    (dss_cons (ds_while 8 (passes_of rfl) (dt_cmp (op_neA h64) s_ne.ops (pv 2) (de_lst da_nil) (nomark _)) (dss_one (ds_expr (de_append (pv 3) (de_pop (pv 2) (de_callI (ok__law_pick T) (hr.mono (by decide)) (by rfl) (pv 0) (da_cons (de_callB call_lenA s_len.ops (by rfl) T.b_len bb_len (.cons (pv 2) .nil)) da_nil) (hlen := fun _ _ _ h => mA1_len mA0_len h)))))))
    (dss_one (ds_ret (de_move' (pv 3))))))
-- _law_same
def E__law_same_1 (F : List D → R Unit T) : M T := (mOps (fF fIx) [.var 1, .var 2])
def L__law_same_1 (F : List D → R Unit T) : M T := mLc (mIt itemsK (mVar 1)) (g1 2) mTrue (E__law_same_1 F) [2]
def E__law_same_2 (F : List D → R Unit T) : M T := (mOps (fF fIx) [.var 0, .var 2])
def L__law_same_2 (F : List D → R Unit T) : M T := mLc (mIt itemsK (mVar 0)) (g1 2) mTrue (E__law_same_2 F) [2]
def E__law_same_3 (F : List D → R Unit T) : M T := (mCall F (mA1 (mOps (fF fIx) [.var 0, .var 3]) (mA1 (mOps (fF fIx) [.var 1, .var 3]) mA0)))
def L__law_same_3 (F : List D → R Unit T) : M T := mLc (mRng [.tmp (mOps (fF fLen) [.var 1])]) (g1 3) mTrue (E__law_same_3 F) [3]
def M__law_same (F : List D → R Unit T) : M Fl := (mSeq (mIfE (mBool (mOps (fF (fIsi "dict")) [.var 1])) (mSeq (mIfE (mOr (mNot (mBool (mOps (fF (fIsi "dict")) [.var 0]))) (mNot (mBool (mCall F (mA1 (mOps (fListB) [.var 0]) (mA1 (mOps (fListB) [.var 1]) mA0)))))) (mRet (mC (.bl false))) mNx)
      (mRet (mCall F (mA1 (L__law_same_2 F) (mA1 (L__law_same_1 F) mA0))))) mNx)
    (mSeq (mIfE (mBool (mOps (fF (fIsi2 "list" "tuple")) [.var 1])) (mSeq (mIfE (mOr (mNot (mBool (mOps (fF (fIsi2 "list" "tuple")) [.var 0]))) (mBool (mOps (fF fNe) [.tmp (mOps (fF (fIsi "list")) [.var 0]), .tmp (mOps (fF (fIsi "list")) [.var 1])]))) (mRet (mC (.bl false))) mNx)
      (mRet (mAndV (mOps (fF fEq) [.tmp (mOps (fF fLen) [.var 0]), .tmp (mOps (fF fLen) [.var 1])]) (mOps (fF fAll) [.tmp (L__law_same_3 F)])))) mNx)
    (mSeq (mIfE (mOr (mBool (mOps (fF (fIsi "bool")) [.var 1])) (mBool (mOps (fF (fIsi "bool")) [.var 0]))) (mRet (mAndV (mOps (fF (fIsi "bool")) [.var 1]) (mAndV (mOps (fF (fIsi "bool")) [.var 0]) (mOps (fF fEq) [.var 0, .var 1])))) mNx)
    (mSeq (mIfE (mBool (mOps (fF (fIsi "int")) [.var 1])) (mRet (mAndV (mOps (fF (fIsi "int")) [.var 0]) (mOps (fF fEq) [.var 0, .var 1]))) mNx)
    (mSeq (mIfE (mBool (mOps (fF (fIsi "str")) [.var 1])) (mRet (mAndV (mOps (fF (fIsi "str")) [.var 0]) (mOps (fF fEq) [.var 0, .var 1]))) mNx)
    (mRet (mAndV (mOps (fF fIsN) [.var 1, .tmp (mC .non)]) (mOps (fF fIsN) [.var 0, .tmp (mC .non)]))))))))
theorem sc__law_same : FnScope ["told", "due", "key", "k"] ["told", "due"] (defScope s__law_same) := ⟨rfl, rfl, rfl, by decide +kernel, rfl, by decide +kernel, by decide +kernel⟩
def F__law_same : Nat → List D → R Unit T
  | 0 => fun _ => .no
  | n + 1 => runD 4 (M__law_same (F__law_same n))
theorem ok__law_same (T : Txt P w K mg base) : ∀ n : Nat, FnD P w K mg base (n + 1) "_law_same" 2 (F__law_same n)
  | 0 => by
    obtain ⟨f, fd, hm, G⟩ := T.f__law_same
    exact FnD.no hm G sc__law_same (G.binds fun _ _ _ _ _ _ us hl => match us, hl with | [_, _], _ => rfl) rfl
  | n + 1 => by
    have IH := ok__law_same T n
    show FnD P w K mg base (n + 1 + 1) "_law_same" 2 (runD 4 (M__law_same (F__law_same n)))
    generalize F__law_same n = F at IH ⊢
    obtain ⟨f, fd, hm, G⟩ := T.f__law_same
    refine FnD.of hm G sc__law_same (G.binds fun _ _ _ _ _ _ us hl => match us, hl with | [_, _], _ => rfl) fun cdv A outer s H E hr => ?_
    have h1 := hr.u1
    have h64 := hr.u64
    have h65 := hr.u65
    exact (dss_cons (ds_if (dt_val (de_isi (by rfl) T.b_isinstance (pv 1) (Gl.blt (by rfl) T.b_dict bt_dict) kit_dict)) (dss_cons (ds_if (dw_or (dt_not (dt_val (de_isi (by rfl) T.b_isinstance (pv 0) (Gl.blt (by rfl) T.b_dict bt_dict) kit_dict))) (dw_or1 (dt_not (dt_val (de_call (IH) (hr.mono (by omega)) (by rfl) (da_cons (de_callTy (call_listB rfl) s_listB (by rfl) T.b_list bt_list (.cons (pv 0) .nil)) (da_cons (de_callTy (call_listB rfl) s_listB (by rfl) T.b_list bt_list (.cons (pv 1) .nil)) da_nil)) (hlen := fun _ _ _ h => mA1_len (mA1_len mA0_len) h)))))).pt (dss_one (ds_ret de_bl)) dss_nil)
      (dss_one (ds_ret (de_call (IH) (hr.mono (by omega)) (by rfl) (da_cons (de_lcV (own := [("key", 2)]) rfl sc__law_same.nd (blkOk_by (N := ["told", "due", "key", "k"]) (sc := defScope s__law_same) (by decide +kernel)) (di_varK (pv 0)) (fun _ _ _ _ _ => (dg_name sc__law_same.nd)) (fun _ _ _ _ _ => dts_nil) (fun _ _ _ _ _ => (de_ix (ix_any h1) s_ix (pv 0) (pv 2)))) (da_cons (de_lcV (own := [("key", 2)]) rfl sc__law_same.nd (blkOk_by (N := ["told", "due", "key", "k"]) (sc := defScope s__law_same) (by decide +kernel)) (di_varK (pv 1)) (fun _ _ _ _ _ => (dg_name sc__law_same.nd)) (fun _ _ _ _ _ => dts_nil) (fun _ _ _ _ _ => (de_ix (ix_any h1) s_ix (pv 1) (pv 2)))) da_nil)) (hlen := fun _ _ _ h => mA1_len (mA1_len mA0_len) h))))) dss_nil)
    (dss_cons (ds_if (dt_val (de_isi2 (by rfl) T.b_isinstance (pv 1) (Gl.blt (by rfl) T.b_list bt_list) (Gl.blt (by rfl) T.b_tuple bt_tuple) kit_list kit_tuple)) (dss_cons (ds_if (dw_or (dt_not (dt_val (de_isi2 (by rfl) T.b_isinstance (pv 0) (Gl.blt (by rfl) T.b_list bt_list) (Gl.blt (by rfl) T.b_tuple bt_tuple) kit_list kit_tuple))) (dw_or1 (dt_cmp (op_neA h64) s_ne.ops (de_isi (by rfl) T.b_isinstance (pv 0) (Gl.blt (by rfl) T.b_list bt_list) kit_list) (de_isi (by rfl) T.b_isinstance (pv 1) (Gl.blt (by rfl) T.b_list bt_list) kit_list) (nomark _)))).pt (dss_one (ds_ret de_bl)) dss_nil)
      (dss_one (ds_ret (de_and (de_cmp (op_eqA h64) s_eq.ops (de_callB call_lenA s_len.ops (by rfl) T.b_len bb_len (.cons (pv 0) .nil)) (de_callB call_lenA s_len.ops (by rfl) T.b_len bb_len (.cons (pv 1) .nil)) (nomark _)) (de_one (de_callB (cr_all rfl) s_all.ops (by rfl) T.b_all bb_all (.cons (de_lc (own := [("k", 3)]) rfl sc__law_same.nd (blkOk_by (N := ["told", "due", "key", "k"]) (sc := defScope s__law_same) (by decide +kernel)) (di_rng1 (by rfl) T.b_range (.cons (de_callB call_lenA s_len.ops (by rfl) T.b_len bb_len (.cons (pv 1) .nil)) .nil)) (fun _ _ _ _ _ => (dg_name sc__law_same.nd)) (fun _ _ _ _ _ => dts_nil) (fun _ _ _ _ _ => (de_call (IH) (hr.mono (by omega)) (by rfl) (da_cons (de_ix (ix_any h1) s_ix (pv 0) (pv 3)) (da_cons (de_ix (ix_any h1) s_ix (pv 1) (pv 3)) da_nil)) (hlen := fun _ _ _ h => mA1_len (mA1_len mA0_len) h)))) .nil))))))) dss_nil)
    (dss_cons (ds_if (dw_or (dt_val (de_isi (by rfl) T.b_isinstance (pv 1) (Gl.blt (by rfl) T.b_bool bt_bool) kit_bool)) (dw_or1 (dt_val (de_isi (by rfl) T.b_isinstance (pv 0) (Gl.blt (by rfl) T.b_bool bt_bool) kit_bool)))).pt (dss_one (ds_ret (de_and (de_isi (by rfl) T.b_isinstance (pv 1) (Gl.blt (by rfl) T.b_bool bt_bool) kit_bool) (de_and (de_isi (by rfl) T.b_isinstance (pv 0) (Gl.blt (by rfl) T.b_bool bt_bool) kit_bool) (de_one (de_cmp (op_eqA h64) s_eq.ops (pv 0) (pv 1) (nomark _))))))) dss_nil)
    (dss_cons (ds_if (dt_val (de_isi (by rfl) T.b_isinstance (pv 1) (Gl.blt (by rfl) T.b_int bt_int) kit_int)) (dss_one (ds_ret (de_and (de_isi (by rfl) T.b_isinstance (pv 0) (Gl.blt (by rfl) T.b_int bt_int) kit_int) (de_one (de_cmp (op_eqA h64) s_eq.ops (pv 0) (pv 1) (nomark _)))))) dss_nil)
    (dss_cons (ds_if (dt_val (de_isi (by rfl) T.b_isinstance (pv 1) (Gl.blt (by rfl) T.b_str bt_str) kit_str)) (dss_one (ds_ret (de_and (de_isi (by rfl) T.b_isinstance (pv 0) (Gl.blt (by rfl) T.b_str bt_str) kit_str) (de_one (de_cmp (op_eqA h64) s_eq.ops (pv 0) (pv 1) (nomark _)))))) dss_nil)
    (dss_one (ds_ret (de_and (de_cmp op_isN s_isN.ops (pv 1) de_non (nomark _)) (de_one (de_cmp op_isN s_isN.ops (pv 0) de_non (nomark _)))))))))))
-- _law_asked
def B__law_asked_1 : M Fl := (mSeq (mIfE (mBool (mOps (fF fEq) [.var 0, .tmp (mC (.int 0))])) (mRet (mTup (mA1 (mC (.str "told")) (mA1 (mOps (fF (fIsi "int")) [.tmp (mCall F_group_need (mA1 (mVar 1) (mA1 (mVar 2) (mA1 (mVar 3) (mA1 (mVar 4) mA0)))))]) mA0)))) mNx)
      (mSeq (mIfE (mBool (mOps (fF fEq) [.var 0, .tmp (mC (.int 1))])) (mRet (mTup (mA1 (mC (.str "told")) (mA1 (mOps (fF (fIsi "dict")) [.tmp (mCall F_sharing (mA1 (mVar 1) (mA1 (mVar 3) (mA1 (mVar 4) mA0))))]) mA0)))) mNx)
      (mSeq (mIfE (mBool (mOps (fF fEq) [.var 0, .tmp (mC (.int 2))])) (mRet (mTup (mA1 (mC (.str "told")) (mA1 (mOps (fF (fIsi "int")) [.tmp (mCall F_saved (mA1 (mVar 1) (mA1 (mVar 3) (mA1 (mVar 4) mA0))))]) mA0)))) mNx)
      (mSeq (mIfE (mBool (mOps (fF fEq) [.var 0, .tmp (mC (.int 3))])) (mRet (mTup (mA1 (mC (.str "told")) (mA1 (mOps (fF fNe) [.tmp (mCall F_common_move (mA1 (mVar 1) (mA1 (mVar 3) (mA1 (mVar 4) mA0)))), .tmp (mC (.str "x"))]) mA0)))) mNx)
      (mRet (mTup (mA1 (mC (.str "told")) (mA1 (mOps (fF fNe) [.tmp (mCall F_objecting (mA1 (mVar 1) (mA1 (mVar 3) (mA1 (mVar 4) (mA1 (mVar 5) mA0))))), .tmp (mC (.str "x"))]) mA0))))))))
def M__law_asked : M Fl := (mTry [⟨"BadBooks", 6, "books", "given"⟩, ⟨"BadOwners", 6, "owners", "given"⟩, ⟨"BadCount", 6, "count", "count"⟩, ⟨"BadMove", 6, "move", "given"⟩, ⟨"BadPrices", 6, "prices", "given"⟩, ⟨"UnknownUnit", 6, "unit", "given"⟩, ⟨"BadShares", 6, "shares", "given"⟩] exL B__law_asked_1)
theorem sc__law_asked : FnScope ["way", "books", "members", "moves", "prices", "shares", "e"] ["way", "books", "members", "moves", "prices", "shares"] (defScope s__law_asked) := ⟨rfl, rfl, rfl, by decide +kernel, rfl, by decide +kernel, by decide +kernel⟩
def F__law_asked : List D → R Unit T := runD 7 M__law_asked
theorem ok__law_asked (T : Txt P w K mg base) : FnD P w K mg base 16 "_law_asked" 6 F__law_asked := by
    obtain ⟨f, fd, hm, G⟩ := T.f__law_asked
    refine FnD.of hm G sc__law_asked (G.binds fun _ _ _ _ _ _ us hl => match us, hl with | [_, _, _, _, _, _], _ => rfl) fun cdv A outer s H E hr => ?_
    obtain ⟨C_BadBooks, y_BadBooks⟩ := T.y_BadBooks
    obtain ⟨C_BadCount, y_BadCount⟩ := T.y_BadCount
    obtain ⟨C_BadMove, y_BadMove⟩ := T.y_BadMove
    obtain ⟨C_BadOwners, y_BadOwners⟩ := T.y_BadOwners
    obtain ⟨C_BadPrices, y_BadPrices⟩ := T.y_BadPrices
    obtain ⟨C_BadShares, y_BadShares⟩ := T.y_BadShares
    obtain ⟨C_UnknownUnit, y_UnknownUnit⟩ := T.y_UnknownUnit
    have h1 := hr.u1
    have h64 := hr.u64
    have h65 := hr.u65
    exact (dss_one (ds_try rfl rfl sc__law_asked.nd (fun pn xe hp => (dss_cons (ds_if (dt_cmp (op_eqA h64) s_eq.ops (pv 0) de_int (nomark _)) (dss_one (ds_ret (de_tup (da_cons de_str (da_cons (de_isi (by rfl) T.b_isinstance (de_call (ok_group_need T) (hr.mono (by decide)) (by rfl) (da_cons (de_var' (pv 1)) (da_cons (de_var' (pv 2)) (da_cons (de_var' (pv 3)) (da_cons (de_var' (pv 4)) da_nil)))) (hlen := fun _ _ _ h => mA1_len (mA1_len (mA1_len (mA1_len mA0_len))) h)) (Gl.blt (by rfl) T.b_int bt_int) kit_int) da_nil))))) dss_nil)
      (dss_cons (ds_if (dt_cmp (op_eqA h64) s_eq.ops (pv 0) de_int (nomark _)) (dss_one (ds_ret (de_tup (da_cons de_str (da_cons (de_isi (by rfl) T.b_isinstance (de_call (ok_sharing T) (hr.mono (by decide)) (by rfl) (da_cons (de_var' (pv 1)) (da_cons (de_var' (pv 3)) (da_cons (de_var' (pv 4)) da_nil))) (hlen := fun _ _ _ h => mA1_len (mA1_len (mA1_len mA0_len)) h)) (Gl.blt (by rfl) T.b_dict bt_dict) kit_dict) da_nil))))) dss_nil)
      (dss_cons (ds_if (dt_cmp (op_eqA h64) s_eq.ops (pv 0) de_int (nomark _)) (dss_one (ds_ret (de_tup (da_cons de_str (da_cons (de_isi (by rfl) T.b_isinstance (de_call (ok_saved T) (hr.mono (by decide)) (by rfl) (da_cons (de_var' (pv 1)) (da_cons (de_var' (pv 3)) (da_cons (de_var' (pv 4)) da_nil))) (hlen := fun _ _ _ h => mA1_len (mA1_len (mA1_len mA0_len)) h)) (Gl.blt (by rfl) T.b_int bt_int) kit_int) da_nil))))) dss_nil)
      (dss_cons (ds_if (dt_cmp (op_eqA h64) s_eq.ops (pv 0) de_int (nomark _)) (dss_one (ds_ret (de_tup (da_cons de_str (da_cons (de_cmp (op_neA h64) s_ne.ops (de_call (ok_common_move T) (hr.mono (by decide)) (by rfl) (da_cons (de_var' (pv 1)) (da_cons (de_var' (pv 3)) (da_cons (de_var' (pv 4)) da_nil))) (hlen := fun _ _ _ h => mA1_len (mA1_len (mA1_len mA0_len)) h)) de_str (nomark _)) da_nil))))) dss_nil)
      (dss_one (ds_ret (de_tup (da_cons de_str (da_cons (de_cmp (op_neA h64) s_ne.ops (de_call (ok_objecting T) (hr.mono (by decide)) (by rfl) (da_cons (de_var' (pv 1)) (da_cons (de_var' (pv 3)) (da_cons (de_var' (pv 4)) (da_cons (de_var' (pv 5)) da_nil)))) (hlen := fun _ _ _ h => mA1_len (mA1_len (mA1_len (mA1_len mA0_len))) h)) de_str (nomark _)) da_nil)))))))))) (.cons (by rfl) (by decide) y_BadBooks.m rfl rfl y_BadBooks.t y_BadBooks.no (by decide) (by decide) (.cons (by rfl) (by decide) y_BadOwners.m rfl rfl y_BadOwners.t y_BadOwners.no (by decide) (by decide) (.cons (by rfl) (by decide) y_BadCount.m rfl rfl y_BadCount.t y_BadCount.no (by decide) (by decide) (.cons (by rfl) (by decide) y_BadMove.m rfl rfl y_BadMove.t y_BadMove.no (by decide) (by decide) (.cons (by rfl) (by decide) y_BadPrices.m rfl rfl y_BadPrices.t y_BadPrices.no (by decide) (by decide) (.cons (by rfl) (by decide) y_UnknownUnit.m rfl rfl y_UnknownUnit.t y_UnknownUnit.no (by decide) (by decide) (.cons (by rfl) (by decide) y_BadShares.m rfl rfl y_BadShares.t y_BadShares.no (by decide) (by decide) .nil))))))) T.tab))
-- _law_odd_books
def B__law_odd_books_1 : M Fl := (mExpr (mAppend 7 (mTup (mA1 (mVar 8) (mA1 (mVar 6) mA0)))))
def B__law_odd_books_2 : M Fl := (mExpr (mAppend 7 (mTup (mA1 (mVar 5) (mA1 (mOps (fAdd) [.var 6, .tmp (mLst (mA1 (mVar 8) mA0))]) mA0)))))
def B__law_odd_books_3 : M Fl := (mExpr (mAppend 7 (mTup (mA1 (mVar 5) (mA1 (mOps (fAdd) [.tmp (mLst (mA1 (mVar 8) mA0)), .var 6]) mA0)))))
def B__law_odd_books_4 : M Fl := (mSeq (mSet 10 (mOps (fDict) [.var 1]))
      (mSeq (mStore 10 (.var 4) (mVar 9))
      (mExpr (mAppend 3 (mVar 10)))))
def M__law_odd_books : M Fl := (mSeq (mPar2 2 3 (mOps ((fun ds => (fSorted ds).map T.ol)) [.var 1]) (mLst (mA1 (mC .non) (mA1 (mLst mA0) (mA1 (mC (.str "ab")) (mA1 (mC (.int 7)) (mA1 (mDisp [((mC (.int 5)), (mTup (mA1 mNewK (mA1 (mLst mA0) mA0))))]) (mA1 (mDisp [((mC (.str "house")), (mTup (mA1 mNewK (mA1 (mLst mA0) mA0))))]) (mA1 (mDispT1 (mTup (mA1 (mC (.str "ann")) mA0)) (mTup (mA1 mNewK (mA1 (mLst mA0) mA0)))) mA0)))))))))
    (mSeq (mSet 4 (mOps (fF fIx) [.var 2, .tmp (mCallI 0 F__law_pick (mA1 (mOps (fF fLen) [.var 2]) mA0))]))
    (mSeq (mAsgT (gT 2 (gs1 (g1 5) (gs1 (g1 6) gs0))) (mOps (fF fIx) [.var 1, .var 4]))
    (mSeq (mSet 7 (mLst (mA1 (mC .non) (mA1 (mLst (mA1 (mVar 5) (mA1 (mVar 6) mA0))) (mA1 (mTup (mA1 (mVar 5) mA0)) (mA1 (mTup (mA1 (mVar 5) (mA1 (mVar 6) (mA1 (mC (.int 0)) mA0)))) (mA1 (mTup (mA1 (mVar 6) (mA1 (mVar 5) mA0))) (mA1 (mTup (mA1 (mVar 5) (mA1 (mC .non) mA0))) (mA1 (mTup (mA1 (mVar 5) (mA1 mNewK mA0))) mA0)))))))))
    (mSeq (mFor (mIt items (mLst (mA1 (mDisp [((mC (.str "oil")), (mC (.int 0)))]) (mA1 (mDisp [((mC (.str "oil")), (mC (.bl true)))]) (mA1 (mDisp [((mC (.str "oil")), (mC .non))]) (mA1 (mDisp [((mC (.str "money")), (mC (.int 3)))]) (mA1 (mDisp [((mC (.int 5)), (mC (.int 1)))]) (mA1 (mLst mA0) (mA1 (mC .non) mA0))))))))) (g1 8) B__law_odd_books_1)
    (mSeq (mFor (mIt items (mLst (mA1 (mTup (mA1 (mC (.str "hold")) (mA1 (mC (.str "oil")) (mA1 (mC (.int 50)) (mA1 (mC (.int 1)) mA0))))) (mA1 (mTup (mA1 (mC (.str "buy")) (mA1 (mC (.str "oil")) (mA1 (mC (.int 0)) (mA1 (mC (.int 1)) mA0))))) (mA1 (mTup (mA1 (mC (.str "buy")) (mA1 (mC (.str "oil")) (mA1 (mC (.int 100)) (mA1 (mC (.int 1)) mA0))))) (mA1 (mTup (mA1 (mC (.str "buy")) (mA1 (mC (.str "oil")) (mA1 (mC (.int 50)) (mA1 (mC (.int 0)) mA0))))) (mA1 (mLst (mA1 (mC (.str "buy")) (mA1 (mC (.str "oil")) (mA1 (mC (.int 50)) (mA1 (mC (.int 1)) mA0))))) mA0))))))) (g1 8) B__law_odd_books_2)
    (mSeq (mFor (mIt items (mLst (mA1 (mTup (mA1 (mC (.str "buy")) (mA1 (mC (.str "house")) (mA1 (mC (.int 50)) (mA1 (mC (.int 1)) mA0))))) (mA1 (mTup (mA1 (mC (.str "buy")) (mA1 (mC (.str "oil")) (mA1 (mC (.bl true)) (mA1 (mC (.int 1)) mA0))))) (mA1 (mTup (mA1 (mC (.str "buy")) (mA1 (mC (.str "oil")) (mA1 (mC (.int 50)) mA0)))) (mA1 (mTup (mA1 (mC (.str "sell")) (mA1 (mC (.str "oil")) (mA1 (mC (.int 50)) (mA1 (mC .non) mA0))))) (mA1 (mC .non) mA0))))))) (g1 8) B__law_odd_books_3)
    (mSeq (mFor (mIt items (mVar 7)) (g1 9) B__law_odd_books_4)
    (mRet (mMove 3))))))))))
theorem sc__law_odd_books : FnScope ["tape", "books", "names", "found", "name", "position", "orders", "parts", "odd", "part", "more"] ["tape", "books"] (defScope s__law_odd_books) := ⟨rfl, rfl, rfl, by decide +kernel, rfl, by decide +kernel, by decide +kernel⟩
def F__law_odd_books : T → List D → R T T := runI 11 M__law_odd_books
theorem ok__law_odd_books (T : Txt P w K mg base) : FnI P w K mg base 2 "_law_odd_books" 1 F__law_odd_books := by
    obtain ⟨f, fd, hm, G⟩ := T.f__law_odd_books
    refine FnI.of hm G sc__law_odd_books (G.binds fun _ _ _ _ _ _ us hl => match us, hl with | [_, _], _ => rfl) rfl fun cdv A outer s H E hr => ?_
    have h1 := hr.u1
    have h64 := hr.u64
    have h65 := hr.u65
    exact (dss_cons (ds_par2 rfl sc__law_odd_books.nd (de_callB (call_sortA rfl) s_sorted (by rfl) T.b_sorted bb_sorted (.cons (pv 1) .nil)) (de_lst (da_cons de_non (da_cons (de_lst da_nil) (da_cons de_str (da_cons de_int (da_cons (de_disp (.cons de_int (de_tup (da_cons de_newK (da_cons (de_lst da_nil) da_nil))) .nil)) (da_cons (de_disp (.cons de_str (de_tup (da_cons de_newK (da_cons (de_lst da_nil) da_nil))) .nil)) (da_cons (de_dispT1 h1 (de_tup (da_cons de_str da_nil)) (de_tup (da_cons de_newK (da_cons (de_lst da_nil) da_nil)))) da_nil)))))))))
    (dss_cons (ds_set sc__law_odd_books.nd (de_ix (ix_any h1) s_ix (pv 2) (de_callI (ok__law_pick T) (hr.mono (by decide)) (by rfl) (pv 0) (da_cons (de_callB call_lenA s_len.ops (by rfl) T.b_len bb_len (.cons (pv 2) .nil)) da_nil) (hlen := fun _ _ _ h => mA1_len mA0_len h))))
    (dss_cons (ds_asgT (de_ix (ix_any h1) s_ix (pv 1) (pv 4)) (dg_tup rfl (dgs_cons (dg_name sc__law_odd_books.nd) (dgs_cons (dg_name sc__law_odd_books.nd) dgs_nil))))
    (dss_cons (ds_set sc__law_odd_books.nd (de_lst (da_cons de_non (da_cons (de_lst (da_cons (de_var' (pv 5)) (da_cons (de_var' (pv 6)) da_nil))) (da_cons (de_tup (da_cons (de_var' (pv 5)) da_nil)) (da_cons (de_tup (da_cons (de_var' (pv 5)) (da_cons (de_var' (pv 6)) (da_cons de_int da_nil)))) (da_cons (de_tup (da_cons (de_var' (pv 6)) (da_cons (de_var' (pv 5)) da_nil))) (da_cons (de_tup (da_cons (de_var' (pv 5)) (da_cons de_non da_nil))) (da_cons (de_tup (da_cons (de_var' (pv 5)) (da_cons de_newK da_nil))) da_nil)))))))))
    (dss_cons (ds_for (passes_of rfl) rfl (di_gen (de_lst (da_cons (de_disp (.cons de_str de_int .nil)) (da_cons (de_disp (.cons de_str de_bl .nil)) (da_cons (de_disp (.cons de_str de_non .nil)) (da_cons (de_disp (.cons de_str de_int .nil)) (da_cons (de_disp (.cons de_int de_int .nil)) (da_cons (de_lst da_nil) (da_cons de_non da_nil))))))))) (dg_name sc__law_odd_books.nd) (dss_one (ds_expr (de_append (pv 7) (de_tup (da_cons (de_var' (pv 8)) (da_cons (de_var' (pv 6)) da_nil)))))))
    (dss_cons (ds_for (passes_of rfl) rfl (di_gen (de_lst (da_cons (de_tup (da_cons de_str (da_cons de_str (da_cons de_int (da_cons de_int da_nil))))) (da_cons (de_tup (da_cons de_str (da_cons de_str (da_cons de_int (da_cons de_int da_nil))))) (da_cons (de_tup (da_cons de_str (da_cons de_str (da_cons de_int (da_cons de_int da_nil))))) (da_cons (de_tup (da_cons de_str (da_cons de_str (da_cons de_int (da_cons de_int da_nil))))) (da_cons (de_lst (da_cons de_str (da_cons de_str (da_cons de_int (da_cons de_int da_nil))))) da_nil))))))) (dg_name sc__law_odd_books.nd) (dss_one (ds_expr (de_append (pv 7) (de_tup (da_cons (de_var' (pv 5)) (da_cons (de_op op_addA s_add (pv 6) (de_lst (da_cons (de_var' (pv 8)) da_nil))) da_nil)))))))
    (dss_cons (ds_for (passes_of rfl) rfl (di_gen (de_lst (da_cons (de_tup (da_cons de_str (da_cons de_str (da_cons de_int (da_cons de_int da_nil))))) (da_cons (de_tup (da_cons de_str (da_cons de_str (da_cons de_bl (da_cons de_int da_nil))))) (da_cons (de_tup (da_cons de_str (da_cons de_str (da_cons de_int da_nil)))) (da_cons (de_tup (da_cons de_str (da_cons de_str (da_cons de_int (da_cons de_non da_nil))))) (da_cons de_non da_nil))))))) (dg_name sc__law_odd_books.nd) (dss_one (ds_expr (de_append (pv 7) (de_tup (da_cons (de_var' (pv 5)) (da_cons (de_op op_addA s_add (de_lst (da_cons (de_var' (pv 8)) da_nil)) (pv 6)) da_nil)))))))
    (dss_cons (ds_for (passes_of rfl) rfl (di_gen (de_var' (pv 7))) (dg_name sc__law_odd_books.nd) (dss_cons (ds_set sc__law_odd_books.nd (de_callTy (call_dictA rfl) s_dict (by rfl) T.b_dict bt_dict (.cons (pv 1) .nil)))
      (dss_cons (ds_store h1 (pv 10) (pv 4) (de_var' (pv 9)))
      (dss_one (ds_expr (de_append (pv 3) (de_var' (pv 10))))))))
    (dss_one (ds_ret (de_move' (pv 3))))))))))))
-- _law_odd_moves
def M__law_odd_moves : M Fl := (mRet (mOps (fF fIx) [.tmp (mLst (mA1 (mTup (mA1 (mLst mA0) (mA1 (mTup (mA1 (mC (.str "count")) (mA1 (mC (.int 0)) mA0))) mA0))) (mA1 (mTup (mA1 (mOps (fMul) [.tmp (mLst (mA1 mNewK mA0)), .tmp (mC (.int 9))]) (mA1 (mTup (mA1 (mC (.str "count")) (mA1 (mC (.int 9)) mA0))) mA0))) (mA1 (mTup (mA1 (mLst (mA1 (mDisp [((mC (.str "oil")), (mC (.int 1)))]) mA0)) (mA1 (mTup (mA1 (mC (.str "move")) (mA1 (mDisp [((mC (.str "oil")), (mC (.int 1)))]) mA0))) mA0))) (mA1 (mTup (mA1 (mLst (mA1 mNewK (mA1 (mC .non) (mA1 (mC (.int 5)) mA0)))) (mA1 (mTup (mA1 (mC (.str "move")) (mA1 (mC .non) mA0))) mA0))) (mA1 (mTup (mA1 (mLst (mA1 mNewK (mA1 (mDisp [((mC (.str "oil")), (mC (.str "1")))]) mA0))) (mA1 (mTup (mA1 (mC (.str "move")) (mA1 (mDisp [((mC (.str "oil")), (mC (.str "1")))]) mA0))) mA0))) (mA1 (mTup (mA1 (mLst (mA1 (mDisp [((mC (.str "oil")), (mC (.int 0)))]) (mA1 mNewK mA0))) (mA1 (mTup (mA1 (mC (.str "move")) (mA1 (mDisp [((mC (.str "oil")), (mC (.int 0)))]) mA0))) mA0))) (mA1 (mTup (mA1 (mLst (mA1 (mDisp [((mC (.str "oil")), (mC (.int 1)))]) (mA1 (mC (.int 5)) mA0))) (mA1 (mTup (mA1 (mC (.str "move")) (mA1 (mC (.int 5)) mA0))) mA0))) (mA1 (mTup (mA1 (mLst (mA1 mNewK (mA1 (mDisp [((mC (.str "money")), (mC (.int 1)))]) mA0))) (mA1 (mTup (mA1 (mC (.str "move")) (mA1 (mDisp [((mC (.str "money")), (mC (.int 1)))]) mA0))) mA0))) (mA1 (mTup (mA1 (mLst (mA1 mNewK (mA1 (mDisp [((mC (.str "oil")), (mC (.bl true)))]) mA0))) (mA1 (mTup (mA1 (mC (.str "move")) (mA1 (mDisp [((mC (.str "oil")), (mC (.bl true)))]) mA0))) mA0))) mA0)))))))))), .tmp (mCallI 0 F__law_pick (mA1 (mC (.int 9)) mA0))]))
theorem sc__law_odd_moves : FnScope ["tape"] ["tape"] (defScope s__law_odd_moves) := ⟨rfl, rfl, rfl, by decide +kernel, rfl, by decide +kernel, by decide +kernel⟩
def F__law_odd_moves : T → List D → R T T := runI 1 M__law_odd_moves
theorem ok__law_odd_moves (T : Txt P w K mg base) : FnI P w K mg base 2 "_law_odd_moves" 0 F__law_odd_moves := by
    obtain ⟨f, fd, hm, G⟩ := T.f__law_odd_moves
    refine FnI.of hm G sc__law_odd_moves (G.binds fun _ _ _ _ _ _ us hl => match us, hl with | [_], _ => rfl) rfl fun cdv A outer s H E hr => ?_
    have h1 := hr.u1
    have h64 := hr.u64
    have h65 := hr.u65
    exact (dss_one (ds_ret (de_ix (ix_any h1) s_ix (de_lst (da_cons (de_tup (da_cons (de_lst da_nil) (da_cons (de_tup (da_cons de_str (da_cons de_int da_nil))) da_nil))) (da_cons (de_tup (da_cons (de_op op_mulA s_mul (de_lst (da_cons de_newK da_nil)) de_int) (da_cons (de_tup (da_cons de_str (da_cons de_int da_nil))) da_nil))) (da_cons (de_tup (da_cons (de_lst (da_cons (de_disp (.cons de_str de_int .nil)) da_nil)) (da_cons (de_tup (da_cons de_str (da_cons (de_disp (.cons de_str de_int .nil)) da_nil))) da_nil))) (da_cons (de_tup (da_cons (de_lst (da_cons de_newK (da_cons de_non (da_cons de_int da_nil)))) (da_cons (de_tup (da_cons de_str (da_cons de_non da_nil))) da_nil))) (da_cons (de_tup (da_cons (de_lst (da_cons de_newK (da_cons (de_disp (.cons de_str de_str .nil)) da_nil))) (da_cons (de_tup (da_cons de_str (da_cons (de_disp (.cons de_str de_str .nil)) da_nil))) da_nil))) (da_cons (de_tup (da_cons (de_lst (da_cons (de_disp (.cons de_str de_int .nil)) (da_cons de_newK da_nil))) (da_cons (de_tup (da_cons de_str (da_cons (de_disp (.cons de_str de_int .nil)) da_nil))) da_nil))) (da_cons (de_tup (da_cons (de_lst (da_cons (de_disp (.cons de_str de_int .nil)) (da_cons de_int da_nil))) (da_cons (de_tup (da_cons de_str (da_cons de_int da_nil))) da_nil))) (da_cons (de_tup (da_cons (de_lst (da_cons de_newK (da_cons (de_disp (.cons de_str de_int .nil)) da_nil))) (da_cons (de_tup (da_cons de_str (da_cons (de_disp (.cons de_str de_int .nil)) da_nil))) da_nil))) (da_cons (de_tup (da_cons (de_lst (da_cons de_newK (da_cons (de_disp (.cons de_str de_bl .nil)) da_nil))) (da_cons (de_tup (da_cons de_str (da_cons (de_disp (.cons de_str de_bl .nil)) da_nil))) da_nil))) da_nil)))))))))) (de_callI (ok__law_pick T) (hr.mono (by decide)) (by rfl) (pv 0) (da_cons de_int da_nil) (hlen := fun _ _ _ h => mA1_len mA0_len h)))))
-- _law_odd_prices
def M__law_odd_prices : M Fl := (mRet (mOps (fF fIx) [.tmp (mLst (mA1 (mC .non) (mA1 (mLst mA0) (mA1 (mDisp [((mC (.str "oil")), (mC (.int 0)))]) (mA1 (mDisp [((mC (.str "oil")), (mC (.int 100)))]) (mA1 (mDisp [((mC (.str "oil")), (mC (.bl true)))]) (mA1 (mDisp [((mC (.str "money")), (mC (.int 5)))]) (mA1 (mDisp [((mC (.int 5)), (mC (.int 5)))]) (mA1 (mDisp [((mC (.str "oil")), (mC .non))]) (mA1 (mC (.str "oil")) mA0)))))))))), .tmp (mCallI 0 F__law_pick (mA1 (mC (.int 9)) mA0))]))
theorem sc__law_odd_prices : FnScope ["tape"] ["tape"] (defScope s__law_odd_prices) := ⟨rfl, rfl, rfl, by decide +kernel, rfl, by decide +kernel, by decide +kernel⟩
def F__law_odd_prices : T → List D → R T T := runI 1 M__law_odd_prices
theorem ok__law_odd_prices (T : Txt P w K mg base) : FnI P w K mg base 2 "_law_odd_prices" 0 F__law_odd_prices := by
    obtain ⟨f, fd, hm, G⟩ := T.f__law_odd_prices
    refine FnI.of hm G sc__law_odd_prices (G.binds fun _ _ _ _ _ _ us hl => match us, hl with | [_], _ => rfl) rfl fun cdv A outer s H E hr => ?_
    have h1 := hr.u1
    have h64 := hr.u64
    have h65 := hr.u65
    exact (dss_one (ds_ret (de_ix (ix_any h1) s_ix (de_lst (da_cons de_non (da_cons (de_lst da_nil) (da_cons (de_disp (.cons de_str de_int .nil)) (da_cons (de_disp (.cons de_str de_int .nil)) (da_cons (de_disp (.cons de_str de_bl .nil)) (da_cons (de_disp (.cons de_str de_int .nil)) (da_cons (de_disp (.cons de_int de_int .nil)) (da_cons (de_disp (.cons de_str de_non .nil)) (da_cons de_str da_nil)))))))))) (de_callI (ok__law_pick T) (hr.mono (by decide)) (by rfl) (pv 0) (da_cons de_int da_nil) (hlen := fun _ _ _ h => mA1_len mA0_len h)))))
-- _law_members_right
def B__law_members_right_1 : M Fl := (mIfE (mNot (mBool (mCall (F__law_same 12) (mA1 (mCall F__law_asked (mA1 (mC (.int 0)) (mA1 (mVar 1) (mA1 (mVar 5) (mA1 (mLst mA0) (mA1 (mC .non) (mA1 (mC .non) mA0))))))) (mA1 (mTup (mA1 (mC (.str "owners")) (mA1 (mVar 5) mA0))) mA0))))) (mRet (mC (.bl false))) mNx)
def M__law_members_right : M Fl := (mSeq (mSet 4 (mOps ((fun ds => (fSorted ds).map T.ol)) [.var 1]))
    (mSeq (mFor (mIt items (mLst (mA1 (mC .non) (mA1 (mC (.str "ann")) (mA1 (mOps (fAdd) [.var 4, .tmp (mOps fSl01 [.var 4, .tmp (mC (.int 1))])]) (mA1 (mLst (mA1 (mC (.str "zoe")) mA0)) (mA1 (mOps (fAdd) [.var 4, .tmp (mLst (mA1 (mC (.str "zoe")) mA0))]) (mA1 (mLst (mA1 (mC (.str "house")) mA0)) (mA1 (mLst (mA1 (mC (.int 5)) mA0)) (mA1 mNewK (mA1 (mLst (mA1 (mC .non) mA0)) mA0))))))))))) (g1 5) B__law_members_right_1)
    (mRet (mCall (F__law_same 12) (mA1 (mCall F__law_asked (mA1 (mC (.int 0)) (mA1 (mVar 1) (mA1 (mLst mA0) (mA1 (mVar 2) (mA1 (mVar 3) (mA1 (mC .non) mA0))))))) (mA1 (mTup (mA1 (mC (.str "told")) (mA1 (mC (.bl true)) mA0))) mA0))))))
theorem sc__law_members_right : FnScope ["tape", "books", "moves", "prices", "names", "odd"] ["tape", "books", "moves", "prices"] (defScope s__law_members_right) := ⟨rfl, rfl, rfl, by decide +kernel, rfl, by decide +kernel, by decide +kernel⟩
def F__law_members_right : T → List D → R T T := runI 6 M__law_members_right
theorem ok__law_members_right (T : Txt P w K mg base) : FnI P w K mg base 17 "_law_members_right" 3 F__law_members_right := by
    obtain ⟨f, fd, hm, G⟩ := T.f__law_members_right
    refine FnI.of hm G sc__law_members_right (G.binds fun _ _ _ _ _ _ us hl => match us, hl with | [_, _, _, _], _ => rfl) rfl fun cdv A outer s H E hr => ?_
    have h1 := hr.u1
    have h64 := hr.u64
    have h65 := hr.u65
    exact (dss_cons (ds_set sc__law_members_right.nd (de_callB (call_sortA rfl) s_sorted (by rfl) T.b_sorted bb_sorted (.cons (pv 1) .nil)))
    (dss_cons (ds_for (passes_of rfl) rfl (di_gen (de_lst (da_cons de_non (da_cons de_str (da_cons (de_op op_addA s_add (pv 4) (de_sl01 (pv 4) de_int)) (da_cons (de_lst (da_cons de_str da_nil)) (da_cons (de_op op_addA s_add (pv 4) (de_lst (da_cons de_str da_nil))) (da_cons (de_lst (da_cons de_str da_nil)) (da_cons (de_lst (da_cons de_int da_nil)) (da_cons de_newK (da_cons (de_lst (da_cons de_non da_nil)) da_nil))))))))))) (dg_name sc__law_members_right.nd) (dss_one (ds_if (dt_not (dt_val (de_call (ok__law_same T 12) (hr.mono (by decide)) (by rfl) (da_cons (de_call (ok__law_asked T) (hr.mono (by decide)) (by rfl) (da_cons de_int (da_cons (de_var' (pv 1)) (da_cons (de_var' (pv 5)) (da_cons (de_lst da_nil) (da_cons de_non (da_cons de_non da_nil)))))) (hlen := fun _ _ _ h => mA1_len (mA1_len (mA1_len (mA1_len (mA1_len (mA1_len mA0_len))))) h)) (da_cons (de_tup (da_cons de_str (da_cons (de_var' (pv 5)) da_nil))) da_nil)) (hlen := fun _ _ _ h => mA1_len (mA1_len mA0_len) h)))) (dss_one (ds_ret de_bl)) dss_nil)))
    (dss_one (ds_ret (de_call (ok__law_same T 12) (hr.mono (by decide)) (by rfl) (da_cons (de_call (ok__law_asked T) (hr.mono (by decide)) (by rfl) (da_cons de_int (da_cons (de_var' (pv 1)) (da_cons (de_lst da_nil) (da_cons (de_var' (pv 2)) (da_cons (de_var' (pv 3)) (da_cons de_non da_nil)))))) (hlen := fun _ _ _ h => mA1_len (mA1_len (mA1_len (mA1_len (mA1_len (mA1_len mA0_len))))) h)) (da_cons (de_tup (da_cons de_str (da_cons de_bl da_nil))) da_nil)) (hlen := fun _ _ _ h => mA1_len (mA1_len mA0_len) h))))))
-- _law_shares_right
def E__law_shares_right_1 : M T := (mTup (mA1 (mVar 11) (mA1 (mC (.int 0)) mA0)))
def L__law_shares_right_1 : M T := mLc (mIt itemsK (mVar 5)) (g1 11) mTrue E__law_shares_right_1 [11]
def E__law_shares_right_2 : M T := (mTup (mA1 (mVar 11) (mA1 (mOps (fF fIx) [.var 6, .var 11]) mA0)))
def L__law_shares_right_2 : M T := mLc (mIt items (mOps fSl10 [.var 5, .tmp (mC (.int 1))])) (g1 11) mTrue E__law_shares_right_2 [11]
def B__law_shares_right_1 : M Fl := (mSeq (mSet 9 (mOps (fDict) [.var 6]))
      (mSeq (mStore 9 (.tmp (mOps (fF fIx) [.var 5, .tmp (mOps (fF fNeg) [.tmp (mC (.int 1))])])) (mVar 8))
      (mExpr (mAppend 7 (mVar 9)))))
def B__law_shares_right_2 : M Fl := (mIfE (mNot (mBool (mCall (F__law_same 12) (mA1 (mCall F__law_asked (mA1 (mC (.int 4)) (mA1 (mVar 1) (mA1 (mC .non) (mA1 (mVar 2) (mA1 (mVar 3) (mA1 (mVar 10) mA0))))))) (mA1 (mTup (mA1 (mC (.str "shares")) (mA1 (mVar 10) mA0))) mA0))))) (mRet (mC (.bl false))) mNx)
def M__law_shares_right : M Fl := (mSeq (mSet 4 (mCall F_group_need (mA1 (mVar 1) (mA1 (mOps ((fun ds => (fSorted ds).map T.ol)) [.var 1]) (mA1 (mVar 2) (mA1 (mVar 3) mA0))))))
    (mSeq (mSet 5 (mCallI 0 F__law_shuffled (mA1 (mOps ((fun ds => (fSorted ds).map T.ol)) [.var 1]) mA0)))
    (mSeq (mSet 6 (mOps (fDict) [.tmp L__law_shares_right_1]))
    (mSeq (mStore 6 (.tmp (mOps (fF fIx) [.var 5, .tmp (mC (.int 0))])) (mVar 4))
    (mSeq (mIfE (mNot (mBool (mCall (F__law_same 12) (mA1 (mCall F__law_asked (mA1 (mC (.int 4)) (mA1 (mVar 1) (mA1 (mC .non) (mA1 (mVar 2) (mA1 (mVar 3) (mA1 (mVar 6) mA0))))))) (mA1 (mTup (mA1 (mC (.str "told")) (mA1 (mC (.bl true)) mA0))) mA0))))) (mRet (mC (.bl false))) mNx)
    (mSeq (mSet 7 (mLst (mA1 (mC .non) (mA1 (mLst mA0) (mA1 mNewK (mA1 (mOps (fDict) [.tmp L__law_shares_right_2]) (mA1 (mDisp [((mC (.str "zoe")), (mVar 4))]) (mA1 (mOps ((fun ds => (fSorted ds).map T.ol)) [.var 1]) mA0))))))))
    (mSeq (mFor (mIt items (mLst (mA1 (mOps (fAdd) [.tmp (mOps (fF fIx) [.var 6, .tmp (mOps (fF fIx) [.var 5, .tmp (mOps (fF fNeg) [.tmp (mC (.int 1))])])]), .tmp (mC (.int 1))]) (mA1 (mOps (fF fSub) [.tmp (mOps (fF fIx) [.var 6, .tmp (mOps (fF fIx) [.var 5, .tmp (mOps (fF fNeg) [.tmp (mC (.int 1))])])]), .tmp (mC (.int 1))]) (mA1 (mC .non) (mA1 (mC (.str "0")) (mA1 (mC (.bl true)) (mA1 (mLst (mA1 (mC (.int 0)) mA0)) mA0)))))))) (g1 8) B__law_shares_right_1)
    (mSeq (mSet 9 (mOps (fDict) [.var 6]))
    (mSeq (mStore 9 (.tmp (mC (.str "zoe"))) (mC (.int 0)))
    (mSeq (mExpr (mAppend 7 (mVar 9)))
    (mSeq (mFor (mIt items (mVar 7)) (g1 10) B__law_shares_right_2)
    (mRet (mC (.bl true))))))))))))))
theorem sc__law_shares_right : FnScope ["tape", "books", "moves", "prices", "whole", "names", "good", "odd", "amount", "more", "value", "name"] ["tape", "books", "moves", "prices"] (defScope s__law_shares_right) := ⟨rfl, rfl, rfl, by decide +kernel, rfl, by decide +kernel, by decide +kernel⟩
def F__law_shares_right : T → List D → R T T := runI 12 M__law_shares_right
theorem ok__law_shares_right (T : Txt P w K mg base) : FnI P w K mg base 17 "_law_shares_right" 3 F__law_shares_right := by
    obtain ⟨f, fd, hm, G⟩ := T.f__law_shares_right
    refine FnI.of hm G sc__law_shares_right (G.binds fun _ _ _ _ _ _ us hl => match us, hl with | [_, _, _, _], _ => rfl) rfl fun cdv A outer s H E hr => ?_
    have h1 := hr.u1
    have h64 := hr.u64
    have h65 := hr.u65
    exact (dss_cons (ds_set sc__law_shares_right.nd (de_call (ok_group_need T) (hr.mono (by decide)) (by rfl) (da_cons (de_var' (pv 1)) (da_cons (de_callB (call_sortA rfl) s_sorted (by rfl) T.b_sorted bb_sorted (.cons (pv 1) .nil)) (da_cons (de_var' (pv 2)) (da_cons (de_var' (pv 3)) da_nil)))) (hlen := fun _ _ _ h => mA1_len (mA1_len (mA1_len (mA1_len mA0_len))) h)))
    (dss_cons (ds_set sc__law_shares_right.nd (de_callI (ok__law_shuffled T) (hr.mono (by decide)) (by rfl) (pv 0) (da_cons (de_callB (call_sortA rfl) s_sorted (by rfl) T.b_sorted bb_sorted (.cons (pv 1) .nil)) da_nil) (hlen := fun _ _ _ h => mA1_len mA0_len h)))
    (dss_cons (ds_set sc__law_shares_right.nd (de_callTy (call_dictA rfl) s_dict (by rfl) T.b_dict bt_dict (.cons (de_lcV (own := [("name", 11)]) rfl sc__law_shares_right.nd (blkOk_by (N := ["tape", "books", "moves", "prices", "whole", "names", "good", "odd", "amount", "more", "value", "name"]) (sc := defScope s__law_shares_right) (by decide +kernel)) (di_varK (pv 5)) (fun _ _ _ _ _ => (dg_name sc__law_shares_right.nd)) (fun _ _ _ _ _ => dts_nil) (fun _ _ _ _ _ => (de_tup (da_cons (de_var' (pv 11)) (da_cons de_int da_nil))))) .nil)))
    (dss_cons (ds_store h1 (pv 6) (de_ix (ix_any h1) s_ix (pv 5) de_int) (de_var' (pv 4)))
    (dss_cons (ds_if (dt_not (dt_val (de_call (ok__law_same T 12) (hr.mono (by decide)) (by rfl) (da_cons (de_call (ok__law_asked T) (hr.mono (by decide)) (by rfl) (da_cons de_int (da_cons (de_var' (pv 1)) (da_cons de_non (da_cons (de_var' (pv 2)) (da_cons (de_var' (pv 3)) (da_cons (de_var' (pv 6)) da_nil)))))) (hlen := fun _ _ _ h => mA1_len (mA1_len (mA1_len (mA1_len (mA1_len (mA1_len mA0_len))))) h)) (da_cons (de_tup (da_cons de_str (da_cons de_bl da_nil))) da_nil)) (hlen := fun _ _ _ h => mA1_len (mA1_len mA0_len) h)))) (dss_one (ds_ret de_bl)) dss_nil)
    (dss_cons (ds_set sc__law_shares_right.nd (de_lst (da_cons de_non (da_cons (de_lst da_nil) (da_cons de_newK (da_cons (de_callTy (call_dictA rfl) s_dict (by rfl) T.b_dict bt_dict (.cons (de_lc (own := [("name", 11)]) rfl sc__law_shares_right.nd (blkOk_by (N := ["tape", "books", "moves", "prices", "whole", "names", "good", "odd", "amount", "more", "value", "name"]) (sc := defScope s__law_shares_right) (by decide +kernel)) (di_gen (de_sl10 (pv 5) de_int)) (fun _ _ _ _ _ => (dg_name sc__law_shares_right.nd)) (fun _ _ _ _ _ => dts_nil) (fun _ _ _ _ _ => (de_tup (da_cons (de_var' (pv 11)) (da_cons (de_ix (ix_any h1) s_ix (pv 6) (pv 11)) da_nil))))) .nil)) (da_cons (de_disp (.cons de_str (de_var' (pv 4)) .nil)) (da_cons (de_callB (call_sortA rfl) s_sorted (by rfl) T.b_sorted bb_sorted (.cons (pv 1) .nil)) da_nil))))))))
    (dss_cons (ds_for (passes_of rfl) rfl (di_gen (de_lst (da_cons (de_op op_addA s_add (de_ix (ix_any h1) s_ix (pv 6) (de_ix (ix_any h1) s_ix (pv 5) (de_un un_neg s_neg.ops de_int))) de_int) (da_cons (de_op op_sub s_i0.ops (de_ix (ix_any h1) s_ix (pv 6) (de_ix (ix_any h1) s_ix (pv 5) (de_un un_neg s_neg.ops de_int))) de_int) (da_cons de_non (da_cons de_str (da_cons de_bl (da_cons (de_lst (da_cons de_int da_nil)) da_nil)))))))) (dg_name sc__law_shares_right.nd) (dss_cons (ds_set sc__law_shares_right.nd (de_callTy (call_dictA rfl) s_dict (by rfl) T.b_dict bt_dict (.cons (pv 6) .nil)))
      (dss_cons (ds_store h1 (pv 9) (de_ix (ix_any h1) s_ix (pv 5) (de_un un_neg s_neg.ops de_int)) (de_var' (pv 8)))
      (dss_one (ds_expr (de_append (pv 7) (de_var' (pv 9))))))))
    (dss_cons (ds_set sc__law_shares_right.nd (de_callTy (call_dictA rfl) s_dict (by rfl) T.b_dict bt_dict (.cons (pv 6) .nil)))
    (dss_cons (ds_store h1 (pv 9) de_str de_int)
    (dss_cons (ds_expr (de_append (pv 7) (de_var' (pv 9))))
    (dss_cons (ds_for (passes_of rfl) rfl (di_gen (de_var' (pv 7))) (dg_name sc__law_shares_right.nd) (dss_one (ds_if (dt_not (dt_val (de_call (ok__law_same T 12) (hr.mono (by decide)) (by rfl) (da_cons (de_call (ok__law_asked T) (hr.mono (by decide)) (by rfl) (da_cons de_int (da_cons (de_var' (pv 1)) (da_cons de_non (da_cons (de_var' (pv 2)) (da_cons (de_var' (pv 3)) (da_cons (de_var' (pv 10)) da_nil)))))) (hlen := fun _ _ _ h => mA1_len (mA1_len (mA1_len (mA1_len (mA1_len (mA1_len mA0_len))))) h)) (da_cons (de_tup (da_cons de_str (da_cons (de_var' (pv 10)) da_nil))) da_nil)) (hlen := fun _ _ _ h => mA1_len (mA1_len mA0_len) h)))) (dss_one (ds_ret de_bl)) dss_nil)))
    (dss_one (ds_ret de_bl)))))))))))))
-- law
def B_law_1 : M Fl := (mSeq (mSet 11 (mOps fSl01 [.tmp (mLst (mA1 (mTup (mA1 (mC (.str "buy")) (mA1 (mC (.str "oil")) (mA1 (mC (.int 48)) (mA1 (mOps (fAdd) [.tmp (mC (.int 1)), .tmp (mCallI 2 F__law_pick (mA1 (mC (.int 3)) mA0))]) mA0))))) (mA1 (mTup (mA1 (mC (.str "sell")) (mA1 (mC (.str "tin")) (mA1 (mC (.int 52)) (mA1 (mC (.int 2)) mA0))))) mA0))), .tmp (mCallI 2 F__law_pick (mA1 (mC (.int 3)) mA0))]))
        (mStore 4 (.var 5) (mTup (mA1 (mOps (fF fIx) [.tmp (mLst (mA1 mNewK (mA1 (mDisp [((mC (.str "oil")), (mC (.int 2)))]) (mA1 (mDisp [((mC (.str "oil")), (mOps (fF fNeg) [.tmp (mC (.int 1))])), ((mC (.str "tin")), (mC (.int 3)))]) mA0)))), .tmp (mCallI 2 F__law_pick (mA1 (mC (.int 3)) mA0))]) (mA1 (mVar 11) mA0)))))
def E_law_1 : M T := (mOps (fF fIx) [.var 15, .tmp (mC (.int 1))])
def L_law_1 : M T := mLc (mIt items (mOps (fF fIx) [.tmp (mOps (fF fIx) [.var 4, .var 5]), .tmp (mC (.int 1))])) (g1 15) mTrue E_law_1 [15]
def B_law_2 : M Fl := (mSet 8 (mOps (fAdd) [.var 8, .tmp L_law_1]))
def B_law_3 : M Fl := (mSeq (mSet 10 (mCallI 2 F__law_pick (mA1 (mC (.int 5)) mA0)))
        (mIfE (mNot (mBool (mCall (F__law_same 12) (mA1 (mCall F__law_asked (mA1 (mVar 10) (mA1 (mVar 9) (mA1 (mOps (fF fIx) [.tmp (mLst (mA1 (mC .non) (mA1 (mVar 3) mA0))), .tmp (mCallI 2 F__law_pick (mA1 (mC (.int 2)) mA0))]) (mA1 (mLst mA0) (mA1 (mC .non) (mA1 (mC .non) mA0))))))) (mA1 (mTup (mA1 (mC (.str "books")) (mA1 (mVar 9) mA0))) mA0))))) (mRet (mC (.bl false))) mNx))
def B_law_4 : M Fl := (mSeq (mAsgT (gT 2 (gs1 (g1 12) (gs1 (g1 13) gs0))) (mCallI 2 F__law_odd_moves mA0))
        (mSeq (mIfE (mNot (mBool (mCall (F__law_same 12) (mA1 (mCall F__law_asked (mA1 (mVar 10) (mA1 (mVar 4) (mA1 (mVar 3) (mA1 (mVar 12) (mA1 (mCallI 2 F__law_odd_prices mA0) (mA1 (mC .non) mA0))))))) (mA1 (mVar 13) mA0))))) (mRet (mC (.bl false))) mNx)
        (mSeq (mSet 14 (mCallI 2 F__law_odd_prices mA0))
        (mSeq (mIfE (mNot (mBool (mCall (F__law_same 12) (mA1 (mCall F__law_asked (mA1 (mVar 10) (mA1 (mVar 4) (mA1 (mVar 3) (mA1 (mVar 6) (mA1 (mVar 14) (mA1 (mC .non) mA0))))))) (mA1 (mTup (mA1 (mC (.str "prices")) (mA1 (mVar 14) mA0))) mA0))))) (mRet (mC (.bl false))) mNx)
        (mSeq (mIfE (mNot (mBool (mCall (F__law_same 12) (mA1 (mCall F__law_asked (mA1 (mVar 10) (mA1 (mVar 4) (mA1 (mVar 3) (mA1 (mVar 6) (mA1 mNewK (mA1 (mC .non) mA0))))))) (mA1 (mTup (mA1 (mC (.str "unit")) (mA1 (mOps (fF fIx) [.var 8, .tmp (mC (.int 0))]) mA0))) mA0))))) (mRet (mC (.bl false))) mNx)
        (mIfE (mAnd (mBool (mOps (fF (fIB fun i j => decide (i < j))) [.var 10, .tmp (mC (.int 4))])) (mNot (mBool (mCall (F__law_same 12) (mA1 (mCall F__law_asked (mA1 (mVar 10) (mA1 (mVar 4) (mA1 (mVar 3) (mA1 (mVar 6) (mA1 (mVar 7) (mA1 (mC .non) mA0))))))) (mA1 (mTup (mA1 (mC (.str "told")) (mA1 (mC (.bl true)) mA0))) mA0)))))) (mRet (mC (.bl false))) mNx))))))
def B_law_5 : M Fl := (mSeq (mSet 2 (mCall F__law_tape (mA1 (mVar 0) (mA1 (mVar 1) mA0))))
      (mSeq (mSet 3 (mOps fSl01 [.tmp (mCallI 2 F__law_shuffled (mA1 (mLst (mA1 (mC (.str "ann")) (mA1 (mC (.str "bob")) (mA1 (mC (.str "cid")) mA0)))) mA0)), .tmp (mOps (fAdd) [.tmp (mC (.int 1)), .tmp (mCallI 2 F__law_pick (mA1 (mC (.int 3)) mA0))])]))
      (mSeq (mSet 4 mNewK)
      (mSeq (mFor (mIt items (mVar 3)) (g1 5) B_law_1)
      (mSeq (mStore 4 (.tmp (mOps (fF fIx) [.var 3, .tmp (mC (.int 0))])) (mTup (mA1 (mOps (fF fIx) [.tmp (mOps (fF fIx) [.var 4, .tmp (mOps (fF fIx) [.var 3, .tmp (mC (.int 0))])]), .tmp (mC (.int 0))]) (mA1 (mLst (mA1 (mTup (mA1 (mOps (fF fIx) [.tmp (mLst (mA1 (mC (.str "buy")) (mA1 (mC (.str "sell")) mA0))), .tmp (mCallI 2 F__law_pick (mA1 (mC (.int 2)) mA0))]) (mA1 (mOps (fF fIx) [.tmp (mLst (mA1 (mC (.str "oil")) (mA1 (mC (.str "tin")) mA0))), .tmp (mCallI 2 F__law_pick (mA1 (mC (.int 2)) mA0))]) (mA1 (mC (.int 48)) (mA1 (mC (.int 1)) mA0))))) mA0)) mA0))))
      (mSeq (mPar3 6 7 8 (mLst (mA1 mNewK (mA1 (mDisp [((mC (.str "oil")), (mOps (fF fNeg) [.tmp (mC (.int 3))])), ((mC (.str "tin")), (mC (.int 2)))]) (mA1 (mDisp [((mC (.str "tin")), (mOps (fF fNeg) [.tmp (mC (.int 4))]))]) mA0)))) (mDisp [((mC (.str "oil")), (mC (.int 50))), ((mC (.str "tin")), (mC (.int 51)))]) (mLst mA0))
      (mSeq (mFor (mIt items (mOps ((fun ds => (fSorted ds).map T.ol)) [.var 4])) (g1 5) B_law_2)
      (mSeq (mFor (mIt items (mCallI 2 F__law_odd_books (mA1 (mVar 4) mA0))) (g1 9) B_law_3)
      (mSeq (mFor (mRng [.tmp (mC (.int 5))]) (g1 10) B_law_4)
      (mIfE (mOr (mNot (mBool (mCallI 2 F__law_members_right (mA1 (mVar 4) (mA1 (mVar 6) (mA1 (mVar 7) mA0)))))) (mNot (mBool (mCallI 2 F__law_shares_right (mA1 (mVar 4) (mA1 (mVar 6) (mA1 (mVar 7) mA0))))))) (mRet (mC (.bl false))) mNx))))))))))
def M_law : M Fl := (mSeq (mFor (mRng [.tmp (mOps (fF fMax) [.tmp (mC (.int 2)), .tmp (mOps (fF fMin) [.tmp (mC (.int 3)), .tmp (mOps (fF fLen) [.var 0])])])]) (g1 1) B_law_5)
    (mRet (mC (.bl true))))
theorem sc_law : FnScope ["script", "k", "tape", "names", "books", "name", "moves", "prices", "units", "odd", "way", "orders", "bad", "due", "wrong", "order"] ["script"] (defScope s_law) := ⟨rfl, rfl, rfl, by decide +kernel, rfl, by decide +kernel, by decide +kernel⟩
def F_law : List D → R Unit T := runD 16 M_law
theorem body_law (T : Txt P w K mg base) {f : Addr} : ∀ (cdv : Value) (A : Around) (outer : List PySem.Env) (s : Shared) (H : Hp) (E : XK), Room 17 (A.deeper (envOfC "law" (defScope s_law) s.heap.objs.size f cdv)) →
      DSs (cxOf (L2.CX P w) P w K mg base ["script", "k", "tape", "names", "books", "name", "moves", "prices", "units", "odd", "way", "orders", "bad", "due", "wrong", "order"] "law" (defScope s_law) f cdv A outer s H E) [] (defBody s_law) M_law := by
    intro cdv A outer s H E hr
    have h1 := hr.u1
    have h64 := hr.u64
    have h65 := hr.u65
    exact (dss_cons (ds_for (passes_of rfl) rfl (di_rng1 (by rfl) T.b_range (.cons (de_callB (call_maxA rfl) s_max.ops (by rfl) T.b_max bb_max (.cons de_int (.cons (de_callB (call_minA rfl) s_min.ops (by rfl) T.b_min bb_min (.cons de_int (.cons (de_callB call_lenA s_len.ops (by rfl) T.b_len bb_len (.cons (pv 0) .nil)) .nil))) .nil))) .nil)) (dg_name sc_law.nd) (dss_cons (ds_set sc_law.nd (de_call (ok__law_tape T) (hr.mono (by decide)) (by rfl) (da_cons (de_var' (pv 0)) (da_cons (de_var' (pv 1)) da_nil)) (hlen := fun _ _ _ h => mA1_len (mA1_len mA0_len) h)))
      (dss_cons (ds_set sc_law.nd (de_sl01 (de_callI (ok__law_shuffled T) (hr.mono (by decide)) (by rfl) (pv 2) (da_cons (de_lst (da_cons de_str (da_cons de_str (da_cons de_str da_nil)))) da_nil) (hlen := fun _ _ _ h => mA1_len mA0_len h)) (de_op op_addA s_add de_int (de_callI (ok__law_pick T) (hr.mono (by decide)) (by rfl) (pv 2) (da_cons de_int da_nil) (hlen := fun _ _ _ h => mA1_len mA0_len h)))))
      (dss_cons (ds_set sc_law.nd de_newK)
      (dss_cons (ds_for (passes_of rfl) rfl (di_gen (de_var' (pv 3))) (dg_name sc_law.nd) (dss_cons (ds_set sc_law.nd (de_sl01 (de_lst (da_cons (de_tup (da_cons de_str (da_cons de_str (da_cons de_int (da_cons (de_op op_addA s_add de_int (de_callI (ok__law_pick T) (hr.mono (by decide)) (by rfl) (pv 2) (da_cons de_int da_nil) (hlen := fun _ _ _ h => mA1_len mA0_len h))) da_nil))))) (da_cons (de_tup (da_cons de_str (da_cons de_str (da_cons de_int (da_cons de_int da_nil))))) da_nil))) (de_callI (ok__law_pick T) (hr.mono (by decide)) (by rfl) (pv 2) (da_cons de_int da_nil) (hlen := fun _ _ _ h => mA1_len mA0_len h))))
        (dss_one (ds_store h1 (pv 4) (pv 5) (de_tup (da_cons (de_ix (ix_any h1) s_ix (de_lst (da_cons de_newK (da_cons (de_disp (.cons de_str de_int .nil)) (da_cons (de_disp (.cons de_str (de_un un_neg s_neg.ops de_int) (.cons de_str de_int .nil))) da_nil)))) (de_callI (ok__law_pick T) (hr.mono (by decide)) (by rfl) (pv 2) (da_cons de_int da_nil) (hlen := fun _ _ _ h => mA1_len mA0_len h))) (da_cons (de_var' (pv 11)) da_nil)))))))
      (dss_cons (ds_store h1 (pv 4) (de_ix (ix_any h1) s_ix (pv 3) de_int) (de_tup (da_cons (de_ix (ix_any h1) s_ix (de_ix (ix_any h1) s_ix (pv 4) (de_ix (ix_any h1) s_ix (pv 3) de_int)) de_int) (da_cons (de_lst (da_cons (de_tup (da_cons (de_ix (ix_any h1) s_ix (de_lst (da_cons de_str (da_cons de_str da_nil))) (de_callI (ok__law_pick T) (hr.mono (by decide)) (by rfl) (pv 2) (da_cons de_int da_nil) (hlen := fun _ _ _ h => mA1_len mA0_len h))) (da_cons (de_ix (ix_any h1) s_ix (de_lst (da_cons de_str (da_cons de_str da_nil))) (de_callI (ok__law_pick T) (hr.mono (by decide)) (by rfl) (pv 2) (da_cons de_int da_nil) (hlen := fun _ _ _ h => mA1_len mA0_len h))) (da_cons de_int (da_cons de_int da_nil))))) da_nil)) da_nil))))
      (dss_cons (ds_par3 rfl sc_law.nd (de_lst (da_cons de_newK (da_cons (de_disp (.cons de_str (de_un un_neg s_neg.ops de_int) (.cons de_str de_int .nil))) (da_cons (de_disp (.cons de_str (de_un un_neg s_neg.ops de_int) .nil)) da_nil)))) (de_disp (.cons de_str de_int (.cons de_str de_int .nil))) (de_lst da_nil))
      (dss_cons (ds_for (passes_of rfl) rfl (di_gen (de_callB (call_sortA rfl) s_sorted (by rfl) T.b_sorted bb_sorted (.cons (pv 4) .nil))) (dg_name sc_law.nd) (dss_one (ds_set sc_law.nd (de_op op_addA s_add (pv 8) (de_lc (own := [("order", 15)]) rfl sc_law.nd (blkOk_by (N := ["script", "k", "tape", "names", "books", "name", "moves", "prices", "units", "odd", "way", "orders", "bad", "due", "wrong", "order"]) (sc := defScope s_law) (by decide +kernel)) (di_gen (de_ix (ix_any h1) s_ix (de_ix (ix_any h1) s_ix (pv 4) (pv 5)) de_int)) (fun _ _ _ _ _ => (dg_name sc_law.nd)) (fun _ _ _ _ _ => dts_nil) (fun _ _ _ _ _ => (de_ix (ix_any h1) s_ix (pv 15) de_int)))))))
      (dss_cons (ds_for (passes_of rfl) rfl (di_gen (de_callI (ok__law_odd_books T) (hr.mono (by decide)) (by rfl) (pv 2) (da_cons (de_var' (pv 4)) da_nil) (hlen := fun _ _ _ h => mA1_len mA0_len h))) (dg_name sc_law.nd) (dss_cons (ds_set sc_law.nd (de_callI (ok__law_pick T) (hr.mono (by decide)) (by rfl) (pv 2) (da_cons de_int da_nil) (hlen := fun _ _ _ h => mA1_len mA0_len h)))
        (dss_one (ds_if (dt_not (dt_val (de_call (ok__law_same T 12) (hr.mono (by decide)) (by rfl) (da_cons (de_call (ok__law_asked T) (hr.mono (by decide)) (by rfl) (da_cons (de_var' (pv 10)) (da_cons (de_var' (pv 9)) (da_cons (de_ix (ix_any h1) s_ix (de_lst (da_cons de_non (da_cons (de_var' (pv 3)) da_nil))) (de_callI (ok__law_pick T) (hr.mono (by decide)) (by rfl) (pv 2) (da_cons de_int da_nil) (hlen := fun _ _ _ h => mA1_len mA0_len h))) (da_cons (de_lst da_nil) (da_cons de_non (da_cons de_non da_nil)))))) (hlen := fun _ _ _ h => mA1_len (mA1_len (mA1_len (mA1_len (mA1_len (mA1_len mA0_len))))) h)) (da_cons (de_tup (da_cons de_str (da_cons (de_var' (pv 9)) da_nil))) da_nil)) (hlen := fun _ _ _ h => mA1_len (mA1_len mA0_len) h)))) (dss_one (ds_ret de_bl)) dss_nil))))
      (dss_cons (ds_for (passes_of rfl) rfl (di_rng1 (by rfl) T.b_range (.cons de_int .nil)) (dg_name sc_law.nd) (dss_cons (ds_asgT (de_callI (ok__law_odd_moves T) (hr.mono (by decide)) (by rfl) (pv 2) da_nil (hlen := fun _ _ _ h => mA0_len h)) (dg_tup rfl (dgs_cons (dg_name sc_law.nd) (dgs_cons (dg_name sc_law.nd) dgs_nil))))
        (dss_cons (ds_if (dt_not (dt_val (de_call (ok__law_same T 12) (hr.mono (by decide)) (by rfl) (da_cons (de_call (ok__law_asked T) (hr.mono (by decide)) (by rfl) (da_cons (de_var' (pv 10)) (da_cons (de_var' (pv 4)) (da_cons (de_var' (pv 3)) (da_cons (de_var' (pv 12)) (da_cons (de_callI (ok__law_odd_prices T) (hr.mono (by decide)) (by rfl) (pv 2) da_nil (hlen := fun _ _ _ h => mA0_len h)) (da_cons de_non da_nil)))))) (hlen := fun _ _ _ h => mA1_len (mA1_len (mA1_len (mA1_len (mA1_len (mA1_len mA0_len))))) h)) (da_cons (de_var' (pv 13)) da_nil)) (hlen := fun _ _ _ h => mA1_len (mA1_len mA0_len) h)))) (dss_one (ds_ret de_bl)) dss_nil)
        (dss_cons (ds_set sc_law.nd (de_callI (ok__law_odd_prices T) (hr.mono (by decide)) (by rfl) (pv 2) da_nil (hlen := fun _ _ _ h => mA0_len h)))
        (dss_cons (ds_if (dt_not (dt_val (de_call (ok__law_same T 12) (hr.mono (by decide)) (by rfl) (da_cons (de_call (ok__law_asked T) (hr.mono (by decide)) (by rfl) (da_cons (de_var' (pv 10)) (da_cons (de_var' (pv 4)) (da_cons (de_var' (pv 3)) (da_cons (de_var' (pv 6)) (da_cons (de_var' (pv 14)) (da_cons de_non da_nil)))))) (hlen := fun _ _ _ h => mA1_len (mA1_len (mA1_len (mA1_len (mA1_len (mA1_len mA0_len))))) h)) (da_cons (de_tup (da_cons de_str (da_cons (de_var' (pv 14)) da_nil))) da_nil)) (hlen := fun _ _ _ h => mA1_len (mA1_len mA0_len) h)))) (dss_one (ds_ret de_bl)) dss_nil)
        (dss_cons (ds_if (dt_not (dt_val (de_call (ok__law_same T 12) (hr.mono (by decide)) (by rfl) (da_cons (de_call (ok__law_asked T) (hr.mono (by decide)) (by rfl) (da_cons (de_var' (pv 10)) (da_cons (de_var' (pv 4)) (da_cons (de_var' (pv 3)) (da_cons (de_var' (pv 6)) (da_cons de_newK (da_cons de_non da_nil)))))) (hlen := fun _ _ _ h => mA1_len (mA1_len (mA1_len (mA1_len (mA1_len (mA1_len mA0_len))))) h)) (da_cons (de_tup (da_cons de_str (da_cons (de_ix (ix_any h1) s_ix (pv 8) de_int) da_nil))) da_nil)) (hlen := fun _ _ _ h => mA1_len (mA1_len mA0_len) h)))) (dss_one (ds_ret de_bl)) dss_nil)
        (dss_one (ds_if (dw_and (dt_cmp op_lt s_ib.ops (pv 10) de_int (nomark _)) (dw_and1 (dt_not (dt_val (de_call (ok__law_same T 12) (hr.mono (by decide)) (by rfl) (da_cons (de_call (ok__law_asked T) (hr.mono (by decide)) (by rfl) (da_cons (de_var' (pv 10)) (da_cons (de_var' (pv 4)) (da_cons (de_var' (pv 3)) (da_cons (de_var' (pv 6)) (da_cons (de_var' (pv 7)) (da_cons de_non da_nil)))))) (hlen := fun _ _ _ h => mA1_len (mA1_len (mA1_len (mA1_len (mA1_len (mA1_len mA0_len))))) h)) (da_cons (de_tup (da_cons de_str (da_cons de_bl da_nil))) da_nil)) (hlen := fun _ _ _ h => mA1_len (mA1_len mA0_len) h)))))).pt (dss_one (ds_ret de_bl)) dss_nil))))))))
      (dss_one (ds_if (dw_or (dt_not (dt_val (de_callI (ok__law_members_right T) (hr.mono (by decide)) (by rfl) (pv 2) (da_cons (de_var' (pv 4)) (da_cons (de_var' (pv 6)) (da_cons (de_var' (pv 7)) da_nil))) (hlen := fun _ _ _ h => mA1_len (mA1_len (mA1_len mA0_len)) h)))) (dw_or1 (dt_not (dt_val (de_callI (ok__law_shares_right T) (hr.mono (by decide)) (by rfl) (pv 2) (da_cons (de_var' (pv 4)) (da_cons (de_var' (pv 6)) (da_cons (de_var' (pv 7)) da_nil))) (hlen := fun _ _ _ h => mA1_len (mA1_len (mA1_len mA0_len)) h)))))).pt (dss_one (ds_ret de_bl)) dss_nil))))))))))))
    (dss_one (ds_ret de_bl)))
theorem okX_law (T : Txt P w K mg base) {f : Addr} {fd : FuncData} (G : L2.Fun K "law" "law" s_law f fd) : FnOk P w K mg base (L2.CX P w) 18 f fd ["script"] (spD K mg 1 F_law) := fnOk_of G sc_law (body_law T)
def s_BadPrices : Stmt := inClass (topS 11) 0
theorem x_BadPrices {CM : Addr} (B : BaseI K CM) (hM : mg "MarketError" = some (.ref CM)) {C f : Addr} {fd : FuncData} (E : ExcC K mg "BadPrices" C f) (no : PySem.W.findIn K (.ref C) "given" = some none) (F : L2.Fun K "__init__" "BadPrices.__init__" s_BadPrices f fd) : XCls P w K mg base 1 "BadPrices" "given" :=
  XCls.based E.hm E.T E.hf E.ht F (excBinds F fun _ _ _ _ _ _ us hl => match us, hl with | [_, _], _ => rfl) ⟨rfl, rfl, rfl, by decide +kernel, rfl, by decide +kernel, by decide +kernel⟩ no fun cdv A outer s H E => (pss_cons (ps_expr (pe_ownInit B (by rfl) hM (pa_cons (pv 0) (pa_cons pe_str pa_nil)))) (pss_one (ps_ost (pv 0) (pv 1))))
def s_UnknownUnit : Stmt := inClass (topS 12) 0
theorem x_UnknownUnit {CM : Addr} (B : BaseI K CM) (hM : mg "MarketError" = some (.ref CM)) {C f : Addr} {fd : FuncData} (E : ExcC K mg "UnknownUnit" C f) (no : PySem.W.findIn K (.ref C) "given" = some none) (F : L2.Fun K "__init__" "UnknownUnit.__init__" s_UnknownUnit f fd) : XCls P w K mg base 1 "UnknownUnit" "given" :=
  XCls.based E.hm E.T E.hf E.ht F (excBinds F fun _ _ _ _ _ _ us hl => match us, hl with | [_, _], _ => rfl) ⟨rfl, rfl, rfl, by decide +kernel, rfl, by decide +kernel, by decide +kernel⟩ no fun cdv A outer s H E => (pss_cons (ps_expr (pe_ownInit B (by rfl) hM (pa_cons (pv 0) (pa_cons pe_str pa_nil)))) (pss_one (ps_ost (pv 0) (pv 1))))
def s_BadMove : Stmt := inClass (topS 19) 0
theorem x_BadMove {CM : Addr} (B : BaseI K CM) (hM : mg "MarketError" = some (.ref CM)) {C f : Addr} {fd : FuncData} (E : ExcC K mg "BadMove" C f) (no : PySem.W.findIn K (.ref C) "given" = some none) (F : L2.Fun K "__init__" "BadMove.__init__" s_BadMove f fd) : XCls P w K mg base 1 "BadMove" "given" :=
  XCls.based E.hm E.T E.hf E.ht F (excBinds F fun _ _ _ _ _ _ us hl => match us, hl with | [_, _], _ => rfl) ⟨rfl, rfl, rfl, by decide +kernel, rfl, by decide +kernel, by decide +kernel⟩ no fun cdv A outer s H E => (pss_cons (ps_expr (pe_ownInit B (by rfl) hM (pa_cons (pv 0) (pa_cons pe_str pa_nil)))) (pss_one (ps_ost (pv 0) (pv 1))))
def s_BadCount : Stmt := inClass (topS 20) 0
theorem x_BadCount {CM : Addr} (B : BaseI K CM) (hM : mg "MarketError" = some (.ref CM)) {C f : Addr} {fd : FuncData} (E : ExcC K mg "BadCount" C f) (no : PySem.W.findIn K (.ref C) "count" = some none) (F : L2.Fun K "__init__" "BadCount.__init__" s_BadCount f fd) : XCls P w K mg base 1 "BadCount" "count" :=
  XCls.based E.hm E.T E.hf E.ht F (excBinds F fun _ _ _ _ _ _ us hl => match us, hl with | [_, _], _ => rfl) ⟨rfl, rfl, rfl, by decide +kernel, rfl, by decide +kernel, by decide +kernel⟩ no fun cdv A outer s H E => (pss_cons (ps_expr (pe_ownInit B (by rfl) hM (pa_cons (pv 0) (pa_cons pe_str pa_nil)))) (pss_one (ps_ost (pv 0) (pv 1))))
def s_BadOwners : Stmt := inClass (topS 31) 0
theorem x_BadOwners {C f : Addr} {fd : FuncData} (E : ExcC K mg "BadOwners" C f) (no : PySem.W.findIn K (.ref C) "given" = some none) (F : L2.Fun K "__init__" "BadOwners.__init__" s_BadOwners f fd) : XCls P w K mg base 1 "BadOwners" "given" :=
  XCls.plain E.hm E.T E.hf E.ht F (excBinds F fun _ _ _ _ _ _ us hl => match us, hl with | [_, _], _ => rfl) ⟨rfl, rfl, rfl, by decide +kernel, rfl, by decide +kernel, by decide +kernel⟩ no fun cdv A outer s H E => (pss_one (ps_ost (pv 0) (pv 1)))
def s_BadBooks : Stmt := inClass (topS 39) 0
theorem st_BadBooks : SupT s_BadBooks "given" "given" "this is not a dict of books" := ⟨⟨_, _, _, _, _, _, _, _, _, _, _, rfl, fun env => ⟨_, rfl⟩⟩, ⟨_, rfl, rfl⟩, ⟨rfl, rfl, rfl, by decide +kernel, rfl, by decide +kernel, by decide +kernel, by decide +kernel, by decide +kernel⟩, rfl, rfl, rfl⟩
theorem x_BadBooks {C f : Addr} {fd : FuncData} (E : ExcC K mg "BadBooks" C f) (no : PySem.W.findIn K (.ref C) "given" = some none) (F : SupF P K "BadBooks.__init__" s_BadBooks C f fd) (hs : mg "super" = none) : XCls P w K mg base 1 "BadBooks" "given" :=
  XCls.super E.hm E.T E.hf E.ht F st_BadBooks (fun _ _ _ _ _ _ _ us hl => match us, hl with | [_, _], _ => rfl) no hs
def s_BadShares : Stmt := inClass (topS 40) 0
theorem st_BadShares : SupT s_BadShares "given" "given" "these are not the shares of all members" := ⟨⟨_, _, _, _, _, _, _, _, _, _, _, rfl, fun env => ⟨_, rfl⟩⟩, ⟨_, rfl, rfl⟩, ⟨rfl, rfl, rfl, by decide +kernel, rfl, by decide +kernel, by decide +kernel, by decide +kernel, by decide +kernel⟩, rfl, rfl, rfl⟩
theorem x_BadShares {C f : Addr} {fd : FuncData} (E : ExcC K mg "BadShares" C f) (no : PySem.W.findIn K (.ref C) "given" = some none) (F : SupF P K "BadShares.__init__" s_BadShares C f fd) (hs : mg "super" = none) : XCls P w K mg base 1 "BadShares" "given" :=
  XCls.super E.hm E.T E.hf E.ht F st_BadShares (fun _ _ _ _ _ _ _ us hl => match us, hl with | [_, _], _ => rfl) no hs
end
end K90

set_option Elab.async false
set_option linter.all false
set_option maxRecDepth 100000
namespace K90
open PySem PySem.Spec L2 Dn
open PyProof.Rows hiding St
def isB (b : Bool) : R Unit T → Bool
  | .ok (.fz (.bl c)) _ => b == c
  | _ => false
theorem isB_eq {b : Bool} {r : R Unit T} (h : isB b r = true) : r = .ok (.fz (.bl b)) () := by
  unfold isB at h
  split at h
  · rw [eq_of_beq h]
  · cases h
def sO (s u : Str) (p a : Int) : D := .tup [.str s, .str u, .int p, .int a]
def OL : List D := [sO "buy" "oil" 48 1, sO "buy" "oil" 48 2, sO "buy" "oil" 48 3, sO "sell" "tin" 52 2, sO "buy" "tin" 48 1, sO "sell" "oil" 48 1, sO "sell" "tin" 48 1]
def kO : Key := .inr "oil"
def kT : Key := .inr "tin"
def PL : List D := [.dk [], .dk [(kO, .int 2)], .dk [(kO, .int (-1)), (kT, .int 3)]]
def OSL : List (List D) := [[], [sO "buy" "oil" 48 1], [sO "buy" "oil" 48 2], [sO "buy" "oil" 48 3], [sO "buy" "oil" 48 1, sO "sell" "tin" 52 2], [sO "buy" "oil" 48 2, sO "sell" "tin" 52 2], [sO "buy" "oil" 48 3, sO "sell" "tin" 52 2],
  [sO "buy" "tin" 48 1], [sO "sell" "oil" 48 1], [sO "sell" "tin" 48 1]]
def BL : List (D × List D) := PL.flatMap fun p => OSL.map fun os => (p, os)
def bkD (b : D × List D) : D := .tup [b.1, .lst b.2]
def NM : List Str := ["ann", "bob", "cid"]
def NL : List (List Str) := [["ann"], ["bob"], ["cid"], ["ann", "bob"], ["ann", "cid"], ["bob", "ann"], ["bob", "cid"], ["cid", "ann"], ["cid", "bob"], ["ann", "bob", "cid"], ["ann", "cid", "bob"], ["bob", "ann", "cid"], ["bob", "cid", "ann"], ["cid", "ann", "bob"], ["cid", "bob", "ann"]]
theorem book_ok : ∀ b ∈ BL, F_is_book [bkD b] = .ok (.fz (.bl true)) () := fun b hb =>
  isB_eq (List.all_eq_true.mp (show (BL.all fun b => isB true (F_is_book [bkD b])) = true by decide +kernel) b hb)
theorem member_ok : ∀ n ∈ NM, F_is_member [.str n] = .ok (.fz (.bl true)) () := fun b hb =>
  isB_eq (List.all_eq_true.mp (show (NM.all fun b => isB true (F_is_member [.str b])) = true by decide +kernel) b hb)
/-- books: names, each with a book -/
structure Bks (kvs : List (Str × (D × List D))) : Prop where
  nm : ∀ p ∈ kvs, p.1 ∈ NM
  bk : ∀ p ∈ kvs, p.2 ∈ BL
def kvD (p : Str × (D × List D)) : Key × D := (.inr p.1, bkD p.2)
def dB (kvs : List (Str × (D × List D))) : D := .dk (kvs.map kvD)
theorem dB_ty (kvs : List (Str × (D × List D))) : (dB kvs).ty = "dict" := rfl
theorem dB_k (kvs : List (Str × (D × List D))) : itemsK (dB kvs) = some (kvs.map fun p => .str p.1) := by simp [dB, itemsK, Function.comp_def, kvD, kD]
theorem dB_v (kvs : List (Str × (D × List D))) : itemsV (dB kvs) = some (kvs.map fun p => bkD p.2) := by simp [dB, itemsV, Function.comp_def, kvD]
theorem bools_all {α : Type} (l : List α) : boolsD (l.map fun _ => .bl true) = some (l.map fun _ => true) := by
  induction l with
  | nil => rfl
  | cons a l ih => simp [boolsD, ih]
theorem are_books_1 {kvs : List (Str × (D × List D))} (B : Bks kvs) : L_are_books_1 [some (.fz (dB kvs)), none, none] = .ok (.ol (kvs.map fun _ => .bl true)) [some (.fz (dB kvs)), none, none] := by
  refine (lc_map (ds := kvs.map fun p => .str p.1) (fun _ => .bl true) (ρ0 := [some (.fz (dB kvs)), none, none]) (ρw := [some (.fz (dB kvs)), none, none]) ?_ rfl fun d hd => ?_).trans ?_
  · simp [runD, Dn.runI, env0, mSeq, mIfE, mOr, mAnd, mNot, mBool, mOps, evs, Op.ev, Op.res, resAll, mRet, mC, mVar, mMove, mNx, mSet, mExpr, mCall, mCallE, mA0, mA1, mLst, mTup, T.d, fF, fB, mAndV, mOrV, mNotV, mIt, mRaise, LIM, List.replicate, bind_ok, bind_ex, bind_no, restE, wipeE, slot0, dB_k]
  · obtain ⟨q, hq, rfl⟩ := List.mem_map.mp hd
    exact ⟨_, _, [some (.fz (dB kvs)), none, some (.fz (.str q.1))], .fz (.bl true), rfl, rfl, by simp [E_are_books_1, runD, Dn.runI, env0, mSeq, mIfE, mOr, mAnd, mNot, mBool, mOps, evs, Op.ev, Op.res, resAll, mRet, mC, mVar, mMove, mNx, mSet, mExpr, mCall, mCallE, mA0, mA1, mLst, mTup, T.d, fF, fB, mAndV, mOrV, mNotV, mIt, mRaise, LIM, List.replicate, bind_ok, bind_ex, bind_no, restE, wipeE, slot0, member_ok q.1 (B.nm q hq)], rfl, rfl⟩
  · simp [restE]
theorem are_books_2 {kvs : List (Str × (D × List D))} (B : Bks kvs) : L_are_books_2 [some (.fz (dB kvs)), none, none] = .ok (.ol (kvs.map fun _ => .bl true)) [some (.fz (dB kvs)), none, none] := by
  refine (lc_map (ds := kvs.map fun p => bkD p.2) (fun _ => .bl true) (ρ0 := [some (.fz (dB kvs)), none, none]) (ρw := [some (.fz (dB kvs)), none, none]) ?_ rfl fun d hd => ?_).trans ?_
  · simp [runD, Dn.runI, env0, mSeq, mIfE, mOr, mAnd, mNot, mBool, mOps, evs, Op.ev, Op.res, resAll, mRet, mC, mVar, mMove, mNx, mSet, mExpr, mCall, mCallE, mA0, mA1, mLst, mTup, T.d, fF, fB, mAndV, mOrV, mNotV, mIt, mRaise, LIM, List.replicate, bind_ok, bind_ex, bind_no, restE, wipeE, slot0, dB_v]
  · obtain ⟨q, hq, rfl⟩ := List.mem_map.mp hd
    exact ⟨_, _, [some (.fz (dB kvs)), some (.fz (bkD q.2)), none], .fz (.bl true), rfl, rfl, by simp [E_are_books_2, runD, Dn.runI, env0, mSeq, mIfE, mOr, mAnd, mNot, mBool, mOps, evs, Op.ev, Op.res, resAll, mRet, mC, mVar, mMove, mNx, mSet, mExpr, mCall, mCallE, mA0, mA1, mLst, mTup, T.d, fF, fB, mAndV, mOrV, mNotV, mIt, mRaise, LIM, List.replicate, bind_ok, bind_ex, bind_no, restE, wipeE, slot0, book_ok q.2 (B.bk q hq)], rfl, rfl⟩
  · simp [restE]
theorem are_books_ok {kvs : List (Str × (D × List D))} (B : Bks kvs) : F_are_books [dB kvs] = .ok (.fz (.bl true)) () := by
  simp [F_are_books, M_are_books, runD, Dn.runI, env0, mSeq, mIfE, mOr, mAnd, mNot, mBool, mOps, evs, Op.ev, Op.res, resAll, mRet, mC, mVar, mMove, mNx, mSet, mExpr, mCall, mCallE, mA0, mA1, mLst, mTup, T.d, fF, fB, mAndV, mOrV, mNotV, mIt, mRaise, LIM, List.replicate, bind_ok, bind_ex, bind_no, restE, wipeE, slot0, are_books_1 B, are_books_2 B, fIsi, dB_ty, subTy, fAll, bools_all]
end K90

set_option Elab.async false
set_option linter.all false
set_option maxRecDepth 100000
namespace K90
open PySem PySem.Spec L2 Dn
open PyProof.Rows hiding St
/-- the tape of a law -/
def Tp (t : T) : Prop := ∃ a b c : Int, t = .ol [.int a, .int b, .int c]
theorem cMul_r {i j : Int} (h1 : -(2 ^ 64) < j) (h2 : j < 2 ^ 64) : cMul i j = true := by
  unfold cMul; simp only [Bool.or_eq_true, decide_eq_true_eq]; exact .inr ⟨h1, h2⟩
theorem cMul_l {i j : Int} (h1 : -(2 ^ 64) < i) (h2 : i < 2 ^ 64) : cMul i j = true := by
  unfold cMul; simp only [Bool.or_eq_true, decide_eq_true_eq]; exact .inl ⟨h1, h2⟩
theorem pick_ok {t : T} (h : Tp t) {m : Int} (h1 : 0 < m) (h2 : m < 1000000) : ∃ n t', F__law_pick t [.int m] = .ok (.fz (.int n)) t' ∧ Tp t' ∧ 0 ≤ n ∧ n < m := by
  obtain ⟨a, b, c, rfl⟩ := h
  have hm : m < 1073741824 := by omega
  by_cases hc : a ≥ 10 ^ 18
  · refine ⟨a % m, .ol [.int (a / m), .int b, .int c], ?_, ⟨_, _, _, rfl⟩, Int.emod_nonneg _ (by omega), Int.emod_lt_of_pos _ h1⟩
    have e : (1000000000000000000 : Int) ≤ a := hc
    simp [F__law_pick, M__law_pick, runD, Dn.runI, env0, mSeq, mIfE, mOr, mAnd, mNot, mBool, mOps, evs, Op.ev, Op.res, resAll, mRet, mC, mVar, mMove, mNx, mSet, mExpr, mCall, mCallE, mA0, mA1, mLst, mTup, T.d, fF, fB, mAndV, mOrV, mNotV, mIt, mRaise, LIM, List.replicate, bind_ok, bind_ex, bind_no, restE, wipeE, slot0, fIB, fI2, fIx, atD, atI, ixN, fInt, mStore, setAt, storeT, fDiv, cDiv, h1, hm, e, Nat.lt_irrefl]
  · let b' : Int := (b * 69069 + a * 7177 + 12345) % 2147483629
    let c' : Int := (c * 40014 + a * 3571 + 97) % 2147483563
    refine ⟨(b' * c' + 5) % 2147483587 / 32 % m, .ol [.int a, .int b', .int c'], ?_, ⟨_, _, _, rfl⟩, Int.emod_nonneg _ (by omega), Int.emod_lt_of_pos _ h1⟩
    have e : ¬ (1000000000000000000 : Int) ≤ a := hc
    have e1 : cMul b 69069 = true := cMul_r (by decide) (by decide)
    have e2 : cMul a 7177 = true := cMul_r (by decide) (by decide)
    have e3 : cMul c 40014 = true := cMul_r (by decide) (by decide)
    have e4 : cMul a 3571 = true := cMul_r (by decide) (by decide)
    have hb1 : 0 ≤ b' := Int.emod_nonneg _ (by decide)
    have hb2 : b' < 2147483629 := Int.emod_lt_of_pos _ (by decide)
    have e5 : cMul b' c' = true := cMul_l (by omega) (by omega)
    have eb : (b * 69069 + a * 7177 + 12345) % 2147483629 = b' := rfl
    have ec : (c * 40014 + a * 3571 + 97) % 2147483563 = c' := rfl
    simp [F__law_pick, M__law_pick, runD, Dn.runI, env0, mSeq, mIfE, mOr, mAnd, mNot, mBool, mOps, evs, Op.ev, Op.res, resAll, mRet, mC, mVar, mMove, mNx, mSet, mExpr, mCall, mCallE, mA0, mA1, mLst, mTup, T.d, fF, fB, mAndV, mOrV, mNotV, mIt, mRaise, LIM, List.replicate, bind_ok, bind_ex, bind_no, restE, wipeE, slot0, fIB, fI2, fIx, atD, atI, ixN, fInt, mStore, setAt, storeT, fDiv, cDiv, h1, hm, e, Nat.lt_irrefl, fMul, fAdd, e1, e2, e3, e4, eb, ec, e5]
end K90

set_option Elab.async false
set_option linter.all false
set_option maxRecDepth 100000
namespace K90
open PySem PySem.Spec L2 Dn
open PyProof.Rows hiding St
theorem ints_map : ∀ l : List Int, intsD (l.map .int) = some l := fun l => by
  induction l with
  | nil => rfl
  | cons a l ih => simp [intsD, ih]
theorem tape_ok (ns : List Int) (k : Nat) : ∃ t, F__law_tape [.scr ns, .int (k : Int)] = .ok t () ∧ Tp t := by
  have e1 : cMul 7919 (k : Int) = true := cMul_l (by decide) (by decide)
  have e2 : cMul 1299709 (k : Int) = true := cMul_l (by decide) (by decide)
  by_cases h : k < ns.length
  · have h' : (k : Int) < (ns.length : Int) := by omega
    have hg : ns[k]? = some ns[k] := List.getElem?_eq_getElem h
    simp [F__law_tape, M__law_tape, runD, Dn.runI, env0, mSeq, mIfE, mOr, mAnd, mNot, mBool, mOps, evs, Op.ev, Op.res, resAll, mRet, mC, mVar, mMove, mNx, mSet, mExpr, mCall, mCallE, mA0, mA1, mLst, mTup, T.d, fF, fB, mAndV, mOrV, mNotV, mIt, mRaise, LIM, List.replicate, bind_ok, bind_ex, bind_no, restE, wipeE, slot0, fIB, fI2, fIx, atD, atI, ixN, fSum, fSl01, sliceT, ints_map, ← List.map_take, fLen, lenD, h', fMul, fAdd, e1, e2, fAbs, hg, h, ← List.map_drop, Tp]
  · have h' : ¬ (k : Int) < (ns.length : Int) := by omega
    simp [F__law_tape, M__law_tape, runD, Dn.runI, env0, mSeq, mIfE, mOr, mAnd, mNot, mBool, mOps, evs, Op.ev, Op.res, resAll, mRet, mC, mVar, mMove, mNx, mSet, mExpr, mCall, mCallE, mA0, mA1, mLst, mTup, T.d, fF, fB, mAndV, mOrV, mNotV, mIt, mRaise, LIM, List.replicate, bind_ok, bind_ex, bind_no, restE, wipeE, slot0, fIB, fI2, fIx, atD, atI, ixN, fSum, fSl01, sliceT, ints_map, ← List.map_take, fLen, lenD, h', fMul, fAdd, e1, e2, fAbs, h, ← List.map_drop, Tp]
end K90

set_option Elab.async false
set_option linter.all false
set_option maxRecDepth 100000
namespace K90
open PySem PySem.Spec L2 Dn
open PyProof.Rows hiding St
/-- data that == can lay out -/
def Lay (d : D) : Prop := ∃ p, d.py = some p ∧ p.canLay0 = true ∧ p.depth ≤ 60
theorem lay_list : ∀ {ds : List D}, (∀ d ∈ ds, Lay d) → ∃ ps, pys ds = some ps ∧ PyData.canLayAll0 ps = true ∧ PyData.depthAll ps ≤ 60 ∧ ps.length = ds.length
  | [], _ => ⟨[], by simp [pys], by simp [PyData.canLayAll0], by simp [PyData.depthAll], rfl⟩
  | d :: ds, h => by
    obtain ⟨p, h1, h2, h3⟩ := h d (by simp)
    obtain ⟨ps, h4, h5, h6, h7⟩ := lay_list (fun x hx => h x (List.mem_cons_of_mem _ hx))
    exact ⟨p :: ps, by simp [pys, h1, h4], by simp [PyData.canLayAll0, h2, h5], by simp [PyData.depthAll]; omega, by simp [h7]⟩
theorem eqD_nil {ds : List D} (h : ∀ d ∈ ds, Lay d) : eqD (.lst ds) (.lst []) = some ds.isEmpty := by
  obtain ⟨ps, h4, h5, h6, h7⟩ := lay_list h
  have e1 : SeqAt.shaped (.list ps) = true := by
    unfold SeqAt.shaped; simp [PyData.canLay0, h5, PyData.depth]; omega
  have e2 : SeqAt.shaped (.list []) = true := by decide
  have e3 : PyData.eqv (.list ps) (.list []) = ds.isEmpty := by
    cases ds with
    | nil => cases ps with | nil => rfl | cons a b => simp at h7
    | cons a b => cases ps with | nil => simp at h7 | cons a b => rfl
  simp only [eqD, D.py, h4, pys, Option.map_some, e1, e2, e3]
  simp
theorem fNe_nil {ds : List D} (h : ∀ d ∈ ds, Lay d) : fNe [.lst ds, .lst []] = some (.bl (!ds.isEmpty)) := by simp [fNe, eqD_nil h]
theorem perm_erase {α : Type} : ∀ (l : List α) (i : Nat) (h : i < l.length), (l[i] :: l.eraseIdx i).Perm l
  | [], i, h => absurd h (Nat.not_lt_zero i)
  | a :: l, 0, h => by simp
  | a :: l, i + 1, h => by
    have ih := perm_erase l i (by simpa using h)
    simp only [List.getElem_cons_succ, List.eraseIdx_cons_succ]
    exact (List.Perm.swap a _ _).trans (ih.cons a)
theorem shuf_loop (x : Option T) : ∀ (n : Nat) (r f : List D) (t : T), r.length < n → (∀ d ∈ r, Lay d) → f.length + r.length ≤ 1000 → Tp t →
    ∃ t' g, whL n C__law_shuffled_1 B__law_shuffled_1 [some t, x, some (.ol r), some (.ol f)] = .ok .nx [some t', x, some (.ol []), some (.ol g)] ∧ Tp t' ∧ g.Perm (f ++ r)
  | 0, r, f, t, hn, _, _, _ => by omega
  | n + 1, [], f, t, hn, hl, hf, h => ⟨t, f, by simp [whL, C__law_shuffled_1, runD, Dn.runI, env0, mSeq, mIfE, mOr, mAnd, mNot, mBool, mOps, evs, Op.ev, Op.res, resAll, mRet, mC, mVar, mMove, mNx, mSet, mExpr, mCall, mCallE, mA0, mA1, mLst, mTup, T.d, fF, fB, mAndV, mOrV, mNotV, mIt, mRaise, LIM, List.replicate, bind_ok, bind_ex, bind_no, restE, wipeE, slot0, fNe_nil (fun _ h => absurd h List.not_mem_nil)], h, by simp⟩
  | n + 1, d :: r, f, t, hn, hl, hf, h => by
    simp only [List.length_cons] at hn hf
    obtain ⟨k, t1, e1, h1, k1, k2⟩ := pick_ok h (m := ((d :: r).length : Int)) (by simp only [List.length_cons]; omega) (by simp only [List.length_cons]; omega)
    have hk : k.toNat < (d :: r).length := by omega
    have hg : (d :: r)[k.toNat]? = some ((d :: r)[k.toNat]) := List.getElem?_eq_getElem hk
    have hm : (d :: r)[k.toNat] ∈ d :: r := List.getElem_mem hk
    have hle : ((d :: r).eraseIdx k.toNat).length = r.length := by rw [List.length_eraseIdx_of_lt hk]; simp
    obtain ⟨t', g, e2, h2, p2⟩ := shuf_loop x n ((d :: r).eraseIdx k.toNat) (f ++ [(d :: r)[k.toNat]]) t1 (by omega) (fun y hy => hl y (List.mem_of_mem_eraseIdx hy)) (by rw [List.length_append, hle]; simp; omega) h1
    refine ⟨t', g, ?_, h2, p2.trans ?_⟩
    · have hc : C__law_shuffled_1 [some t, x, some (.ol (d :: r)), some (.ol f)] = .ok true [some t, x, some (.ol (d :: r)), some (.ol f)] := by
        simp [C__law_shuffled_1, runD, Dn.runI, env0, mSeq, mIfE, mOr, mAnd, mNot, mBool, mOps, evs, Op.ev, Op.res, resAll, mRet, mC, mVar, mMove, mNx, mSet, mExpr, mCall, mCallE, mA0, mA1, mLst, mTup, T.d, fF, fB, mAndV, mOrV, mNotV, mIt, mRaise, LIM, List.replicate, bind_ok, bind_ex, bind_no, restE, wipeE, slot0, fNe_nil hl]
      have hL : f.length < 1048576 := by omega
      have hL2 : k < 1048576 := by simp only [List.length_cons] at k2; omega
      have hb : B__law_shuffled_1 [some t, x, some (.ol (d :: r)), some (.ol f)] = .ok .nx [some t1, x, some (.ol ((d :: r).eraseIdx k.toNat)), some (.ol (f ++ [(d :: r)[k.toNat]]))] := by
        generalize hdr : d :: r = q at *
        simp [B__law_shuffled_1, runD, Dn.runI, env0, mSeq, mIfE, mOr, mAnd, mNot, mBool, mOps, evs, Op.ev, Op.res, resAll, mRet, mC, mVar, mMove, mNx, mSet, mExpr, mCall, mCallE, mA0, mA1, mLst, mTup, T.d, fF, fB, mAndV, mOrV, mNotV, mIt, mRaise, LIM, List.replicate, bind_ok, bind_ex, bind_no, restE, wipeE, slot0, mAppend, mPop, olAt, mCallI, fLen, lenD, e1, k1, hL2, hg, hL]
      simp only [whL, hc, hb, bind_ok, if_true]
      exact e2
    · rw [List.append_assoc]
      refine List.Perm.append_left f ?_
      exact perm_erase _ _ hk
theorem shuf_ok {t : T} (h : Tp t) {ds : List D} (hl : ds.length ≤ 7) (hd : ∀ d ∈ ds, Lay d) : ∃ g t', F__law_shuffled t [.lst ds] = .ok (.ol g) t' ∧ Tp t' ∧ g.Perm ds := by
  obtain ⟨t', g, e, h', p⟩ := shuf_loop (some (.fz (.lst ds))) 8 ds [] t (by omega) hd (by simp; omega) h
  refine ⟨g, t', ?_, h', by simpa using p⟩
  simp [F__law_shuffled, M__law_shuffled, runD, Dn.runI, env0, mSeq, mIfE, mOr, mAnd, mNot, mBool, mOps, evs, Op.ev, Op.res, resAll, mRet, mC, mVar, mMove, mNx, mSet, mExpr, mCall, mCallE, mA0, mA1, mLst, mTup, T.d, fF, fB, mAndV, mOrV, mNotV, mIt, mRaise, LIM, List.replicate, bind_ok, bind_ex, bind_no, restE, wipeE, slot0, mPar2, fListB, fList, e]
end K90

set_option Elab.async false
set_option linter.all false
set_option maxRecDepth 100000
namespace K90
open PySem PySem.Spec L2 Dn
open PyProof.Rows hiding St
open PySem.PyData (strOk)
/-- data that _law_same walks: their depth; strings that can be laid out -/
def okK : Key → Bool
  | .inl _ => true
  | .inr x => strOk x
mutual
def okS : Nat → D → Bool
  | _, .non => true
  | _, .bl _ => true
  | _, .int _ => true
  | _, .str x => strOk x
  | n, .lst ds => match n with
    | 0 => false
    | n + 1 => decide (ds.length ≤ 1000) && okSs n ds
  | n, .tup ds => match n with
    | 0 => false
    | n + 1 => decide (ds.length ≤ 1000) && okSs n ds
  | n, .dk kvs => match n with
    | n + 2 => decide (kvs.length ≤ 1000) && okSk n kvs
    | _ => false
  | n, .dt kvs => match n with
    | n + 3 => decide (kvs.length ≤ 1000) && okSt (n + 1) kvs
    | _ => false
  | _, .scr _ => false
  | _, .kt _ => false
def okSs : Nat → List D → Bool
  | _, [] => true
  | n, d :: ds => okS n d && okSs n ds
def okSk : Nat → List (Key × D) → Bool
  | _, [] => true
  | n, (k, d) :: ds => okK k && okS n d && okSk n ds
def okSt : Nat → List (List Key × D) → Bool
  | _, [] => true
  | n, (k, d) :: ds => (decide (k.length ≤ 1000) && k.all okK) && okS n d && okSt n ds
end
theorem okSs_all {n : Nat} : ∀ {ds : List D}, okSs n ds = true ↔ ∀ d ∈ ds, okS n d = true
  | [] => by simp [okSs]
  | d :: ds => by simp [okSs, okSs_all (ds := ds)]
theorem okSk_all {n : Nat} : ∀ {ds : List (Key × D)}, okSk n ds = true ↔ ∀ p ∈ ds, okK p.1 = true ∧ okS n p.2 = true
  | [] => by simp [okSk]
  | (k, d) :: ds => by simp [okSk, okSk_all (ds := ds)]
theorem okSt_all {n : Nat} : ∀ {ds : List (List Key × D)}, okSt n ds = true ↔ ∀ p ∈ ds, (p.1.length ≤ 1000 ∧ ∀ k ∈ p.1, okK k = true) ∧ okS n p.2 = true
  | [] => by simp [okSt]
  | (k, d) :: ds => by simp [okSt, okSt_all (ds := ds)]
theorem fEq_int (i : Int) : fEq [.int i, .int i] = some (.bl true) := by
  have : SeqAt.shaped (.int i) = true := by simp [SeqAt.shaped, PyData.canLay0, PyData.depth]
  simp [fEq, eqD, D.py, this, PyData.eqv]
theorem fEq_bl (i : Bool) : fEq [.bl i, .bl i] = some (.bl true) := by
  have : SeqAt.shaped (.bool i) = true := by simp [SeqAt.shaped, PyData.canLay0, PyData.depth]
  simp [fEq, eqD, D.py, this, PyData.eqv]
theorem fEq_str {x : Str} (h : strOk x = true) : fEq [.str x, .str x] = some (.bl true) := by
  have : SeqAt.shaped (.str x) = true := by simp [SeqAt.shaped, PyData.canLay0, PyData.depth, h]
  simp [fEq, eqD, D.py, this, PyData.eqv]
theorem okS_kD {n : Nat} {k : Key} (h : okK k = true) : okS n (kD k) = true := by
  cases k <;> simp_all [kD, okS, okK]
theorem valD_mem {κ : Type} [DecidableEq κ] : ∀ {kvs : List (κ × D)} {k : κ}, k ∈ kvs.map (·.1) → ∃ d, valD kvs k = some d ∧ (k, d) ∈ kvs
  | [], k, h => by simp at h
  | p :: kvs, k, h => by
    by_cases e : p.1 = k
    · exact ⟨p.2, by simp [valD, List.find?_cons, e], by rw [← e]; simp⟩
    · simp only [List.map_cons, List.mem_cons] at h
      rcases h with h | h
      · exact absurd h.symm e
      · obtain ⟨d, h1, h2⟩ := valD_mem h
        exact ⟨d, by simpa [valD, List.find?_cons, e] using h1, List.mem_cons_of_mem _ h2⟩
theorem key_kD (k : Key) : (kD k).key = some k := by cases k <;> rfl
theorem keys_kD : ∀ ks : List Key, keysOf (ks.map kD) = some ks
  | [] => rfl
  | k :: ks => by simp [keysOf, key_kD, keys_kD ks]
section
variable {d : D} {n : Nat} {F : List D → R Unit T}
theorem same_seq (tup : Bool) {ds : List D} (hl : ds.length ≤ 1000) (IH : ∀ d ∈ ds, F [d, d] = .ok (.fz (.bl true)) ()) (he : d = if tup then .tup ds else .lst ds) : runD 4 (M__law_same F) [d, d] = .ok (.fz (.bl true)) () := by
  have hn : lenD d = some ds.length := by subst he; cases tup <;> rfl
  have hix : ∀ i : Nat, i < ds.length → atD d (.int (i : Int)) = ds[i]? := fun i hi => by
    have : ixN ds.length (i : Int) = some i := by unfold ixN; rw [if_pos (by omega), if_pos (by omega)]; simp
    subst he; cases tup <;> simp [atD, atI, this]
  have hr : rngItems 0 (ds.length : Int) = some ((List.range ds.length).map fun i : Nat => D.int (i : Int)) := by
    unfold rngItems
    rw [if_pos (by unfold LIM; omega)]
    simp
  have e3 : L__law_same_3 F [some (.fz d), some (.fz d), none, none] = .ok (.ol ((List.range ds.length).map fun _ => .bl true)) [some (.fz d), some (.fz d), none, none] := by
    refine (lc_map (ds := (List.range ds.length).map fun i : Nat => D.int (i : Int)) (fun _ => .bl true) (ρ0 := [some (.fz d), some (.fz d), none, none]) (ρw := [some (.fz d), some (.fz d), none, none]) ?_ rfl fun x hx => ?_).trans ?_
    · simp [runD, Dn.runI, env0, mSeq, mIfE, mOr, mAnd, mNot, mBool, mOps, evs, Op.ev, Op.res, resAll, mRet, mC, mVar, mMove, mNx, mSet, mExpr, mCall, mCallE, mA0, mA1, mLst, mTup, T.d, fF, fB, mAndV, mOrV, mNotV, mIt, mRaise, LIM, List.replicate, bind_ok, bind_ex, bind_no, restE, wipeE, slot0, mRng, fLen, hn, hr]
    · obtain ⟨i, hi, rfl⟩ := List.mem_map.mp hx
      have hi := List.mem_range.mp hi
      have hg : ds[i]? = some ds[i] := List.getElem?_eq_getElem hi
      exact ⟨_, _, [some (.fz d), some (.fz d), none, some (.fz (.int i))], .fz (.bl true), rfl, rfl, by simp [E__law_same_3, runD, Dn.runI, env0, mSeq, mIfE, mOr, mAnd, mNot, mBool, mOps, evs, Op.ev, Op.res, resAll, mRet, mC, mVar, mMove, mNx, mSet, mExpr, mCall, mCallE, mA0, mA1, mLst, mTup, T.d, fF, fB, mAndV, mOrV, mNotV, mIt, mRaise, LIM, List.replicate, bind_ok, bind_ex, bind_no, restE, wipeE, slot0, fIx, hix i hi, hg, IH _ (List.getElem_mem hi)], rfl, rfl⟩
    · simp [restE, Function.comp_def]
  have t1 : subTy d.ty "dict" = false := by subst he; cases tup <;> simp [D.ty, subTy]
  have t2 : (subTy d.ty "list" || subTy d.ty "tuple") = true := by subst he; cases tup <;> simp [D.ty, subTy]
  have t3 : ∀ b : Bool, fNe [.bl b, .bl b] = some (.bl false) := fun b => by cases b <;> rfl
  simp [M__law_same, runD, Dn.runI, env0, mSeq, mIfE, mOr, mAnd, mNot, mBool, mOps, evs, Op.ev, Op.res, resAll, mRet, mC, mVar, mMove, mNx, mSet, mExpr, mCall, mCallE, mA0, mA1, mLst, mTup, T.d, fF, fB, mAndV, mOrV, mNotV, mIt, mRaise, LIM, List.replicate, bind_ok, bind_ex, bind_no, restE, wipeE, slot0, fIsi, fIsi2, t1, t2, t3, fLen, hn, fEq_int, e3, fAll, bools_all]
end
theorem same_ok : ∀ (n : Nat) (d : D), okS n d = true → F__law_same (n + 1) [d, d] = .ok (.fz (.bl true)) ()
  | n, .non, h => by simp [F__law_same, M__law_same, runD, Dn.runI, env0, mSeq, mIfE, mOr, mAnd, mNot, mBool, mOps, evs, Op.ev, Op.res, resAll, mRet, mC, mVar, mMove, mNx, mSet, mExpr, mCall, mCallE, mA0, mA1, mLst, mTup, T.d, fF, fB, mAndV, mOrV, mNotV, mIt, mRaise, LIM, List.replicate, bind_ok, bind_ex, bind_no, restE, wipeE, slot0, fIsi, fIsi2, D.ty, subTy, fIsN, D.isNon]
  | n, .bl b, h => by simp [F__law_same, M__law_same, runD, Dn.runI, env0, mSeq, mIfE, mOr, mAnd, mNot, mBool, mOps, evs, Op.ev, Op.res, resAll, mRet, mC, mVar, mMove, mNx, mSet, mExpr, mCall, mCallE, mA0, mA1, mLst, mTup, T.d, fF, fB, mAndV, mOrV, mNotV, mIt, mRaise, LIM, List.replicate, bind_ok, bind_ex, bind_no, restE, wipeE, slot0, fIsi, fIsi2, D.ty, subTy, fEq_bl]
  | n, .int i, h => by simp [F__law_same, M__law_same, runD, Dn.runI, env0, mSeq, mIfE, mOr, mAnd, mNot, mBool, mOps, evs, Op.ev, Op.res, resAll, mRet, mC, mVar, mMove, mNx, mSet, mExpr, mCall, mCallE, mA0, mA1, mLst, mTup, T.d, fF, fB, mAndV, mOrV, mNotV, mIt, mRaise, LIM, List.replicate, bind_ok, bind_ex, bind_no, restE, wipeE, slot0, fIsi, fIsi2, D.ty, subTy, fEq_int]
  | n, .str x, h => by
    have : strOk x = true := by simpa [okS] using h
    simp [F__law_same, M__law_same, runD, Dn.runI, env0, mSeq, mIfE, mOr, mAnd, mNot, mBool, mOps, evs, Op.ev, Op.res, resAll, mRet, mC, mVar, mMove, mNx, mSet, mExpr, mCall, mCallE, mA0, mA1, mLst, mTup, T.d, fF, fB, mAndV, mOrV, mNotV, mIt, mRaise, LIM, List.replicate, bind_ok, bind_ex, bind_no, restE, wipeE, slot0, fIsi, fIsi2, D.ty, subTy, fEq_str this]
  | 0, .lst ds, h => by simp [okS] at h
  | n + 1, .lst ds, h => by
    have h : ds.length ≤ 1000 ∧ okSs n ds = true := by simpa [okS] using h
    exact same_seq false h.1 (fun x hx => same_ok n x (okSs_all.mp h.2 x hx)) rfl
  | 0, .tup ds, h => by simp [okS] at h
  | n + 1, .tup ds, h => by
    have h : ds.length ≤ 1000 ∧ okSs n ds = true := by simpa [okS] using h
    exact same_seq true h.1 (fun x hx => same_ok n x (okSs_all.mp h.2 x hx)) rfl
  | 0, .dk kvs, h => by simp [okS] at h
  | 1, .dk kvs, h => by simp [okS] at h
  | n + 2, .dk kvs, h => by
    have h : kvs.length ≤ 1000 ∧ okSk n kvs = true := by simpa [okS] using h
    have ha := okSk_all.mp h.2
    have i1 : F__law_same (n + 2) [.lst (kvs.map fun p => kD p.1), .lst (kvs.map fun p => kD p.1)] = .ok (.fz (.bl true)) () :=
      same_ok (n + 1) _ (by
        simp only [okS, List.length_map, h.1, decide_true, Bool.true_and]
        exact okSs_all.mpr fun x hx => by obtain ⟨p, hp, rfl⟩ := List.mem_map.mp hx; exact okS_kD (ha p hp).1)
    have hv : ∀ p ∈ kvs, ∃ e, valD kvs p.1 = some e ∧ okS n e = true := fun p hp => by
      obtain ⟨e, h1, h2⟩ := valD_mem (List.mem_map_of_mem (f := (·.1)) hp)
      exact ⟨e, h1, (ha _ h2).2⟩
    have i2 : F__law_same (n + 2) [.lst (kvs.map fun p => (valD kvs p.1).getD .non), .lst (kvs.map fun p => (valD kvs p.1).getD .non)] = .ok (.fz (.bl true)) () :=
      same_ok (n + 1) _ (by
        simp only [okS, List.length_map, h.1, decide_true, Bool.true_and]
        refine okSs_all.mpr fun x hx => ?_
        obtain ⟨p, hp, rfl⟩ := List.mem_map.mp hx
        obtain ⟨e, h1, h2⟩ := hv p hp
        rw [h1]; exact h2)
    have el : ∀ (L : M T) (i : Nat) (x : Option T), (L = L__law_same_1 (F__law_same (n + 2)) ∨ L = L__law_same_2 (F__law_same (n + 2))) → L [some (.fz (.dk kvs)), some (.fz (.dk kvs)), none, none] = .ok (.ol (kvs.map fun p => (valD kvs p.1).getD .non)) [some (.fz (.dk kvs)), some (.fz (.dk kvs)), none, none] := fun L i x hL => by
      have hh : ∀ it me, (it = mIt itemsK (mVar 0) ∨ it = mIt itemsK (mVar 1)) → (me = E__law_same_1 (F__law_same (n + 2)) ∨ me = E__law_same_2 (F__law_same (n + 2))) → mLc it (g1 2) mTrue me [2] [some (.fz (.dk kvs)), some (.fz (.dk kvs)), none, none] = .ok (.ol (kvs.map fun p => (valD kvs p.1).getD .non)) [some (.fz (.dk kvs)), some (.fz (.dk kvs)), none, none] := fun it me hi hm => by
        refine (lc_map (ds := kvs.map fun p => kD p.1) (fun y => (match y.key with | some k => valD kvs k | none => none).getD .non) (ρ0 := [some (.fz (.dk kvs)), some (.fz (.dk kvs)), none, none]) (ρw := [some (.fz (.dk kvs)), some (.fz (.dk kvs)), none, none]) ?_ rfl fun y hy => ?_).trans ?_
        · rcases hi with rfl | rfl <;> simp [runD, Dn.runI, env0, mSeq, mIfE, mOr, mAnd, mNot, mBool, mOps, evs, Op.ev, Op.res, resAll, mRet, mC, mVar, mMove, mNx, mSet, mExpr, mCall, mCallE, mA0, mA1, mLst, mTup, T.d, fF, fB, mAndV, mOrV, mNotV, mIt, mRaise, LIM, List.replicate, bind_ok, bind_ex, bind_no, restE, wipeE, slot0, itemsK]
        · obtain ⟨p, hp, rfl⟩ := List.mem_map.mp hy
          obtain ⟨e, h1, h2⟩ := hv p hp
          refine ⟨_, _, [some (.fz (.dk kvs)), some (.fz (.dk kvs)), some (.fz (kD p.1)), none], .fz e, rfl, rfl, ?_, rfl, ?_⟩
          · rcases hm with rfl | rfl <;> simp [E__law_same_1, E__law_same_2, runD, Dn.runI, env0, mSeq, mIfE, mOr, mAnd, mNot, mBool, mOps, evs, Op.ev, Op.res, resAll, mRet, mC, mVar, mMove, mNx, mSet, mExpr, mCall, mCallE, mA0, mA1, mLst, mTup, T.d, fF, fB, mAndV, mOrV, mNotV, mIt, mRaise, LIM, List.replicate, bind_ok, bind_ex, bind_no, restE, wipeE, slot0, fIx, atD, getD0, key_kD, h1]
          · simp [key_kD, h1, T.d]
        · simp [restE, Function.comp_def, key_kD]
      rcases hL with rfl | rfl
      · exact hh _ _ (.inr rfl) (.inl rfl)
      · exact hh _ _ (.inl rfl) (.inr rfl)
    show runD 4 (M__law_same (F__law_same (n + 2))) [.dk kvs, .dk kvs] = _
    simp [M__law_same, runD, Dn.runI, env0, mSeq, mIfE, mOr, mAnd, mNot, mBool, mOps, evs, Op.ev, Op.res, resAll, mRet, mC, mVar, mMove, mNx, mSet, mExpr, mCall, mCallE, mA0, mA1, mLst, mTup, T.d, fF, fB, mAndV, mOrV, mNotV, mIt, mRaise, LIM, List.replicate, bind_ok, bind_ex, bind_no, restE, wipeE, slot0, fIsi, D.ty, subTy, fListB, fList, i1, el _ 0 none (.inl rfl), el _ 0 none (.inr rfl), i2]
  | 0, .dt kvs, h => by simp [okS] at h
  | 1, .dt kvs, h => by simp [okS] at h
  | 2, .dt kvs, h => by simp [okS] at h
  | n + 3, .dt kvs, h => by
    have h : kvs.length ≤ 1000 ∧ okSt (n + 1) kvs = true := by simpa [okS] using h
    have ha := okSt_all.mp h.2
    have i1 : F__law_same (n + 3) [.lst (kvs.map fun p => .tup (p.1.map kD)), .lst (kvs.map fun p => .tup (p.1.map kD))] = .ok (.fz (.bl true)) () :=
      same_ok (n + 2) _ (by
        simp only [okS, List.length_map, h.1, decide_true, Bool.true_and]
        refine okSs_all.mpr fun x hx => ?_
        obtain ⟨p, hp, rfl⟩ := List.mem_map.mp hx
        simp only [okS, List.length_map, (ha p hp).1.1, decide_true, Bool.true_and]
        exact okSs_all.mpr fun x hx => by obtain ⟨k, hk, rfl⟩ := List.mem_map.mp hx; exact okS_kD ((ha p hp).1.2 k hk))
    have hv : ∀ p ∈ kvs, ∃ e, valD kvs p.1 = some e ∧ okS (n + 1) e = true := fun p hp => by
      obtain ⟨e, h1, h2⟩ := valD_mem (List.mem_map_of_mem (f := (·.1)) hp)
      exact ⟨e, h1, (ha _ h2).2⟩
    have i2 : F__law_same (n + 3) [.lst (kvs.map fun p => (valD kvs p.1).getD .non), .lst (kvs.map fun p => (valD kvs p.1).getD .non)] = .ok (.fz (.bl true)) () :=
      same_ok (n + 2) _ (by
        simp only [okS, List.length_map, h.1, decide_true, Bool.true_and]
        refine okSs_all.mpr fun x hx => ?_
        obtain ⟨p, hp, rfl⟩ := List.mem_map.mp hx
        obtain ⟨e, h1, h2⟩ := hv p hp
        rw [h1]; exact h2)
    have hh : ∀ it me, (it = mIt itemsK (mVar 0) ∨ it = mIt itemsK (mVar 1)) → (me = E__law_same_1 (F__law_same (n + 3)) ∨ me = E__law_same_2 (F__law_same (n + 3))) → mLc it (g1 2) mTrue me [2] [some (.fz (.dt kvs)), some (.fz (.dt kvs)), none, none] = .ok (.ol (kvs.map fun p => (valD kvs p.1).getD .non)) [some (.fz (.dt kvs)), some (.fz (.dt kvs)), none, none] := fun it me hi hm => by
      refine (lc_map (ds := kvs.map fun p => .tup (p.1.map kD)) (fun y => (match y.keyT with | some k => valD kvs k | none => none).getD .non) (ρ0 := [some (.fz (.dt kvs)), some (.fz (.dt kvs)), none, none]) (ρw := [some (.fz (.dt kvs)), some (.fz (.dt kvs)), none, none]) ?_ rfl fun y hy => ?_).trans ?_
      · rcases hi with rfl | rfl <;> simp [runD, Dn.runI, env0, mSeq, mIfE, mOr, mAnd, mNot, mBool, mOps, evs, Op.ev, Op.res, resAll, mRet, mC, mVar, mMove, mNx, mSet, mExpr, mCall, mCallE, mA0, mA1, mLst, mTup, T.d, fF, fB, mAndV, mOrV, mNotV, mIt, mRaise, LIM, List.replicate, bind_ok, bind_ex, bind_no, restE, wipeE, slot0, itemsK]
      · obtain ⟨p, hp, rfl⟩ := List.mem_map.mp hy
        obtain ⟨e, h1, h2⟩ := hv p hp
        refine ⟨_, _, [some (.fz (.dt kvs)), some (.fz (.dt kvs)), some (.fz (.tup (p.1.map kD))), none], .fz e, rfl, rfl, ?_, rfl, ?_⟩
        · rcases hm with rfl | rfl <;> simp [E__law_same_1, E__law_same_2, runD, Dn.runI, env0, mSeq, mIfE, mOr, mAnd, mNot, mBool, mOps, evs, Op.ev, Op.res, resAll, mRet, mC, mVar, mMove, mNx, mSet, mExpr, mCall, mCallE, mA0, mA1, mLst, mTup, T.d, fF, fB, mAndV, mOrV, mNotV, mIt, mRaise, LIM, List.replicate, bind_ok, bind_ex, bind_no, restE, wipeE, slot0, fIx, atD, getD0, D.keyT, keys_kD, h1]
        · simp [D.keyT, keys_kD, h1, T.d]
      · simp [restE, Function.comp_def, D.keyT, keys_kD]
    have e1 : L__law_same_1 (F__law_same (n + 3)) [some (.fz (.dt kvs)), some (.fz (.dt kvs)), none, none] = _ := hh _ _ (.inr rfl) (.inl rfl)
    have e2 : L__law_same_2 (F__law_same (n + 3)) [some (.fz (.dt kvs)), some (.fz (.dt kvs)), none, none] = _ := hh _ _ (.inl rfl) (.inr rfl)
    show runD 4 (M__law_same (F__law_same (n + 3))) [.dt kvs, .dt kvs] = _
    simp [M__law_same, runD, Dn.runI, env0, mSeq, mIfE, mOr, mAnd, mNot, mBool, mOps, evs, Op.ev, Op.res, resAll, mRet, mC, mVar, mMove, mNx, mSet, mExpr, mCall, mCallE, mA0, mA1, mLst, mTup, T.d, fF, fB, mAndV, mOrV, mNotV, mIt, mRaise, LIM, List.replicate, bind_ok, bind_ex, bind_no, restE, wipeE, slot0, fIsi, D.ty, subTy, fListB, fList, fListT, i1, e1, e2, i2]
  | _, .scr _, h => by simp [okS] at h
  | _, .kt _, h => by simp [okS] at h
end K90

set_option Elab.async false
set_option linter.all false
set_option maxRecDepth 100000
namespace K90
open PySem PySem.Spec L2 Dn
open PyProof.Rows hiding St
open PySem.PyData (strOk)
abbrev KB := List (Str × (D × List D))
def look (kvs : KB) (n : Str) : D × List D := ((kvs.find? fun p => decide (p.1 = n)).map (·.2)).getD (.non, [])
def nms (kvs : KB) : List Str := kvs.map (·.1)
theorem look_mem {kvs : KB} {n : Str} (h : n ∈ nms kvs) : (n, look kvs n) ∈ kvs := by
  induction kvs with
  | nil => simp [nms] at h
  | cons p kvs ih =>
    by_cases e : p.1 = n
    · have : look (p :: kvs) n = p.2 := by simp [look, List.find?_cons, e]
      rw [this, ← e]; simp
    · simp only [nms, List.map_cons, List.mem_cons] at h
      rcases h with h | h
      · exact absurd h.symm e
      · have : look (p :: kvs) n = look kvs n := by simp [look, List.find?_cons, e]
        rw [this]
        exact List.mem_cons_of_mem _ (ih h)
theorem look_at {kvs : KB} {n : Str} (h : n ∈ nms kvs) : atD (dB kvs) (.str n) = some (bkD (look kvs n)) := by
  have : ∀ kvs : KB, n ∈ nms kvs → valD (kvs.map kvD) (.inr n) = some (bkD (look kvs n)) := fun kvs => by
    induction kvs with
    | nil => intro h; simp [nms] at h
    | cons p kvs ih =>
      intro h
      by_cases e : p.1 = n
      · rw [List.map_cons, valD_pos (by simp [kvD, e])]; simp [look, List.find?_cons, e, kvD]
      · simp only [nms, List.map_cons, List.mem_cons] at h
        rcases h with h | h
        · exact absurd h.symm e
        · rw [List.map_cons, valD_neg (by simp [kvD, e]), ih h]; simp [look, List.find?_cons, e]
  simp [atD, dB, getD0, D.key, this kvs h]
theorem bl_orders : ∀ b ∈ BL, b.2.length ≤ 2 ∧ ∀ o ∈ b.2, o ∈ OL := by
  have : (BL.all fun b => OSL.any fun os => decide (os.length = b.2.length) && decide (b.2.length ≤ 2)) = true := by decide +kernel
  intro b hb
  simp only [BL, List.mem_flatMap, List.mem_map] at hb
  obtain ⟨p, hp, os, hos, rfl⟩ := hb
  simp only [OSL, List.mem_cons, List.not_mem_nil, or_false] at hos
  rcases hos with rfl | rfl | rfl | rfl | rfl | rfl | rfl | rfl | rfl | rfl <;> simp [OL]
theorem all_orders_ok {kvs : KB} (B : Bks kvs) {ns : List Str} (hn : ∀ n ∈ ns, n ∈ nms kvs) (hl : ns.length ≤ 8) : F_all_orders [dB kvs, .lst (ns.map .str)] = .ok (.ol (ns.flatMap fun n => (look kvs n).2)) () := by
  have hlen : ∀ n ∈ ns, (look kvs n).2.length ≤ 2 := fun n h => (bl_orders _ (B.bk _ (look_mem (hn n h)))).1
  have htot : ∀ l : List Str, (∀ n ∈ l, (look kvs n).2.length ≤ 2) → (l.flatMap fun n => (look kvs n).2).length ≤ 2 * l.length := fun l => by
    induction l with
    | nil => simp
    | cons a l ih =>
      intro h
      have h1 := h a (by simp)
      have h2 := ih fun n hn => h n (List.mem_cons_of_mem _ hn)
      simp only [List.flatMap_cons, List.length_append, List.length_cons]; omega
  have e : comp2 (g1 2) mTrue (inL (mIt items (mOps (fF fIx) [.tmp (mOps (fF fIx) [.var 0, .var 2]), .tmp (mC (.int 1))])) (g1 3) mTrue E_all_orders_1 [3]) [2, 3] (ns.map .str) [] [some (.fz (dB kvs)), some (.fz (.lst (ns.map .str))), none, none] =
      .ok ([] ++ (ns.map D.str).flatMap fun d => match d with | .str n => (look kvs n).2 | _ => []) [some (.fz (dB kvs)), some (.fz (.lst (ns.map .str))), none, none] := by
    refine comp2_map _ 1000 _ _ ?_ fun d hd acc ha => ?_
    · have := htot ns hlen
      simp only [List.flatMap_map, List.length_nil, Nat.zero_add]; omega
    · obtain ⟨n, hnn, rfl⟩ := List.mem_map.mp hd
      have hla := look_at (hn n hnn)
      have ec : compB (g1 3) mTrue E_all_orders_1 [3] (look kvs n).2 acc [some (.fz (dB kvs)), some (.fz (.lst (ns.map .str))), some (.fz (.str n)), none] = .ok (acc ++ (look kvs n).2.map id) [some (.fz (dB kvs)), some (.fz (.lst (ns.map .str))), some (.fz (.str n)), none] := by
        refine compB_map id _ _ (by unfold LIM; simp only at ha; omega) fun o ho => ?_
        exact ⟨_, _, [some (.fz (dB kvs)), some (.fz (.lst (ns.map .str))), some (.fz (.str n)), some (.fz o)], .fz o, rfl, rfl, by simp [E_all_orders_1, runD, Dn.runI, env0, mSeq, mIfE, mOr, mAnd, mNot, mBool, mOps, evs, Op.ev, Op.res, resAll, mRet, mC, mVar, mMove, mNx, mSet, mExpr, mCall, mCallE, mA0, mA1, mLst, mTup, T.d, fF, fB, mAndV, mOrV, mNotV, mIt, mRaise, LIM, List.replicate, bind_ok, bind_ex, bind_no, restE, wipeE, slot0], rfl, rfl⟩
      refine ⟨_, _, [some (.fz (dB kvs)), some (.fz (.lst (ns.map .str))), some (.fz (.str n)), none], rfl, rfl, ?_, rfl⟩
      simp only [List.map_id] at ec
      simp [inL, runD, Dn.runI, env0, mSeq, mIfE, mOr, mAnd, mNot, mBool, mOps, evs, Op.ev, Op.res, resAll, mRet, mC, mVar, mMove, mNx, mSet, mExpr, mCall, mCallE, mA0, mA1, mLst, mTup, T.d, fF, fB, mAndV, mOrV, mNotV, mIt, mRaise, LIM, List.replicate, bind_ok, bind_ex, bind_no, restE, wipeE, slot0, fIx_eq, hla, bkD, items, ec]
  simp only [List.nil_append, List.flatMap_map] at e
  simp [F_all_orders, M_all_orders, L_all_orders_1, mLc2, runD, Dn.runI, env0, mSeq, mIfE, mOr, mAnd, mNot, mBool, mOps, evs, Op.ev, Op.res, resAll, mRet, mC, mVar, mMove, mNx, mSet, mExpr, mCall, mCallE, mA0, mA1, mLst, mTup, T.d, fF, fB, mAndV, mOrV, mNotV, mIt, mRaise, LIM, List.replicate, bind_ok, bind_ex, bind_no, restE, wipeE, slot0, items, e]
def prD : D := .dk [(kO, .int 50), (kT, .int 51)]
theorem priced_ok {os : List D} (h : ∀ o ∈ os, o ∈ OL) : F_check_priced [.lst os, prD] = .ok (.fz .non) () := by
  obtain ⟨ρ', e, _⟩ := forL_inv (g := g1 2) (body := B_check_priced_1) (fun ds ρ => (∀ o ∈ ds, o ∈ OL) ∧ ∃ x, ρ = [some (.fz (.lst os)), some (.fz prD), x]) os [some (.fz (.lst os)), some (.fz prD), none] ⟨h, _, rfl⟩ (fun d ds ρ hI => by
    obtain ⟨h1, x, rfl⟩ := hI
    refine ⟨_, [some (.fz (.lst os)), some (.fz prD), some (.fz d)], rfl, ?_, fun o ho => h1 o (List.mem_cons_of_mem _ ho), _, rfl⟩
    have hd := h1 d (by simp)
    simp only [OL, List.mem_cons, List.not_mem_nil, or_false] at hd
    rcases hd with rfl | rfl | rfl | rfl | rfl | rfl | rfl <;> rfl)
  simp [F_check_priced, M_check_priced, mFor, runD, Dn.runI, env0, mSeq, mIfE, mOr, mAnd, mNot, mBool, mOps, evs, Op.ev, Op.res, resAll, mRet, mC, mVar, mMove, mNx, mSet, mExpr, mCall, mCallE, mA0, mA1, mLst, mTup, T.d, fF, fB, mAndV, mOrV, mNotV, mIt, mRaise, LIM, List.replicate, bind_ok, bind_ex, bind_no, restE, wipeE, slot0, items, e]
/-- the unit of an order -/
def unitD (o : D) : D := (atD o (.int 1)).getD .non
theorem unpriced {o : D} (h : o ∈ OL) (os : List D) : F_check_priced [.lst (o :: os), .dk []] = .ex ⟨"UnknownUnit", [("given", unitD o)]⟩ () := by
  simp only [OL, List.mem_cons, List.not_mem_nil, or_false] at h
  rcases h with rfl | rfl | rfl | rfl | rfl | rfl | rfl <;> rfl
end K90

set_option Elab.async false
set_option linter.all false
set_option maxRecDepth 100000
namespace K90
open PySem PySem.Spec L2 Dn
open PyProof.Rows hiding St
open PySem.PyData (strOk)
def m0 : D := .dk []
def m1 : D := .dk [(kO, .int (-3)), (kT, .int 2)]
def m2 : D := .dk [(kT, .int (-4))]
def ML : List D := [m0, m1, m2]
def mvD : D := .lst ML
/-- small numbers -/
def Sm (d : D) : Prop := ∃ n : Int, d = .int n ∧ -1000 ≤ n ∧ n ≤ 1000
def getN {α : Type} : R α T → Int
  | .ok (.fz (.int n)) _ => n
  | _ => 0
theorem filled_el {o m : D} (ho : o ∈ OL) (hm : m ∈ ML) (x : Option T) : ∃ n : Int, (n = 0 ∨ n = 1 ∨ n = 2 ∨ n = 3) ∧ E_worst_filled_1 [x, some (.fz m), some (.fz prD), some (.fz o)] = .ok (.fz (.int n)) [x, some (.fz m), some (.fz prD), some (.fz o)] := by
  refine ⟨getN (E_worst_filled_1 [some (.fz .non), some (.fz m), some (.fz prD), some (.fz o)]), ?_⟩
  simp only [OL, List.mem_cons, List.not_mem_nil, or_false] at ho
  simp only [ML, List.mem_cons, List.not_mem_nil, or_false] at hm
  rcases ho with rfl | rfl | rfl | rfl | rfl | rfl | rfl <;> rcases hm with rfl | rfl | rfl <;> exact ⟨by decide +kernel, by kernel_rfl⟩
theorem filled_ok {os : List D} {m : D} (h : ∀ o ∈ os, o ∈ OL) (hm : m ∈ ML) : ∃ v : D → D, (∀ o ∈ os, ∃ n : Int, v o = .int n ∧ (n = 0 ∨ n = 1 ∨ n = 2 ∨ n = 3)) ∧ F_worst_filled [.lst os, m, prD] = .ok (.fz (.tup (os.map v))) () := by
  obtain ⟨v, hv, e⟩ := lc_ex (it := mIt itemsK (mVar 0)) (g := g1 3) (mt := mTrue) (me := E_worst_filled_1) (own := [3]) (ρ := [some (.fz (.lst os)), some (.fz m), some (.fz prD), none]) (ρ0 := [some (.fz (.lst os)), some (.fz m), some (.fz prD), none]) (ρw := [some (.fz (.lst os)), some (.fz m), some (.fz prD), none]) (ds := os)
    (fun o d => ∃ n : Int, d = .int n ∧ (n = 0 ∨ n = 1 ∨ n = 2 ∨ n = 3)) (by simp [runD, Dn.runI, env0, mSeq, mIfE, mOr, mAnd, mNot, mBool, mOps, evs, Op.ev, Op.res, resAll, mRet, mC, mVar, mMove, mNx, mSet, mExpr, mCall, mCallE, mA0, mA1, mLst, mTup, T.d, fF, fB, mAndV, mOrV, mNotV, mIt, mRaise, LIM, List.replicate, bind_ok, bind_ex, bind_no, restE, wipeE, slot0, itemsK, items]) rfl (fun o ho => by
      obtain ⟨n, hn, e⟩ := filled_el (h o ho) hm (some (.fz (.lst os)))
      exact ⟨_, _, _, _, rfl, rfl, e, rfl, n, rfl, hn⟩)
  refine ⟨v, hv, ?_⟩
  simp [F_worst_filled, M_worst_filled, L_worst_filled_1, runD, Dn.runI, env0, mSeq, mIfE, mOr, mAnd, mNot, mBool, mOps, evs, Op.ev, Op.res, resAll, mRet, mC, mVar, mMove, mNx, mSet, mExpr, mCall, mCallE, mA0, mA1, mLst, mTup, T.d, fF, fB, mAndV, mOrV, mNotV, mIt, mRaise, LIM, List.replicate, bind_ok, bind_ex, bind_no, restE, wipeE, slot0, e, fTuple]
theorem with_el {o m : D} (ho : o ∈ OL) (hm : m ∈ ML) {n : Int} (hn : n = 0 ∨ n = 1 ∨ n = 2 ∨ n = 3) (x y z u : Option T) : ∃ k : Int, E_loss_with_1 [x, y, some (.fz m), some (.fz prD), z, u, some (.fz o), some (.fz (.int n))] = .ok (.fz (.int k)) [x, y, some (.fz m), some (.fz prD), z, u, some (.fz o), some (.fz (.int n))] := by
  refine ⟨getN (E_loss_with_1 [some (.fz .non), some (.fz .non), some (.fz m), some (.fz prD), some (.fz .non), some (.fz .non), some (.fz o), some (.fz (.int n))]), ?_⟩
  simp only [OL, List.mem_cons, List.not_mem_nil, or_false] at ho
  simp only [ML, List.mem_cons, List.not_mem_nil, or_false] at hm
  rcases hn with rfl | rfl | rfl | rfl <;> rcases ho with rfl | rfl | rfl | rfl | rfl | rfl | rfl <;> rcases hm with rfl | rfl | rfl <;> kernel_rfl
theorem ints_ex {ds : List D} : (∀ d ∈ ds, ∃ n : Int, d = .int n) → ∃ ns, intsD ds = some ns ∧ ds = ns.map .int := fun h => by
  induction ds with
  | nil => exact ⟨[], rfl, rfl⟩
  | cons d ds ih =>
    obtain ⟨n, rfl⟩ := h _ List.mem_cons_self
    obtain ⟨ns, h1, h2⟩ := ih fun x hx => h x (List.mem_cons_of_mem _ hx)
    exact ⟨n :: ns, by simp [intsD, h1], by simp [h2]⟩
theorem zip_map (v : D → D) : ∀ os : List D, zipD os (os.map v) = os.map fun o => .tup [o, v o]
  | [] => rfl
  | o :: os => by simp [zipD, zip_map v os]
theorem with_ok {p : D} {os : List D} {m : D} (h : ∀ o ∈ os, o ∈ OL) (hm : m ∈ ML) (hp : ∃ k : Int, F_loss_by [p, m] = .ok (.fz (.int k)) ()) {v : D → D} (hv : ∀ o ∈ os, ∃ n : Int, v o = .int n ∧ (n = 0 ∨ n = 1 ∨ n = 2 ∨ n = 3)) :
    ∃ k : Int, F_loss_with [p, .lst os, m, prD, .tup (os.map v)] = .ok (.fz (.int k)) () := by
  obtain ⟨k0, hp⟩ := hp
  let E0 : List (Option T) := [some (.fz p), some (.fz (.lst os)), some (.fz m), some (.fz prD), some (.fz (.tup (os.map v))), none, none, none]
  obtain ⟨w, hw, e⟩ := lc_ex (it := mZipB (mA1 (mVar 1) (mA1 (mVar 4) mA0))) (g := gT 2 (gs1 (g1 6) (gs1 (g1 7) gs0))) (mt := mTrue) (me := E_loss_with_1) (own := [6, 7]) (ρ := E0) (ρ0 := E0) (ρw := E0) (ds := os.map fun o => .tup [o, v o])
    (fun o d => ∃ n : Int, d = .int n) (by simp [E0, runD, Dn.runI, env0, mSeq, mIfE, mOr, mAnd, mNot, mBool, mOps, evs, Op.ev, Op.res, resAll, mRet, mC, mVar, mMove, mNx, mSet, mExpr, mCall, mCallE, mA0, mA1, mLst, mTup, T.d, fF, fB, mAndV, mOrV, mNotV, mIt, mRaise, LIM, List.replicate, bind_ok, bind_ex, bind_no, restE, wipeE, slot0, mZipB, rowT, zip_map]) rfl (fun d hd => by
      obtain ⟨o, ho, rfl⟩ := List.mem_map.mp hd
      obtain ⟨n, hn, hn'⟩ := hv o ho
      obtain ⟨k, e⟩ := with_el (h o ho) hm hn' (some (.fz p)) (some (.fz (.lst os))) (some (.fz (.tup (os.map v)))) none
      refine ⟨_, _, _, _, ?_, rfl, e, rfl, k, rfl⟩
      simp [E0, gT, gs1, g1, gs0, hn])
  obtain ⟨ns, h1, h2⟩ := ints_ex (ds := (os.map fun o => .tup [o, v o]).map w) fun d hd => by
    obtain ⟨x, hx, rfl⟩ := List.mem_map.mp hd
    exact hw x hx
  refine ⟨k0 + ns.sum, ?_⟩
  simp only [E0] at e
  simp only [h2] at e
  simp [F_loss_with, M_loss_with, L_loss_with_1, runD, Dn.runI, env0, mSeq, mIfE, mOr, mAnd, mNot, mBool, mOps, evs, Op.ev, Op.res, resAll, mRet, mC, mVar, mMove, mNx, mSet, mExpr, mCall, mCallE, mA0, mA1, mLst, mTup, T.d, fF, fB, mAndV, mOrV, mNotV, mIt, mRaise, LIM, List.replicate, bind_ok, bind_ex, bind_no, restE, wipeE, slot0, e, hp, fSum, ints_map, fAdd]
end K90

set_option Elab.async false
set_option linter.all false
set_option maxRecDepth 100000
namespace K90
open PySem PySem.Spec L2 Dn
open PyProof.Rows hiding St
open PySem.PyData (strOk)
def posL (a b : Int) : List (Key × Int) := (if 2 * a - b ≠ 0 then [(kO, 2 * a - b)] else []) ++ (if b ≠ 0 then [(kT, 3 * b)] else [])
def enc (l : List (Key × Int)) : List (Key × D) := l.map fun p => (p.1, .int p.2)
def POS : Nat → List (List (Key × Int))
  | 0 => [posL 0 0]
  | 1 => [posL 0 0, posL 1 0, posL 0 1]
  | 2 => [posL 0 0, posL 1 0, posL 0 1, posL 2 0, posL 1 1, posL 0 2]
  | _ => [posL 0 0, posL 1 0, posL 0 1, posL 2 0, posL 1 1, posL 0 2, posL 3 0, posL 2 1, posL 1 2, posL 0 3]
def intsK : List (Key × D) → Option (List (Key × Int))
  | [] => some []
  | (k, .int i) :: r => (intsK r).map ((k, i) :: ·)
  | _ => none
theorem intsK_eq : ∀ {kvs : List (Key × D)} {l : List (Key × Int)}, intsK kvs = some l → kvs = enc l
  | [], l, h => by simp only [intsK, Option.some.injEq] at h; subst h; rfl
  | (k, .int i) :: r, l, h => by
    simp only [intsK, Option.map_eq_some_iff] at h
    obtain ⟨l', h1, rfl⟩ := h
    rw [intsK_eq h1]; rfl
  | (k, .non) :: r, l, h => by simp [intsK] at h
  | (k, .bl _) :: r, l, h => by simp [intsK] at h
  | (k, .str _) :: r, l, h => by simp [intsK] at h
  | (k, .lst _) :: r, l, h => by simp [intsK] at h
  | (k, .tup _) :: r, l, h => by simp [intsK] at h
  | (k, .scr _) :: r, l, h => by simp [intsK] at h
  | (k, .kt _) :: r, l, h => by simp [intsK] at h
  | (k, .dk _) :: r, l, h => by simp [intsK] at h
  | (k, .dt _) :: r, l, h => by simp [intsK] at h
def chk (r : R Unit T) (S : List (List (Key × Int))) : Bool := match r with
  | .ok (.od kvs) _ => (match intsK kvs with | some l => S.any (fun x => decide (x = l)) | none => false)
  | _ => false
theorem chk_ok {r : R Unit T} {S : List (List (Key × Int))} (h : chk r S = true) : ∃ l ∈ S, r = .ok (.od (enc l)) () := by
  unfold chk at h
  split at h
  · rename_i kvs b
    cases q : intsK kvs with
    | none => rw [q] at h; cases h
    | some l => rw [q] at h; exact (by obtain ⟨x, hx, e⟩ := List.any_eq_true.mp h; rw [of_decide_eq_true e] at hx; exact ⟨l, hx, by rw [intsK_eq q]⟩)
  · cases h
theorem summed_ok {k : Nat} (hk : k < 3) : ∀ l ∈ POS k, ∀ q ∈ PL, ∃ l' ∈ POS (k + 1), F_summed [.dk (enc l), q] = .ok (.od (enc l')) () := by
  have h : ((List.range 3).all fun k => (POS k).all fun l => PL.all fun q => chk (F_summed [.dk (enc l), q]) (POS (k + 1))) = true := by decide +kernel
  intro l hl q hq
  exact chk_ok (List.all_eq_true.mp (List.all_eq_true.mp (List.all_eq_true.mp h k (List.mem_range.mpr hk)) l hl) q hq)
def isN (r : R Unit T) : Bool := match r with
  | .ok (.fz (.int _)) _ => true
  | _ => false
theorem isN_ok {r : R Unit T} (h : isN r = true) : ∃ k : Int, r = .ok (.fz (.int k)) () := by
  unfold isN at h
  split at h
  · exact ⟨_, rfl⟩
  · cases h
theorem pos_up : ∀ k, ∀ l ∈ POS k, l ∈ POS 3 := by
  intro k l h
  match k with
  | 0 => simp only [POS, List.mem_cons, List.not_mem_nil, or_false] at h ⊢; simp [h]
  | 1 => simp only [POS, List.mem_cons, List.not_mem_nil, or_false] at h ⊢; rcases h with h | h | h <;> simp [h]
  | 2 => simp only [POS, List.mem_cons, List.not_mem_nil, or_false] at h ⊢; rcases h with h | h | h | h | h | h <;> simp [h]
  | k + 3 => exact h
theorem loss_by_ok : ∀ l ∈ POS 3, ∀ m ∈ ML, ∃ k : Int, F_loss_by [.dk (enc l), m] = .ok (.fz (.int k)) () := by
  have h : ((POS 3).all fun l => ML.all fun m => isN (F_loss_by [.dk (enc l), m])) = true := by decide +kernel
  intro l hl m hm
  exact isN_ok (List.all_eq_true.mp (List.all_eq_true.mp h l hl) m hm)
theorem bl_pos : ∀ b ∈ BL, b.1 ∈ PL := by
  intro b hb
  simp only [BL, List.mem_flatMap, List.mem_map] at hb
  obtain ⟨p, hp, os, hos, rfl⟩ := hb
  exact hp
theorem joined_ok {kvs : KB} (B : Bks kvs) {ns : List Str} (hn : ∀ n ∈ ns, n ∈ nms kvs) (hl : ns.length ≤ 3) : ∃ l ∈ POS 3, F_joined_position [dB kvs, .lst (ns.map .str)] = .ok (.od (enc l)) () := by
  obtain ⟨ρ', e, k, -, -, l, hl', x, rfl⟩ := forL_inv (g := g1 3) (body := B_joined_position_1) (fun ds ρ => ∃ k, k + ds.length ≤ 3 ∧ (∀ d ∈ ds, ∃ n ∈ nms kvs, d = .str n) ∧ ∃ l ∈ POS k, ∃ x, ρ = [some (.fz (dB kvs)), some (.fz (.lst (ns.map .str))), some (.od (enc l)), x]) (ns.map .str) [some (.fz (dB kvs)), some (.fz (.lst (ns.map .str))), some (.od []), none]
    ⟨0, by simpa using hl, fun d hd => by obtain ⟨n, h, rfl⟩ := List.mem_map.mp hd; exact ⟨n, hn n h, rfl⟩, [], by simp [POS, posL], none, rfl⟩ (fun d ds ρ hI => by
    obtain ⟨k, hk, hd, l, hl, x, rfl⟩ := hI
    obtain ⟨n, hnn, rfl⟩ := hd d (by simp)
    simp only [List.length_cons] at hk
    obtain ⟨l', hl', e⟩ := summed_ok (k := k) (by omega) l hl (look kvs n).1 (bl_pos _ (B.bk _ (look_mem hnn)))
    refine ⟨_, [some (.fz (dB kvs)), some (.fz (.lst (ns.map .str))), some (.od (enc l')), some (.fz (.str n))], rfl, ?_, k + 1, by omega, fun d hd' => hd d (List.mem_cons_of_mem _ hd'), l', hl', _, rfl⟩
    simp [B_joined_position_1, runD, Dn.runI, env0, mSeq, mIfE, mOr, mAnd, mNot, mBool, mOps, evs, Op.ev, Op.res, resAll, mRet, mC, mVar, mMove, mNx, mSet, mExpr, mCall, mCallE, mA0, mA1, mLst, mTup, T.d, fF, fB, mAndV, mOrV, mNotV, mIt, mRaise, LIM, List.replicate, bind_ok, bind_ex, bind_no, restE, wipeE, slot0, fIx_eq, look_at hnn, bkD, e])
  refine ⟨l, pos_up k l hl', ?_⟩
  simp [F_joined_position, M_joined_position, runD, Dn.runI, env0, mSeq, mIfE, mOr, mAnd, mNot, mBool, mOps, evs, Op.ev, Op.res, resAll, mRet, mC, mVar, mMove, mNx, mSet, mExpr, mCall, mCallE, mA0, mA1, mLst, mTup, T.d, fF, fB, mAndV, mOrV, mNotV, mIt, mRaise, LIM, List.replicate, bind_ok, bind_ex, bind_no, restE, wipeE, slot0, mNewK, mFor, items, e]
theorem idx3 (a b c : Int) : ∃ n : Nat, (n = 0 ∨ n = 1 ∨ n = 2) ∧ fIndex [.lst [.int a, .int b, .int c], .int (max (max a b) c)] = some (.int (n : Int)) := by
  by_cases h1 : a = max (max a b) c
  · exact ⟨0, by simp, by simp [fIndex, toV, toVs, idxV, eqV, ← h1]⟩
  · by_cases h2 : b = max (max a b) c
    · exact ⟨1, by simp, by
        have h4 : a ≠ b := fun e => h1 (e.trans h2)
        rw [← h2]; simp [fIndex, toV, toVs, idxV, eqV, h4]⟩
    · have h3 : c = max (max a b) c := by omega
      exact ⟨2, by simp, by
        have h4 : a ≠ c := fun e => h1 (e.trans h3)
        have h5 : b ≠ c := fun e => h2 (e.trans h3)
        rw [← h3]; simp [fIndex, toV, toVs, idxV, eqV, h4, h5]⟩
theorem worst_of_ok {l : List (Key × Int)} (hl : l ∈ POS 3) {os : List D} (h : ∀ o ∈ os, o ∈ OL) : ∃ (k : Int) (n : Nat) (f : D), (n = 0 ∨ n = 1 ∨ n = 2) ∧ F_worst_of [.dk (enc l), .lst os, mvD, prD] = .ok (.fz (.tup [.int k, .int (n : Int), f])) () := by
  let p : D := .dk (enc l)
  let E0 : List (Option T) := [some (.fz p), some (.fz (.lst os)), some (.fz mvD), some (.fz prD), none, none, none, none, none]
  obtain ⟨w, hw, e1⟩ := lc_ex (it := mIt itemsK (mVar 2)) (g := g1 7) (mt := mTrue) (me := E_worst_of_1) (own := [7]) (ρ := E0) (ρ0 := E0) (ρw := E0) (ds := ML)
    (fun m d => ∃ v : D → D, (∀ o ∈ os, ∃ n : Int, v o = .int n ∧ (n = 0 ∨ n = 1 ∨ n = 2 ∨ n = 3)) ∧ d = .tup (os.map v)) (by simp [E0, runD, Dn.runI, env0, mSeq, mIfE, mOr, mAnd, mNot, mBool, mOps, evs, Op.ev, Op.res, resAll, mRet, mC, mVar, mMove, mNx, mSet, mExpr, mCall, mCallE, mA0, mA1, mLst, mTup, T.d, fF, fB, mAndV, mOrV, mNotV, mIt, mRaise, LIM, List.replicate, bind_ok, bind_ex, bind_no, restE, wipeE, slot0, mvD, itemsK, items]) rfl (fun m hm => by
      obtain ⟨v, hv, e⟩ := filled_ok h hm
      refine ⟨_, _, [some (.fz p), some (.fz (.lst os)), some (.fz mvD), some (.fz prD), none, none, none, some (.fz m), none], .fz (.tup (os.map v)), rfl, rfl, ?_, rfl, v, hv, rfl⟩
      simp [E0, E_worst_of_1, runD, Dn.runI, env0, mSeq, mIfE, mOr, mAnd, mNot, mBool, mOps, evs, Op.ev, Op.res, resAll, mRet, mC, mVar, mMove, mNx, mSet, mExpr, mCall, mCallE, mA0, mA1, mLst, mTup, T.d, fF, fB, mAndV, mOrV, mNotV, mIt, mRaise, LIM, List.replicate, bind_ok, bind_ex, bind_no, restE, wipeE, slot0, e])
  let fl : List D := ML.map w
  let E1 : List (Option T) := [some (.fz p), some (.fz (.lst os)), some (.fz mvD), some (.fz prD), some (.ol fl), none, none, none, none]
  let E2 : List (Option T) := [some (.fz p), some (.fz (.lst os)), some (.fz mvD), some (.fz prD), some (.fz (.lst fl)), none, none, none, none]
  obtain ⟨u, hu, e2⟩ := lc_ex (it := mZipB (mA1 (mVar 2) (mA1 (mVar 4) mA0))) (g := gT 2 (gs1 (g1 7) (gs1 (g1 8) gs0))) (mt := mTrue) (me := E_worst_of_2) (own := [7, 8]) (ρ := E1) (ρ0 := E2) (ρw := E2) (ds := ML.map fun m => .tup [m, w m])
    (fun o d => ∃ n : Int, d = .int n) (by simp [E1, E2, runD, Dn.runI, env0, mSeq, mIfE, mOr, mAnd, mNot, mBool, mOps, evs, Op.ev, Op.res, resAll, mRet, mC, mVar, mMove, mNx, mSet, mExpr, mCall, mCallE, mA0, mA1, mLst, mTup, T.d, fF, fB, mAndV, mOrV, mNotV, mIt, mRaise, LIM, List.replicate, bind_ok, bind_ex, bind_no, restE, wipeE, slot0, mvD, mZipB, rowT, fl, zip_map]) rfl (fun d hd => by
      obtain ⟨m, hm, rfl⟩ := List.mem_map.mp hd
      obtain ⟨v, hv, hwm⟩ := hw m hm
      obtain ⟨k, e⟩ := with_ok h hm (loss_by_ok l hl m hm) hv
      let E3 : List (Option T) := [some (.fz p), some (.fz (.lst os)), some (.fz mvD), some (.fz prD), some (.fz (.lst fl)), none, none, some (.fz m), some (.fz (w m))]
      refine ⟨E3, E3, E3, .fz (.int k), ?_, rfl, ?_, rfl, k, rfl⟩
      · simp [E2, E3, gT, gs1, g1, gs0]
      · rw [← hwm] at e
        simp [E_worst_of_2, runD, Dn.runI, env0, mSeq, mIfE, mOr, mAnd, mNot, mBool, mOps, evs, Op.ev, Op.res, resAll, mRet, mC, mVar, mMove, mNx, mSet, mExpr, mCall, mCallE, mA0, mA1, mLst, mTup, T.d, fF, fB, mAndV, mOrV, mNotV, mIt, mRaise, LIM, List.replicate, bind_ok, bind_ex, bind_no, restE, wipeE, slot0, E3, p, e])
  obtain ⟨a, ha⟩ := hu (.tup [m0, w m0]) (by simp [ML])
  obtain ⟨b, hb⟩ := hu (.tup [m1, w m1]) (by simp [ML])
  obtain ⟨c, hc⟩ := hu (.tup [m2, w m2]) (by simp [ML])
  have e2' : L_worst_of_2 E1 = .ok (.ol [.int a, .int b, .int c]) E2 := by
    refine (show L_worst_of_2 E1 = _ from e2).trans ?_
    simp [ML, ha, hb, hc, restE, E2]
  have e1' : L_worst_of_1 E0 = .ok (.ol fl) E0 := by
    refine (show L_worst_of_1 E0 = _ from e1).trans ?_
    simp [restE, E0, fl]
  obtain ⟨n, hn, ei⟩ := idx3 a b c
  rw [Int.max_assoc] at ei
  have hlost : ∃ k, atD (.lst [.int a, .int b, .int c]) (.int (n : Int)) = some (.int k) := by
    rcases hn with rfl | rfl | rfl
    · exact ⟨a, at_lst rfl⟩
    · exact ⟨b, at_lst rfl⟩
    · exact ⟨c, at_lst rfl⟩
  have hfill : ∃ f, atD (.lst fl) (.int (n : Int)) = some f := by
    rcases hn with rfl | rfl | rfl
    · exact ⟨_, at_lst rfl⟩
    · exact ⟨_, at_lst rfl⟩
    · exact ⟨_, at_lst rfl⟩
  obtain ⟨k, hk⟩ := hlost
  obtain ⟨f, hf⟩ := hfill
  refine ⟨k, n, f, hn, ?_⟩
  simp only [E0, E1, E2, p] at e1' e2'
  simp [F_worst_of, M_worst_of, runD, Dn.runI, env0, mSeq, mIfE, mOr, mAnd, mNot, mBool, mOps, evs, Op.ev, Op.res, resAll, mRet, mC, mVar, mMove, mNx, mSet, mExpr, mCall, mCallE, mA0, mA1, mLst, mTup, T.d, fF, fB, mAndV, mOrV, mNotV, mIt, mRaise, LIM, List.replicate, bind_ok, bind_ex, bind_no, restE, wipeE, slot0, e1', e2', mIdx, lstAt, fMax, intsD, maxI, ei, fIx_eq, hk, hf]
theorem together_ok {kvs : KB} (B : Bks kvs) {ns : List Str} (hn : ∀ n ∈ ns, n ∈ nms kvs) (hl : ns.length ≤ 3) : ∃ (k : Int) (n : Nat), (n = 0 ∨ n = 1 ∨ n = 2) ∧ F_worst_together [dB kvs, .lst (ns.map .str), mvD, prD] = .ok (.fz (.tup [.int k, .int (n : Int)])) () := by
  obtain ⟨l, hp, e1⟩ := joined_ok B hn hl
  have e2 := all_orders_ok B hn (by omega)
  obtain ⟨k, n, f, hn', e3⟩ := worst_of_ok hp (os := ns.flatMap fun n => (look kvs n).2) (fun o ho => by
    obtain ⟨n, h1, h2⟩ := List.mem_flatMap.mp ho
    exact (bl_orders _ (B.bk _ (look_mem (hn n h1)))).2 o h2)
  refine ⟨k, n, hn', ?_⟩
  have hs : fSl01 [.tup [.int k, .int (n : Int), f], .int 2] = some (.fz (.tup [.int k, .int (n : Int)])) := rfl
  simp [F_worst_together, M_worst_together, runD, Dn.runI, env0, mSeq, mIfE, mOr, mAnd, mNot, mBool, mOps, evs, Op.ev, Op.res, resAll, mRet, mC, mVar, mMove, mNx, mSet, mExpr, mCall, mCallE, mA0, mA1, mLst, mTup, T.d, fF, fB, mAndV, mOrV, mNotV, mIt, mRaise, LIM, List.replicate, bind_ok, bind_ex, bind_no, restE, wipeE, slot0, e1, e2, e3, hs]
end K90

set_option Elab.async false
set_option linter.all false
set_option maxRecDepth 100000
namespace K90
open PySem PySem.Spec L2 Dn
open PyProof.Rows hiding St
open PySem.PyData (strOk)
theorem keyStrs_kv : ∀ kvs : KB, keyStrs (kvs.map kvD) = some (nms kvs)
  | [] => rfl
  | p :: kvs => by simp [keyStrs, kvD, keyStrs_kv kvs, nms]
theorem sorted_ok {kvs : KB} (hl : kvs.length < 64) : fSorted [dB kvs] = some ((sortS (nms kvs)).map .str) := by
  have : (nms kvs).length < 64 := by simpa [nms] using hl
  simp [fSorted, dB, keyStrs_kv, this]
theorem nl_sorted : ∀ ns ∈ NL, sortS ns ∈ NL := by
  have h : (NL.all fun ns => NL.any fun x => decide (x = sortS ns)) = true := by decide +kernel
  intro ns hn
  obtain ⟨x, hx, e⟩ := List.any_eq_true.mp (List.all_eq_true.mp h ns hn)
  rw [← of_decide_eq_true e]; exact hx
theorem nl_len : ∀ ns ∈ NL, 1 ≤ ns.length ∧ ns.length ≤ 3 := by
  have h : (NL.all fun ns => decide (1 ≤ ns.length) && decide (ns.length ≤ 3)) = true := by decide +kernel
  intro ns hn
  have := List.all_eq_true.mp h ns hn
  simpa using this
theorem sortS_mem {ns : List Str} {n : Str} : n ∈ sortS ns ↔ n ∈ ns := (sortS_perm ns).mem_iff
theorem sortS_len (ns : List Str) : (sortS ns).length = ns.length := (sortS_perm ns).length_eq
def mvOk : F_check_moves [mvD] = .ok (.fz .non) () := by kernel_rfl
theorem moves_ok : F_check_moves [mvD] = .ok (.fz .non) () := by kernel_rfl
theorem prices_ok : F_check_prices [prD] = .ok (.fz .non) () := by kernel_rfl
theorem prices0_ok : F_check_prices [.dk []] = .ok (.fz .non) () := by kernel_rfl
/-- right books: the law's -/
structure RB (kvs : KB) : Prop extends Bks kvs where
  nl : nms kvs ∈ NL
section
variable {kvs : KB}
theorem RB.len (B : RB kvs) : kvs.length ≤ 3 := by have := (nl_len _ B.nl).2; simpa [nms] using this
theorem RB.srt (B : RB kvs) : fSorted [dB kvs] = some ((sortS (nms kvs)).map .str) := sorted_ok (by have := B.len; omega)
theorem RB.sub (B : RB kvs) : ∀ n ∈ sortS (nms kvs), n ∈ nms kvs := fun n h => sortS_mem.mp h
theorem RB.slen (B : RB kvs) : (sortS (nms kvs)).length ≤ 3 := by rw [sortS_len]; exact (nl_len _ B.nl).2
/-- all orders, by ascending names -/
def allO (kvs : KB) : List D := (sortS (nms kvs)).flatMap fun n => (look kvs n).2
theorem RB.allO (B : RB kvs) : F_all_orders [dB kvs, .lst ((sortS (nms kvs)).map .str)] = .ok (.ol (allO kvs)) () := all_orders_ok B.toBks B.sub (by have := B.slen; omega)
theorem RB.allO_mem (B : RB kvs) : ∀ o ∈ K90.allO kvs, o ∈ OL := fun o ho => by
  obtain ⟨n, h1, h2⟩ := List.mem_flatMap.mp ho
  exact (bl_orders _ (B.bk _ (look_mem (B.sub n h1)))).2 o h2
theorem cw_books {b mv p : D} (h : F_are_books [b] = .ok (.fz (.bl false)) ()) : F_check_world [b, mv, p] = .ex ⟨"BadBooks", [("given", b)]⟩ () := by
  simp [F_check_world, M_check_world, runD, Dn.runI, env0, mSeq, mIfE, mOr, mAnd, mNot, mBool, mOps, evs, Op.ev, Op.res, resAll, mRet, mC, mVar, mMove, mNx, mSet, mExpr, mCall, mCallE, mA0, mA1, mLst, mTup, T.d, fF, fB, mAndV, mOrV, mNotV, mIt, mRaise, LIM, List.replicate, bind_ok, bind_ex, bind_no, restE, wipeE, slot0, h]
theorem cw_moves (B : RB kvs) {mv p : D} {x : Ex} (h : F_check_moves [mv] = .ex x ()) : F_check_world [dB kvs, mv, p] = .ex x () := by
  simp [F_check_world, M_check_world, runD, Dn.runI, env0, mSeq, mIfE, mOr, mAnd, mNot, mBool, mOps, evs, Op.ev, Op.res, resAll, mRet, mC, mVar, mMove, mNx, mSet, mExpr, mCall, mCallE, mA0, mA1, mLst, mTup, T.d, fF, fB, mAndV, mOrV, mNotV, mIt, mRaise, LIM, List.replicate, bind_ok, bind_ex, bind_no, restE, wipeE, slot0, are_books_ok B.toBks, h]
theorem cw_prices (B : RB kvs) {p : D} {x : Ex} (h : F_check_prices [p] = .ex x ()) : F_check_world [dB kvs, mvD, p] = .ex x () := by
  simp [F_check_world, M_check_world, runD, Dn.runI, env0, mSeq, mIfE, mOr, mAnd, mNot, mBool, mOps, evs, Op.ev, Op.res, resAll, mRet, mC, mVar, mMove, mNx, mSet, mExpr, mCall, mCallE, mA0, mA1, mLst, mTup, T.d, fF, fB, mAndV, mOrV, mNotV, mIt, mRaise, LIM, List.replicate, bind_ok, bind_ex, bind_no, restE, wipeE, slot0, are_books_ok B.toBks, moves_ok, h]
theorem cw_unit (B : RB kvs) {o : D} {os : List D} (h : allO kvs = o :: os) : F_check_world [dB kvs, mvD, .dk []] = .ex ⟨"UnknownUnit", [("given", unitD o)]⟩ () := by
  have h1 := B.allO
  rw [h] at h1
  have h2 := unpriced (o := o) (B.allO_mem o (by rw [h]; simp)) os
  simp [F_check_world, M_check_world, runD, Dn.runI, env0, mSeq, mIfE, mOr, mAnd, mNot, mBool, mOps, evs, Op.ev, Op.res, resAll, mRet, mC, mVar, mMove, mNx, mSet, mExpr, mCall, mCallE, mA0, mA1, mLst, mTup, T.d, fF, fB, mAndV, mOrV, mNotV, mIt, mRaise, LIM, List.replicate, bind_ok, bind_ex, bind_no, restE, wipeE, slot0, are_books_ok B.toBks, moves_ok, prices0_ok, B.srt, h1, h2]
theorem cw_ok (B : RB kvs) : F_check_world [dB kvs, mvD, prD] = .ok (.fz .non) () := by
  have h1 := B.allO
  have h2 := priced_ok B.allO_mem
  simp [F_check_world, M_check_world, runD, Dn.runI, env0, mSeq, mIfE, mOr, mAnd, mNot, mBool, mOps, evs, Op.ev, Op.res, resAll, mRet, mC, mVar, mMove, mNx, mSet, mExpr, mCall, mCallE, mA0, mA1, mLst, mTup, T.d, fF, fB, mAndV, mOrV, mNotV, mIt, mRaise, LIM, List.replicate, bind_ok, bind_ex, bind_no, restE, wipeE, slot0, are_books_ok B.toBks, moves_ok, prices_ok, B.srt, h1, h2]
theorem owners_ok : ∀ ns ∈ [] :: NL, F_are_owners [.lst (ns.map .str)] = .ok (.fz (.bl true)) () := fun ns hn =>
  isB_eq (List.all_eq_true.mp (show (([] :: NL).all fun ns => isB true (F_are_owners [.lst (ns.map .str)])) = true by decide +kernel) ns hn)
theorem in_books {n : Str} : fIn [.str n, dB kvs] = some (.bl (decide (n ∈ nms kvs))) := by
  have : ∀ kvs : KB, (valD (kvs.map kvD) (.inr n)).isSome = decide (n ∈ nms kvs) := fun kvs => by
    induction kvs with
    | nil => rfl
    | cons p kvs ih =>
      by_cases e : p.1 = n
      · rw [List.map_cons, valD_pos (by simp [kvD, e])]; simp [nms, e]
      · rw [List.map_cons, valD_neg (by simp [kvD, e]), ih]
        have e' : ¬ n = p.1 := fun z => e z.symm
        exact decide_eq_decide.mpr (by simp only [nms, List.map_cons, List.mem_cons, e', false_or])
  simp [fIn, inD, dB, getD0, D.key, this kvs]
theorem all_in {ns : List Str} (mv p : D) : ∃ bs : List Bool, boolsD (ns.map fun n => .bl (decide (n ∈ nms kvs))) = some bs ∧ bs.all id = ns.all (fun n => decide (n ∈ nms kvs)) ∧
    L_group_need_1 [some (.fz (dB kvs)), some (.fz (.lst (ns.map .str))), some (.fz mv), some (.fz p), none] = .ok (.ol (ns.map fun n => .bl (decide (n ∈ nms kvs)))) [some (.fz (dB kvs)), some (.fz (.lst (ns.map .str))), some (.fz mv), some (.fz p), none] := by
  refine ⟨ns.map fun n => decide (n ∈ nms kvs), ?_, by simp, ?_⟩
  · induction ns with
    | nil => rfl
    | cons a l ih => simp [boolsD, ih]
  · let E0 : List (Option T) := [some (.fz (dB kvs)), some (.fz (.lst (ns.map .str))), some (.fz mv), some (.fz p), none]
    refine (lc_map (ds := ns.map .str) (fun d => match d with | .str n => .bl (decide (n ∈ nms kvs)) | _ => .non) (ρ0 := E0) (ρw := E0) ?_ rfl fun d hd => ?_).trans ?_
    · simp [E0, runD, Dn.runI, env0, mSeq, mIfE, mOr, mAnd, mNot, mBool, mOps, evs, Op.ev, Op.res, resAll, mRet, mC, mVar, mMove, mNx, mSet, mExpr, mCall, mCallE, mA0, mA1, mLst, mTup, T.d, fF, fB, mAndV, mOrV, mNotV, mIt, mRaise, LIM, List.replicate, bind_ok, bind_ex, bind_no, restE, wipeE, slot0, itemsK, items]
    · obtain ⟨n, hn, rfl⟩ := List.mem_map.mp hd
      let E1 : List (Option T) := [some (.fz (dB kvs)), some (.fz (.lst (ns.map .str))), some (.fz mv), some (.fz p), some (.fz (.str n))]
      exact ⟨E1, E1, E1, .fz (.bl (decide (n ∈ nms kvs))), rfl, rfl, by simp [E1, E_group_need_1, runD, Dn.runI, env0, mSeq, mIfE, mOr, mAnd, mNot, mBool, mOps, evs, Op.ev, Op.res, resAll, mRet, mC, mVar, mMove, mNx, mSet, mExpr, mCall, mCallE, mA0, mA1, mLst, mTup, T.d, fF, fB, mAndV, mOrV, mNotV, mIt, mRaise, LIM, List.replicate, bind_ok, bind_ex, bind_no, restE, wipeE, slot0, in_books], rfl, rfl⟩
    · simp [restE, E0, Function.comp_def]
theorem need_books {b m mv p : D} (h : F_are_books [b] = .ok (.fz (.bl false)) ()) : F_group_need [b, m, mv, p] = .ex ⟨"BadBooks", [("given", b)]⟩ () := by
  simp [F_group_need, M_group_need, runD, Dn.runI, env0, mSeq, mIfE, mOr, mAnd, mNot, mBool, mOps, evs, Op.ev, Op.res, resAll, mRet, mC, mVar, mMove, mNx, mSet, mExpr, mCall, mCallE, mA0, mA1, mLst, mTup, T.d, fF, fB, mAndV, mOrV, mNotV, mIt, mRaise, LIM, List.replicate, bind_ok, bind_ex, bind_no, restE, wipeE, slot0, h]
theorem need_owners (B : RB kvs) {m mv p : D} (h : F_are_owners [m] = .ok (.fz (.bl false)) ()) : F_group_need [dB kvs, m, mv, p] = .ex ⟨"BadOwners", [("given", m)]⟩ () := by
  simp [F_group_need, M_group_need, runD, Dn.runI, env0, mSeq, mIfE, mOr, mAnd, mNot, mBool, mOps, evs, Op.ev, Op.res, resAll, mRet, mC, mVar, mMove, mNx, mSet, mExpr, mCall, mCallE, mA0, mA1, mLst, mTup, T.d, fF, fB, mAndV, mOrV, mNotV, mIt, mRaise, LIM, List.replicate, bind_ok, bind_ex, bind_no, restE, wipeE, slot0, are_books_ok B.toBks, h]
theorem need_others (B : RB kvs) {ns : List Str} {mv p : D} (h : F_are_owners [.lst (ns.map .str)] = .ok (.fz (.bl true)) ()) (hn : ¬ ∀ n ∈ ns, n ∈ nms kvs) : F_group_need [dB kvs, .lst (ns.map .str), mv, p] = .ex ⟨"BadOwners", [("given", .lst (ns.map .str))]⟩ () := by
  obtain ⟨bs, h1, h2, h3⟩ := all_in (kvs := kvs) (ns := ns) mv p
  have h4 : bs.all id = false := by rw [h2]; simpa using hn
  simp [F_group_need, M_group_need, runD, Dn.runI, env0, mSeq, mIfE, mOr, mAnd, mNot, mBool, mOps, evs, Op.ev, Op.res, resAll, mRet, mC, mVar, mMove, mNx, mSet, mExpr, mCall, mCallE, mA0, mA1, mLst, mTup, T.d, fF, fB, mAndV, mOrV, mNotV, mIt, mRaise, LIM, List.replicate, bind_ok, bind_ex, bind_no, restE, wipeE, slot0, are_books_ok B.toBks, h, h3, fAll, h1, h4]
theorem need_world (B : RB kvs) {ns : List Str} {mv p : D} {x : Ex} (hs : ns ∈ [] :: NL) (hn : ∀ n ∈ ns, n ∈ nms kvs) (hw : F_check_world [dB kvs, mv, p] = .ex x ()) : F_group_need [dB kvs, .lst (ns.map .str), mv, p] = .ex x () := by
  obtain ⟨bs, h1, h2, h3⟩ := all_in (kvs := kvs) (ns := ns) mv p
  have h4 : bs.all id = true := by rw [h2]; simpa using hn
  simp [F_group_need, M_group_need, runD, Dn.runI, env0, mSeq, mIfE, mOr, mAnd, mNot, mBool, mOps, evs, Op.ev, Op.res, resAll, mRet, mC, mVar, mMove, mNx, mSet, mExpr, mCall, mCallE, mA0, mA1, mLst, mTup, T.d, fF, fB, mAndV, mOrV, mNotV, mIt, mRaise, LIM, List.replicate, bind_ok, bind_ex, bind_no, restE, wipeE, slot0, are_books_ok B.toBks, owners_ok ns hs, h3, fAll, h1, h4, hw]
theorem need_ok (B : RB kvs) {ns : List Str} (hs : ns ∈ [] :: NL) (hn : ∀ n ∈ ns, n ∈ nms kvs) (hl : ns.length ≤ 3) : ∃ (k : Int) (i : Nat), F_group_need [dB kvs, .lst (ns.map .str), mvD, prD] = .ok (.fz (.int k)) () ∧ F_worst_together [dB kvs, .lst (ns.map .str), mvD, prD] = .ok (.fz (.tup [.int k, .int (i : Int)])) () := by
  obtain ⟨bs, h1, h2, h3⟩ := all_in (kvs := kvs) (ns := ns) mvD prD
  have h4 : bs.all id = true := by rw [h2]; simpa using hn
  obtain ⟨k, i, hi, e⟩ := together_ok B.toBks hn hl
  refine ⟨k, i, ?_, e⟩
  simp [F_group_need, M_group_need, runD, Dn.runI, env0, mSeq, mIfE, mOr, mAnd, mNot, mBool, mOps, evs, Op.ev, Op.res, resAll, mRet, mC, mVar, mMove, mNx, mSet, mExpr, mCall, mCallE, mA0, mA1, mLst, mTup, T.d, fF, fB, mAndV, mOrV, mNotV, mIt, mRaise, LIM, List.replicate, bind_ok, bind_ex, bind_no, restE, wipeE, slot0, are_books_ok B.toBks, owners_ok ns hs, h3, fAll, h1, h4, cw_ok B, e, fIx_eq]
end
end K90

set_option Elab.async false
set_option linter.all false
set_option maxRecDepth 100000
namespace K90
open PySem PySem.Spec L2 Dn
open PyProof.Rows hiding St
open PySem.PyData (strOk)
theorem loss_of_ok : ∀ b ∈ BL, ∀ m ∈ ML, ∃ k : Int, F_loss_of [bkD b, m, prD] = .ok (.fz (.int k)) () := by
  have h : (BL.all fun b => ML.all fun m => isN (F_loss_of [bkD b, m, prD])) = true := by decide +kernel
  intro b hb m hm
  exact isN_ok (List.all_eq_true.mp (List.all_eq_true.mp h b hb) m hm)
theorem putD_mem {κ : Type} [DecidableEq κ] {l : List (κ × D)} {k : κ} {v : D} {p : κ × D} (h : p ∈ putD l k v) : p ∈ l ∨ p = (k, v) := by
  unfold putD at h
  split at h
  · obtain ⟨q, hq, e⟩ := List.mem_map.mp h
    by_cases c : q.1 = k
    · rw [if_pos c] at e; rw [← e, c]; exact .inr rfl
    · rw [if_neg c] at e; rw [← e]; exact .inl hq
  · rcases List.mem_append.mp h with h | h
    · exact .inl h
    · exact .inr (List.mem_singleton.mp h)
theorem fold_put {P : Key × D → Prop} (kf : D → Key) (v : D → D) : ∀ (ds : List D) (acc : List (Key × D)), (∀ p ∈ acc, P p) → (∀ d ∈ ds, P (kf d, v d)) → ∀ p ∈ ds.foldl (fun acc d => putD acc (kf d) (v d)) acc, P p
  | [], acc, h, _ => h
  | d :: ds, acc, h, h' => fold_put kf v ds (putD acc (kf d) (v d)) (fun p hp => by
      rcases putD_mem hp with hp | rfl
      · exact h p hp
      · exact h' d (by simp)) fun x hx => h' x (List.mem_cons_of_mem _ hx)
section
variable {kvs : KB}
/-- a dict of members to numbers -/
def NumsOf (kvs : KB) (l : List (Key × D)) : Prop := ∀ p ∈ l, (∃ n ∈ nms kvs, p.1 = .inr n) ∧ ∃ i : Int, p.2 = .int i
theorem vals_int {l : List (Key × D)} (h : ∀ p ∈ l, ∃ i : Int, p.2 = .int i) : ∃ ns, intsD (l.map (·.2)) = some ns :=
  (ints_ex (ds := l.map (·.2)) fun d hd => by obtain ⟨p, hp, rfl⟩ := List.mem_map.mp hd; exact h p hp).imp fun _ h => h.1
theorem sharing_ex {b mv p : D} {x : Ex} (h : F_check_world [b, mv, p] = .ex x ()) : F_sharing [b, mv, p] = .ex x () := by
  simp [F_sharing, M_sharing, runD, Dn.runI, env0, mSeq, mIfE, mOr, mAnd, mNot, mBool, mOps, evs, Op.ev, Op.res, resAll, mRet, mC, mVar, mMove, mNx, mSet, mExpr, mCall, mCallE, mA0, mA1, mLst, mTup, T.d, fF, fB, mAndV, mOrV, mNotV, mIt, mRaise, LIM, List.replicate, bind_ok, bind_ex, bind_no, restE, wipeE, slot0, h]
theorem saved_ex {b mv p : D} {x : Ex} (h : F_check_world [b, mv, p] = .ex x ()) : F_saved [b, mv, p] = .ex x () := by
  simp [F_saved, M_saved, runD, Dn.runI, env0, mSeq, mIfE, mOr, mAnd, mNot, mBool, mOps, evs, Op.ev, Op.res, resAll, mRet, mC, mVar, mMove, mNx, mSet, mExpr, mCall, mCallE, mA0, mA1, mLst, mTup, T.d, fF, fB, mAndV, mOrV, mNotV, mIt, mRaise, LIM, List.replicate, bind_ok, bind_ex, bind_no, restE, wipeE, slot0, h]
theorem common_ex {b mv p : D} {x : Ex} (h : F_check_world [b, mv, p] = .ex x ()) : F_common_move [b, mv, p] = .ex x () := by
  simp [F_common_move, M_common_move, runD, Dn.runI, env0, mSeq, mIfE, mOr, mAnd, mNot, mBool, mOps, evs, Op.ev, Op.res, resAll, mRet, mC, mVar, mMove, mNx, mSet, mExpr, mCall, mCallE, mA0, mA1, mLst, mTup, T.d, fF, fB, mAndV, mOrV, mNotV, mIt, mRaise, LIM, List.replicate, bind_ok, bind_ex, bind_no, restE, wipeE, slot0, h]
theorem objecting_ex {b mv p s : D} {x : Ex} (h : F_check_world [b, mv, p] = .ex x ()) : F_objecting [b, mv, p, s] = .ex x () := by
  simp [F_objecting, M_objecting, runD, Dn.runI, env0, mSeq, mIfE, mOr, mAnd, mNot, mBool, mOps, evs, Op.ev, Op.res, resAll, mRet, mC, mVar, mMove, mNx, mSet, mExpr, mCall, mCallE, mA0, mA1, mLst, mTup, T.d, fF, fB, mAndV, mOrV, mNotV, mIt, mRaise, LIM, List.replicate, bind_ok, bind_ex, bind_no, restE, wipeE, slot0, h]
theorem ml_at {i : Nat} (h : i = 0 ∨ i = 1 ∨ i = 2) : ∃ m ∈ ML, atD mvD (.int (i : Int)) = some m := by
  rcases h with rfl | rfl | rfl
  · exact ⟨m0, by simp [ML], at_lst rfl⟩
  · exact ⟨m1, by simp [ML], at_lst rfl⟩
  · exact ⟨m2, by simp [ML], at_lst rfl⟩
theorem sharing_ok (B : RB kvs) : ∃ l, F_sharing [dB kvs, mvD, prD] = .ok (.od l) () := by
  obtain ⟨k, i, hi, e⟩ := together_ok B.toBks B.sub B.slen
  obtain ⟨m, hm, hma⟩ := ml_at hi
  let S : List D := (sortS (nms kvs)).map .str
  let E0 : List (Option T) := [some (.fz (dB kvs)), some (.fz mvD), some (.fz prD), some (.fz (.lst S)), some (.fz (.int (i : Int))), none]
  obtain ⟨kf, v, -, e1⟩ := dcm_ex (it := mIt itemsK (mVar 3)) (g := g1 5) (mt := mTrue) (mk := mVar 5) (me := E_sharing_1) (own := [5]) (ρ := E0) (ρ0 := E0) (ρw := E0) (ds := S) (fun _ _ _ => True) (by simp [E0, runD, Dn.runI, env0, mSeq, mIfE, mOr, mAnd, mNot, mBool, mOps, evs, Op.ev, Op.res, resAll, mRet, mC, mVar, mMove, mNx, mSet, mExpr, mCall, mCallE, mA0, mA1, mLst, mTup, T.d, fF, fB, mAndV, mOrV, mNotV, mIt, mRaise, LIM, List.replicate, bind_ok, bind_ex, bind_no, restE, wipeE, slot0, itemsK, items]) rfl (fun d hd => by
    obtain ⟨n, hn, rfl⟩ := List.mem_map.mp hd
    have hn' := B.sub n hn
    obtain ⟨k', e'⟩ := loss_of_ok _ (B.bk _ (look_mem hn')) m hm
    let E1 : List (Option T) := [some (.fz (dB kvs)), some (.fz mvD), some (.fz prD), some (.fz (.lst S)), some (.fz (.int (i : Int))), some (.fz (.str n))]
    exact ⟨E1, E1, E1, E1, .fz (.str n), .fz (.int k'), .inr n, rfl, rfl, rfl, by simp [E1, E_sharing_1, runD, Dn.runI, env0, mSeq, mIfE, mOr, mAnd, mNot, mBool, mOps, evs, Op.ev, Op.res, resAll, mRet, mC, mVar, mMove, mNx, mSet, mExpr, mCall, mCallE, mA0, mA1, mLst, mTup, T.d, fF, fB, mAndV, mOrV, mNotV, mIt, mRaise, LIM, List.replicate, bind_ok, bind_ex, bind_no, restE, wipeE, slot0, fIx_eq, look_at hn', hma, e'], rfl, rfl, trivial⟩)
  refine ⟨S.foldl (fun acc d => putD acc (kf d) (v d)) [], ?_⟩
  have e1' : L_sharing_1 E0 = _ := e1
  simp only [E0, S] at e1'
  simp [F_sharing, M_sharing, runD, Dn.runI, env0, mSeq, mIfE, mOr, mAnd, mNot, mBool, mOps, evs, Op.ev, Op.res, resAll, mRet, mC, mVar, mMove, mNx, mSet, mExpr, mCall, mCallE, mA0, mA1, mLst, mTup, T.d, fF, fB, mAndV, mOrV, mNotV, mIt, mRaise, LIM, List.replicate, bind_ok, bind_ex, bind_no, restE, wipeE, slot0, cw_ok B, B.srt, e, fIx_eq, e1', S]
theorem own_ok (B : RB kvs) : ∃ l, F_own_needs [dB kvs, mvD, prD] = .ok (.od l) () ∧ NumsOf kvs l := by
  let S : List D := (sortS (nms kvs)).map .str
  let E0 : List (Option T) := [some (.fz (dB kvs)), some (.fz mvD), some (.fz prD), none]
  obtain ⟨kf, v, hv, e1⟩ := dcm_ex (it := mIt items (mOps ((fun ds => (fSorted ds).map T.ol)) [.var 0])) (g := g1 3) (mt := mTrue) (mk := mVar 3) (me := E_own_needs_1) (own := [3]) (ρ := E0) (ρ0 := E0) (ρw := E0) (ds := S) (fun _ k d => (∃ n ∈ nms kvs, k = .inr n) ∧ ∃ i : Int, d = .int i) (by simp [E0, S, runD, Dn.runI, env0, mSeq, mIfE, mOr, mAnd, mNot, mBool, mOps, evs, Op.ev, Op.res, resAll, mRet, mC, mVar, mMove, mNx, mSet, mExpr, mCall, mCallE, mA0, mA1, mLst, mTup, T.d, fF, fB, mAndV, mOrV, mNotV, mIt, mRaise, LIM, List.replicate, bind_ok, bind_ex, bind_no, restE, wipeE, slot0, B.srt, items]) rfl (fun d hd => by
    obtain ⟨n, hn, rfl⟩ := List.mem_map.mp hd
    have hn' := B.sub n hn
    obtain ⟨k, i, hi, e⟩ := together_ok B.toBks (ns := [n]) (by simpa using hn') (by simp)
    let E1 : List (Option T) := [some (.fz (dB kvs)), some (.fz mvD), some (.fz prD), some (.fz (.str n))]
    simp only [List.map_cons, List.map_nil] at e
    exact ⟨E1, E1, E1, E1, .fz (.str n), .fz (.int k), .inr n, rfl, rfl, rfl, by simp [E1, E_own_needs_1, runD, Dn.runI, env0, mSeq, mIfE, mOr, mAnd, mNot, mBool, mOps, evs, Op.ev, Op.res, resAll, mRet, mC, mVar, mMove, mNx, mSet, mExpr, mCall, mCallE, mA0, mA1, mLst, mTup, T.d, fF, fB, mAndV, mOrV, mNotV, mIt, mRaise, LIM, List.replicate, bind_ok, bind_ex, bind_no, restE, wipeE, slot0, fIx_eq, e], rfl, rfl, ⟨n, hn', rfl⟩, k, rfl⟩)
  refine ⟨S.foldl (fun acc d => putD acc (kf d) (v d)) [], ?_, fold_put kf v S [] (fun p hp => absurd hp List.not_mem_nil) hv⟩
  have e1' : L_own_needs_1 E0 = _ := e1
  simp only [E0, S] at e1'
  simp [F_own_needs, M_own_needs, runD, Dn.runI, env0, mSeq, mIfE, mOr, mAnd, mNot, mBool, mOps, evs, Op.ev, Op.res, resAll, mRet, mC, mVar, mMove, mNx, mSet, mExpr, mCall, mCallE, mA0, mA1, mLst, mTup, T.d, fF, fB, mAndV, mOrV, mNotV, mIt, mRaise, LIM, List.replicate, bind_ok, bind_ex, bind_no, restE, wipeE, slot0, e1', S]
theorem saved_ok (B : RB kvs) : ∃ k : Int, F_saved [dB kvs, mvD, prD] = .ok (.fz (.int k)) () := by
  obtain ⟨l, e1, hl⟩ := own_ok B
  obtain ⟨k, i, hi, e⟩ := together_ok B.toBks B.sub B.slen
  obtain ⟨ns, hns⟩ := vals_int fun p hp => (hl p hp).2
  refine ⟨ns.sum - k, ?_⟩
  simp [F_saved, M_saved, runD, Dn.runI, env0, mSeq, mIfE, mOr, mAnd, mNot, mBool, mOps, evs, Op.ev, Op.res, resAll, mRet, mC, mVar, mMove, mNx, mSet, mExpr, mCall, mCallE, mA0, mA1, mLst, mTup, T.d, fF, fB, mAndV, mOrV, mNotV, mIt, mRaise, LIM, List.replicate, bind_ok, bind_ex, bind_no, restE, wipeE, slot0, cw_ok B, e1, fValsL, fSum, hns, B.srt, e, fIx_eq, fI0]
theorem bools_ex {ds : List D} : (∀ d ∈ ds, ∃ n : Bool, d = .bl n) → ∃ ns, boolsD ds = some ns := fun h => by
  induction ds with
  | nil => exact ⟨[], rfl⟩
  | cons d ds ih =>
    obtain ⟨n, rfl⟩ := h _ List.mem_cons_self
    obtain ⟨ns, h1⟩ := ih fun x hx => h x (List.mem_cons_of_mem _ hx)
    exact ⟨n :: ns, by simp [boolsD, h1]⟩
theorem fEq_ii (i j : Int) : fEq [.int i, .int j] = some (.bl (i == j)) := by
  have h : ∀ i, SeqAt.shaped (.int i) = true := fun i => by simp [SeqAt.shaped, PyData.canLay0, PyData.depth]
  simp [fEq, eqD, D.py, h, PyData.eqv]
theorem common_ok (B : RB kvs) : ∃ t, F_common_move [dB kvs, mvD, prD] = .ok t () ∧ (t.d = .non ∨ ∃ i : Int, t.d = .int i) := by
  obtain ⟨l, e1, hl⟩ := own_ok B
  let Ey (s : T) (a b c : Option T) : List (Option T) := [some (.fz (dB kvs)), some (.fz mvD), some (.fz prD), some s, a, b, c]
  let Ex := Ey (.fz (.dk l))
  have hL : ∀ (s : T), s = .od l ∨ s = .fz (.dk l) → ∀ (i : Int), ∀ m ∈ ML, ∃ bs, L_common_move_1 (Ey s (some (.fz (.int i))) (some (.fz m)) none) = .ok (.ol bs) (Ex (some (.fz (.int i))) (some (.fz m)) none) ∧ ∀ d ∈ bs, ∃ n : Bool, d = .bl n := fun s hs i m hm => by
    obtain ⟨v, hv, e⟩ := lc_ex (it := mIt itemsK (mVar 3)) (g := g1 6) (mt := mTrue) (me := E_common_move_1) (own := [6]) (ρ := Ey s (some (.fz (.int i))) (some (.fz m)) none) (ρ0 := Ex (some (.fz (.int i))) (some (.fz m)) none) (ρw := Ex (some (.fz (.int i))) (some (.fz m)) none) (ds := l.map fun p => kD p.1) (fun _ d => ∃ n : Bool, d = .bl n) (by rcases hs with rfl | rfl <;> simp [Ex, Ey, runD, Dn.runI, env0, mSeq, mIfE, mOr, mAnd, mNot, mBool, mOps, evs, Op.ev, Op.res, resAll, mRet, mC, mVar, mMove, mNx, mSet, mExpr, mCall, mCallE, mA0, mA1, mLst, mTup, T.d, fF, fB, mAndV, mOrV, mNotV, mIt, mRaise, LIM, List.replicate, bind_ok, bind_ex, bind_no, restE, wipeE, slot0, itemsK]) rfl (fun d hd => by
      obtain ⟨p, hp, rfl⟩ := List.mem_map.mp hd
      obtain ⟨⟨n, hn, hk⟩, -⟩ := hl p hp
      obtain ⟨k', e'⟩ := loss_of_ok _ (B.bk _ (look_mem hn)) m hm
      obtain ⟨w, hw, hw'⟩ := valD_mem (List.mem_map_of_mem (f := (·.1)) hp)
      obtain ⟨-, j, hj⟩ := hl _ hw'
      simp only at hj
      rw [hj, hk] at hw
      have ha : atD (.dk l) (.str n) = some (.int j) := by simp [atD, getD0, D.key, hw]
      rw [hk]
      exact ⟨Ex (some (.fz (.int i))) (some (.fz m)) (some (.fz (.str n))), Ex (some (.fz (.int i))) (some (.fz m)) (some (.fz (.str n))), Ex (some (.fz (.int i))) (some (.fz m)) (some (.fz (.str n))), .fz (.bl (k' == j)), rfl, rfl, by simp [Ex, Ey, E_common_move_1, runD, Dn.runI, env0, mSeq, mIfE, mOr, mAnd, mNot, mBool, mOps, evs, Op.ev, Op.res, resAll, mRet, mC, mVar, mMove, mNx, mSet, mExpr, mCall, mCallE, mA0, mA1, mLst, mTup, T.d, fF, fB, mAndV, mOrV, mNotV, mIt, mRaise, LIM, List.replicate, bind_ok, bind_ex, bind_no, restE, wipeE, slot0, fIx_eq, look_at hn, e', ha, fEq_ii], rfl, _, rfl⟩)
    refine ⟨(l.map fun p => kD p.1).map v, ?_, fun d hd => by obtain ⟨x, hx, rfl⟩ := List.mem_map.mp hd; exact hv x hx⟩
    exact (show L_common_move_1 _ = _ from e).trans (by simp [Ex, Ey, restE])
  have hf := forL_ret (g := gT 2 (gs1 (g1 4) (gs1 (g1 5) gs0))) (body := B_common_move_1) (fun ds ρ => (∀ d ∈ ds, ∃ i : Int, ∃ m ∈ ML, d = .tup [.int i, m]) ∧ ∃ s a b, (s = .od l ∨ s = .fz (.dk l)) ∧ ρ = Ey s a b none) (fun t => ∃ i : Int, t.d = .int i) (enumD 0 ML) (Ey (.od l) none none none) ⟨fun d hd => by
      simp only [ML, enumD, List.mem_cons, List.not_mem_nil, or_false] at hd
      rcases hd with rfl | rfl | rfl
      · exact ⟨_, m0, by simp [ML], rfl⟩
      · exact ⟨_, m1, by simp [ML], rfl⟩
      · exact ⟨_, m2, by simp [ML], rfl⟩, .od l, none, none, .inl rfl, rfl⟩ (fun d ds ρ hI => by
    obtain ⟨h1, s, a, b, hs, rfl⟩ := hI
    obtain ⟨i, m, hm, rfl⟩ := h1 d (by simp)
    obtain ⟨bs, e, hb⟩ := hL s hs i m hm
    obtain ⟨ns, hns⟩ := bools_ex hb
    refine ⟨Ey s (some (.fz (.int i))) (some (.fz m)) none, Ex (some (.fz (.int i))) (some (.fz m)) none, by simp [Ey, gT, gs1, g1, gs0], ?_⟩
    cases q : ns.all id with
    | true =>
      refine .inr ⟨.fz (.int i), ?_, i, rfl⟩
      simp only [Ex, Ey] at e ⊢
      simp [B_common_move_1, runD, Dn.runI, env0, mSeq, mIfE, mOr, mAnd, mNot, mBool, mOps, evs, Op.ev, Op.res, resAll, mRet, mC, mVar, mMove, mNx, mSet, mExpr, mCall, mCallE, mA0, mA1, mLst, mTup, T.d, fF, fB, mAndV, mOrV, mNotV, mIt, mRaise, LIM, List.replicate, bind_ok, bind_ex, bind_no, restE, wipeE, slot0, e, fAll, hns, q]
    | false =>
      refine .inl ⟨?_, fun d hd => h1 d (List.mem_cons_of_mem _ hd), _, _, _, .inr rfl, rfl⟩
      simp only [Ex, Ey] at e ⊢
      simp [B_common_move_1, runD, Dn.runI, env0, mSeq, mIfE, mOr, mAnd, mNot, mBool, mOps, evs, Op.ev, Op.res, resAll, mRet, mC, mVar, mMove, mNx, mSet, mExpr, mCall, mCallE, mA0, mA1, mLst, mTup, T.d, fF, fB, mAndV, mOrV, mNotV, mIt, mRaise, LIM, List.replicate, bind_ok, bind_ex, bind_no, restE, wipeE, slot0, e, fAll, hns, q])
  simp only [Ey] at hf
  have hE : mEnum (mA1 (mVar 1) mA0) [some (.fz (dB kvs)), some (.fz mvD), some (.fz prD), some (.od l), none, none, none] = .ok (enumD 0 ML) [some (.fz (dB kvs)), some (.fz mvD), some (.fz prD), some (.od l), none, none, none] := rfl
  rcases hf with ⟨ρ', e, -⟩ | ⟨t, ρ', e, i, hi⟩
  · refine ⟨.fz .non, ?_, .inl rfl⟩
    simp [F_common_move, M_common_move, runD, Dn.runI, env0, mSeq, mIfE, mOr, mAnd, mNot, mBool, mOps, evs, Op.ev, Op.res, resAll, mRet, mC, mVar, mMove, mNx, mSet, mExpr, mCall, mCallE, mA0, mA1, mLst, mTup, T.d, fF, fB, mAndV, mOrV, mNotV, mIt, mRaise, LIM, List.replicate, bind_ok, bind_ex, bind_no, restE, wipeE, slot0, cw_ok B, e1, mFor, hE, e]
  · refine ⟨t, ?_, .inr ⟨i, hi⟩⟩
    simp [F_common_move, M_common_move, runD, Dn.runI, env0, mSeq, mIfE, mOr, mAnd, mNot, mBool, mOps, evs, Op.ev, Op.res, resAll, mRet, mC, mVar, mMove, mNx, mSet, mExpr, mCall, mCallE, mA0, mA1, mLst, mTup, T.d, fF, fB, mAndV, mOrV, mNotV, mIt, mRaise, LIM, List.replicate, bind_ok, bind_ex, bind_no, restE, wipeE, slot0, cw_ok B, e1, mFor, hE, e]
end
end K90

set_option Elab.async false
set_option linter.all false
set_option maxRecDepth 100000
namespace K90
open PySem PySem.Spec L2 Dn
open PyProof.Rows hiding St
open PySem.PyData (strOk)
def shD (l : List (Str × D)) : D := .dk (l.map fun p => (Sum.inr p.1, p.2))
def NZ : List Str := ["ann", "bob", "cid", "zoe"]
theorem memberZ_ok : ∀ n ∈ NZ, F_is_member [.str n] = .ok (.fz (.bl true)) () := fun b hb =>
  isB_eq (List.all_eq_true.mp (show (NZ.all fun b => isB true (F_is_member [.str b])) = true by decide +kernel) b hb)
theorem keyStrs_sh : ∀ l : List (Str × D), keyStrs (l.map fun p => (Sum.inr p.1, p.2)) = some (l.map (·.1))
  | [] => rfl
  | p :: l => by simp [keyStrs, keyStrs_sh l]
theorem shD_ty (l : List (Str × D)) : (shD l).ty = "dict" := rfl
theorem shD_k (l : List (Str × D)) : itemsK (shD l) = some (l.map fun p => .str p.1) := by simp [shD, itemsK, Function.comp_def, kD]
theorem shD_v (l : List (Str × D)) : itemsV (shD l) = some (l.map (·.2)) := by simp [shD, itemsV, Function.comp_def]
theorem shD_s {l : List (Str × D)} (h : l.length < 64) : fSorted [shD l] = some ((sortS (l.map (·.1))).map .str) := by
  simp [fSorted, shD, keyStrs_sh, h]
theorem shares_kind {b mv p v : D} (h : subTy v.ty "dict" = false) : F_are_shares [b, mv, p, v] = .ok (.fz (.bl false)) () := by
  simp [F_are_shares, M_are_shares, runD, Dn.runI, env0, mSeq, mIfE, mOr, mAnd, mNot, mBool, mOps, evs, Op.ev, Op.res, resAll, mRet, mC, mVar, mMove, mNx, mSet, mExpr, mCall, mCallE, mA0, mA1, mLst, mTup, T.d, fF, fB, mAndV, mOrV, mNotV, mIt, mRaise, LIM, List.replicate, bind_ok, bind_ex, bind_no, restE, wipeE, slot0, fIsi, h]
section
variable {kvs : KB}
theorem shares_1 {l : List (Str × D)} (hz : ∀ p ∈ l, p.1 ∈ NZ) (b mv p : Option T) : L_are_shares_1 [b, mv, p, some (.fz (shD l)), none, none] = .ok (.ol (l.map fun _ => .bl true)) [b, mv, p, some (.fz (shD l)), none, none] := by
  refine (lc_map (ds := l.map fun p => .str p.1) (fun _ => .bl true) (ρ0 := [b, mv, p, some (.fz (shD l)), none, none]) (ρw := [b, mv, p, some (.fz (shD l)), none, none]) ?_ rfl fun d hd => ?_).trans ?_
  · simp [runD, Dn.runI, env0, mSeq, mIfE, mOr, mAnd, mNot, mBool, mOps, evs, Op.ev, Op.res, resAll, mRet, mC, mVar, mMove, mNx, mSet, mExpr, mCall, mCallE, mA0, mA1, mLst, mTup, T.d, fF, fB, mAndV, mOrV, mNotV, mIt, mRaise, LIM, List.replicate, bind_ok, bind_ex, bind_no, restE, wipeE, slot0, shD_k]
  · obtain ⟨q, hq, rfl⟩ := List.mem_map.mp hd
    exact ⟨[b, mv, p, some (.fz (shD l)), some (.fz (.str q.1)), none], [b, mv, p, some (.fz (shD l)), some (.fz (.str q.1)), none], [b, mv, p, some (.fz (shD l)), some (.fz (.str q.1)), none], .fz (.bl true), rfl, rfl, by simp [E_are_shares_1, runD, Dn.runI, env0, mSeq, mIfE, mOr, mAnd, mNot, mBool, mOps, evs, Op.ev, Op.res, resAll, mRet, mC, mVar, mMove, mNx, mSet, mExpr, mCall, mCallE, mA0, mA1, mLst, mTup, T.d, fF, fB, mAndV, mOrV, mNotV, mIt, mRaise, LIM, List.replicate, bind_ok, bind_ex, bind_no, restE, wipeE, slot0, memberZ_ok q.1 (hz q hq)], rfl, rfl⟩
  · simp [restE]
/-- is_integer, for what comes here -/
def intB : D → Bool
  | .int _ => true
  | _ => false
theorem isint (d : D) : F_is_integer [d, .non] = .ok (.fz (.bl (intB d))) () := by cases d <;> rfl
theorem shares_2 {l : List (Str × D)} (b mv p : Option T) : L_are_shares_2 [b, mv, p, some (.fz (shD l)), none, none] = .ok (.ol (l.map fun p => .bl (intB p.2))) [b, mv, p, some (.fz (shD l)), none, none] := by
  refine (lc_map (ds := l.map (·.2)) (fun d => .bl (intB d)) (ρ0 := [b, mv, p, some (.fz (shD l)), none, none]) (ρw := [b, mv, p, some (.fz (shD l)), none, none]) ?_ rfl fun d hd => ?_).trans ?_
  · simp [runD, Dn.runI, env0, mSeq, mIfE, mOr, mAnd, mNot, mBool, mOps, evs, Op.ev, Op.res, resAll, mRet, mC, mVar, mMove, mNx, mSet, mExpr, mCall, mCallE, mA0, mA1, mLst, mTup, T.d, fF, fB, mAndV, mOrV, mNotV, mIt, mRaise, LIM, List.replicate, bind_ok, bind_ex, bind_no, restE, wipeE, slot0, shD_v]
  · exact ⟨[b, mv, p, some (.fz (shD l)), none, some (.fz d)], [b, mv, p, some (.fz (shD l)), none, some (.fz d)], [b, mv, p, some (.fz (shD l)), none, some (.fz d)], .fz (.bl (intB d)), rfl, rfl, by simp [E_are_shares_2, runD, Dn.runI, env0, mSeq, mIfE, mOr, mAnd, mNot, mBool, mOps, evs, Op.ev, Op.res, resAll, mRet, mC, mVar, mMove, mNx, mSet, mExpr, mCall, mCallE, mA0, mA1, mLst, mTup, T.d, fF, fB, mAndV, mOrV, mNotV, mIt, mRaise, LIM, List.replicate, bind_ok, bind_ex, bind_no, restE, wipeE, slot0, isint], rfl, rfl⟩
  · simp [restE, Function.comp_def]
theorem bools_f {α : Type} (f : α → Bool) (l : List α) : boolsD (l.map fun x => .bl (f x)) = some (l.map f) := by
  induction l with
  | nil => rfl
  | cons a l ih => simp [boolsD, ih]
theorem shares_A (B : RB kvs) {l : List (Str × D)} {mv p : D} (hz : ∀ p ∈ l, p.1 ∈ NZ) (hl : l.length < 64) (hn : fNe [.lst ((sortS (l.map (·.1))).map .str), .lst ((sortS (nms kvs)).map .str)] = some (.bl true)) : F_are_shares [dB kvs, mv, p, shD l] = .ok (.fz (.bl false)) () := by
  simp [F_are_shares, M_are_shares, runD, Dn.runI, env0, mSeq, mIfE, mOr, mAnd, mNot, mBool, mOps, evs, Op.ev, Op.res, resAll, mRet, mC, mVar, mMove, mNx, mSet, mExpr, mCall, mCallE, mA0, mA1, mLst, mTup, T.d, fF, fB, mAndV, mOrV, mNotV, mIt, mRaise, LIM, List.replicate, bind_ok, bind_ex, bind_no, restE, wipeE, slot0, fIsi, shD_ty, subTy, shares_1 hz, fAll, bools_all, shD_s hl, B.srt, hn]
theorem shares_B (B : RB kvs) {l : List (Str × D)} {mv p : D} (hz : ∀ p ∈ l, p.1 ∈ NZ) (hl : l.length < 64) (hn : fNe [.lst ((sortS (l.map (·.1))).map .str), .lst ((sortS (nms kvs)).map .str)] = some (.bl false)) (hi : (l.all fun p => intB p.2) = false) : F_are_shares [dB kvs, mv, p, shD l] = .ok (.fz (.bl false)) () := by
  have h2 : (l.map fun p => intB p.2).all id = false := by rw [List.all_map]; exact hi
  have h3 := bools_f (fun p : Str × D => intB p.2) l
  generalize hb : l.map (fun p => intB p.2) = bs at h2 h3
  simp [F_are_shares, M_are_shares, runD, Dn.runI, env0, mSeq, mIfE, mOr, mAnd, mNot, mBool, mOps, evs, Op.ev, Op.res, resAll, mRet, mC, mVar, mMove, mNx, mSet, mExpr, mCall, mCallE, mA0, mA1, mLst, mTup, T.d, fF, fB, mAndV, mOrV, mNotV, mIt, mRaise, LIM, List.replicate, bind_ok, bind_ex, bind_no, restE, wipeE, slot0, fIsi, shD_ty, subTy, shares_1 hz, fAll, bools_all, shD_s hl, B.srt, hn, shares_2, h3, h2]
theorem ints_val : ∀ {l : List (Str × D)}, (l.all fun p => intB p.2) = true → ∃ ns : List Int, l.map (·.2) = ns.map .int
  | [], _ => ⟨[], rfl⟩
  | (n, d) :: l, h => by
    simp only [List.all_cons, Bool.and_eq_true] at h
    obtain ⟨ns, hns⟩ := ints_val h.2
    cases d with
    | int i => exact ⟨i :: ns, by simp [hns]⟩
    | _ => exact absurd h.1 (by simp [intB])
theorem shares_C (B : RB kvs) {l : List (Str × D)} (hz : ∀ p ∈ l, p.1 ∈ NZ) (hl : l.length < 64) (hn : fNe [.lst ((sortS (l.map (·.1))).map .str), .lst ((sortS (nms kvs)).map .str)] = some (.bl false)) {ns : List Int} (hi : l.map (·.2) = ns.map .int)
    {k : Int} {i : D} (hk : F_worst_together [dB kvs, .lst ((sortS (nms kvs)).map .str), mvD, prD] = .ok (.fz (.tup [.int k, i])) ()) : F_are_shares [dB kvs, mvD, prD, shD l] = .ok (.fz (.bl (ns.sum == k))) () := by
  have h2 : (l.map fun p => intB p.2).all id = true := by
    have : l.map (fun p => intB p.2) = (l.map (·.2)).map intB := by simp
    rw [this, hi]; simp [intB]
  have h3 := bools_f (fun p : Str × D => intB p.2) l
  have hv : fValsL [shD l] = some (.ol (ns.map .int)) := by rw [← hi]; simp [fValsL, shD, Function.comp_def]
  generalize hb : l.map (fun p => intB p.2) = bs at h2 h3
  simp [F_are_shares, M_are_shares, runD, Dn.runI, env0, mSeq, mIfE, mOr, mAnd, mNot, mBool, mOps, evs, Op.ev, Op.res, resAll, mRet, mC, mVar, mMove, mNx, mSet, mExpr, mCall, mCallE, mA0, mA1, mLst, mTup, T.d, fF, fB, mAndV, mOrV, mNotV, mIt, mRaise, LIM, List.replicate, bind_ok, bind_ex, bind_no, restE, wipeE, slot0, fIsi, shD_ty, subTy, shares_1 hz, fAll, bools_all, shD_s hl, B.srt, hn, shares_2, h3, h2, hv, fSum, ints_map, hk, fIx_eq, fEq_ii]
theorem objecting_no (B : RB kvs) {v : D} (h : F_are_shares [dB kvs, mvD, prD, v] = .ok (.fz (.bl false)) ()) : F_objecting [dB kvs, mvD, prD, v] = .ex ⟨"BadShares", [("given", v)]⟩ () := by
  simp [F_objecting, M_objecting, runD, Dn.runI, env0, mSeq, mIfE, mOr, mAnd, mNot, mBool, mOps, evs, Op.ev, Op.res, resAll, mRet, mC, mVar, mMove, mNx, mSet, mExpr, mCall, mCallE, mA0, mA1, mLst, mTup, T.d, fF, fB, mAndV, mOrV, mNotV, mIt, mRaise, LIM, List.replicate, bind_ok, bind_ex, bind_no, restE, wipeE, slot0, cw_ok B, h]
def strsOf : List D → Option (List Str) := strsD
def lists_chk (r : R Unit T) (sn : List Str) : Bool := match r with
  | .ok (.ol gs) _ => gs.all fun g => match g with
    | .lst ds => (match strsD ds with | some xs => decide (xs.length ≤ 3) && xs.all (fun x => sn.any fun y => decide (y = x)) | none => false)
    | _ => false
  | _ => false
theorem strs_eq : ∀ {ds : List D} {ns : List Str}, strsD ds = some ns → ds = ns.map .str
  | [], ns, h => by simp only [strsD, Option.some.injEq] at h; subst h; rfl
  | .str x :: ds, ns, h => by
    simp only [strsD, Option.map_eq_some_iff] at h
    obtain ⟨r, h1, rfl⟩ := h
    rw [strs_eq h1]; rfl
  | .non :: ds, ns, h => by simp [strsD] at h
  | .bl _ :: ds, ns, h => by simp [strsD] at h
  | .int _ :: ds, ns, h => by simp [strsD] at h
  | .lst _ :: ds, ns, h => by simp [strsD] at h
  | .tup _ :: ds, ns, h => by simp [strsD] at h
  | .scr _ :: ds, ns, h => by simp [strsD] at h
  | .kt _ :: ds, ns, h => by simp [strsD] at h
  | .dk _ :: ds, ns, h => by simp [strsD] at h
  | .dt _ :: ds, ns, h => by simp [strsD] at h
theorem lists_chk_ok {r : R Unit T} {sn : List Str} (h1 : lists_chk r sn = true) : ∃ gs, r = .ok (.ol gs) () ∧ ∀ g ∈ gs, ∃ ns : List Str, g = .lst (ns.map .str) ∧ ns.length ≤ 3 ∧ ∀ n ∈ ns, n ∈ sn := by
  unfold lists_chk at h1
  split at h1
  · rename_i gs b
    refine ⟨gs, rfl, fun g hg => ?_⟩
    have h2 := List.all_eq_true.mp h1 g hg
    split at h2
    · rename_i ds
      cases q : strsD ds with
      | none => rw [q] at h2; cases h2
      | some xs =>
        rw [q] at h2
        simp only [Bool.and_eq_true, decide_eq_true_eq] at h2
        refine ⟨xs, by rw [strs_eq q], h2.1, fun n hn => ?_⟩
        obtain ⟨y, hy, e⟩ := List.any_eq_true.mp (List.all_eq_true.mp h2.2 n hn)
        rw [← of_decide_eq_true e]; exact hy
    · cases h2
  · cases h1
theorem lists_all : (NL.all fun sn => lists_chk (F_all_lists [.lst (sn.map .str)]) sn) = true := by decide +kernel
theorem lists_ok : ∀ sn ∈ NL, ∃ gs, F_all_lists [.lst (sn.map .str)] = .ok (.ol gs) () ∧ ∀ g ∈ gs, ∃ ns : List Str, g = .lst (ns.map .str) ∧ ns.length ≤ 3 ∧ ∀ n ∈ ns, n ∈ sn := by
  intro sn hsn
  have h1 : lists_chk (F_all_lists [.lst (sn.map .str)]) sn = true := List.all_eq_true.mp lists_all sn hsn
  generalize F_all_lists [.lst (sn.map .str)] = r at h1 ⊢
  exact lists_chk_ok h1
theorem items_lst (ds : List D) : items (.lst ds) = some ds := rfl
theorem obj_nx {f1 f2 f3 : List D → R Unit T} {b : M Fl} {k m p v : D} {t : T} {S : List D} {gs : List D} {ρ' : List (Option T)} (hs : fSorted [k] = some S) (hcw : f1 [k, m, p] = .ok (.fz .non) ()) (h : f2 [k, m, p, v] = .ok (.fz (.bl true)) ()) (e1 : f3 [.lst S] = .ok (.ol gs) ())
  (e : forL (g1 4) b gs [some (.fz k), some (.fz m), some (.fz p), some (.fz v), none, none] = .ok .nx ρ') : runD 6 (mSeq (mExpr (mCall f1 (mA1 (mVar 0) (mA1 (mVar 1) (mA1 (mVar 2) mA0)))))
    (mSeq (mIfE (mNot (mBool (mCall f2 (mA1 (mVar 0) (mA1 (mVar 1) (mA1 (mVar 2) (mA1 (mVar 3) mA0))))))) (mRaise "BadShares" "given" (mA1 (mVar 3) mA0)) mNx)
    (mSeq (mFor (mIt items (mCall f3 (mA1 (mOps ((fun ds => (fSorted ds).map T.ol)) [.var 0]) mA0))) (g1 4) b)
    (mRet (mC .non))))) [k, m, p, v] = .ok (.fz .non) () := by
  simp [runD, Dn.runI, env0, mSeq, mIfE, mOr, mAnd, mNot, mBool, mOps, evs, Op.ev, Op.res, resAll, mRet, mC, mVar, mMove, mNx, mSet, mExpr, mCall, mCallE, mA0, mA1, mLst, mTup, T.d, fF, fB, mAndV, mOrV, mNotV, mIt, mRaise, LIM, List.replicate, bind_ok, bind_ex, bind_no, restE, wipeE, slot0, hcw, h, hs, e1, mFor, items_lst, e]
theorem obj_rt {f1 f2 f3 : List D → R Unit T} {b : M Fl} {k m p v : D} {t : T} {S : List D} {gs : List D} {ρ' : List (Option T)} (hs : fSorted [k] = some S) (hcw : f1 [k, m, p] = .ok (.fz .non) ()) (h : f2 [k, m, p, v] = .ok (.fz (.bl true)) ()) (e1 : f3 [.lst S] = .ok (.ol gs) ())
  (e : forL (g1 4) b gs [some (.fz k), some (.fz m), some (.fz p), some (.fz v), none, none] = .ok (.rt t) ρ') : runD 6 (mSeq (mExpr (mCall f1 (mA1 (mVar 0) (mA1 (mVar 1) (mA1 (mVar 2) mA0)))))
    (mSeq (mIfE (mNot (mBool (mCall f2 (mA1 (mVar 0) (mA1 (mVar 1) (mA1 (mVar 2) (mA1 (mVar 3) mA0))))))) (mRaise "BadShares" "given" (mA1 (mVar 3) mA0)) mNx)
    (mSeq (mFor (mIt items (mCall f3 (mA1 (mOps ((fun ds => (fSorted ds).map T.ol)) [.var 0]) mA0))) (g1 4) b)
    (mRet (mC .non))))) [k, m, p, v] = .ok t () := by
  simp [runD, Dn.runI, env0, mSeq, mIfE, mOr, mAnd, mNot, mBool, mOps, evs, Op.ev, Op.res, resAll, mRet, mC, mVar, mMove, mNx, mSet, mExpr, mCall, mCallE, mA0, mA1, mLst, mTup, T.d, fF, fB, mAndV, mOrV, mNotV, mIt, mRaise, LIM, List.replicate, bind_ok, bind_ex, bind_no, restE, wipeE, slot0, hcw, h, hs, e1, mFor, items_lst, e]
theorem objecting_yes (B : RB kvs) {v : D} (h : F_are_shares [dB kvs, mvD, prD, v] = .ok (.fz (.bl true)) ()) (hv : ∀ n ∈ nms kvs, ∃ i : Int, atD v (.str n) = some (.int i)) : ∃ t, F_objecting [dB kvs, mvD, prD, v] = .ok t () ∧ (t.d = .non ∨ ∃ ns : List Str, t.d = .lst (ns.map .str) ∧ ∀ n ∈ ns, n ∈ nms kvs) := by
  obtain ⟨gs, e1, hg⟩ := lists_ok _ (nl_sorted _ B.nl)
  let Ex (a b : Option T) : List (Option T) := [some (.fz (dB kvs)), some (.fz mvD), some (.fz prD), some (.fz v), a, b]
  have hf := forL_ret (g := g1 4) (body := B_objecting_1) (fun ds ρ => (∀ d ∈ ds, ∃ ns : List Str, d = .lst (ns.map .str) ∧ ns.length ≤ 3 ∧ ∀ n ∈ ns, n ∈ sortS (nms kvs)) ∧ ∃ a, ρ = Ex a none) (fun t => ∃ ns : List Str, t.d = .lst (ns.map .str) ∧ ∀ n ∈ ns, n ∈ nms kvs) gs (Ex none none) ⟨hg, none, rfl⟩ (fun d ds ρ hI => by
    obtain ⟨h1, a, rfl⟩ := hI
    obtain ⟨ns, rfl, hl, hn⟩ := h1 d (by simp)
    have hn' : ∀ n ∈ ns, n ∈ nms kvs := fun n h => B.sub n (hn n h)
    let E0 := Ex (some (.fz (.lst (ns.map .str)))) none
    obtain ⟨w, hw, e2⟩ := lc_ex (it := mIt itemsK (mVar 4)) (g := g1 5) (mt := mTrue) (me := E_objecting_1) (own := [5]) (ρ := E0) (ρ0 := E0) (ρw := E0) (ds := ns.map .str) (fun _ d => ∃ i : Int, d = .int i) (by simp [E0, Ex, runD, Dn.runI, env0, mSeq, mIfE, mOr, mAnd, mNot, mBool, mOps, evs, Op.ev, Op.res, resAll, mRet, mC, mVar, mMove, mNx, mSet, mExpr, mCall, mCallE, mA0, mA1, mLst, mTup, T.d, fF, fB, mAndV, mOrV, mNotV, mIt, mRaise, LIM, List.replicate, bind_ok, bind_ex, bind_no, restE, wipeE, slot0, itemsK, items]) rfl (fun d hd => by
      obtain ⟨n, hnn, rfl⟩ := List.mem_map.mp hd
      obtain ⟨i, hi⟩ := hv n (hn' n hnn)
      exact ⟨Ex (some (.fz (.lst (ns.map .str)))) (some (.fz (.str n))), Ex (some (.fz (.lst (ns.map .str)))) (some (.fz (.str n))), Ex (some (.fz (.lst (ns.map .str)))) (some (.fz (.str n))), .fz (.int i), rfl, rfl, by simp [E_objecting_1, Ex, runD, Dn.runI, env0, mSeq, mIfE, mOr, mAnd, mNot, mBool, mOps, evs, Op.ev, Op.res, resAll, mRet, mC, mVar, mMove, mNx, mSet, mExpr, mCall, mCallE, mA0, mA1, mLst, mTup, T.d, fF, fB, mAndV, mOrV, mNotV, mIt, mRaise, LIM, List.replicate, bind_ok, bind_ex, bind_no, restE, wipeE, slot0, fIx_eq, hi], rfl, i, rfl⟩)
    obtain ⟨is, his, -⟩ := ints_ex (ds := (ns.map D.str).map w) fun d hd => by obtain ⟨x, hx, rfl⟩ := List.mem_map.mp hd; exact hw x hx
    obtain ⟨k, i, -, e3⟩ := together_ok B.toBks hn' hl
    have e2' : L_objecting_1 E0 = .ok (.ol ((ns.map D.str).map w)) E0 := (show L_objecting_1 E0 = _ from e2).trans (by simp [E0, Ex, restE])
    refine ⟨E0, E0, rfl, ?_⟩
    generalize (ns.map D.str).map w = W at his e2'
    simp only [E0, Ex] at e2' ⊢
    by_cases q : k < is.sum
    · refine .inr ⟨.fz (.lst (ns.map .str)), ?_, ns, rfl, hn'⟩
      simp [B_objecting_1, runD, Dn.runI, env0, mSeq, mIfE, mOr, mAnd, mNot, mBool, mOps, evs, Op.ev, Op.res, resAll, mRet, mC, mVar, mMove, mNx, mSet, mExpr, mCall, mCallE, mA0, mA1, mLst, mTup, T.d, fF, fB, mAndV, mOrV, mNotV, mIt, mRaise, LIM, List.replicate, bind_ok, bind_ex, bind_no, restE, wipeE, slot0, e2', e3, fSum, his, fIx_eq, fIB, q]
    · refine .inl ⟨?_, fun d hd => h1 d (List.mem_cons_of_mem _ hd), _, rfl⟩
      simp [B_objecting_1, runD, Dn.runI, env0, mSeq, mIfE, mOr, mAnd, mNot, mBool, mOps, evs, Op.ev, Op.res, resAll, mRet, mC, mVar, mMove, mNx, mSet, mExpr, mCall, mCallE, mA0, mA1, mLst, mTup, T.d, fF, fB, mAndV, mOrV, mNotV, mIt, mRaise, LIM, List.replicate, bind_ok, bind_ex, bind_no, restE, wipeE, slot0, e2', e3, fSum, his, fIx_eq, fIB, q])
  simp only [Ex] at hf
  rcases hf with ⟨ρ', e, -⟩ | ⟨t, ρ', e, ht⟩
  · exact ⟨.fz .non, obj_nx (t := .fz .non) B.srt (cw_ok B) h e1 e, .inl rfl⟩
  · exact ⟨t, obj_rt B.srt (cw_ok B) h e1 e, .inr ht⟩
end
end K90

set_option Elab.async false
set_option linter.all false
set_option maxRecDepth 100000
set_option maxHeartbeats 4000000
namespace K90
open PySem PySem.Spec L2 Dn
open PyProof.Rows hiding St
open PySem.PyData (strOk)
def Gw (way : Nat) (b m mv p s : D) : R Unit T := match way with
  | 0 => F_group_need [b, m, mv, p]
  | 1 => F_sharing [b, mv, p]
  | 2 => F_saved [b, mv, p]
  | 3 => F_common_move [b, mv, p]
  | _ => F_objecting [b, mv, p, s]
def TB : List (Str × Str × Str) := [("BadBooks", "given", "books"), ("BadOwners", "given", "owners"), ("BadCount", "count", "count"), ("BadMove", "given", "move"), ("BadPrices", "given", "prices"), ("UnknownUnit", "given", "unit"), ("BadShares", "given", "shares")]
theorem wx0 {b m mv p s d : D} {x f : Str} (hG : F_group_need [b, m, mv, p] = .ex ⟨x, [(f, d)]⟩ ()) : B__law_asked_1 [some (.fz (.int 0)), some (.fz b), some (.fz m), some (.fz mv), some (.fz p), some (.fz s), none] = .ex ⟨x, [(f, d)]⟩ [some (.fz (.int 0)), some (.fz b), some (.fz m), some (.fz mv), some (.fz p), some (.fz s), none] := by
  simp [B__law_asked_1, runD, Dn.runI, env0, mSeq, mIfE, mOr, mAnd, mNot, mBool, mOps, evs, Op.ev, Op.res, resAll, mRet, mC, mVar, mMove, mNx, mSet, mExpr, mCall, mCallE, mA0, mA1, mLst, mTup, T.d, fF, fB, mAndV, mOrV, mNotV, mIt, mRaise, LIM, List.replicate, bind_ok, bind_ex, bind_no, restE, wipeE, slot0, fEq_ii, hG]
theorem wt0 {b m mv p s : D} {k : Int} (hG : F_group_need [b, m, mv, p] = .ok (.fz (.int k)) ()) : B__law_asked_1 [some (.fz (.int 0)), some (.fz b), some (.fz m), some (.fz mv), some (.fz p), some (.fz s), none] = .ok (.rt (.fz (.tup [.str "told", .bl true]))) [some (.fz (.int 0)), some (.fz b), some (.fz m), some (.fz mv), some (.fz p), some (.fz s), none] := by
  simp [B__law_asked_1, runD, Dn.runI, env0, mSeq, mIfE, mOr, mAnd, mNot, mBool, mOps, evs, Op.ev, Op.res, resAll, mRet, mC, mVar, mMove, mNx, mSet, mExpr, mCall, mCallE, mA0, mA1, mLst, mTup, T.d, fF, fB, mAndV, mOrV, mNotV, mIt, mRaise, LIM, List.replicate, bind_ok, bind_ex, bind_no, restE, wipeE, slot0, fEq_ii, hG, fIsi, D.ty, subTy]
theorem wx1 {b m mv p s d : D} {x f : Str} (hG : F_sharing [b, mv, p] = .ex ⟨x, [(f, d)]⟩ ()) : B__law_asked_1 [some (.fz (.int 1)), some (.fz b), some (.fz m), some (.fz mv), some (.fz p), some (.fz s), none] = .ex ⟨x, [(f, d)]⟩ [some (.fz (.int 1)), some (.fz b), some (.fz m), some (.fz mv), some (.fz p), some (.fz s), none] := by
  simp [B__law_asked_1, runD, Dn.runI, env0, mSeq, mIfE, mOr, mAnd, mNot, mBool, mOps, evs, Op.ev, Op.res, resAll, mRet, mC, mVar, mMove, mNx, mSet, mExpr, mCall, mCallE, mA0, mA1, mLst, mTup, T.d, fF, fB, mAndV, mOrV, mNotV, mIt, mRaise, LIM, List.replicate, bind_ok, bind_ex, bind_no, restE, wipeE, slot0, fEq_ii, hG]
theorem wt1 {b m mv p s : D} {l : List (Key × D)} (hG : F_sharing [b, mv, p] = .ok (.od l) ()) : B__law_asked_1 [some (.fz (.int 1)), some (.fz b), some (.fz m), some (.fz mv), some (.fz p), some (.fz s), none] = .ok (.rt (.fz (.tup [.str "told", .bl true]))) [some (.fz (.int 1)), some (.fz b), some (.fz m), some (.fz mv), some (.fz p), some (.fz s), none] := by
  simp [B__law_asked_1, runD, Dn.runI, env0, mSeq, mIfE, mOr, mAnd, mNot, mBool, mOps, evs, Op.ev, Op.res, resAll, mRet, mC, mVar, mMove, mNx, mSet, mExpr, mCall, mCallE, mA0, mA1, mLst, mTup, T.d, fF, fB, mAndV, mOrV, mNotV, mIt, mRaise, LIM, List.replicate, bind_ok, bind_ex, bind_no, restE, wipeE, slot0, fEq_ii, hG, fIsi, D.ty, subTy]
theorem wx2 {b m mv p s d : D} {x f : Str} (hG : F_saved [b, mv, p] = .ex ⟨x, [(f, d)]⟩ ()) : B__law_asked_1 [some (.fz (.int 2)), some (.fz b), some (.fz m), some (.fz mv), some (.fz p), some (.fz s), none] = .ex ⟨x, [(f, d)]⟩ [some (.fz (.int 2)), some (.fz b), some (.fz m), some (.fz mv), some (.fz p), some (.fz s), none] := by
  simp [B__law_asked_1, runD, Dn.runI, env0, mSeq, mIfE, mOr, mAnd, mNot, mBool, mOps, evs, Op.ev, Op.res, resAll, mRet, mC, mVar, mMove, mNx, mSet, mExpr, mCall, mCallE, mA0, mA1, mLst, mTup, T.d, fF, fB, mAndV, mOrV, mNotV, mIt, mRaise, LIM, List.replicate, bind_ok, bind_ex, bind_no, restE, wipeE, slot0, fEq_ii, hG]
theorem wt2 {b m mv p s : D} {k : Int} (hG : F_saved [b, mv, p] = .ok (.fz (.int k)) ()) : B__law_asked_1 [some (.fz (.int 2)), some (.fz b), some (.fz m), some (.fz mv), some (.fz p), some (.fz s), none] = .ok (.rt (.fz (.tup [.str "told", .bl true]))) [some (.fz (.int 2)), some (.fz b), some (.fz m), some (.fz mv), some (.fz p), some (.fz s), none] := by
  simp [B__law_asked_1, runD, Dn.runI, env0, mSeq, mIfE, mOr, mAnd, mNot, mBool, mOps, evs, Op.ev, Op.res, resAll, mRet, mC, mVar, mMove, mNx, mSet, mExpr, mCall, mCallE, mA0, mA1, mLst, mTup, T.d, fF, fB, mAndV, mOrV, mNotV, mIt, mRaise, LIM, List.replicate, bind_ok, bind_ex, bind_no, restE, wipeE, slot0, fEq_ii, hG, fIsi, D.ty, subTy]
theorem wx3 {b m mv p s d : D} {x f : Str} (hG : F_common_move [b, mv, p] = .ex ⟨x, [(f, d)]⟩ ()) : B__law_asked_1 [some (.fz (.int 3)), some (.fz b), some (.fz m), some (.fz mv), some (.fz p), some (.fz s), none] = .ex ⟨x, [(f, d)]⟩ [some (.fz (.int 3)), some (.fz b), some (.fz m), some (.fz mv), some (.fz p), some (.fz s), none] := by
  simp [B__law_asked_1, runD, Dn.runI, env0, mSeq, mIfE, mOr, mAnd, mNot, mBool, mOps, evs, Op.ev, Op.res, resAll, mRet, mC, mVar, mMove, mNx, mSet, mExpr, mCall, mCallE, mA0, mA1, mLst, mTup, T.d, fF, fB, mAndV, mOrV, mNotV, mIt, mRaise, LIM, List.replicate, bind_ok, bind_ex, bind_no, restE, wipeE, slot0, fEq_ii, hG]
theorem wt3 {b m mv p s : D} {t : T} (ht : fNe [t.d, .str "x"] = some (.bl true)) (hG : F_common_move [b, mv, p] = .ok t ()) : B__law_asked_1 [some (.fz (.int 3)), some (.fz b), some (.fz m), some (.fz mv), some (.fz p), some (.fz s), none] = .ok (.rt (.fz (.tup [.str "told", .bl true]))) [some (.fz (.int 3)), some (.fz b), some (.fz m), some (.fz mv), some (.fz p), some (.fz s), none] := by
  cases t <;> simp only [T.d] at ht <;> simp [B__law_asked_1, runD, Dn.runI, env0, mSeq, mIfE, mOr, mAnd, mNot, mBool, mOps, evs, Op.ev, Op.res, resAll, mRet, mC, mVar, mMove, mNx, mSet, mExpr, mCall, mCallE, mA0, mA1, mLst, mTup, T.d, fF, fB, mAndV, mOrV, mNotV, mIt, mRaise, LIM, List.replicate, bind_ok, bind_ex, bind_no, restE, wipeE, slot0, fEq_ii, hG, ht]
theorem wx4 {b m mv p s d : D} {x f : Str} (hG : F_objecting [b, mv, p, s] = .ex ⟨x, [(f, d)]⟩ ()) : B__law_asked_1 [some (.fz (.int 4)), some (.fz b), some (.fz m), some (.fz mv), some (.fz p), some (.fz s), none] = .ex ⟨x, [(f, d)]⟩ [some (.fz (.int 4)), some (.fz b), some (.fz m), some (.fz mv), some (.fz p), some (.fz s), none] := by
  simp [B__law_asked_1, runD, Dn.runI, env0, mSeq, mIfE, mOr, mAnd, mNot, mBool, mOps, evs, Op.ev, Op.res, resAll, mRet, mC, mVar, mMove, mNx, mSet, mExpr, mCall, mCallE, mA0, mA1, mLst, mTup, T.d, fF, fB, mAndV, mOrV, mNotV, mIt, mRaise, LIM, List.replicate, bind_ok, bind_ex, bind_no, restE, wipeE, slot0, fEq_ii, hG]
theorem wt4 {b m mv p s : D} {t : T} (ht : fNe [t.d, .str "x"] = some (.bl true)) (hG : F_objecting [b, mv, p, s] = .ok t ()) : B__law_asked_1 [some (.fz (.int 4)), some (.fz b), some (.fz m), some (.fz mv), some (.fz p), some (.fz s), none] = .ok (.rt (.fz (.tup [.str "told", .bl true]))) [some (.fz (.int 4)), some (.fz b), some (.fz m), some (.fz mv), some (.fz p), some (.fz s), none] := by
  cases t <;> simp only [T.d] at ht <;> simp [B__law_asked_1, runD, Dn.runI, env0, mSeq, mIfE, mOr, mAnd, mNot, mBool, mOps, evs, Op.ev, Op.res, resAll, mRet, mC, mVar, mMove, mNx, mSet, mExpr, mCall, mCallE, mA0, mA1, mLst, mTup, T.d, fF, fB, mAndV, mOrV, mNotV, mIt, mRaise, LIM, List.replicate, bind_ok, bind_ex, bind_no, restE, wipeE, slot0, fEq_ii, hG, ht]
theorem asked_ex {way : Nat} (hw : way < 5) {b m mv p s d : D} {x f tag : Str} (ht : (x, f, tag) ∈ TB) (hG : Gw way b m mv p s = .ex ⟨x, [(f, d)]⟩ ()) : F__law_asked [.int (way : Int), b, m, mv, p, s] = .ok (.fz (.tup [.str tag, d])) () := by
  have hB : B__law_asked_1 [some (.fz (.int (way : Int))), some (.fz b), some (.fz m), some (.fz mv), some (.fz p), some (.fz s), none] = .ex ⟨x, [(f, d)]⟩ [some (.fz (.int (way : Int))), some (.fz b), some (.fz m), some (.fz mv), some (.fz p), some (.fz s), none] := by
    match way, hw, hG with
    | 0, _, hG => exact wx0 hG
    | 1, _, hG => exact wx1 hG
    | 2, _, hG => exact wx2 hG
    | 3, _, hG => exact wx3 hG
    | 4, _, hG => exact wx4 hG
  show (match (match B__law_asked_1 [some (.fz (.int (way : Int))), some (.fz b), some (.fz m), some (.fz mv), some (.fz p), some (.fz s), none] with
    | .ex x ρ' => if x.cls ∈ exL then pickT x ρ' _ else .no
    | r => r) with | .ok (.rt t) _ => R.ok t () | .ok .nx _ => .ok (.fz .non) () | .ok _ _ => .no | .ex x _ => .ex x () | .no => .no) = _
  rw [hB]
  simp only [TB, List.mem_cons, List.not_mem_nil, or_false, Prod.mk.injEq] at ht
  rcases ht with ⟨rfl, rfl, rfl⟩ | ⟨rfl, rfl, rfl⟩ | ⟨rfl, rfl, rfl⟩ | ⟨rfl, rfl, rfl⟩ | ⟨rfl, rfl, rfl⟩ | ⟨rfl, rfl, rfl⟩ | ⟨rfl, rfl, rfl⟩ <;> kernel_rfl
def ToldT (way : Nat) (t : T) : Prop := match way with
  | 0 => ∃ k : Int, t = .fz (.int k)
  | 1 => ∃ l, t = .od l
  | 2 => ∃ k : Int, t = .fz (.int k)
  | _ => fNe [t.d, .str "x"] = some (.bl true)
theorem asked_told {way : Nat} (hw : way < 5) {b m mv p s : D} {t : T} (ht : ToldT way t) (hG : Gw way b m mv p s = .ok t ()) : F__law_asked [.int (way : Int), b, m, mv, p, s] = .ok (.fz (.tup [.str "told", .bl true])) () := by
  have hB : ∃ ρ', B__law_asked_1 [some (.fz (.int (way : Int))), some (.fz b), some (.fz m), some (.fz mv), some (.fz p), some (.fz s), none] = .ok (.rt (.fz (.tup [.str "told", .bl true]))) ρ' := by
    refine ⟨[some (.fz (.int (way : Int))), some (.fz b), some (.fz m), some (.fz mv), some (.fz p), some (.fz s), none], ?_⟩
    match way, hw, hG, ht with
    | 0, _, hG, ht => obtain ⟨k, rfl⟩ := ht; exact wt0 hG
    | 1, _, hG, ht => obtain ⟨k, rfl⟩ := ht; exact wt1 hG
    | 2, _, hG, ht => obtain ⟨k, rfl⟩ := ht; exact wt2 hG
    | 3, _, hG, ht => exact wt3 ht hG
    | 4, _, hG, ht => exact wt4 ht hG
  obtain ⟨ρ', hB⟩ := hB
  show (match (match B__law_asked_1 [some (.fz (.int (way : Int))), some (.fz b), some (.fz m), some (.fz mv), some (.fz p), some (.fz s), none] with
    | .ex x ρ' => if x.cls ∈ exL then pickT x ρ' _ else .no
    | r => r) with | .ok (.rt t) _ => R.ok t () | .ok .nx _ => .ok (.fz .non) () | .ok _ _ => .no | .ex x _ => .ex x () | .no => .no) = _
  rw [hB]
section
variable {kvs : KB}
theorem gw_world {way : Nat} (h0 : way = 0 → F_group_need [b, m, mv, p] = .ex x ()) (hw : F_check_world [b, mv, p] = .ex x ()) : Gw way b m mv p s = .ex x () := by
  match way with
  | 0 => exact h0 rfl
  | 1 => exact sharing_ex hw
  | 2 => exact saved_ex hw
  | 3 => exact common_ex hw
  | n + 4 => exact objecting_ex hw
theorem gw_books {way : Nat} {b m mv p s : D} (h : F_are_books [b] = .ok (.fz (.bl false)) ()) : Gw way b m mv p s = .ex ⟨"BadBooks", [("given", b)]⟩ () :=
  gw_world (fun _ => need_books h) (cw_books h)
def nmD (kvs : KB) : D := .lst ((nms kvs).map .str)
theorem gw_moves (B : RB kvs) {way : Nat} {mv p s : D} {x : Ex} (h : F_check_moves [mv] = .ex x ()) : Gw way (dB kvs) (nmD kvs) mv p s = .ex x () :=
  gw_world (fun _ => need_world B (List.mem_cons_of_mem _ B.nl) (fun _ h => h) (cw_moves B h)) (cw_moves B h)
theorem gw_prices (B : RB kvs) {way : Nat} {p s : D} {x : Ex} (h : F_check_prices [p] = .ex x ()) : Gw way (dB kvs) (nmD kvs) mvD p s = .ex x () :=
  gw_world (fun _ => need_world B (List.mem_cons_of_mem _ B.nl) (fun _ h => h) (cw_prices B h)) (cw_prices B h)
theorem gw_unit (B : RB kvs) {way : Nat} {s o : D} {os : List D} (h : allO kvs = o :: os) : Gw way (dB kvs) (nmD kvs) mvD (.dk []) s = .ex ⟨"UnknownUnit", [("given", unitD o)]⟩ () :=
  gw_world (fun _ => need_world B (List.mem_cons_of_mem _ B.nl) (fun _ h => h) (cw_unit B h)) (cw_unit B h)
theorem ne_x_non : fNe [.non, .str "x"] = some (.bl true) := by kernel_rfl
theorem ne_x_int (i : Int) : fNe [.int i, .str "x"] = some (.bl true) := by kernel_rfl
theorem ne_x_lst {ds : List D} (h : ∀ d ∈ ds, Lay d) : fNe [.lst ds, .str "x"] = some (.bl true) := by
  obtain ⟨ps, h4, h5, h6, h7⟩ := lay_list h
  have e1 : SeqAt.shaped (.list ps) = true := by
    unfold SeqAt.shaped; simp [PyData.canLay0, h5, PyData.depth]; omega
  have e2 : SeqAt.shaped (.str "x") = true := by decide +kernel
  have e3 : PyData.eqv (.list ps) (.str "x") = false := by simp [PyData.eqv]
  simp only [fNe, eqD, D.py, h4, Option.map_some, e1, e2, e3]
  simp
theorem lay_str {x : Str} (h : strOk x = true) : Lay (.str x) := ⟨.str x, rfl, by simpa [PyData.canLay0] using h, by simp [PyData.depth]⟩
theorem nm_ok : ∀ n ∈ NM, strOk n = true := by
  have h : (NM.all strOk) = true := by decide +kernel
  exact fun n hn => List.all_eq_true.mp h n hn
theorem gw_told (B : RB kvs) {way : Nat} (hw : way < 4) {s : D} : ∃ t, Gw way (dB kvs) (nmD kvs) mvD prD s = .ok t () ∧ ToldT way t := by
  have : way = 0 ∨ way = 1 ∨ way = 2 ∨ way = 3 := by omega
  rcases this with rfl | rfl | rfl | rfl
  · obtain ⟨k, i, e, -⟩ := need_ok B (List.mem_cons_of_mem _ B.nl) (fun _ h => h) (nl_len _ B.nl).2
    exact ⟨_, e, k, rfl⟩
  · obtain ⟨l, e⟩ := sharing_ok B
    exact ⟨_, e, l, rfl⟩
  · obtain ⟨l, e⟩ := saved_ok B
    exact ⟨_, e, l, rfl⟩
  · obtain ⟨t, e, h⟩ := common_ok B
    refine ⟨t, e, ?_⟩
    show fNe [t.d, .str "x"] = _
    rcases h with h | ⟨i, h⟩ <;> rw [h]
    · exact ne_x_non
    · exact ne_x_int i
theorem obj_told (B : RB kvs) {v : D} (h : F_are_shares [dB kvs, mvD, prD, v] = .ok (.fz (.bl true)) ()) (hv : ∀ n ∈ nms kvs, ∃ i : Int, atD v (.str n) = some (.int i)) (m : D) : ∃ t, Gw 4 (dB kvs) m mvD prD v = .ok t () ∧ ToldT 4 t := by
  obtain ⟨t, e, h⟩ := objecting_yes B h hv
  refine ⟨t, e, ?_⟩
  show fNe [t.d, .str "x"] = _
  rcases h with h | ⟨ns, h, hn⟩ <;> rw [h]
  · exact ne_x_non
  · refine ne_x_lst fun d hd => ?_
    obtain ⟨n, hnn, rfl⟩ := List.mem_map.mp hd
    obtain ⟨p, hp, e⟩ := List.mem_map.mp (show n ∈ kvs.map (·.1) from hn n hnn)
    exact lay_str (nm_ok n (e ▸ B.nm p hp))
end
end K90

set_option Elab.async false
set_option linter.all false
set_option maxRecDepth 100000
namespace K90
open PySem PySem.Spec L2 Dn
open PyProof.Rows hiding St
open PySem.PyData (strOk)
def dk1 (k : Key) (d : D) : D := .dk [(k, d)]
def kM : Key := .inr "money"
def OML : List D := [
  .tup [.lst [], .tup [.str "count", .int 0]], .tup [.lst [.dk [], .dk [], .dk [], .dk [], .dk [], .dk [], .dk [], .dk [], .dk []], .tup [.str "count", .int 9]],
  .tup [.lst [dk1 kO (.int 1)], .tup [.str "move", dk1 kO (.int 1)]], .tup [.lst [.dk [], .non, .int 5], .tup [.str "move", .non]],
  .tup [.lst [.dk [], dk1 kO (.str "1")], .tup [.str "move", dk1 kO (.str "1")]], .tup [.lst [dk1 kO (.int 0), .dk []], .tup [.str "move", dk1 kO (.int 0)]],
  .tup [.lst [dk1 kO (.int 1), .int 5], .tup [.str "move", .int 5]], .tup [.lst [.dk [], dk1 kM (.int 1)], .tup [.str "move", dk1 kM (.int 1)]],
  .tup [.lst [.dk [], dk1 kO (.bl true)], .tup [.str "move", dk1 kO (.bl true)]]]
def OPL : List D := [.non, .lst [], dk1 kO (.int 0), dk1 kO (.int 100), dk1 kO (.bl true), dk1 kM (.int 5), .dk [(.inl 5, .int 5)], dk1 kO .non, .str "oil"]
theorem ix_pick {mL : M T} {L : List D} {t : T} (h : Tp t) (hL : ∀ ρ, mL ρ = .ok (.ol L) ρ) (hl : L.length < 1000) (h0 : 0 < L.length) :
    ∃ d ∈ L, ∃ t', Dn.runI 1 (mRet (mOps (fF fIx) [.tmp mL, .tmp (mCallI 0 F__law_pick (mA1 (mC (.int (L.length : Int))) mA0))])) t [] = .ok (.fz d) t' ∧ Tp t' := by
  obtain ⟨n, t', e, h', n1, n2⟩ := pick_ok h (m := (L.length : Int)) (by omega) (by omega)
  have hn : n.toNat < L.length := by omega
  have hg : L[n.toNat]? = some L[n.toNat] := List.getElem?_eq_getElem hn
  have ha : atD (.lst L) (.int n) = some L[n.toNat] := by
    have := at_lst hg
    rwa [Int.toNat_of_nonneg n1] at this
  refine ⟨L[n.toNat], List.getElem_mem hn, t', ?_, h'⟩
  simp [runD, Dn.runI, env0, mSeq, mIfE, mOr, mAnd, mNot, mBool, mOps, evs, Op.ev, Op.res, resAll, mRet, mC, mVar, mMove, mNx, mSet, mExpr, mCall, mCallE, mA0, mA1, mLst, mTup, T.d, fF, fB, mAndV, mOrV, mNotV, mIt, mRaise, LIM, List.replicate, bind_ok, bind_ex, bind_no, restE, wipeE, slot0, mCallI, hL, e, fIx_eq, ha]
theorem odd_moves_ok {t : T} (h : Tp t) : ∃ d ∈ OML, ∃ t', F__law_odd_moves t [] = .ok (.fz d) t' ∧ Tp t' :=
  ix_pick (L := OML) h (fun ρ => by kernel_rfl) (by decide) (by decide)
theorem odd_prices_ok {t : T} (h : Tp t) : ∃ d ∈ OPL, ∃ t', F__law_odd_prices t [] = .ok (.fz d) t' ∧ Tp t' :=
  ix_pick (L := OPL) h (fun ρ => by kernel_rfl) (by decide) (by decide)
theorem oml : ∀ x ∈ OML, ∃ bad cls f tag d, x = .tup [bad, .tup [.str tag, d]] ∧ F_check_moves [bad] = .ex ⟨cls, [(f, d)]⟩ () ∧ (cls, f, tag) ∈ TB ∧ okS 11 (.tup [.str tag, d]) = true := by
  intro x hx
  simp only [OML, List.mem_cons, List.not_mem_nil, or_false] at hx
  rcases hx with rfl | rfl | rfl | rfl | rfl | rfl | rfl | rfl | rfl
  · exact ⟨_, "BadCount", "count", "count", _, rfl, by kernel_rfl, by simp [TB], by decide +kernel⟩
  · exact ⟨_, "BadCount", "count", "count", _, rfl, by kernel_rfl, by simp [TB], by decide +kernel⟩
  all_goals exact ⟨_, "BadMove", "given", "move", _, rfl, by kernel_rfl, by simp [TB], by decide +kernel⟩
theorem opl : ∀ x ∈ OPL, F_check_prices [x] = .ex ⟨"BadPrices", [("given", x)]⟩ () ∧ okS 11 (.tup [.str "prices", x]) = true := by
  intro x hx
  simp only [OPL, List.mem_cons, List.not_mem_nil, or_false] at hx
  rcases hx with rfl | rfl | rfl | rfl | rfl | rfl | rfl | rfl | rfl <;> exact ⟨by kernel_rfl, by decide +kernel⟩
/-! odd books -/
def F7 : List D := [.non, .lst [], .str "ab", .int 7, .dk [(.inl 5, .tup [.dk [], .lst []])], .dk [(.inr "house", .tup [.dk [], .lst []])], .dt [([.inr "ann"], .tup [.dk [], .lst []])]]
def L7 : List D := [dk1 kO (.int 0), dk1 kO (.bl true), dk1 kO .non, dk1 kM (.int 3), .dk [(.inl 5, .int 1)], .lst [], .non]
def L5 : List D := [sO "hold" "oil" 50 1, sO "buy" "oil" 0 1, sO "buy" "oil" 100 1, sO "buy" "oil" 50 0, .lst [.str "buy", .str "oil", .int 50, .int 1]]
def L6 : List D := [sO "buy" "house" 50 1, .tup [.str "buy", .str "oil", .bl true, .int 1], .tup [.str "buy", .str "oil", .int 50], .tup [.str "sell", .str "oil", .int 50, .non], .non]
def P7 (b : D × List D) : List D := [.non, .lst [b.1, .lst b.2], .tup [b.1], .tup [b.1, .lst b.2, .int 0], .tup [.lst b.2, b.1], .tup [b.1, .non], .tup [b.1, .dk []]]
def partsL (b : D × List D) : List D := ((P7 b ++ L7.map fun d => .tup [d, .lst b.2]) ++ L5.map fun d => .tup [b.1, .lst (b.2 ++ [d])]) ++ L6.map fun d => .tup [b.1, .lst (d :: b.2)]
theorem parts_all : (BL.all fun b => (partsL b).all fun x => isB false (F_is_book [x]) && okS 8 x) = true := by decide +kernel
theorem parts_bad : ∀ b ∈ BL, ∀ x ∈ partsL b, F_is_book [x] = .ok (.fz (.bl false)) () ∧ okS 8 x = true := fun b hb x hx => by
  have h1 := List.all_eq_true.mp parts_all b hb
  have h2 := List.all_eq_true.mp h1 x hx
  generalize F_is_book [x] = r at h2 ⊢
  rw [Bool.and_eq_true] at h2
  exact ⟨isB_eq h2.1, h2.2⟩
theorem f7_all : (F7.all fun x => isB false (F_are_books [x]) && okS 10 x) = true := by decide +kernel
theorem f7_bad : ∀ x ∈ F7, F_are_books [x] = .ok (.fz (.bl false)) () ∧ okS 10 x = true := fun x hx => by
  have h2 := List.all_eq_true.mp f7_all x hx
  generalize F_are_books [x] = r at h2 ⊢
  rw [Bool.and_eq_true] at h2
  exact ⟨isB_eq h2.1, h2.2⟩
theorem are_books_gen {l : List (Str × D)} (hk : ∀ p ∈ l, p.1 ∈ NM) {pb : D → Bool} (hv : ∀ p ∈ l, F_is_book [p.2] = .ok (.fz (.bl (pb p.2))) ()) : F_are_books [shD l] = .ok (.fz (.bl (l.all fun p => pb p.2))) () := by
  have e1 : L_are_books_1 [some (.fz (shD l)), none, none] = .ok (.ol (l.map fun _ => .bl true)) [some (.fz (shD l)), none, none] := by
    refine (lc_map (ds := l.map fun p => .str p.1) (fun _ => .bl true) (ρ0 := [some (.fz (shD l)), none, none]) (ρw := [some (.fz (shD l)), none, none]) ?_ rfl fun d hd => ?_).trans ?_
    · simp [runD, Dn.runI, env0, mSeq, mIfE, mOr, mAnd, mNot, mBool, mOps, evs, Op.ev, Op.res, resAll, mRet, mC, mVar, mMove, mNx, mSet, mExpr, mCall, mCallE, mA0, mA1, mLst, mTup, T.d, fF, fB, mAndV, mOrV, mNotV, mIt, mRaise, LIM, List.replicate, bind_ok, bind_ex, bind_no, restE, wipeE, slot0, shD_k]
    · obtain ⟨q, hq, rfl⟩ := List.mem_map.mp hd
      exact ⟨_, _, [some (.fz (shD l)), none, some (.fz (.str q.1))], .fz (.bl true), rfl, rfl, by simp [E_are_books_1, runD, Dn.runI, env0, mSeq, mIfE, mOr, mAnd, mNot, mBool, mOps, evs, Op.ev, Op.res, resAll, mRet, mC, mVar, mMove, mNx, mSet, mExpr, mCall, mCallE, mA0, mA1, mLst, mTup, T.d, fF, fB, mAndV, mOrV, mNotV, mIt, mRaise, LIM, List.replicate, bind_ok, bind_ex, bind_no, restE, wipeE, slot0, member_ok q.1 (hk q hq)], rfl, rfl⟩
    · simp [restE]
  have e2 : L_are_books_2 [some (.fz (shD l)), none, none] = .ok (.ol (l.map fun p => .bl (pb p.2))) [some (.fz (shD l)), none, none] := by
    refine (lc_map (ds := l.map fun p => p.2) (fun d => .bl (pb d)) (ρ0 := [some (.fz (shD l)), none, none]) (ρw := [some (.fz (shD l)), none, none]) ?_ rfl fun d hd => ?_).trans ?_
    · simp [runD, Dn.runI, env0, mSeq, mIfE, mOr, mAnd, mNot, mBool, mOps, evs, Op.ev, Op.res, resAll, mRet, mC, mVar, mMove, mNx, mSet, mExpr, mCall, mCallE, mA0, mA1, mLst, mTup, T.d, fF, fB, mAndV, mOrV, mNotV, mIt, mRaise, LIM, List.replicate, bind_ok, bind_ex, bind_no, restE, wipeE, slot0, shD_v]
    · obtain ⟨q, hq, rfl⟩ := List.mem_map.mp hd
      exact ⟨_, _, [some (.fz (shD l)), some (.fz q.2), none], .fz (.bl (pb q.2)), rfl, rfl, by simp [E_are_books_2, runD, Dn.runI, env0, mSeq, mIfE, mOr, mAnd, mNot, mBool, mOps, evs, Op.ev, Op.res, resAll, mRet, mC, mVar, mMove, mNx, mSet, mExpr, mCall, mCallE, mA0, mA1, mLst, mTup, T.d, fF, fB, mAndV, mOrV, mNotV, mIt, mRaise, LIM, List.replicate, bind_ok, bind_ex, bind_no, restE, wipeE, slot0, hv q hq], rfl, rfl⟩
    · simp [restE, Function.comp_def]
  have h3 := bools_f (fun p : Str × D => pb p.2) l
  have h4 : (l.map fun p => pb p.2).all id = l.all fun p => pb p.2 := by rw [List.all_map]; rfl
  generalize hb : l.map (fun p => pb p.2) = bs at h3 h4
  simp [F_are_books, M_are_books, runD, Dn.runI, env0, mSeq, mIfE, mOr, mAnd, mNot, mBool, mOps, evs, Op.ev, Op.res, resAll, mRet, mC, mVar, mMove, mNx, mSet, mExpr, mCall, mCallE, mA0, mA1, mLst, mTup, T.d, fF, fB, mAndV, mOrV, mNotV, mIt, mRaise, LIM, List.replicate, bind_ok, bind_ex, bind_no, restE, wipeE, slot0, e1, e2, fIsi, shD_ty, subTy, fAll, bools_all, h3, h4]
section
variable {kvs : KB}
/-- books with another thing at one name -/
def oddL (kvs : KB) (n : Str) (x : D) : List (Str × D) := kvs.map fun p => (p.1, if p.1 = n then x else bkD p.2)
theorem odd_put {n : Str} (hn : n ∈ nms kvs) (x : D) : (.dk (putD (kvs.map kvD) (.inr n) x) : D) = shD (oddL kvs n x) := by
  have : ((kvs.map kvD).any fun kv => decide (kv.1 = .inr n)) = true := by
    obtain ⟨p, hp, e⟩ := List.mem_map.mp (show n ∈ kvs.map (·.1) from hn)
    exact List.any_eq_true.mpr ⟨kvD p, List.mem_map_of_mem hp, by simp [kvD, e]⟩
  unfold putD
  rw [if_pos this]
  simp only [shD, oddL, List.map_map]
  congr 1
  refine List.map_congr_left fun p _ => ?_
  simp only [Function.comp, kvD, Sum.inr.injEq]
  by_cases e : p.1 = n <;> simp [e]
theorem bl_okS : ∀ b ∈ BL, okS 8 (bkD b) = true := by
  have h : (BL.all fun b => okS 8 (bkD b)) = true := by decide +kernel
  exact fun b hb => List.all_eq_true.mp h b hb
theorem odd_bad (B : RB kvs) {n : Str} (hn : n ∈ nms kvs) {x : D} (hx : F_is_book [x] = .ok (.fz (.bl false)) ()) (ho : okS 8 x = true) : F_are_books [shD (oddL kvs n x)] = .ok (.fz (.bl false)) () ∧ okS 10 (shD (oddL kvs n x)) = true := by
  classical
  have hpb := are_books_gen (l := oddL kvs n x) (pb := fun d => isB true (F_is_book [d])) (fun p hp => by
      obtain ⟨q, hq, rfl⟩ := List.mem_map.mp hp
      exact B.nm q hq) (fun p hp => by
      obtain ⟨q, hq, rfl⟩ := List.mem_map.mp hp
      by_cases e : q.1 = n
      · simp only [e, if_true, hx]; rfl
      · have hb := book_ok _ (B.bk q hq)
        simp only [e, if_false, hb]; rfl)
  constructor
  · rw [hpb]
    have : ((oddL kvs n x).all fun p => isB true (F_is_book [p.2])) = false := by
      obtain ⟨p, hp, e⟩ := List.mem_map.mp (show n ∈ kvs.map (·.1) from hn)
      refine List.all_eq_false.mpr ⟨(n, x), List.mem_map.mpr ⟨p, hp, by simp [e]⟩, ?_⟩
      simp only [hx]; decide
    rw [this]
  · have hl : kvs.length ≤ 1000 := by have := B.len; omega
    simp only [shD, oddL, okS, List.length_map, hl, decide_true, Bool.true_and]
    refine okSk_all.mpr fun p hp => ?_
    simp only [List.map_map, List.mem_map, Function.comp] at hp
    obtain ⟨q, hq, rfl⟩ := hp
    refine ⟨nm_ok _ (B.nm q hq), ?_⟩
    simp only
    by_cases e : q.1 = n
    · rw [if_pos e]; exact ho
    · rw [if_neg e]; exact bl_okS _ (B.bk q hq)
end
end K90

set_option Elab.async false
set_option linter.all false
set_option maxRecDepth 100000
namespace K90
open PySem PySem.Spec L2 Dn
open PyProof.Rows hiding St
open PySem.PyData (strOk)
section
variable {kvs : KB}
theorem odd_books_ok (B : RB kvs) {t : T} (h : Tp t) : ∃ ods t', F__law_odd_books t [dB kvs] = .ok (.ol ods) t' ∧ Tp t' ∧ ods.length ≤ 100 ∧ ∀ x ∈ ods, F_are_books [x] = .ok (.fz (.bl false)) () ∧ okS 10 x = true := by
  let S : List D := (sortS (nms kvs)).map .str
  have hS : S.length = kvs.length := by simp [S, sortS_len, nms]
  have hk1 : 1 ≤ kvs.length := by have := (nl_len _ B.nl).1; simpa [nms] using this
  obtain ⟨k, t', e, h', n1, n2⟩ := pick_ok h (m := (S.length : Int)) (by omega) (by have := B.len; omega)
  have hn : k.toNat < S.length := by omega
  have hg : S[k.toNat]? = some S[k.toNat] := List.getElem?_eq_getElem hn
  obtain ⟨n, hnm, hSn⟩ := List.mem_map.mp (show S[k.toNat] ∈ S from List.getElem_mem hn)
  have ha : atD (.lst S) (.int k) = some (.str n) := by
    have := at_lst hg
    rw [← hSn] at this
    rwa [Int.toNat_of_nonneg n1] at this
  have hnk : n ∈ nms kvs := B.sub n hnm
  have hb := B.bk _ (look_mem hnk)
  generalize hbb : look kvs n = b at hb
  have hla := look_at hnk
  rw [hbb] at hla
  have hol := (bl_orders b hb).1
  let E (f7 : Option T) (p7 : List D) (x y z : Option T) : List (Option T) := [some t', some (.fz (dB kvs)), some (.ol S), f7, some (.fz (.str n)), some (.fz b.1), some (.fz (.lst b.2)), some (.ol p7), x, y, z]
  have i1 : ∀ ρ, mIt items (mLst (mA1 (mDisp [((mC (.str "oil")), (mC (.int 0)))]) (mA1 (mDisp [((mC (.str "oil")), (mC (.bl true)))]) (mA1 (mDisp [((mC (.str "oil")), (mC .non))]) (mA1 (mDisp [((mC (.str "money")), (mC (.int 3)))]) (mA1 (mDisp [((mC (.int 5)), (mC (.int 1)))]) (mA1 (mLst mA0) (mA1 (mC .non) mA0)))))))) ρ = .ok L7 ρ := fun ρ => by kernel_rfl
  have i2 : ∀ ρ, mIt items (mLst (mA1 (mTup (mA1 (mC (.str "hold")) (mA1 (mC (.str "oil")) (mA1 (mC (.int 50)) (mA1 (mC (.int 1)) mA0))))) (mA1 (mTup (mA1 (mC (.str "buy")) (mA1 (mC (.str "oil")) (mA1 (mC (.int 0)) (mA1 (mC (.int 1)) mA0))))) (mA1 (mTup (mA1 (mC (.str "buy")) (mA1 (mC (.str "oil")) (mA1 (mC (.int 100)) (mA1 (mC (.int 1)) mA0))))) (mA1 (mTup (mA1 (mC (.str "buy")) (mA1 (mC (.str "oil")) (mA1 (mC (.int 50)) (mA1 (mC (.int 0)) mA0))))) (mA1 (mLst (mA1 (mC (.str "buy")) (mA1 (mC (.str "oil")) (mA1 (mC (.int 50)) (mA1 (mC (.int 1)) mA0))))) mA0)))))) ρ = .ok L5 ρ := fun ρ => by kernel_rfl
  have i3 : ∀ ρ, mIt items (mLst (mA1 (mTup (mA1 (mC (.str "buy")) (mA1 (mC (.str "house")) (mA1 (mC (.int 50)) (mA1 (mC (.int 1)) mA0))))) (mA1 (mTup (mA1 (mC (.str "buy")) (mA1 (mC (.str "oil")) (mA1 (mC (.bl true)) (mA1 (mC (.int 1)) mA0))))) (mA1 (mTup (mA1 (mC (.str "buy")) (mA1 (mC (.str "oil")) (mA1 (mC (.int 50)) mA0)))) (mA1 (mTup (mA1 (mC (.str "sell")) (mA1 (mC (.str "oil")) (mA1 (mC (.int 50)) (mA1 (mC .non) mA0))))) (mA1 (mC .non) mA0)))))) ρ = .ok L6 ρ := fun ρ => by kernel_rfl
  have i0 : ∀ ρ, mLst (mA1 (mC .non) (mA1 (mLst mA0) (mA1 (mC (.str "ab")) (mA1 (mC (.int 7)) (mA1 (mDisp [((mC (.int 5)), (mTup (mA1 mNewK (mA1 (mLst mA0) mA0))))]) (mA1 (mDisp [((mC (.str "house")), (mTup (mA1 mNewK (mA1 (mLst mA0) mA0))))]) (mA1 (mDispT1 (mTup (mA1 (mC (.str "ann")) mA0)) (mTup (mA1 mNewK (mA1 (mLst mA0) mA0)))) mA0))))))) ρ = .ok (.ol F7) ρ := fun ρ => by kernel_rfl
  obtain ⟨y1, e1⟩ := forL_app (g := g1 8) (body := B__law_odd_books_1) (fun a x => E (some (.ol F7)) a x none none) (fun d => .tup [d, .lst b.2]) 1000 (fun d a x => rfl) L7 (P7 b) none (fun d hd a ha => by
    have : a.length < 1048576 := by omega
    simp [E, B__law_odd_books_1, runD, Dn.runI, env0, mSeq, mIfE, mOr, mAnd, mNot, mBool, mOps, evs, Op.ev, Op.res, resAll, mRet, mC, mVar, mMove, mNx, mSet, mExpr, mCall, mCallE, mA0, mA1, mLst, mTup, T.d, fF, fB, mAndV, mOrV, mNotV, mIt, mRaise, LIM, List.replicate, bind_ok, bind_ex, bind_no, restE, wipeE, slot0, mAppend, olAt, this]) (by simp [P7, L7])
  obtain ⟨y2, e2⟩ := forL_app (g := g1 8) (body := B__law_odd_books_2) (fun a x => E (some (.ol F7)) a x none none) (fun d => .tup [b.1, .lst (b.2 ++ [d])]) 1000 (fun d a x => rfl) L5 (P7 b ++ L7.map fun d => .tup [d, .lst b.2]) y1 (fun d hd a ha => by
    have : a.length < 1048576 := by omega
    have h2 : b.2.length ≤ 1048575 := by omega
    simp [E, B__law_odd_books_2, runD, Dn.runI, env0, mSeq, mIfE, mOr, mAnd, mNot, mBool, mOps, evs, Op.ev, Op.res, resAll, mRet, mC, mVar, mMove, mNx, mSet, mExpr, mCall, mCallE, mA0, mA1, mLst, mTup, T.d, fF, fB, mAndV, mOrV, mNotV, mIt, mRaise, LIM, List.replicate, bind_ok, bind_ex, bind_no, restE, wipeE, slot0, mAppend, olAt, this, fAdd, h2]) (by simp [P7, L7, L5])
  obtain ⟨y3, e3⟩ := forL_app (g := g1 8) (body := B__law_odd_books_3) (fun a x => E (some (.ol F7)) a x none none) (fun d => .tup [b.1, .lst (d :: b.2)]) 1000 (fun d a x => rfl) L6 ((P7 b ++ L7.map fun d => .tup [d, .lst b.2]) ++ L5.map fun d => .tup [b.1, .lst (b.2 ++ [d])]) y2 (fun d hd a ha => by
    have : a.length < 1048576 := by omega
    have h2 : 1 + b.2.length ≤ 1048576 := by omega
    simp [E, B__law_odd_books_3, runD, Dn.runI, env0, mSeq, mIfE, mOr, mAnd, mNot, mBool, mOps, evs, Op.ev, Op.res, resAll, mRet, mC, mVar, mMove, mNx, mSet, mExpr, mCall, mCallE, mA0, mA1, mLst, mTup, T.d, fF, fB, mAndV, mOrV, mNotV, mIt, mRaise, LIM, List.replicate, bind_ok, bind_ex, bind_no, restE, wipeE, slot0, mAppend, olAt, this, fAdd, h2]) (by simp [P7, L7, L5, L6])
  have hpl : (partsL b).length = 24 := by simp [partsL, P7, L7, L5, L6]
  let E4 (f7 : List D) (y z : Option T) : List (Option T) := [some t', some (.fz (dB kvs)), some (.ol S), some (.ol f7), some (.fz (.str n)), some (.fz b.1), some (.fz (.lst b.2)), some (.fz (.lst (partsL b))), y3, y, z]
  have hf4 := forL_inv (g := g1 9) (body := B__law_odd_books_4) (fun ds ρ => ∃ done y z, done ++ ds = partsL b ∧ ρ = E4 (F7 ++ done.map fun x => shD (oddL kvs n x)) y z) (partsL b) (E4 F7 none none) ⟨[], none, none, by simp, by simp⟩ (fun d ds ρ hI => by
    obtain ⟨done, y, z, hd, rfl⟩ := hI
    have hdl : done.length < 24 := by
      have : (done ++ d :: ds).length = 24 := by rw [hd, hpl]
      simp at this; omega
    have hl : kvs.length < 1048576 := by have := B.len; omega
    have hp := odd_put hnk d
    have hb4 : ∀ (A : List D), A.length < 1000 → B__law_odd_books_4 (E4 A (some (.fz d)) z) = .ok .nx (E4 (A ++ [shD (oddL kvs n d)]) (some (.fz d)) (some (.fz (shD (oddL kvs n d))))) := fun A hA => by
      have hA' : A.length < 1048576 := by omega
      simp [E4, B__law_odd_books_4, runD, Dn.runI, env0, mSeq, mIfE, mOr, mAnd, mNot, mBool, mOps, evs, Op.ev, Op.res, resAll, mRet, mC, mVar, mMove, mNx, mSet, mExpr, mCall, mCallE, mA0, mA1, mLst, mTup, T.d, fF, fB, mAndV, mOrV, mNotV, mIt, mRaise, LIM, List.replicate, bind_ok, bind_ex, bind_no, restE, wipeE, slot0, fDict, dB, mStore, setAt, storeT, D.key, hl, mAppend, olAt, hA', ← hp]
    refine ⟨E4 (F7 ++ done.map fun x => shD (oddL kvs n x)) (some (.fz d)) z, E4 (F7 ++ (done ++ [d]).map fun x => shD (oddL kvs n x)) (some (.fz d)) (some (.fz (shD (oddL kvs n d)))), rfl, ?_, done ++ [d], _, _, by simpa using hd, rfl⟩
    rw [hb4 _ (by simp [F7]; omega)]
    simp)
  obtain ⟨ρ', e4, done, y, z, hd, rfl⟩ := hf4
  have hd : done = partsL b := by simpa using hd
  rw [hd] at e4
  refine ⟨F7 ++ (partsL b).map fun x => shD (oddL kvs n x), t', ?_, h', by simp [hpl, F7], fun x hx => ?_⟩
  · have hs := B.srt
    let E1 (a b c d e : Option T) : List (Option T) := [some t', some (.fz (dB kvs)), some (.ol S), a, b, c, d, e, none, none, none]
    refine runI_by (ρ := E4 (F7 ++ (partsL b).map fun x => shD (oddL kvs n x)) y z |>.set 3 none) ?_ rfl
    unfold M__law_odd_books
    refine (seq_nx (ρ' := [some t, some (.fz (dB kvs)), some (.ol S), some (.ol F7), none, none, none, none, none, none, none]) (by
      have hp1 : mOps (fun ds => (fSorted ds).map T.ol) [.var 1] (env0 11 (t :: [dB kvs].map T.fz)) = .ok (.ol S) [some t, some (.fz (dB kvs)), none, none, none, none, none, none, none, none, none] := by simp [runD, Dn.runI, env0, mSeq, mIfE, mOr, mAnd, mNot, mBool, mOps, evs, Op.ev, Op.res, resAll, mRet, mC, mVar, mMove, mNx, mSet, mExpr, mCall, mCallE, mA0, mA1, mLst, mTup, T.d, fF, fB, mAndV, mOrV, mNotV, mIt, mRaise, LIM, List.replicate, bind_ok, bind_ex, bind_no, restE, wipeE, slot0, hs, S]
      simp only [mPar2, hp1, bind_ok, i0]
      rfl)).trans ?_
    refine (seq_nx (ρ' := E1 (some (.ol F7)) (some (.fz (.str n))) none none none) (by simp [E1, runD, Dn.runI, env0, mSeq, mIfE, mOr, mAnd, mNot, mBool, mOps, evs, Op.ev, Op.res, resAll, mRet, mC, mVar, mMove, mNx, mSet, mExpr, mCall, mCallE, mA0, mA1, mLst, mTup, T.d, fF, fB, mAndV, mOrV, mNotV, mIt, mRaise, LIM, List.replicate, bind_ok, bind_ex, bind_no, restE, wipeE, slot0, mCallI, fLen, lenD, e, fIx_eq, ha])).trans ?_
    refine (seq_nx (ρ' := E1 (some (.ol F7)) (some (.fz (.str n))) (some (.fz b.1)) (some (.fz (.lst b.2))) none) (by simp [E1, runD, Dn.runI, env0, mSeq, mIfE, mOr, mAnd, mNot, mBool, mOps, evs, Op.ev, Op.res, resAll, mRet, mC, mVar, mMove, mNx, mSet, mExpr, mCall, mCallE, mA0, mA1, mLst, mTup, T.d, fF, fB, mAndV, mOrV, mNotV, mIt, mRaise, LIM, List.replicate, bind_ok, bind_ex, bind_no, restE, wipeE, slot0, mAsgT, fIx_eq, hla, bkD, gT, gs1, g1, gs0])).trans ?_
    refine (seq_nx (ρ' := E (some (.ol F7)) (P7 b) none none none) (by simp [E, E1, runD, Dn.runI, env0, mSeq, mIfE, mOr, mAnd, mNot, mBool, mOps, evs, Op.ev, Op.res, resAll, mRet, mC, mVar, mMove, mNx, mSet, mExpr, mCall, mCallE, mA0, mA1, mLst, mTup, T.d, fF, fB, mAndV, mOrV, mNotV, mIt, mRaise, LIM, List.replicate, bind_ok, bind_ex, bind_no, restE, wipeE, slot0, mNewK, P7])).trans ?_
    refine (seq_nx (for_by (i1 _) e1)).trans ?_
    refine (seq_nx (for_by (i2 _) e2)).trans ?_
    refine (seq_nx (for_by (i3 _) e3)).trans ?_
    refine (seq_nx (for_by (ds := partsL b) (ρ' := E4 F7 none none) (by simp [E, E4, runD, Dn.runI, env0, mSeq, mIfE, mOr, mAnd, mNot, mBool, mOps, evs, Op.ev, Op.res, resAll, mRet, mC, mVar, mMove, mNx, mSet, mExpr, mCall, mCallE, mA0, mA1, mLst, mTup, T.d, fF, fB, mAndV, mOrV, mNotV, mIt, mRaise, LIM, List.replicate, bind_ok, bind_ex, bind_no, restE, wipeE, slot0, items, partsL]) e4)).trans ?_
    simp [E4, runD, Dn.runI, env0, mSeq, mIfE, mOr, mAnd, mNot, mBool, mOps, evs, Op.ev, Op.res, resAll, mRet, mC, mVar, mMove, mNx, mSet, mExpr, mCall, mCallE, mA0, mA1, mLst, mTup, T.d, fF, fB, mAndV, mOrV, mNotV, mIt, mRaise, LIM, List.replicate, bind_ok, bind_ex, bind_no, restE, wipeE, slot0]
  · rcases List.mem_append.mp hx with hx | hx
    · exact f7_bad x hx
    · obtain ⟨p, hp, rfl⟩ := List.mem_map.mp hx
      obtain ⟨h1, h2⟩ := parts_bad b hb p hp
      exact odd_bad B hnk h1 h2
end
end K90

set_option Elab.async false
set_option linter.all false
set_option maxRecDepth 100000
namespace K90
open PySem PySem.Spec L2 Dn
open PyProof.Rows hiding St
open PySem.PyData (strOk)
theorem same12 {d : D} (h : okS 11 d = true) : F__law_same 12 [d, d] = .ok (.fz (.bl true)) () := same_ok 11 d h
def SL : List (List Str) := [["ann"], ["bob"], ["cid"], ["ann", "bob"], ["ann", "cid"], ["bob", "cid"], ["ann", "bob", "cid"]]
theorem nl_sl : ∀ ns ∈ NL, sortS ns ∈ SL := by
  have h : (NL.all fun ns => SL.any fun x => decide (x = sortS ns)) = true := by decide +kernel
  intro ns hn
  obtain ⟨x, hx, e⟩ := List.any_eq_true.mp (List.all_eq_true.mp h ns hn)
  rw [← of_decide_eq_true e]; exact hx
def zoeL : List Str := ["zoe"]
def oddM (sn : List Str) : List D := [.non, .str "ann", .lst ((sn ++ sn.take 1).map .str), .lst [.str "zoe"], .lst ((sn ++ zoeL).map .str), .lst [.str "house"], .lst [.int 5], .dk [], .lst [.non]]
theorem oddM_all : (SL.all fun sn => (oddM sn).all fun d => okS 10 d) = true := by decide +kernel
theorem oddM_own : (SL.all fun sn => [D.non, .str "ann", .lst ((sn ++ sn.take 1).map .str), .lst [.str "house"], .lst [.int 5], .dk [], .lst [.non]].all fun d => isB false (F_are_owners [d])) = true := by decide +kernel
theorem oddM_zoe : (SL.all fun sn => [zoeL, sn ++ zoeL].all fun ns => isB true (F_are_owners [.lst (ns.map .str)])) = true := by decide +kernel
section
variable {kvs : KB}
theorem zoe_no (B : RB kvs) : ("zoe" : Str) ∉ nms kvs := fun h => by
  obtain ⟨p, hp, e⟩ := List.mem_map.mp (show ("zoe" : Str) ∈ kvs.map (·.1) from h)
  have := B.nm p hp
  rw [e] at this
  revert this; decide +kernel
theorem owners_bad (B : RB kvs) {d : D} (hd : d ∈ oddM (sortS (nms kvs))) : F_group_need [dB kvs, d, .lst [], .non] = .ex ⟨"BadOwners", [("given", d)]⟩ () := by
  have hs := nl_sl _ B.nl
  have h1 : ∀ d ∈ [D.non, .str "ann", .lst ((sortS (nms kvs) ++ (sortS (nms kvs)).take 1).map .str), .lst [.str "house"], .lst [.int 5], .dk [], .lst [.non]], F_are_owners [d] = .ok (.fz (.bl false)) () := fun d hd => by
    have := List.all_eq_true.mp (List.all_eq_true.mp oddM_own _ hs) d hd
    generalize F_are_owners [d] = r at this ⊢
    exact isB_eq this
  have h2 : ∀ ns ∈ [zoeL, sortS (nms kvs) ++ zoeL], F_are_owners [.lst (ns.map .str)] = .ok (.fz (.bl true)) () := fun d hd => by
    have := List.all_eq_true.mp (List.all_eq_true.mp oddM_zoe _ hs) d hd
    generalize F_are_owners [.lst (d.map .str)] = r at this ⊢
    exact isB_eq this
  have hz := zoe_no B
  simp only [oddM, List.mem_cons, List.not_mem_nil, or_false] at hd
  rcases hd with rfl | rfl | rfl | rfl | rfl | rfl | rfl | rfl | rfl
  · exact need_owners B (h1 _ (by simp))
  · exact need_owners B (h1 _ (by simp))
  · exact need_owners B (h1 _ (by simp))
  · exact need_others B (ns := zoeL) (h2 _ (by simp)) (fun h => hz (h _ (by simp [zoeL])))
  · exact need_others B (ns := sortS (nms kvs) ++ zoeL) (h2 _ (by simp)) (fun h => hz (h _ (by simp [zoeL])))
  · exact need_owners B (h1 _ (by simp))
  · exact need_owners B (h1 _ (by simp))
  · exact need_owners B (h1 _ (by simp))
  · exact need_owners B (h1 _ (by simp))
theorem oddM_it {sn : List Str} (h : sn ∈ SL) (t : Option T) (b m p : D) (it : M (List D)) (hi : it = mIt items (mLst (mA1 (mC .non) (mA1 (mC (.str "ann")) (mA1 (mOps (fAdd) [.var 4, .tmp (mOps fSl01 [.var 4, .tmp (mC (.int 1))])]) (mA1 (mLst (mA1 (mC (.str "zoe")) mA0)) (mA1 (mOps (fAdd) [.var 4, .tmp (mLst (mA1 (mC (.str "zoe")) mA0))]) (mA1 (mLst (mA1 (mC (.str "house")) mA0)) (mA1 (mLst (mA1 (mC (.int 5)) mA0)) (mA1 mNewK (mA1 (mLst (mA1 (mC .non) mA0)) mA0))))))))))) :
    it [t, some (.fz b), some (.fz m), some (.fz p), some (.ol (sn.map .str)), none] = .ok (oddM sn) [t, some (.fz b), some (.fz m), some (.fz p), some (.ol (sn.map .str)), none] := by
  subst hi
  simp only [SL, List.mem_cons, List.not_mem_nil, or_false] at h
  rcases h with rfl | rfl | rfl | rfl | rfl | rfl | rfl <;> kernel_rfl
theorem members_ok (B : RB kvs) (t : T) : F__law_members_right t [dB kvs, mvD, prD] = .ok (.fz (.bl true)) t := by
  have hs := nl_sl _ B.nl
  have hsrt := B.srt
  let E (o : Option T) : List (Option T) := [some t, some (.fz (dB kvs)), some (.fz mvD), some (.fz prD), some (.ol ((sortS (nms kvs)).map .str)), o]
  obtain ⟨ρ', e, -, x, rfl⟩ := forL_inv (g := g1 5) (body := B__law_members_right_1) (fun ds ρ => (∀ d ∈ ds, d ∈ oddM (sortS (nms kvs))) ∧ ∃ x, ρ = E x) (oddM (sortS (nms kvs))) (E none) ⟨fun _ h => h, none, rfl⟩ (fun d ds ρ hI => by
    obtain ⟨h1, x, rfl⟩ := hI
    have hd := h1 d (by simp)
    have ha : F__law_asked [.int 0, dB kvs, d, .lst [], .non, .non] = .ok (.fz (.tup [.str "owners", d])) () := asked_ex (way := 0) (by decide) (x := "BadOwners") (f := "given") (by simp [TB]) (owners_bad B hd)
    have ho : okS 10 d = true := List.all_eq_true.mp (List.all_eq_true.mp oddM_all _ hs) d hd
    have hsame : F__law_same 12 [.tup [.str "owners", d], .tup [.str "owners", d]] = .ok (.fz (.bl true)) () := same12 (by
      have h0 : strOk "owners" = true := by decide +kernel
      simp [okS, okSs, ho, h0])
    refine ⟨E (some (.fz d)), E (some (.fz d)), rfl, ?_, fun d h => h1 d (List.mem_cons_of_mem _ h), _, rfl⟩
    simp [E, B__law_members_right_1, runD, Dn.runI, env0, mSeq, mIfE, mOr, mAnd, mNot, mBool, mOps, evs, Op.ev, Op.res, resAll, mRet, mC, mVar, mMove, mNx, mSet, mExpr, mCall, mCallE, mA0, mA1, mLst, mTup, T.d, fF, fB, mAndV, mOrV, mNotV, mIt, mRaise, LIM, List.replicate, bind_ok, bind_ex, bind_no, restE, wipeE, slot0, ha, hsame])
  obtain ⟨k, i, e1, -⟩ := need_ok B (ns := []) (by simp) (by simp) (by simp)
  have ha : F__law_asked [.int 0, dB kvs, .lst [], mvD, prD, .non] = .ok (.fz (.tup [.str "told", .bl true])) () := asked_told (way := 0) (by decide) (t := .fz (.int k)) ⟨k, rfl⟩ e1
  have hsame : F__law_same 12 [.tup [.str "told", .bl true], .tup [.str "told", .bl true]] = .ok (.fz (.bl true)) () := same12 (by decide +kernel)
  refine runI_by (ρ := E x) ?_ rfl
  unfold M__law_members_right
  refine (seq_nx (ρ' := E none) (by simp [E, runD, Dn.runI, env0, mSeq, mIfE, mOr, mAnd, mNot, mBool, mOps, evs, Op.ev, Op.res, resAll, mRet, mC, mVar, mMove, mNx, mSet, mExpr, mCall, mCallE, mA0, mA1, mLst, mTup, T.d, fF, fB, mAndV, mOrV, mNotV, mIt, mRaise, LIM, List.replicate, bind_ok, bind_ex, bind_no, restE, wipeE, slot0, hsrt])).trans ?_
  refine (seq_nx (for_by (oddM_it hs _ _ _ _ _ rfl) e)).trans ?_
  simp [E, runD, Dn.runI, env0, mSeq, mIfE, mOr, mAnd, mNot, mBool, mOps, evs, Op.ev, Op.res, resAll, mRet, mC, mVar, mMove, mNx, mSet, mExpr, mCall, mCallE, mA0, mA1, mLst, mTup, T.d, fF, fB, mAndV, mOrV, mNotV, mIt, mRaise, LIM, List.replicate, bind_ok, bind_ex, bind_no, restE, wipeE, slot0, ha, hsame]
end
end K90

set_option Elab.async false
set_option linter.all false
set_option maxRecDepth 100000
namespace K90
open PySem PySem.Spec L2 Dn
open PyProof.Rows hiding St
open PySem.PyData (strOk)
theorem sortS_perm_eq {a b : List Str} (p : a.Perm b) : sortS a = sortS b :=
  List.Perm.eq_of_pairwise (le := fun a b => leS a b = true) (fun _ _ _ _ h1 h2 => leS_anti h1 h2) (sortS_sorted a) (sortS_sorted b) (((sortS_perm a).trans p).trans (sortS_perm b).symm)
theorem nl_nodup : ∀ ns ∈ NL, ns.Nodup ∧ ∀ n ∈ ns, n ∈ NM := by
  intro ns h
  simp only [NL, List.mem_cons, List.not_mem_nil, or_false] at h
  rcases h with rfl | rfl | rfl | rfl | rfl | rfl | rfl | rfl | rfl | rfl | rfl | rfl | rfl | rfl | rfl <;> decide +kernel
theorem to_nl {gs : List Str} (hn : gs.Nodup) (hm : ∀ n ∈ gs, n ∈ NM) (h1 : 1 ≤ gs.length) (h3 : gs.length ≤ 3) : gs ∈ NL := by
  have e1 : ("ann" : Str) ≠ "bob" := by decide +kernel
  have e2 : ("ann" : Str) ≠ "cid" := by decide +kernel
  have e3 : ("bob" : Str) ≠ "cid" := by decide +kernel
  match gs, h1, h3 with
  | [x], _, _ =>
    have hx := hm x (by simp)
    simp only [NM, List.mem_cons, List.not_mem_nil, or_false] at hx
    rcases hx with rfl | rfl | rfl <;> simp [NL]
  | [x, y], _, _ =>
    have hx := hm x (by simp)
    have hy := hm y (by simp)
    simp only [NM, List.mem_cons, List.not_mem_nil, or_false] at hx hy
    have hxy : x ≠ y := by simp at hn; exact hn
    rcases hx with rfl | rfl | rfl <;> rcases hy with rfl | rfl | rfl <;> first | exact absurd rfl hxy | simp [NL]
  | [x, y, z], _, _ =>
    have hx := hm x (by simp)
    have hy := hm y (by simp)
    have hz := hm z (by simp)
    simp only [NM, List.mem_cons, List.not_mem_nil, or_false] at hx hy hz
    have hd : (x ≠ y ∧ x ≠ z) ∧ y ≠ z := by
      simp only [List.nodup_cons, List.mem_cons, List.not_mem_nil, or_false, not_or] at hn
      exact ⟨hn.1, hn.2.1⟩
    obtain ⟨⟨hxy, hxz⟩, hyz⟩ := hd
    rcases hx with rfl | rfl | rfl <;> rcases hy with rfl | rfl | rfl <;> first | exact absurd rfl hxy | (rcases hz with rfl | rfl | rfl <;> first | exact absurd rfl hxz | exact absurd rfl hyz | simp [NL])
theorem perm_nl {gs ns : List Str} (h : ns ∈ NL) (p : gs.Perm ns) : gs ∈ NL := by
  obtain ⟨h1, h2⟩ := nl_nodup ns h
  have h3 := nl_len ns h
  exact to_nl (p.nodup_iff.mpr h1) (fun n hn => h2 n (p.mem_iff.mp hn)) (by rw [p.length_eq]; exact h3.1) (by rw [p.length_eq]; exact h3.2)
def goodL (gs : List Str) (k : Int) : List (Str × D) := match gs with
  | [] => []
  | g :: r => (g, .int k) :: r.map fun n => (n, .int 0)
def lastv (gs : List Str) (k : Int) : Int := match gs with
  | [_] => k
  | _ => 0
def sl (gs : List Str) (k : Int) (d : D) : List (Str × D) := match gs with
  | [a] => [(a, d)]
  | [a, b] => [(a, .int k), (b, d)]
  | [a, b, c] => [(a, .int k), (b, .int 0), (c, d)]
  | _ => []
def zoeP : List (Str × D) := [("zoe", .int 0)]
def shK (l : List (Str × D)) : List (Key × D) := l.map fun p => (Sum.inr p.1, p.2)
def AM (gs : List Str) (k : Int) : List D := [.int (lastv gs k + 1), .int (lastv gs k - 1), .non, .str "0", .bl true, .lst [.int 0]]
def sE (t : T) (b m p : D) (r : List (Option T)) : List (Option T) := some t :: some (.fz b) :: some (.fz m) :: some (.fz p) :: r
section
variable {gs : List Str} (hg : gs ∈ NL) (t : T) (b m p : D) (k : Int)
include hg
theorem st_B : mSet 6 (mOps (fDict) [.tmp L__law_shares_right_1]) (sE t b m p [some (.fz (.int k)), some (.ol (gs.map .str)), none, none, none, none, none, none]) = .ok .nx (sE t b m p [some (.fz (.int k)), some (.fz (.lst (gs.map .str))), some (.od (gs.map fun n => (.inr n, .int 0))), none, none, none, none, none]) := by
  simp only [NL, List.mem_cons, List.not_mem_nil, or_false] at hg
  rcases hg with rfl | rfl | rfl | rfl | rfl | rfl | rfl | rfl | rfl | rfl | rfl | rfl | rfl | rfl | rfl <;> kernel_rfl
theorem st_C : mStore 6 (.tmp (mOps (fF fIx) [.var 5, .tmp (mC (.int 0))])) (mVar 4) (sE t b m p [some (.fz (.int k)), some (.fz (.lst (gs.map .str))), some (.od (gs.map fun n => (.inr n, .int 0))), none, none, none, none, none]) = .ok .nx (sE t b m p [some (.fz (.int k)), some (.fz (.lst (gs.map .str))), some (.od (shK (goodL gs k))), none, none, none, none, none]) := by
  simp only [NL, List.mem_cons, List.not_mem_nil, or_false] at hg
  rcases hg with rfl | rfl | rfl | rfl | rfl | rfl | rfl | rfl | rfl | rfl | rfl | rfl | rfl | rfl | rfl <;> kernel_rfl
theorem st_D : mOps (fDict) [.tmp L__law_shares_right_2] (sE t b m p [some (.fz (.int k)), some (.fz (.lst (gs.map .str))), some (.fz (shD (goodL gs k))), none, none, none, none, none]) = .ok (.od (gs.tail.map fun n => (.inr n, .int 0))) (sE t b m p [some (.fz (.int k)), some (.fz (.lst (gs.map .str))), some (.fz (shD (goodL gs k))), none, none, none, none, none]) := by
  simp only [NL, List.mem_cons, List.not_mem_nil, or_false] at hg
  rcases hg with rfl | rfl | rfl | rfl | rfl | rfl | rfl | rfl | rfl | rfl | rfl | rfl | rfl | rfl | rfl <;> kernel_rfl
theorem st_F (a : Option T) : mIt items (mLst (mA1 (mOps (fAdd) [.tmp (mOps (fF fIx) [.var 6, .tmp (mOps (fF fIx) [.var 5, .tmp (mOps (fF fNeg) [.tmp (mC (.int 1))])])]), .tmp (mC (.int 1))]) (mA1 (mOps (fF fSub) [.tmp (mOps (fF fIx) [.var 6, .tmp (mOps (fF fIx) [.var 5, .tmp (mOps (fF fNeg) [.tmp (mC (.int 1))])])]), .tmp (mC (.int 1))]) (mA1 (mC .non) (mA1 (mC (.str "0")) (mA1 (mC (.bl true)) (mA1 (mLst (mA1 (mC (.int 0)) mA0)) mA0)))))))
    (sE t b m p [some (.fz (.int k)), some (.fz (.lst (gs.map .str))), some (.fz (shD (goodL gs k))), a, none, none, none, none]) = .ok (AM gs k) (sE t b m p [some (.fz (.int k)), some (.fz (.lst (gs.map .str))), some (.fz (shD (goodL gs k))), a, none, none, none, none]) := by
  simp only [NL, List.mem_cons, List.not_mem_nil, or_false] at hg
  rcases hg with rfl | rfl | rfl | rfl | rfl | rfl | rfl | rfl | rfl | rfl | rfl | rfl | rfl | rfl | rfl <;> kernel_rfl
theorem st_G1 (a x y : Option T) (d : D) : mStore 9 (.tmp (mOps (fF fIx) [.var 5, .tmp (mOps (fF fNeg) [.tmp (mC (.int 1))])])) (mVar 8) (sE t b m p [some (.fz (.int k)), some (.fz (.lst (gs.map .str))), some (.fz (shD (goodL gs k))), a, some (.fz d), some (.od (shK (goodL gs k))), x, y]) = .ok .nx (sE t b m p [some (.fz (.int k)), some (.fz (.lst (gs.map .str))), some (.fz (shD (goodL gs k))), a, some (.fz d), some (.od (shK (sl gs k d))), x, y]) := by
  simp only [NL, List.mem_cons, List.not_mem_nil, or_false] at hg
  rcases hg with rfl | rfl | rfl | rfl | rfl | rfl | rfl | rfl | rfl | rfl | rfl | rfl | rfl | rfl | rfl <;> kernel_rfl
theorem st_G2 (a x y z : Option T) : mStore 9 (.tmp (mC (.str "zoe"))) (mC (.int 0)) (sE t b m p [some (.fz (.int k)), some (.fz (.lst (gs.map .str))), some (.fz (shD (goodL gs k))), a, z, some (.od (shK (goodL gs k))), x, y]) = .ok .nx (sE t b m p [some (.fz (.int k)), some (.fz (.lst (gs.map .str))), some (.fz (shD (goodL gs k))), a, z, some (.od (shK (goodL gs k ++ zoeP))), x, y]) := by
  simp only [NL, List.mem_cons, List.not_mem_nil, or_false] at hg
  rcases hg with rfl | rfl | rfl | rfl | rfl | rfl | rfl | rfl | rfl | rfl | rfl | rfl | rfl | rfl | rfl <;> kernel_rfl
omit t b m p k in
theorem good_ints (k : Int) : ∃ ns : List Int, (goodL gs k).map (·.2) = ns.map .int ∧ ns.sum = k := by
  simp only [NL, List.mem_cons, List.not_mem_nil, or_false] at hg
  rcases hg with rfl | rfl | rfl | rfl | rfl | rfl | rfl | rfl | rfl | rfl | rfl | rfl | rfl | rfl | rfl <;> first
    | exact ⟨[k], rfl, by simp⟩
    | exact ⟨[k, 0], rfl, by simp⟩
    | exact ⟨[k, 0, 0], rfl, by simp⟩
theorem sl_ints (k v : Int) : ∃ ns : List Int, (sl gs k (.int v)).map (·.2) = ns.map .int ∧ ns.sum = k - lastv gs k + v := by
  simp only [NL, List.mem_cons, List.not_mem_nil, or_false] at hg
  rcases hg with rfl | rfl | rfl | rfl | rfl | rfl | rfl | rfl | rfl | rfl | rfl | rfl | rfl | rfl | rfl <;> first
    | exact ⟨[v], rfl, by show v + 0 = k - k + v; omega⟩
    | exact ⟨[k, v], rfl, by simp [lastv]⟩
    | exact ⟨[k, 0, v], rfl, by simp [lastv]⟩
theorem good_keys (k : Int) : (goodL gs k).map (·.1) = gs := by
  cases gs with
  | nil => rfl
  | cons g r => simp [goodL, Function.comp_def]
theorem sl_keys (k : Int) (d : D) : (sl gs k d).map (·.1) = gs := by
  simp only [NL, List.mem_cons, List.not_mem_nil, or_false] at hg
  rcases hg with rfl | rfl | rfl | rfl | rfl | rfl | rfl | rfl | rfl | rfl | rfl | rfl | rfl | rfl | rfl <;> rfl
theorem sl_notint (k : Int) {d : D} (hd : intB d = false) : ((sl gs k d).all fun p => intB p.2) = false := by
  simp only [NL, List.mem_cons, List.not_mem_nil, or_false] at hg
  rcases hg with rfl | rfl | rfl | rfl | rfl | rfl | rfl | rfl | rfl | rfl | rfl | rfl | rfl | rfl | rfl <;> simp [sl, hd]
end
def isBl (b : Bool) : Option D → Bool
  | some (.bl c) => b == c
  | _ => false
theorem isBl_eq {b : Bool} {o : Option D} (h : isBl b o = true) : o = some (.bl b) := by
  unfold isBl at h
  split at h
  · rw [eq_of_beq h]
  · cases h
theorem ne_all : (NL.all fun gs => isBl false (fNe [.lst ((sortS gs).map .str), .lst ((sortS gs).map .str)]) && isBl true (fNe [.lst ((sortS []).map .str), .lst ((sortS gs).map .str)]) && isBl true (fNe [.lst ((sortS gs.tail).map .str), .lst ((sortS gs).map .str)])
    && isBl true (fNe [.lst ((sortS zoeL).map .str), .lst ((sortS gs).map .str)]) && isBl true (fNe [.lst ((sortS (gs ++ zoeL)).map .str), .lst ((sortS gs).map .str)])) = true := by decide +kernel
structure NeS (gs : List Str) : Prop where
  e : fNe [.lst ((sortS gs).map .str), .lst ((sortS gs).map .str)] = some (.bl false)
  n : fNe [.lst ((sortS []).map .str), .lst ((sortS gs).map .str)] = some (.bl true)
  t : fNe [.lst ((sortS gs.tail).map .str), .lst ((sortS gs).map .str)] = some (.bl true)
  z : fNe [.lst ((sortS zoeL).map .str), .lst ((sortS gs).map .str)] = some (.bl true)
  az : fNe [.lst ((sortS (gs ++ zoeL)).map .str), .lst ((sortS gs).map .str)] = some (.bl true)
theorem ne_s {gs : List Str} (hg : gs ∈ NL) : NeS gs := by
  have h := List.all_eq_true.mp ne_all gs hg
  simp only [Bool.and_eq_true] at h
  exact ⟨isBl_eq h.1.1.1.1, isBl_eq h.1.1.1.2, isBl_eq h.1.1.2, isBl_eq h.1.2, isBl_eq h.2⟩
end K90

set_option Elab.async false
set_option linter.all false
set_option maxRecDepth 100000
namespace K90
open PySem PySem.Spec L2 Dn
open PyProof.Rows hiding St
open PySem.PyData (strOk)
def oddS (gs : List Str) (k : Int) (S : List D) : List D := [.non, .lst [], .dk [], .dk (gs.tail.map fun n => (.inr n, .int 0)), .dk [(.inr "zoe", .int k)], .lst S] ++ ((AM gs k).map fun d => shD (sl gs k d)) ++ [shD (goodL gs k ++ zoeP)]
theorem okS_sh {l : List (Str × D)} (hl : l.length ≤ 1000) (h : ∀ p ∈ l, strOk p.1 = true ∧ okS 8 p.2 = true) : okS 10 (shD l) = true := by
  simp only [shD, okS, List.length_map, hl, decide_true, Bool.true_and]
  refine okSk_all.mpr fun p hp => ?_
  obtain ⟨q, hq, rfl⟩ := List.mem_map.mp hp
  exact h q hq
theorem nz_ok : ∀ n ∈ NZ, strOk n = true := by
  have h : (NZ.all strOk) = true := by decide +kernel
  exact fun n hn => List.all_eq_true.mp h n hn
theorem nm_nz : ∀ n ∈ NM, n ∈ NZ := by
  intro n h
  simp only [NM, NZ, List.mem_cons, List.not_mem_nil, or_false] at h ⊢
  rcases h with h | h | h <;> simp [h]
section
variable {kvs : KB}
theorem shares_odd (B : RB kvs) {gs : List Str} (hg : gs ∈ NL) (hs : sortS gs = sortS (nms kvs)) {k : Int} {i : D} (hk : F_worst_together [dB kvs, .lst ((sortS (nms kvs)).map .str), mvD, prD] = .ok (.fz (.tup [.int k, i])) ()) :
    ∀ v ∈ oddS gs k ((sortS (nms kvs)).map .str), F_are_shares [dB kvs, mvD, prD, v] = .ok (.fz (.bl false)) () ∧ okS 10 v = true := by
  have hN := ne_s hg
  have hlen := nl_len gs hg
  obtain ⟨hnd, hnm⟩ := nl_nodup gs hg
  have ek : ∀ (l : List (Str × D)), l.map (·.1) = gs → (∀ p ∈ l, p.1 ∈ NZ) ∧ l.length ≤ 3 := fun l hl => ⟨fun p hp => nm_nz _ (hnm _ (by rw [← hl]; exact List.mem_map_of_mem hp)), by
    have : (l.map (·.1)).length = gs.length := by rw [hl]
    rw [List.length_map] at this; omega⟩
  have hz : ("zoe" : Str) ∈ NZ := by simp [NZ]
  intro v hv
  simp only [oddS, List.mem_append, List.mem_cons, List.not_mem_nil, or_false] at hv
  rcases hv with ((rfl | rfl | rfl | rfl | rfl | rfl) | hv) | rfl
  · exact ⟨shares_kind (by decide +kernel), by decide +kernel⟩
  · exact ⟨shares_kind (by decide +kernel), by decide +kernel⟩
  · exact ⟨shares_A (l := []) B (by simp) (by simp) (by rw [← hs]; exact hN.n), by decide +kernel⟩
  · have e : (.dk (gs.tail.map fun n => (.inr n, .int 0)) : D) = shD (gs.tail.map fun n => (n, .int 0)) := by simp [shD, Function.comp_def]
    have e2 : (gs.tail.map fun n => (n, D.int 0)).map (·.1) = gs.tail := by simp [Function.comp_def]
    have h3 : ∀ p ∈ gs.tail.map (fun n => (n, D.int 0)), p.1 ∈ NZ := fun p hp => by
      obtain ⟨n, hn, rfl⟩ := List.mem_map.mp hp
      exact nm_nz _ (hnm n (List.mem_of_mem_tail hn))
    rw [e]
    refine ⟨shares_A B h3 (by simp; omega) (by rw [e2, ← hs]; exact hN.t), okS_sh (by simp; omega) fun p hp => ⟨nz_ok _ (h3 p hp), ?_⟩⟩
    obtain ⟨n, hn, rfl⟩ := List.mem_map.mp hp
    rfl
  · have e : (.dk [(.inr "zoe", .int k)] : D) = shD [("zoe", .int k)] := rfl
    rw [e]
    refine ⟨shares_A B (by simpa using hz) (by simp) (by rw [← hs]; exact hN.z), okS_sh (by simp) fun p hp => ?_⟩
    rw [List.mem_singleton.mp hp]; exact ⟨nz_ok _ hz, rfl⟩
  · refine ⟨shares_kind rfl, ?_⟩
    have hl : ((sortS (nms kvs)).map D.str).length ≤ 1000 := by have := B.slen; simp; omega
    simp only [okS, hl, decide_true, Bool.true_and]
    refine okSs_all.mpr fun d hd => ?_
    obtain ⟨n, hn, rfl⟩ := List.mem_map.mp hd
    obtain ⟨p, hp, e⟩ := List.mem_map.mp (show n ∈ kvs.map (·.1) from B.sub n hn)
    exact nm_ok n (e ▸ B.nm p hp)
  · obtain ⟨d, hd, rfl⟩ := List.mem_map.mp hv
    have hkeys := sl_keys hg k d
    obtain ⟨h1, h2⟩ := ek _ hkeys
    have hok : okS 8 d = true → okS 10 (shD (sl gs k d)) = true := fun hd8 => okS_sh (by omega) fun p hp => ⟨nz_ok _ (h1 p hp), by
      revert hp
      clear h1 h2 hkeys hk
      revert p
      simp only [NL, List.mem_cons, List.not_mem_nil, or_false] at hg
      rcases hg with rfl | rfl | rfl | rfl | rfl | rfl | rfl | rfl | rfl | rfl | rfl | rfl | rfl | rfl | rfl <;> simp [sl, hd8, okS]⟩
    have hne : fNe [.lst ((sortS ((sl gs k d).map (·.1))).map .str), .lst ((sortS (nms kvs)).map .str)] = some (.bl false) := by rw [hkeys, ← hs]; exact hN.e
    simp only [AM, List.mem_cons, List.not_mem_nil, or_false] at hd
    rcases hd with rfl | rfl | rfl | rfl | rfl | rfl
    · obtain ⟨ns, hns, hsum⟩ := sl_ints hg k (lastv gs k + 1)
      refine ⟨?_, hok rfl⟩
      rw [shares_C B h1 (by omega) hne hns hk]
      have : (ns.sum == k) = false := by rw [hsum]; simp; omega
      rw [this]
    · obtain ⟨ns, hns, hsum⟩ := sl_ints hg k (lastv gs k - 1)
      refine ⟨?_, hok rfl⟩
      rw [shares_C B h1 (by omega) hne hns hk]
      have : (ns.sum == k) = false := by rw [hsum]; simp; omega
      rw [this]
    · exact ⟨shares_B B h1 (by omega) hne (sl_notint hg k rfl), hok rfl⟩
    · exact ⟨shares_B B h1 (by omega) hne (sl_notint hg k rfl), hok (by decide +kernel)⟩
    · exact ⟨shares_B B h1 (by omega) hne (sl_notint hg k rfl), hok rfl⟩
    · exact ⟨shares_B B h1 (by omega) hne (sl_notint hg k rfl), hok (by decide +kernel)⟩
  · have hkeys := good_keys hg k
    have e2 : (goodL gs k ++ zoeP).map (·.1) = gs ++ zoeL := by rw [List.map_append, hkeys]; rfl
    obtain ⟨h1, h2⟩ := ek _ hkeys
    have h3 : ∀ p ∈ goodL gs k ++ zoeP, p.1 ∈ NZ := fun p hp => by
      rcases List.mem_append.mp hp with hp | hp
      · exact h1 p hp
      · rw [List.mem_singleton.mp hp]; exact hz
    refine ⟨shares_A B h3 (by simp [zoeP]; omega) (by rw [e2, ← hs]; exact hN.az), okS_sh (by simp [zoeP]; omega) fun p hp => ⟨nz_ok _ (h3 p hp), ?_⟩⟩
    rcases List.mem_append.mp hp with hp | hp
    · obtain ⟨ns, hns, -⟩ := good_ints hg k
      have : p.2 ∈ ns.map D.int := by rw [← hns]; exact List.mem_map_of_mem hp
      obtain ⟨i, -, e⟩ := List.mem_map.mp this
      rw [← e]; rfl
    · rw [List.mem_singleton.mp hp]; rfl
theorem strs_perm {g : List D} {ns : List Str} (p : g.Perm (ns.map .str)) : ∃ gs : List Str, g = gs.map .str ∧ gs.Perm ns := by
  have h : ∀ d ∈ g, ∃ n, d = D.str n := fun d hd => by
    obtain ⟨n, -, e⟩ := List.mem_map.mp (p.mem_iff.mp hd)
    exact ⟨n, e.symm⟩
  have h2 : ∀ l : List D, (∀ d ∈ l, ∃ n, d = D.str n) → ∃ gs : List Str, l = gs.map .str := fun l => by
    induction l with
    | nil => exact fun _ => ⟨[], rfl⟩
    | cons d l ih =>
      intro h
      obtain ⟨n, rfl⟩ := h d (by simp)
      obtain ⟨gs, rfl⟩ := ih fun x hx => h x (List.mem_cons_of_mem _ hx)
      exact ⟨n :: gs, rfl⟩
  obtain ⟨gs, rfl⟩ := h2 g h
  refine ⟨gs, rfl, ?_⟩
  have := p.map fun d => match d with | .str n => n | _ => ""
  simpa [Function.comp_def] using this
theorem shares_right_ok (B : RB kvs) {t : T} (h : Tp t) : ∃ t', F__law_shares_right t [dB kvs, mvD, prD] = .ok (.fz (.bl true)) t' ∧ Tp t' := by
  have hsn : sortS (nms kvs) ∈ NL := nl_sorted _ B.nl
  obtain ⟨k, i, eN, hk⟩ := need_ok B (List.mem_cons_of_mem _ hsn) B.sub B.slen
  obtain ⟨g, t', es, h', pg⟩ := shuf_ok h (ds := (sortS (nms kvs)).map .str) (by have := B.slen; simp; omega) (fun d hd => by
    obtain ⟨n, hn, rfl⟩ := List.mem_map.mp hd
    exact lay_str (nm_ok n ((nl_nodup _ hsn).2 n hn)))
  obtain ⟨gs, rfl, pgs⟩ := strs_perm pg
  have hg : gs ∈ NL := perm_nl hsn pgs
  have hs : sortS gs = sortS (nms kvs) := (sortS_perm_eq pgs).trans (sortS_perm_eq (sortS_perm _))
  have hsrt := B.srt
  have hodd := shares_odd B hg hs hk
  generalize hS : (sortS (nms kvs)).map D.str = S at *
  -- the good shares
  have hkeys := good_keys hg k
  obtain ⟨ns, hns, hsum⟩ := good_ints hg k
  have hnm := (nl_nodup gs hg).2
  have hgz : ∀ p ∈ goodL gs k, p.1 ∈ NZ := fun p hp => nm_nz _ (hnm _ (by rw [← hkeys]; exact List.mem_map_of_mem hp))
  have hgl : (goodL gs k).length < 64 := by
    have : ((goodL gs k).map (·.1)).length = gs.length := by rw [hkeys]
    rw [List.length_map] at this; have := (nl_len gs hg).2; omega
  have hgood : F_are_shares [dB kvs, mvD, prD, shD (goodL gs k)] = .ok (.fz (.bl true)) () := by
    rw [shares_C (k := k) (i := .int (i : Int)) B hgz hgl (by rw [hkeys, ← hs]; exact (ne_s hg).e) hns (by rw [hS]; exact hk), hsum]
    simp
  obtain ⟨tt, hG, hT⟩ := obj_told B hgood (fun n hn => by
    have hn' : n ∈ gs := pgs.mem_iff.mpr (sortS_mem.mpr hn)
    have : (Sum.inr n : Key) ∈ ((goodL gs k).map fun p => ((Sum.inr p.1 : Key), p.2)).map (·.1) := by
      rw [List.map_map]
      rw [← hkeys] at hn'
      obtain ⟨p, hp, e⟩ := List.mem_map.mp hn'
      exact List.mem_map.mpr ⟨p, hp, by simp [e]⟩
    obtain ⟨d, h1, h2⟩ := valD_mem this
    obtain ⟨p, hp, e⟩ := List.mem_map.mp h2
    have : p.2 ∈ ns.map D.int := by rw [← hns]; exact List.mem_map_of_mem hp
    obtain ⟨j, -, e2⟩ := List.mem_map.mp this
    refine ⟨j, ?_⟩
    have e3 : d = .int j := by rw [e2]; exact (congrArg Prod.snd e).symm
    simp [atD, shD, getD0, D.key, h1, e3]) .non
  have ha : F__law_asked [.int 4, dB kvs, .non, mvD, prD, shD (goodL gs k)] = .ok (.fz (.tup [.str "told", .bl true])) () := asked_told (way := 4) (by decide) hT hG
  have hsame : F__law_same 12 [.tup [.str "told", .bl true], .tup [.str "told", .bl true]] = .ok (.fz (.bl true)) () := same12 (by decide +kernel)
  -- environments
  let G := shD (goodL gs k)
  let E (a x y : Option T) (w v : Option T) : List (Option T) := sE t' (dB kvs) mvD prD [some (.fz (.int k)), some (.fz (.lst (gs.map .str))), some (.fz G), a, x, y, w, v]
  let O6 : List D := [.non, .lst [], .dk [], .dk (gs.tail.map fun n => (.inr n, .int 0)), .dk [(.inr "zoe", .int k)], .lst S]
  have hO6 : oddS gs k S = (O6 ++ (AM gs k).map fun d => shD (sl gs k d)) ++ [shD (goodL gs k ++ zoeP)] := rfl
  have hloop : ∃ x y, forL (g1 8) B__law_shares_right_1 (AM gs k) (E (some (.ol O6)) none none none none) = .ok .nx (E (some (.ol (O6 ++ (AM gs k).map fun d => shD (sl gs k d)))) x y none none) := by
    obtain ⟨ρ', e, done, x, y, hd, rfl⟩ := forL_inv (g := g1 8) (body := B__law_shares_right_1) (fun ds ρ => ∃ done x y, done ++ ds = AM gs k ∧ ρ = E (some (.ol (O6 ++ done.map fun d => shD (sl gs k d)))) x y none none) (AM gs k) (E (some (.ol O6)) none none none none) ⟨[], none, none, by simp, by simp⟩ (fun d ds ρ hI => by
      obtain ⟨done, x, y, hd, rfl⟩ := hI
      have hdl : done.length < 6 := by
        have : (done ++ d :: ds).length = 6 := by rw [hd]; simp [AM]
        simp at this; omega
      have hb : ∀ A : List D, A.length < 1000 → B__law_shares_right_1 (E (some (.ol A)) (some (.fz d)) y none none) = .ok .nx (E (some (.ol (A ++ [shD (sl gs k d)]))) (some (.fz d)) (some (.fz (shD (sl gs k d)))) none none) := fun A hA => by
        have hA' : A.length < 1048576 := by omega
        unfold B__law_shares_right_1
        refine (seq_nx (ρ' := E (some (.ol A)) (some (.fz d)) (some (.od (shK (goodL gs k)))) none none) (by simp [E, G, sE, runD, Dn.runI, env0, mSeq, mIfE, mOr, mAnd, mNot, mBool, mOps, evs, Op.ev, Op.res, resAll, mRet, mC, mVar, mMove, mNx, mSet, mExpr, mCall, mCallE, mA0, mA1, mLst, mTup, T.d, fF, fB, mAndV, mOrV, mNotV, mIt, mRaise, LIM, List.replicate, bind_ok, bind_ex, bind_no, restE, wipeE, slot0, fDict, shD, shK])).trans ?_
        refine (seq_nx (st_G1 hg t' (dB kvs) mvD prD k _ _ _ d)).trans ?_
        simp [E, G, sE, runD, Dn.runI, env0, mSeq, mIfE, mOr, mAnd, mNot, mBool, mOps, evs, Op.ev, Op.res, resAll, mRet, mC, mVar, mMove, mNx, mSet, mExpr, mCall, mCallE, mA0, mA1, mLst, mTup, T.d, fF, fB, mAndV, mOrV, mNotV, mIt, mRaise, LIM, List.replicate, bind_ok, bind_ex, bind_no, restE, wipeE, slot0, mAppend, olAt, hA', shD, shK]
      refine ⟨E (some (.ol (O6 ++ done.map fun d => shD (sl gs k d)))) (some (.fz d)) y none none, _, rfl, hb _ (by simp [O6]; omega), done ++ [d], some (.fz d), some (.fz (shD (sl gs k d))), by simpa using hd, by simp⟩)
    have hd : done = AM gs k := by simpa using hd
    rw [hd] at e
    exact ⟨x, y, e⟩
  obtain ⟨x, y, e1⟩ := hloop
  have hl2 : (oddS gs k S).length < 100 := by simp [oddS, AM]
  let E2 (w : Option T) : List (Option T) := E (some (.fz (.lst (oddS gs k S)))) x (some (.fz (shD (goodL gs k ++ zoeP)))) w none
  obtain ⟨ρ', e2, -, w, rfl⟩ := forL_inv (g := g1 10) (body := B__law_shares_right_2) (fun ds ρ => (∀ d ∈ ds, d ∈ oddS gs k S) ∧ ∃ w, ρ = E2 w) (oddS gs k S) (E2 none) ⟨fun _ h => h, none, rfl⟩ (fun d ds ρ hI => by
    obtain ⟨h1, w, rfl⟩ := hI
    obtain ⟨hd1, hd2⟩ := hodd d (h1 d (by simp))
    have ha : F__law_asked [.int 4, dB kvs, .non, mvD, prD, d] = .ok (.fz (.tup [.str "shares", d])) () := asked_ex (way := 4) (by decide) (x := "BadShares") (f := "given") (by simp [TB]) (objecting_no B hd1)
    have hsame : F__law_same 12 [.tup [.str "shares", d], .tup [.str "shares", d]] = .ok (.fz (.bl true)) () := same12 (by
      have h0 : strOk "shares" = true := by decide +kernel
      simp [okS, okSs, hd2, h0])
    refine ⟨E2 (some (.fz d)), E2 (some (.fz d)), rfl, ?_, fun d h => h1 d (List.mem_cons_of_mem _ h), _, rfl⟩
    simp [E2, E, sE, B__law_shares_right_2, runD, Dn.runI, env0, mSeq, mIfE, mOr, mAnd, mNot, mBool, mOps, evs, Op.ev, Op.res, resAll, mRet, mC, mVar, mMove, mNx, mSet, mExpr, mCall, mCallE, mA0, mA1, mLst, mTup, T.d, fF, fB, mAndV, mOrV, mNotV, mIt, mRaise, LIM, List.replicate, bind_ok, bind_ex, bind_no, restE, wipeE, slot0, ha, hsame])
  refine ⟨t', runI_by (ρ := E2 w) ?_ rfl, h'⟩
  unfold M__law_shares_right
  refine (seq_nx (ρ' := some t :: some (.fz (dB kvs)) :: some (.fz mvD) :: some (.fz prD) :: some (.fz (.int k)) :: List.replicate 7 none) (by simp [runD, Dn.runI, env0, mSeq, mIfE, mOr, mAnd, mNot, mBool, mOps, evs, Op.ev, Op.res, resAll, mRet, mC, mVar, mMove, mNx, mSet, mExpr, mCall, mCallE, mA0, mA1, mLst, mTup, T.d, fF, fB, mAndV, mOrV, mNotV, mIt, mRaise, LIM, List.replicate, bind_ok, bind_ex, bind_no, restE, wipeE, slot0, hsrt, eN])).trans ?_
  refine (seq_nx (ρ' := sE t' (dB kvs) mvD prD [some (.fz (.int k)), some (.ol (gs.map .str)), none, none, none, none, none, none]) (by simp [sE, runD, Dn.runI, env0, mSeq, mIfE, mOr, mAnd, mNot, mBool, mOps, evs, Op.ev, Op.res, resAll, mRet, mC, mVar, mMove, mNx, mSet, mExpr, mCall, mCallE, mA0, mA1, mLst, mTup, T.d, fF, fB, mAndV, mOrV, mNotV, mIt, mRaise, LIM, List.replicate, bind_ok, bind_ex, bind_no, restE, wipeE, slot0, mCallI, hsrt, es])).trans ?_
  refine (seq_nx (st_B hg t' (dB kvs) mvD prD k)).trans ?_
  refine (seq_nx (st_C hg t' (dB kvs) mvD prD k)).trans ?_
  refine (seq_nx (ρ' := E none none none none none) (by
    have : (T.od (shK (goodL gs k))).d = shD (goodL gs k) := rfl
    simp only [T.d] at this
    simp [E, G, sE, runD, Dn.runI, env0, mSeq, mIfE, mOr, mAnd, mNot, mBool, mOps, evs, Op.ev, Op.res, resAll, mRet, mC, mVar, mMove, mNx, mSet, mExpr, mCall, mCallE, mA0, mA1, mLst, mTup, T.d, fF, fB, mAndV, mOrV, mNotV, mIt, mRaise, LIM, List.replicate, bind_ok, bind_ex, bind_no, restE, wipeE, slot0, this, ha, hsame])).trans ?_
  have hD := st_D hg t' (dB kvs) mvD prD k
  refine (seq_nx (ρ' := E (some (.ol O6)) none none none none) (by
    have hZ : mDisp [((mC (.str "zoe")), (mVar 4))] (E none none none none none) = .ok (.od [(.inr "zoe", .int k)]) (E none none none none none) := by kernel_rfl
    have hS' : mOps (fun ds => (fSorted ds).map T.ol) [.var 1] (E none none none none none) = .ok (.ol S) (E none none none none none) := by simp [E, sE, runD, Dn.runI, env0, mSeq, mIfE, mOr, mAnd, mNot, mBool, mOps, evs, Op.ev, Op.res, resAll, mRet, mC, mVar, mMove, mNx, mSet, mExpr, mCall, mCallE, mA0, mA1, mLst, mTup, T.d, fF, fB, mAndV, mOrV, mNotV, mIt, mRaise, LIM, List.replicate, bind_ok, bind_ex, bind_no, restE, wipeE, slot0, hsrt]
    have hD' : mOps (fDict) [.tmp L__law_shares_right_2] (E none none none none none) = .ok (.od (gs.tail.map fun n => (.inr n, .int 0))) (E none none none none none) := hD
    have h0 : mLst mA0 (E none none none none none) = .ok (.ol []) (E none none none none none) := rfl
    have h9 : ∀ a, (E none none none none none).set 7 a = E a none none none none := fun a => rfl
    have h12 : (E none none none none none).length = 12 := rfl
    generalize E none none none none none = ρ at *
    simp only [mSet, mLst, mA1, mC, mNewK, bind_ok, hD', hZ, hS'] at h0 ⊢
    simp [h0, mA0, LIM, h9, h12, T.d, O6, hD', hZ, hS'])).trans ?_
  refine (seq_nx (for_by (st_F hg t' (dB kvs) mvD prD k _) e1)).trans ?_
  refine (seq_nx (ρ' := E (some (.ol (O6 ++ (AM gs k).map fun d => shD (sl gs k d)))) x (some (.od (shK (goodL gs k)))) none none) (by simp [E, G, sE, runD, Dn.runI, env0, mSeq, mIfE, mOr, mAnd, mNot, mBool, mOps, evs, Op.ev, Op.res, resAll, mRet, mC, mVar, mMove, mNx, mSet, mExpr, mCall, mCallE, mA0, mA1, mLst, mTup, T.d, fF, fB, mAndV, mOrV, mNotV, mIt, mRaise, LIM, List.replicate, bind_ok, bind_ex, bind_no, restE, wipeE, slot0, fDict, shD, shK])).trans ?_
  refine (seq_nx (st_G2 hg t' (dB kvs) mvD prD k _ _ _ _)).trans ?_
  refine (seq_nx (ρ' := E (some (.ol (oddS gs k S))) x (some (.fz (shD (goodL gs k ++ zoeP)))) none none) (by
    have hA : (O6 ++ (AM gs k).map fun d => shD (sl gs k d)).length < 1048576 := by simp [O6, AM]
    rw [hO6]
    generalize O6 ++ (AM gs k).map (fun d => shD (sl gs k d)) = A at hA ⊢
    simp [E, G, sE, runD, Dn.runI, env0, mSeq, mIfE, mOr, mAnd, mNot, mBool, mOps, evs, Op.ev, Op.res, resAll, mRet, mC, mVar, mMove, mNx, mSet, mExpr, mCall, mCallE, mA0, mA1, mLst, mTup, T.d, fF, fB, mAndV, mOrV, mNotV, mIt, mRaise, LIM, List.replicate, bind_ok, bind_ex, bind_no, restE, wipeE, slot0, mAppend, olAt, hA, shD, shK])).trans ?_
  refine (seq_nx (for_by (ds := oddS gs k S) (ρ' := E2 none) (by simp [E2, E, sE, runD, Dn.runI, env0, mSeq, mIfE, mOr, mAnd, mNot, mBool, mOps, evs, Op.ev, Op.res, resAll, mRet, mC, mVar, mMove, mNx, mSet, mExpr, mCall, mCallE, mA0, mA1, mLst, mTup, T.d, fF, fB, mAndV, mOrV, mNotV, mIt, mRaise, LIM, List.replicate, bind_ok, bind_ex, bind_no, restE, wipeE, slot0, items]) e2)).trans ?_
  simp [runD, Dn.runI, env0, mSeq, mIfE, mOr, mAnd, mNot, mBool, mOps, evs, Op.ev, Op.res, resAll, mRet, mC, mVar, mMove, mNx, mSet, mExpr, mCall, mCallE, mA0, mA1, mLst, mTup, T.d, fF, fB, mAndV, mOrV, mNotV, mIt, mRaise, LIM, List.replicate, bind_ok, bind_ex, bind_no, restE, wipeE, slot0]
end
end K90

set_option Elab.async false
set_option linter.all false
set_option maxRecDepth 100000
namespace K90
open PySem PySem.Spec L2 Dn
open PyProof.Rows hiding St
open PySem.PyData (strOk)
theorem three {n : Int} (h0 : 0 ≤ n) (h : n < 3) : n = 0 ∨ n = 1 ∨ n = 2 := by omega
theorem two' {n : Int} (h0 : 0 ≤ n) (h : n < 2) : n = 0 ∨ n = 1 := by omega
theorem cut_os {n m : Int} (hn : n = 0 ∨ n = 1 ∨ n = 2) (hm : m = 0 ∨ m = 1 ∨ m = 2) : ∃ os ∈ OSL, fSl01 [.lst [sO "buy" "oil" 48 (1 + n), sO "sell" "tin" 52 2], .int m] = some (.ol os) := by
  rcases hn with rfl | rfl | rfl <;> rcases hm with rfl | rfl | rfl
  · exact ⟨[], by simp [OSL], rfl⟩
  · exact ⟨[sO "buy" "oil" 48 1], by simp [OSL], rfl⟩
  · exact ⟨[sO "buy" "oil" 48 1, sO "sell" "tin" 52 2], by simp [OSL], rfl⟩
  · exact ⟨[], by simp [OSL], rfl⟩
  · exact ⟨[sO "buy" "oil" 48 2], by simp [OSL], rfl⟩
  · exact ⟨[sO "buy" "oil" 48 2, sO "sell" "tin" 52 2], by simp [OSL], rfl⟩
  · exact ⟨[], by simp [OSL], rfl⟩
  · exact ⟨[sO "buy" "oil" 48 3], by simp [OSL], rfl⟩
  · exact ⟨[sO "buy" "oil" 48 3, sO "sell" "tin" 52 2], by simp [OSL], rfl⟩
theorem pos_at {j : Int} (hj : j = 0 ∨ j = 1 ∨ j = 2) : ∃ p ∈ PL, atD (.lst PL) (.int j) = some p := by
  rcases hj with rfl | rfl | rfl
  · exact ⟨_, by simp [PL], at_lst0⟩
  · exact ⟨_, by simp [PL], at_lst1⟩
  · exact ⟨_, by simp [PL], at_lst2⟩
theorem mem_BL {p : D} {os : List D} (hp : p ∈ PL) (ho : os ∈ OSL) : (p, os) ∈ BL := List.mem_flatMap.mpr ⟨p, hp, List.mem_map.mpr ⟨os, ho, rfl⟩⟩
theorem putD_new {kvs : KB} {n : Str} (h : n ∉ nms kvs) (b : D × List D) : putD (kvs.map kvD) (.inr n) (bkD b) = (kvs ++ [(n, b)]).map kvD := by
  have : ¬ ((kvs.map kvD).any fun kv => decide (kv.1 = .inr n)) = true := fun z => by
    obtain ⟨x, hx, e⟩ := List.any_eq_true.mp z
    obtain ⟨p, hp, rfl⟩ := List.mem_map.mp hx
    have e := of_decide_eq_true e
    simp only [kvD, Sum.inr.injEq] at e
    exact h (List.mem_map.mpr ⟨p, hp, e⟩)
  unfold putD
  rw [if_neg this]
  simp [kvD]
theorem list3 (ρ : List (Option T)) : mLst (mA1 mNewK (mA1 (mDisp [((mC (.str "oil")), (mC (.int 2)))]) (mA1 (mDisp [((mC (.str "oil")), (mOps (fF fNeg) [.tmp (mC (.int 1))])), ((mC (.str "tin")), (mC (.int 3)))]) mA0))) ρ = .ok (.ol PL) ρ := by kernel_rfl
theorem B1_ok {s k : Option T} {t : T} (h : Tp t) (nm : Option T) {kvs : KB} {n : Str} (hn : n ∉ nms kvs) (hl : kvs.length ≤ 10) (m6 p7 u8 o9 w10 o11 b12 d13 w14 o15 : Option T) : ∃ t' b os, b ∈ BL ∧ Tp t' ∧
    B_law_1 [s, k, some t, nm, some (.od (kvs.map kvD)), some (.fz (.str n)), m6, p7, u8, o9, w10, o11, b12, d13, w14, o15] = .ok .nx [s, k, some t', nm, some (.od ((kvs ++ [(n, b)]).map kvD)), some (.fz (.str n)), m6, p7, u8, o9, w10, os, b12, d13, w14, o15] := by
  obtain ⟨n1, t1, e1, h1, a1, b1⟩ := pick_ok h (m := 3) (by decide) (by decide)
  obtain ⟨n2, t2, e2, h2, a2, b2⟩ := pick_ok h1 (m := 3) (by decide) (by decide)
  obtain ⟨n3, t3, e3, h3, a3, b3⟩ := pick_ok h2 (m := 3) (by decide) (by decide)
  obtain ⟨os, hos, ec⟩ := cut_os (three a1 b1) (three a2 b2)
  obtain ⟨p, hp, ep⟩ := pos_at (three a3 b3)
  refine ⟨t3, (p, os), some (.fz (.lst os)), mem_BL hp hos, h3, ?_⟩
  unfold B_law_1
  refine (seq_nx (ρ' := [s, k, some t2, nm, some (.od (kvs.map kvD)), some (.fz (.str n)), m6, p7, u8, o9, w10, some (.ol os), b12, d13, w14, o15]) (by
    simp only [sO] at ec
    simp [runD, Dn.runI, env0, mSeq, mIfE, mOr, mAnd, mNot, mBool, mOps, evs, Op.ev, Op.res, resAll, mRet, mC, mVar, mMove, mNx, mSet, mExpr, mCall, mCallE, mA0, mA1, mLst, mTup, d_fz, d_ol, d_od, d_odt, fF, fB, mAndV, mOrV, mNotV, mIt, mRaise, LIM, List.replicate, bind_ok, bind_ex, bind_no, restE, wipeE, slot0, mCallI, e1, e2, fAdd, ec])).trans ?_
  have hp' := putD_new hn (p, os)
  simp only [bkD] at hp'
  have hl' : kvs.length < 1048576 := by omega
  have hT : mTup (mA1 (mOps (fF fIx) [.tmp (mLst (mA1 mNewK (mA1 (mDisp [((mC (.str "oil")), (mC (.int 2)))]) (mA1 (mDisp [((mC (.str "oil")), (mOps (fF fNeg) [.tmp (mC (.int 1))])), ((mC (.str "tin")), (mC (.int 3)))]) mA0)))), .tmp (mCallI 2 F__law_pick (mA1 (mC (.int 3)) mA0))]) (mA1 (mVar 11) mA0)) [s, k, some t2, nm, some (.od (kvs.map kvD)), some (.fz (.str n)), m6, p7, u8, o9, w10, some (.ol os), b12, d13, w14, o15] = .ok (.fz (.tup [p, .lst os])) [s, k, some t3, nm, some (.od (kvs.map kvD)), some (.fz (.str n)), m6, p7, u8, o9, w10, some (.fz (.lst os)), b12, d13, w14, o15] := by
    have hx : mOps (fF fIx) [.tmp (mLst (mA1 mNewK (mA1 (mDisp [((mC (.str "oil")), (mC (.int 2)))]) (mA1 (mDisp [((mC (.str "oil")), (mOps (fF fNeg) [.tmp (mC (.int 1))])), ((mC (.str "tin")), (mC (.int 3)))]) mA0)))), .tmp (mCallI 2 F__law_pick (mA1 (mC (.int 3)) mA0))] [s, k, some t2, nm, some (.od (kvs.map kvD)), some (.fz (.str n)), m6, p7, u8, o9, w10, some (.ol os), b12, d13, w14, o15] = .ok (.fz p) [s, k, some t3, nm, some (.od (kvs.map kvD)), some (.fz (.str n)), m6, p7, u8, o9, w10, some (.ol os), b12, d13, w14, o15] := by
      simp only [mOps, evs, Op.ev, list3, bind_ok]
      simp [resAll, Op.res, mCallI, mA1, mA0, mC, d_fz, d_ol, e3, fF, fIx_eq, ep]
    generalize mOps (fF fIx) _ = M0 at hx ⊢
    simp [runD, Dn.runI, env0, mSeq, mIfE, mOr, mAnd, mNot, mBool, mOps, evs, Op.ev, Op.res, resAll, mRet, mC, mVar, mMove, mNx, mSet, mExpr, mCall, mCallE, mA0, mA1, mLst, mTup, d_fz, d_ol, d_od, d_odt, fF, fB, mAndV, mOrV, mNotV, mIt, mRaise, LIM, List.replicate, bind_ok, bind_ex, bind_no, restE, wipeE, slot0, hx]
  generalize mTup _ = M1 at hT ⊢
  simp [mStore, hT, setAt, evs, Op.ev, resAll, Op.res, d_fz, storeT, D.key, LIM, hl', hp']
theorem build_ok {s k : Option T} {t : T} (h : Tp t) {ns : List Str} (hns : ns ∈ NL) (x5 m6 p7 u8 o9 w10 o11 b12 d13 w14 o15 : Option T) : ∃ t' kvs n5 os, Tp t' ∧ nms kvs = ns ∧ (∀ p ∈ kvs, p.2 ∈ BL) ∧
    forL (g1 5) B_law_1 (ns.map .str) [s, k, some t, some (.fz (.lst (ns.map .str))), some (.od []), x5, m6, p7, u8, o9, w10, o11, b12, d13, w14, o15] = .ok .nx [s, k, some t', some (.fz (.lst (ns.map .str))), some (.od (kvs.map kvD)), n5, m6, p7, u8, o9, w10, os, b12, d13, w14, o15] := by
  obtain ⟨hnd, hnm⟩ := nl_nodup ns hns
  have hlen := nl_len ns hns
  obtain ⟨ρ', e, t', kvs, n5, os, ht, hk, hb, rfl⟩ := forL_inv (g := g1 5) (body := B_law_1) (fun ds ρ => ∃ t' kvs n5 os, Tp t' ∧ (nms kvs).map D.str ++ ds = ns.map .str ∧ (∀ p ∈ kvs, p.2 ∈ BL) ∧ ρ = [s, k, some t', some (.fz (.lst (ns.map .str))), some (.od (kvs.map kvD)), n5, m6, p7, u8, o9, w10, os, b12, d13, w14, o15]) (ns.map .str) [s, k, some t, some (.fz (.lst (ns.map .str))), some (.od []), x5, m6, p7, u8, o9, w10, o11, b12, d13, w14, o15]
    ⟨t, [], x5, o11, h, by simp [nms], by simp, rfl⟩ (fun d ds ρ hI => by
      obtain ⟨t1, kvs, n5, os, ht, hk, hb, rfl⟩ := hI
      have hd : d ∈ ns.map D.str := by rw [← hk]; simp
      obtain ⟨n, hn, rfl⟩ := List.mem_map.mp hd
      have hnn : (nms kvs ++ n :: (ds.map fun d => match d with | .str x => x | _ => "")).Nodup := by
        have : ns = nms kvs ++ n :: (ds.map fun d => match d with | .str x => x | _ => "") := by
          have := congrArg (List.map fun d => match d with | .str x => x | _ => "") hk
          simpa [Function.comp_def] using this.symm
        rw [← this]; exact hnd
      have hfresh : n ∉ nms kvs := fun z => by
        rw [List.nodup_append] at hnn
        exact hnn.2.2 n z n (by simp) rfl
      have hl : kvs.length ≤ 10 := by
        have : ((nms kvs).map D.str ++ D.str n :: ds).length = ns.length := by rw [hk]; simp
        simp [nms] at this; omega
      obtain ⟨t2, b, os2, hbb, ht2, e⟩ := B1_ok ht (some (.fz (.lst (ns.map .str)))) hfresh hl m6 p7 u8 o9 w10 os b12 d13 w14 o15
      refine ⟨_, _, rfl, e, t2, kvs ++ [(n, b)], _, os2, ht2, by rw [← hk]; simp [nms], fun p hp => ?_, rfl⟩
      rcases List.mem_append.mp hp with hp | hp
      · exact hb p hp
      · rw [List.mem_singleton.mp hp]; exact hbb)
  refine ⟨t', kvs, n5, os, ht, ?_, hb, e⟩
  have := congrArg (List.map fun d => match d with | D.str x => x | _ => "") hk
  simpa [Function.comp_def] using this
end K90

set_option Elab.async false
set_option linter.all false
set_option maxRecDepth 100000
namespace K90
open PySem PySem.Spec L2 Dn
open PyProof.Rows hiding St
open PySem.PyData (strOk)
def repl (kvs : KB) (n : Str) (b : D × List D) : KB := kvs.map fun p => (p.1, if p.1 = n then b else p.2)
theorem nms_repl (kvs : KB) (n : Str) (b : D × List D) : nms (repl kvs n b) = nms kvs := by simp [nms, repl, Function.comp_def]
theorem putD_repl {kvs : KB} {n : Str} (hn : n ∈ nms kvs) (b : D × List D) : putD (kvs.map kvD) (.inr n) (bkD b) = (repl kvs n b).map kvD := by
  have : ((kvs.map kvD).any fun kv => decide (kv.1 = .inr n)) = true := by
    obtain ⟨p, hp, e⟩ := List.mem_map.mp (show n ∈ kvs.map (·.1) from hn)
    exact List.any_eq_true.mpr ⟨kvD p, List.mem_map_of_mem hp, by simp [kvD, e]⟩
  unfold putD
  rw [if_pos this]
  simp only [repl, List.map_map]
  refine List.map_congr_left fun p _ => ?_
  simp only [Function.comp, kvD, Sum.inr.injEq]
  by_cases e : p.1 = n <;> simp [e]
theorem look_repl {kvs : KB} {n : Str} (hn : n ∈ nms kvs) (b : D × List D) : look (repl kvs n b) n = b := by
  have := look_mem (kvs := repl kvs n b) (n := n) (by rw [nms_repl]; exact hn)
  obtain ⟨p, hp, e⟩ := List.mem_map.mp (show (n, look (repl kvs n b) n) ∈ kvs.map _ from this)
  simp only [Prod.mk.injEq] at e
  rw [← e.2, if_pos e.1]
theorem pick_bs {i : Int} (hi : i = 0 ∨ i = 1) : ∃ s : Str, (s = "buy" ∨ s = "sell") ∧ atD (.lst [.str "buy", .str "sell"]) (.int i) = some (.str s) := by
  rcases hi with rfl | rfl
  · exact ⟨"buy", .inl rfl, at_lst0⟩
  · exact ⟨"sell", .inr rfl, at_lst1⟩
theorem pick_ot {i : Int} (hi : i = 0 ∨ i = 1) : ∃ s : Str, (s = "oil" ∨ s = "tin") ∧ atD (.lst [.str "oil", .str "tin"]) (.int i) = some (.str s) := by
  rcases hi with rfl | rfl
  · exact ⟨"oil", .inl rfl, at_lst0⟩
  · exact ⟨"tin", .inr rfl, at_lst1⟩
theorem one_os {s u : Str} (hs : s = "buy" ∨ s = "sell") (hu : u = "oil" ∨ u = "tin") : [sO s u 48 1] ∈ OSL ∧ sO s u 48 1 ∈ OL := by
  rcases hs with rfl | rfl <;> rcases hu with rfl | rfl <;> simp [OSL, OL]
theorem first_ok {s k : Option T} {t : T} (h : Tp t) {ns : List Str} (hns : ns ∈ NL) {kvs : KB} (hk : nms kvs = ns) (hb : ∀ p ∈ kvs, p.2 ∈ BL) (n5 m6 p7 u8 o9 w10 o11 b12 d13 w14 o15 : Option T) : ∃ t' kvs' n o, Tp t' ∧ RB kvs' ∧ nms kvs' = ns ∧ n ∈ ns ∧ o ∈ OL ∧ (look kvs' n).2 = [o] ∧
    mStore 4 (.tmp (mOps (fF fIx) [.var 3, .tmp (mC (.int 0))])) (mTup (mA1 (mOps (fF fIx) [.tmp (mOps (fF fIx) [.var 4, .tmp (mOps (fF fIx) [.var 3, .tmp (mC (.int 0))])]), .tmp (mC (.int 0))]) (mA1 (mLst (mA1 (mTup (mA1 (mOps (fF fIx) [.tmp (mLst (mA1 (mC (.str "buy")) (mA1 (mC (.str "sell")) mA0))), .tmp (mCallI 2 F__law_pick (mA1 (mC (.int 2)) mA0))]) (mA1 (mOps (fF fIx) [.tmp (mLst (mA1 (mC (.str "oil")) (mA1 (mC (.str "tin")) mA0))), .tmp (mCallI 2 F__law_pick (mA1 (mC (.int 2)) mA0))]) (mA1 (mC (.int 48)) (mA1 (mC (.int 1)) mA0))))) mA0)) mA0)))
      [s, k, some t, some (.fz (.lst (ns.map .str))), some (.od (kvs.map kvD)), n5, m6, p7, u8, o9, w10, o11, b12, d13, w14, o15] = .ok .nx [s, k, some t', some (.fz (.lst (ns.map .str))), some (.od (kvs'.map kvD)), n5, m6, p7, u8, o9, w10, o11, b12, d13, w14, o15] := by
  obtain ⟨n1, t1, e1, h1, a1, b1⟩ := pick_ok h (m := 2) (by decide) (by decide)
  obtain ⟨n2, t2, e2, h2, a2, b2⟩ := pick_ok h1 (m := 2) (by decide) (by decide)
  obtain ⟨x, hx, ex⟩ := pick_bs (two' a1 b1)
  obtain ⟨u, hu, eu⟩ := pick_ot (two' a2 b2)
  obtain ⟨hos, hol⟩ := one_os hx hu
  obtain ⟨n0, r, rfl⟩ : ∃ n0 r, ns = n0 :: r := by
    have := (nl_len ns hns).1
    cases ns with
    | nil => simp at this
    | cons a b => exact ⟨a, b, rfl⟩
  have hn : n0 ∈ nms kvs := by rw [hk]; simp
  have hlk := hb _ (look_mem hn)
  have hp := bl_pos _ hlk
  have hat := look_at hn
  generalize hbb : look kvs n0 = b at hlk hp hat
  simp only at hp
  refine ⟨t2, repl kvs n0 (b.1, [sO x u 48 1]), n0, sO x u 48 1, h2, ⟨⟨fun p hp' => ?_, fun p hp' => ?_⟩, ?_⟩, ?_, by simp, hol, ?_, ?_⟩
  · have : p.1 ∈ nms (repl kvs n0 (b.1, [sO x u 48 1])) := List.mem_map_of_mem hp'
    rw [nms_repl, hk] at this
    exact (nl_nodup _ hns).2 _ this
  · obtain ⟨q, hq, rfl⟩ := List.mem_map.mp hp'
    by_cases e : q.1 = n0
    · simp only [e, if_true]; exact mem_BL hp hos
    · simp only [e, if_false]; exact hb q hq
  · rw [nms_repl, hk]; exact hns
  · rw [nms_repl, hk]
  · rw [look_repl hn]
  · have hl : kvs.length < 1048576 := by
      have h1 : (nms kvs).length = kvs.length := by simp [nms]
      rw [hk] at h1; have := (nl_len _ hns).2; omega
    have hput := putD_repl hn (b.1, [sO x u 48 1])
    simp only [bkD, sO] at hput
    have hat' : atD (.dk (kvs.map kvD)) (.str n0) = some (bkD b) := hat
    simp [mStore, runD, Dn.runI, env0, mSeq, mIfE, mOr, mAnd, mNot, mBool, mOps, evs, Op.ev, Op.res, resAll, mRet, mC, mVar, mMove, mNx, mSet, mExpr, mCall, mCallE, mA0, mA1, mLst, mTup, d_fz, d_ol, d_od, d_odt, fF, fB, mAndV, mOrV, mNotV, mIt, mRaise, LIM, List.replicate, bind_ok, bind_ex, bind_no, restE, wipeE, slot0, mCallI, fIx_eq, hat', bkD, e1, e2, ex, eu, setAt, storeT, D.key, hl, hput, sO]
section
variable {kvs : KB}
theorem unit_at {o : D} (h : o ∈ OL) : atD o (.int 1) = some (unitD o) := by
  simp only [OL, List.mem_cons, List.not_mem_nil, or_false] at h
  rcases h with rfl | rfl | rfl | rfl | rfl | rfl | rfl <;> rfl
theorem units_ok (B : RB kvs) {s k t nm : Option T} (m6 p7 o9 w10 o11 b12 d13 w14 : Option T) (n5 : Option T) : ∃ n5',
    forL (g1 5) B_law_2 ((sortS (nms kvs)).map .str) [s, k, t, nm, some (.od (kvs.map kvD)), n5, m6, p7, some (.ol []), o9, w10, o11, b12, d13, w14, none] = .ok .nx [s, k, t, nm, some (.od (kvs.map kvD)), n5', m6, p7, some (.ol ((allO kvs).map unitD)), o9, w10, o11, b12, d13, w14, none] := by
  obtain ⟨ρ', e, done, n5', hd, hm, rfl⟩ := forL_inv (g := g1 5) (body := B_law_2) (fun ds ρ => ∃ (done : List Str) (n5' : Option T), done.map D.str ++ ds = (sortS (nms kvs)).map .str ∧ (∀ n ∈ done, n ∈ nms kvs) ∧ ρ = [s, k, t, nm, some (.od (kvs.map kvD)), n5', m6, p7, some (.ol ((done.flatMap fun n => (look kvs n).2).map unitD)), o9, w10, o11, b12, d13, w14, none]) ((sortS (nms kvs)).map .str) [s, k, t, nm, some (.od (kvs.map kvD)), n5, m6, p7, some (.ol []), o9, w10, o11, b12, d13, w14, none]
    ⟨[], n5, by simp, by simp, by simp⟩ (fun d ds ρ hI => by
      obtain ⟨done, n5', hd, hm, rfl⟩ := hI
      have hdm : d ∈ (sortS (nms kvs)).map D.str := by rw [← hd]; simp
      obtain ⟨n, hn, rfl⟩ := List.mem_map.mp hdm
      have hn' := B.sub n hn
      have hat := look_at hn'
      have hlen : done.length ≤ 3 := by
        have : (done.map D.str ++ D.str n :: ds).length = (sortS (nms kvs)).length := by rw [hd]; simp
        have h3 := B.slen
        simp at this; omega
      have htot : ∀ l : List Str, (∀ n ∈ l, n ∈ nms kvs) → (l.flatMap fun n => (look kvs n).2).length ≤ 2 * l.length := fun l => by
        induction l with
        | nil => simp
        | cons a l ih =>
          intro h
          have h1 := (bl_orders _ (B.bk _ (look_mem (h a (by simp))))).1
          simp only at h1
          have h2 := ih fun n hn => h n (List.mem_cons_of_mem _ hn)
          simp only [List.flatMap_cons, List.length_append, List.length_cons]; omega
      have hA := htot done hm
      have hbo := bl_orders _ (B.bk _ (look_mem hn'))
      simp only at hbo
      refine ⟨_, [s, k, t, nm, some (.od (kvs.map kvD)), some (.fz (.str n)), m6, p7, some (.ol (((done ++ [n]).flatMap fun n => (look kvs n).2).map unitD)), o9, w10, o11, b12, d13, w14, none], rfl, ?_, done ++ [n], _, by simpa using hd, fun m hmm => ?_, rfl⟩
      · generalize hAA : (done.flatMap fun n => (look kvs n).2) = A at hA
        have e0 : ((done ++ [n]).flatMap fun n => (look kvs n).2) = A ++ (look kvs n).2 := by simp [hAA]
        rw [e0]
        generalize look kvs n = b at hat hbo
        let E0 (x : Option T) : List (Option T) := [s, k, t, nm, some (.od (kvs.map kvD)), some (.fz (.str n)), m6, p7, some (.ol (A.map unitD)), o9, w10, o11, b12, d13, w14, x]
        have hat' : atD (.dk (kvs.map kvD)) (.str n) = some (bkD b) := hat
        have eL : L_law_1 (E0 none) = .ok (.ol (b.2.map unitD)) (E0 none) := by
          refine (lc_map (ds := b.2) unitD (ρ0 := E0 none) (ρw := E0 none) ?_ rfl fun o ho => ?_).trans ?_
          · simp [E0, runD, Dn.runI, env0, mSeq, mIfE, mOr, mAnd, mNot, mBool, mOps, evs, Op.ev, Op.res, resAll, mRet, mC, mVar, mMove, mNx, mSet, mExpr, mCall, mCallE, mA0, mA1, mLst, mTup, d_fz, d_ol, d_od, d_odt, fF, fB, mAndV, mOrV, mNotV, mIt, mRaise, LIM, List.replicate, bind_ok, bind_ex, bind_no, restE, wipeE, slot0, fIx_eq, hat', bkD, items]
          · exact ⟨E0 (some (.fz o)), E0 (some (.fz o)), E0 (some (.fz o)), .fz (unitD o), rfl, rfl, by simp [E0, E_law_1, runD, Dn.runI, env0, mSeq, mIfE, mOr, mAnd, mNot, mBool, mOps, evs, Op.ev, Op.res, resAll, mRet, mC, mVar, mMove, mNx, mSet, mExpr, mCall, mCallE, mA0, mA1, mLst, mTup, d_fz, d_ol, d_od, d_odt, fF, fB, mAndV, mOrV, mNotV, mIt, mRaise, LIM, List.replicate, bind_ok, bind_ex, bind_no, restE, wipeE, slot0, fIx_eq, unit_at (hbo.2 o ho)], rfl, rfl⟩
          · simp [E0, restE]
        have hl : A.length + b.2.length ≤ 1048576 := by omega
        simp only [E0] at eL
        simp [B_law_2, runD, Dn.runI, env0, mSeq, mIfE, mOr, mAnd, mNot, mBool, mOps, evs, Op.ev, Op.res, resAll, mRet, mC, mVar, mMove, mNx, mSet, mExpr, mCall, mCallE, mA0, mA1, mLst, mTup, d_fz, d_ol, d_od, d_odt, fF, fB, mAndV, mOrV, mNotV, mIt, mRaise, LIM, List.replicate, bind_ok, bind_ex, bind_no, restE, wipeE, slot0, eL, fAdd, hl]
      · rcases List.mem_append.mp hmm with h | h
        · exact hm m h
        · rw [List.mem_singleton.mp h]; exact hn')
  have hd : done = sortS (nms kvs) := by
    have := congrArg (List.map fun d => match d with | D.str x => x | _ => "") hd
    simpa [Function.comp_def] using this
  subst hd
  exact ⟨n5', e⟩
end
end K90

set_option Elab.async false
set_option linter.all false
set_option maxRecDepth 100000
set_option maxHeartbeats 4000000
namespace K90
open PySem PySem.Spec L2 Dn
open PyProof.Rows hiding St
open PySem.PyData (strOk)
theorem mtwo {kvs : KB} (i : Int) (hi : i = 0 ∨ i = 1) (x : D) : ∃ d, atD (.lst [.non, x]) (.int i) = some d := by
  rcases hi with rfl | rfl
  · exact ⟨_, at_lst0⟩
  · exact ⟨_, at_lst1⟩
section
variable {kvs : KB}
theorem B3_ok (B : RB kvs) {od : D} (ho : F_are_books [od] = .ok (.fz (.bl false)) ()) (hok : okS 10 od = true) {t : T} (h : Tp t) (s k nm n5 m6 p7 u8 w10 o11 b12 d13 w14 o15 : Option T) (nmd : D) (bk : Option T) : ∃ t' w, Tp t' ∧
    B_law_3 [s, k, some t, some (.fz nmd), bk, n5, m6, p7, u8, some (.fz od), w10, o11, b12, d13, w14, o15] = .ok .nx [s, k, some t', some (.fz nmd), bk, n5, m6, p7, u8, some (.fz od), w, o11, b12, d13, w14, o15] := by
  obtain ⟨n1, t1, e1, h1, a1, b1⟩ := pick_ok h (m := 5) (by decide) (by decide)
  obtain ⟨n2, t2, e2, h2, a2, b2⟩ := pick_ok h1 (m := 2) (by decide) (by decide)
  obtain ⟨m, hm⟩ := mtwo (kvs := kvs) n2 (two' a2 b2) nmd
  obtain ⟨w, rfl⟩ : ∃ w : Nat, n1 = (w : Int) := ⟨n1.toNat, by omega⟩
  have ha : F__law_asked [.int (w : Int), od, m, .lst [], .non, .non] = .ok (.fz (.tup [.str "books", od])) () := asked_ex (by omega) (x := "BadBooks") (f := "given") (by simp [TB]) (gw_books ho)
  have hsame : F__law_same 12 [.tup [.str "books", od], .tup [.str "books", od]] = .ok (.fz (.bl true)) () := same12 (by
    have h0 : strOk "books" = true := by decide +kernel
    simp [okS, okSs, hok, h0])
  refine ⟨t2, some (.fz (.int (w : Int))), h2, ?_⟩
  unfold B_law_3
  refine (seq_nx (ρ' := [s, k, some t1, some (.fz nmd), bk, n5, m6, p7, u8, some (.fz od), some (.fz (.int (w : Int))), o11, b12, d13, w14, o15]) (by simp [runD, Dn.runI, env0, mSeq, mIfE, mOr, mAnd, mNot, mBool, mOps, evs, Op.ev, Op.res, resAll, mRet, mC, mVar, mMove, mNx, mSet, mExpr, mCall, mCallE, mA0, mA1, mLst, mTup, d_fz, d_ol, d_od, d_odt, fF, fB, mAndV, mOrV, mNotV, mIt, mRaise, LIM, List.replicate, bind_ok, bind_ex, bind_no, restE, wipeE, slot0, mCallI, e1])).trans ?_
  simp [runD, Dn.runI, env0, mSeq, mIfE, mOr, mAnd, mNot, mBool, mOps, evs, Op.ev, Op.res, resAll, mRet, mC, mVar, mMove, mNx, mSet, mExpr, mCall, mCallE, mA0, mA1, mLst, mTup, d_fz, d_ol, d_od, d_odt, fF, fB, mAndV, mOrV, mNotV, mIt, mRaise, LIM, List.replicate, bind_ok, bind_ex, bind_no, restE, wipeE, slot0, mCallI, e2, fIx_eq, hm, ha, hsame]
theorem B4_ok (B : RB kvs) {o : D} {os : List D} (hO : allO kvs = o :: os) {w : Nat} (hw : w < 5) {t : T} (h : Tp t) (s k n5 o9 o11 b12 d13 w14 o15 : Option T) {s4 s6 s7 : T} (h4 : s4.d = dB kvs) (h6 : s6.d = mvD) (h7 : s7.d = prD) : ∃ t' x y z, Tp t' ∧
    B_law_4 [s, k, some t, some (.fz (nmD kvs)), some s4, n5, some s6, some s7, some (.ol (unitD o :: os.map unitD)), o9, some (.fz (.int (w : Int))), o11, b12, d13, w14, o15] = .ok .nx [s, k, some t', some (.fz (nmD kvs)), some (.fz (dB kvs)), n5, some (.fz mvD), (if w < 4 then some (.fz prD) else some s7), some (.ol (unitD o :: os.map unitD)), o9, some (.fz (.int (w : Int))), o11, x, y, z, o15] := by
  obtain ⟨dd, hdd, t1, e1, h1⟩ := odd_moves_ok h
  obtain ⟨bad, cls, f, tag, d, rfl, hc, htb, hok⟩ := oml dd hdd
  obtain ⟨x2, hx2, t2, e2, h2⟩ := odd_prices_ok h1
  obtain ⟨x3, hx3, t3, e3, h3⟩ := odd_prices_ok h2
  obtain ⟨hp3, hok3⟩ := opl x3 hx3
  have a1 : F__law_asked [.int (w : Int), dB kvs, nmD kvs, bad, x2, .non] = .ok (.fz (.tup [.str tag, d])) () := asked_ex hw htb (gw_moves B hc)
  have a2 : F__law_asked [.int (w : Int), dB kvs, nmD kvs, mvD, x3, .non] = .ok (.fz (.tup [.str "prices", x3])) () := asked_ex hw (x := "BadPrices") (f := "given") (by simp [TB]) (gw_prices B hp3)
  have a3 : F__law_asked [.int (w : Int), dB kvs, nmD kvs, mvD, .dk [], .non] = .ok (.fz (.tup [.str "unit", unitD o])) () := asked_ex hw (x := "UnknownUnit") (f := "given") (by simp [TB]) (gw_unit B hO)
  have s1 := same12 hok
  have s2 := same12 hok3
  have ho : o ∈ OL := B.allO_mem o (by rw [hO]; simp)
  have hou : okS 11 (.tup [.str "unit", unitD o]) = true := by
    have hall : (OL.all fun o => okS 11 (.tup [.str "unit", unitD o])) = true := by decide +kernel
    exact List.all_eq_true.mp hall o ho
  have s3 := same12 hou
  have s4' : F__law_same 12 [.tup [.str "told", .bl true], .tup [.str "told", .bl true]] = .ok (.fz (.bl true)) () := same12 (by decide +kernel)
  refine ⟨t3, some (.fz bad), some (.fz (.tup [.str tag, d])), some (.fz x3), h3, ?_⟩
  unfold B_law_4
  refine (seq_nx (ρ' := [s, k, some t1, some (.fz (nmD kvs)), some s4, n5, some s6, some s7, some (.ol (unitD o :: os.map unitD)), o9, some (.fz (.int (w : Int))), o11, some (.fz bad), some (.fz (.tup [.str tag, d])), w14, o15]) (by simp [runD, Dn.runI, env0, mSeq, mIfE, mOr, mAnd, mNot, mBool, mOps, evs, Op.ev, Op.res, resAll, mRet, mC, mVar, mMove, mNx, mSet, mExpr, mCall, mCallE, mA0, mA1, mLst, mTup, d_fz, d_ol, d_od, d_odt, fF, fB, mAndV, mOrV, mNotV, mIt, mRaise, LIM, List.replicate, bind_ok, bind_ex, bind_no, restE, wipeE, slot0, mCallI, mAsgT, e1, gT, gs1, g1, gs0])).trans ?_
  refine (seq_nx (ρ' := [s, k, some t2, some (.fz (nmD kvs)), some (.fz (dB kvs)), n5, some s6, some s7, some (.ol (unitD o :: os.map unitD)), o9, some (.fz (.int (w : Int))), o11, some (.fz bad), some (.fz (.tup [.str tag, d])), w14, o15]) (by simp [runD, Dn.runI, env0, mSeq, mIfE, mOr, mAnd, mNot, mBool, mOps, evs, Op.ev, Op.res, resAll, mRet, mC, mVar, mMove, mNx, mSet, mExpr, mCall, mCallE, mA0, mA1, mLst, mTup, d_fz, d_ol, d_od, d_odt, fF, fB, mAndV, mOrV, mNotV, mIt, mRaise, LIM, List.replicate, bind_ok, bind_ex, bind_no, restE, wipeE, slot0, mCallI, e2, h4, a1, s1])).trans ?_
  refine (seq_nx (ρ' := [s, k, some t3, some (.fz (nmD kvs)), some (.fz (dB kvs)), n5, some s6, some s7, some (.ol (unitD o :: os.map unitD)), o9, some (.fz (.int (w : Int))), o11, some (.fz bad), some (.fz (.tup [.str tag, d])), some (.fz x3), o15]) (by simp [runD, Dn.runI, env0, mSeq, mIfE, mOr, mAnd, mNot, mBool, mOps, evs, Op.ev, Op.res, resAll, mRet, mC, mVar, mMove, mNx, mSet, mExpr, mCall, mCallE, mA0, mA1, mLst, mTup, d_fz, d_ol, d_od, d_odt, fF, fB, mAndV, mOrV, mNotV, mIt, mRaise, LIM, List.replicate, bind_ok, bind_ex, bind_no, restE, wipeE, slot0, mCallI, e3])).trans ?_
  refine (seq_nx (ρ' := [s, k, some t3, some (.fz (nmD kvs)), some (.fz (dB kvs)), n5, some (.fz mvD), some s7, some (.ol (unitD o :: os.map unitD)), o9, some (.fz (.int (w : Int))), o11, some (.fz bad), some (.fz (.tup [.str tag, d])), some (.fz x3), o15]) (by simp [runD, Dn.runI, env0, mSeq, mIfE, mOr, mAnd, mNot, mBool, mOps, evs, Op.ev, Op.res, resAll, mRet, mC, mVar, mMove, mNx, mSet, mExpr, mCall, mCallE, mA0, mA1, mLst, mTup, d_fz, d_ol, d_od, d_odt, fF, fB, mAndV, mOrV, mNotV, mIt, mRaise, LIM, List.replicate, bind_ok, bind_ex, bind_no, restE, wipeE, slot0, h6, a2, s2])).trans ?_
  refine (seq_nx (ρ' := [s, k, some t3, some (.fz (nmD kvs)), some (.fz (dB kvs)), n5, some (.fz mvD), some s7, some (.ol (unitD o :: os.map unitD)), o9, some (.fz (.int (w : Int))), o11, some (.fz bad), some (.fz (.tup [.str tag, d])), some (.fz x3), o15]) (by simp [runD, Dn.runI, env0, mSeq, mIfE, mOr, mAnd, mNot, mBool, mOps, evs, Op.ev, Op.res, resAll, mRet, mC, mVar, mMove, mNx, mSet, mExpr, mCall, mCallE, mA0, mA1, mLst, mTup, d_fz, d_ol, d_od, d_odt, fF, fB, mAndV, mOrV, mNotV, mIt, mRaise, LIM, List.replicate, bind_ok, bind_ex, bind_no, restE, wipeE, slot0, mNewK, a3, s3, fIx_eq])).trans ?_
  by_cases hw4 : w < 4
  · have hw4' : (w : Int) < 4 := by omega
    obtain ⟨tt, hG, hT⟩ := gw_told B hw4 (s := .non)
    have a4 : F__law_asked [.int (w : Int), dB kvs, nmD kvs, mvD, prD, .non] = .ok (.fz (.tup [.str "told", .bl true])) () := asked_told hw hT hG
    simp [runD, Dn.runI, env0, mSeq, mIfE, mOr, mAnd, mNot, mBool, mOps, evs, Op.ev, Op.res, resAll, mRet, mC, mVar, mMove, mNx, mSet, mExpr, mCall, mCallE, mA0, mA1, mLst, mTup, d_fz, d_ol, d_od, d_odt, fF, fB, mAndV, mOrV, mNotV, mIt, mRaise, LIM, List.replicate, bind_ok, bind_ex, bind_no, restE, wipeE, slot0, fIB, hw4', h7, a4, s4', hw4]
  · have hw4' : ¬ (w : Int) < 4 := by omega
    simp [runD, Dn.runI, env0, mSeq, mIfE, mOr, mAnd, mNot, mBool, mOps, evs, Op.ev, Op.res, resAll, mRet, mC, mVar, mMove, mNx, mSet, mExpr, mCall, mCallE, mA0, mA1, mLst, mTup, d_fz, d_ol, d_od, d_odt, fF, fB, mAndV, mOrV, mNotV, mIt, mRaise, LIM, List.replicate, bind_ok, bind_ex, bind_no, restE, wipeE, slot0, fIB, hw4', hw4]
end
end K90

set_option Elab.async false
set_option linter.all false
set_option maxRecDepth 100000
set_option maxHeartbeats 4000000
namespace K90
open PySem PySem.Spec L2 Dn
open PyProof.Rows hiding St
open PySem.PyData (strOk)
theorem abc_nl : (["ann", "bob", "cid"] : List Str) ∈ NL := by simp [NL]
theorem take_nl {ms : List Str} (h : ms ∈ NL) (h3 : ms.length = 3) {n : Int} (hn : n = 0 ∨ n = 1 ∨ n = 2) : ∃ ns ∈ NL, fSl01 [.lst (ms.map .str), .int (1 + n)] = some (.ol (ns.map .str)) := by
  obtain ⟨hd, hm⟩ := nl_nodup ms h
  match ms, h3 with
  | [a, b, c], _ =>
    rcases hn with rfl | rfl | rfl
    · exact ⟨[a], to_nl (by simp) (fun n hn => hm n (by simp at hn; simp [hn])) (by simp) (by simp), rfl⟩
    · exact ⟨[a, b], to_nl (hd.sublist (by simp)) (fun n hn => hm n (by simp at hn ⊢; rcases hn with h | h <;> simp [h])) (by simp) (by simp), rfl⟩
    · exact ⟨[a, b, c], h, rfl⟩
theorem lay_nm : ∀ d ∈ (["ann", "bob", "cid"] : List Str).map D.str, Lay d := fun d hd => by
  obtain ⟨n, hn, rfl⟩ := List.mem_map.mp hd
  exact lay_str (nm_ok n hn)
theorem i_moves (ρ : List (Option T)) : mLst (mA1 mNewK (mA1 (mDisp [((mC (.str "oil")), (mOps (fF fNeg) [.tmp (mC (.int 3))])), ((mC (.str "tin")), (mC (.int 2)))]) (mA1 (mDisp [((mC (.str "tin")), (mOps (fF fNeg) [.tmp (mC (.int 4))]))]) mA0))) ρ = .ok (.ol ML) ρ := by kernel_rfl
theorem i_prices (ρ : List (Option T)) : mDisp [((mC (.str "oil")), (mC (.int 50))), ((mC (.str "tin")), (mC (.int 51)))] ρ = .ok (.od [(kO, .int 50), (kT, .int 51)]) ρ := by kernel_rfl
theorem i_empty (ρ : List (Option T)) : mLst mA0 ρ = .ok (.ol []) ρ := by kernel_rfl
theorem i_five (ρ : List (Option T)) : mRng [.tmp (mC (.int 5))] ρ = .ok [.int ((0 : Nat) : Int), .int ((1 : Nat) : Int), .int ((2 : Nat) : Int), .int ((3 : Nat) : Int), .int ((4 : Nat) : Int)] ρ := by kernel_rfl
theorem i_names (ρ : List (Option T)) : mLst (mA1 (mC (.str "ann")) (mA1 (mC (.str "bob")) (mA1 (mC (.str "cid")) mA0))) ρ = .ok (.ol ((["ann", "bob", "cid"] : List Str).map .str)) ρ := by kernel_rfl
theorem B5_ok (sc : List Int) (k : Nat) (x2 x3 x4 x5 x6 x7 x8 x9 x10 x11 x12 x13 x14 : Option T) : ∃ x2' x3' x4' x5' x6' x7' x8' x9' x10' x11' x12' x13' x14',
    B_law_5 [some (.fz (.scr sc)), some (.fz (.int (k : Int))), x2, x3, x4, x5, x6, x7, x8, x9, x10, x11, x12, x13, x14, none] = .ok .nx [some (.fz (.scr sc)), some (.fz (.int (k : Int))), x2', x3', x4', x5', x6', x7', x8', x9', x10', x11', x12', x13', x14', none] := by
  obtain ⟨t0, et, h0⟩ := tape_ok sc k
  obtain ⟨g, t1, es, h1, pg⟩ := shuf_ok h0 (ds := (["ann", "bob", "cid"] : List Str).map .str) (by simp) lay_nm
  obtain ⟨ms, rfl, pms⟩ := strs_perm pg
  have es' : F__law_shuffled t0 [.lst [.str "ann", .str "bob", .str "cid"]] = .ok (.ol (ms.map .str)) t1 := es
  obtain ⟨n, t2, ep, h2, n1, n2⟩ := pick_ok h1 (m := 3) (by decide) (by decide)
  obtain ⟨ns, hns, ec⟩ := take_nl (perm_nl abc_nl pms) (by rw [pms.length_eq]; rfl) (three n1 n2)
  let S0 : Option T := some (.fz (.scr sc))
  let K0 : Option T := some (.fz (.int (k : Int)))
  obtain ⟨t3, kvs0, n5, o11, h3, hk0, hb0, e3⟩ := build_ok (s := S0) (k := K0) h2 hns x5 x6 x7 x8 x9 x10 x11 x12 x13 x14 none
  obtain ⟨t4, kvs, nf, o, h4, B, hk, hnf, ho, hlk, e4⟩ := first_ok (s := S0) (k := K0) h3 hns hk0 hb0 n5 x6 x7 x8 x9 x10 o11 x12 x13 x14 none
  subst hk
  -- the orders are not none
  have hO : ∃ o os, allO kvs = o :: os := by
    have : o ∈ allO kvs := List.mem_flatMap.mpr ⟨nf, sortS_mem.mpr hnf, by rw [hlk]; simp⟩
    cases q : allO kvs with
    | nil => rw [q] at this; simp at this
    | cons a b => exact ⟨a, b, rfl⟩
  obtain ⟨oo, os, hO⟩ := hO
  obtain ⟨n5', e5⟩ := units_ok B (s := S0) (k := K0) (t := some t4) (nm := some (.fz (nmD kvs))) (some (.ol ML)) (some (.od [(kO, .int 50), (kT, .int 51)])) x9 x10 o11 x12 x13 x14 n5
  rw [hO, List.map_cons] at e5
  obtain ⟨ods, t6, e6, h6, hol, hob⟩ := odd_books_ok B h4
  let U : Option T := some (.ol (unitD oo :: os.map unitD))
  obtain ⟨ρ7, e7, -, t7, x9', x10', h7, rfl⟩ := forL_inv (g := g1 9) (body := B_law_3) (fun ds ρ => (∀ d ∈ ds, d ∈ ods) ∧ ∃ t' x9' x10', Tp t' ∧ ρ = [S0, K0, some t', some (.fz (nmD kvs)), some (.fz (dB kvs)), n5', some (.ol ML), some (.od [(kO, .int 50), (kT, .int 51)]), U, x9', x10', o11, x12, x13, x14, none]) ods [S0, K0, some t6, some (.fz (nmD kvs)), some (.fz (dB kvs)), n5', some (.ol ML), some (.od [(kO, .int 50), (kT, .int 51)]), U, x9, x10, o11, x12, x13, x14, none] ⟨fun _ h => h, t6, x9, x10, h6, rfl⟩ (fun d ds ρ hI => by
    obtain ⟨hd, t', y9, y10, ht', rfl⟩ := hI
    obtain ⟨ha, hb⟩ := hob d (hd d (by simp))
    obtain ⟨t'', w, ht'', e⟩ := B3_ok B ha hb ht' S0 K0 none n5' (some (.ol ML)) (some (.od [(kO, .int 50), (kT, .int 51)])) U y10 o11 x12 x13 x14 none (nmD kvs) (some (.fz (dB kvs)))
    exact ⟨_, _, rfl, e, fun d h => hd d (List.mem_cons_of_mem _ h), t'', _, _, ht'', rfl⟩)
  obtain ⟨ρ8, e8, -, t8, s4, s6, s7, y10, y12, y13, y14, h8, d4, d6, d7, rfl⟩ := forL_inv (g := g1 10) (body := B_law_4) (fun ds ρ => (∀ d ∈ ds, ∃ w : Nat, w < 5 ∧ d = .int (w : Int)) ∧ ∃ t' s4 s6 s7 y10 y12 y13 y14, Tp t' ∧ s4.d = dB kvs ∧ s6.d = mvD ∧ s7.d = prD ∧ ρ = [S0, K0, some t', some (.fz (nmD kvs)), some s4, n5', some s6, some s7, U, x9', y10, o11, y12, y13, y14, none]) [.int ((0 : Nat) : Int), .int ((1 : Nat) : Int), .int ((2 : Nat) : Int), .int ((3 : Nat) : Int), .int ((4 : Nat) : Int)]
    [S0, K0, some t7, some (.fz (nmD kvs)), some (.fz (dB kvs)), n5', some (.ol ML), some (.od [(kO, .int 50), (kT, .int 51)]), U, x9', x10', o11, x12, x13, x14, none] ⟨fun d hd => by
      simp only [List.mem_cons, List.not_mem_nil, or_false] at hd
      rcases hd with rfl | rfl | rfl | rfl | rfl
      · exact ⟨0, by decide, rfl⟩
      · exact ⟨1, by decide, rfl⟩
      · exact ⟨2, by decide, rfl⟩
      · exact ⟨3, by decide, rfl⟩
      · exact ⟨4, by decide, rfl⟩, t7, .fz (dB kvs), .ol ML, .od [(kO, .int 50), (kT, .int 51)], x10', x12, x13, x14, h7, rfl, rfl, rfl, rfl⟩ (fun d ds ρ hI => by
    obtain ⟨hd, t', s4, s6, s7, y10, y12, y13, y14, ht', d4, d6, d7, rfl⟩ := hI
    obtain ⟨w, hw, rfl⟩ := hd d (by simp)
    obtain ⟨t'', x, y, z, ht'', e⟩ := B4_ok B hO hw ht' S0 K0 n5' x9' o11 y12 y13 y14 none d4 d6 d7
    by_cases hw4 : w < 4
    · rw [if_pos hw4] at e
      exact ⟨_, _, rfl, e, fun d h => hd d (List.mem_cons_of_mem _ h), t'', .fz (dB kvs), .fz mvD, .fz prD, some (.fz (.int (w : Int))), x, y, z, ht'', rfl, rfl, rfl, rfl⟩
    · rw [if_neg hw4] at e
      exact ⟨_, _, rfl, e, fun d h => hd d (List.mem_cons_of_mem _ h), t'', .fz (dB kvs), .fz mvD, s7, some (.fz (.int (w : Int))), x, y, z, ht'', rfl, rfl, d7, rfl⟩)
  have em := members_ok B t8
  obtain ⟨t9, e9, h9⟩ := shares_right_ok B h8
  refine ⟨some t9, some (.fz (nmD kvs)), some (.fz (dB kvs)), n5', some (.fz mvD), some (.fz prD), U, x9', y10, o11, y12, y13, y14, ?_⟩
  unfold B_law_5
  refine (seq_nx (ρ' := [S0, K0, some t0, x3, x4, x5, x6, x7, x8, x9, x10, x11, x12, x13, x14, none]) (by simp [S0, K0, runD, Dn.runI, env0, mSeq, mIfE, mOr, mAnd, mNot, mBool, mOps, evs, Op.ev, Op.res, resAll, mRet, mC, mVar, mMove, mNx, mSet, mExpr, mCall, mCallE, mA0, mA1, mLst, mTup, d_fz, d_ol, d_od, d_odt, fF, fB, mAndV, mOrV, mNotV, mIt, mRaise, LIM, List.replicate, bind_ok, bind_ex, bind_no, restE, wipeE, slot0, et])).trans ?_
  refine (seq_nx (ρ' := [S0, K0, some t2, some (.ol ((nms kvs).map .str)), x4, x5, x6, x7, x8, x9, x10, x11, x12, x13, x14, none]) (by
    have i1 : ∀ a b : Option T, mCallI 2 F__law_shuffled (mA1 (mLst (mA1 (mC (.str "ann")) (mA1 (mC (.str "bob")) (mA1 (mC (.str "cid")) mA0)))) mA0) [S0, K0, some t0, a, x4, x5, x6, x7, x8, x9, x10, x11, x12, x13, x14, b] = .ok (.ol (ms.map .str)) [S0, K0, some t1, a, x4, x5, x6, x7, x8, x9, x10, x11, x12, x13, x14, b] := fun a b => by
      have i0 := i_names [S0, K0, some t0, a, x4, x5, x6, x7, x8, x9, x10, x11, x12, x13, x14, b]
      generalize mLst _ = M0 at i0 ⊢
      simp [mCallI, mA1, mA0, i0, d_ol, es']
    have i2 := i1 x3 none
    generalize mCallI 2 F__law_shuffled _ = M1 at i2 ⊢
    simp [runD, Dn.runI, env0, mSeq, mIfE, mOr, mAnd, mNot, mBool, mOps, evs, Op.ev, Op.res, resAll, mRet, mC, mVar, mMove, mNx, mSet, mExpr, mCall, mCallE, mA0, mA1, mLst, mTup, d_fz, d_ol, d_od, d_odt, fF, fB, mAndV, mOrV, mNotV, mIt, mRaise, LIM, List.replicate, bind_ok, bind_ex, bind_no, restE, wipeE, slot0, i2, mCallI, ep, fAdd, ec])).trans ?_
  refine (seq_nx (ρ' := [S0, K0, some t2, some (.ol ((nms kvs).map .str)), some (.od []), x5, x6, x7, x8, x9, x10, x11, x12, x13, x14, none]) (by simp [runD, Dn.runI, env0, mSeq, mIfE, mOr, mAnd, mNot, mBool, mOps, evs, Op.ev, Op.res, resAll, mRet, mC, mVar, mMove, mNx, mSet, mExpr, mCall, mCallE, mA0, mA1, mLst, mTup, d_fz, d_ol, d_od, d_odt, fF, fB, mAndV, mOrV, mNotV, mIt, mRaise, LIM, List.replicate, bind_ok, bind_ex, bind_no, restE, wipeE, slot0, mNewK])).trans ?_
  refine (seq_nx (for_by (ds := (nms kvs).map .str) (ρ' := [S0, K0, some t2, some (.fz (.lst ((nms kvs).map .str))), some (.od []), x5, x6, x7, x8, x9, x10, x11, x12, x13, x14, none]) (by simp [runD, Dn.runI, env0, mSeq, mIfE, mOr, mAnd, mNot, mBool, mOps, evs, Op.ev, Op.res, resAll, mRet, mC, mVar, mMove, mNx, mSet, mExpr, mCall, mCallE, mA0, mA1, mLst, mTup, d_fz, d_ol, d_od, d_odt, fF, fB, mAndV, mOrV, mNotV, mIt, mRaise, LIM, List.replicate, bind_ok, bind_ex, bind_no, restE, wipeE, slot0, items]) e3)).trans ?_
  refine (seq_nx e4).trans ?_
  refine (seq_nx (ρ' := [S0, K0, some t4, some (.fz (nmD kvs)), some (.od (kvs.map kvD)), n5, some (.ol ML), some (.od [(kO, .int 50), (kT, .int 51)]), some (.ol []), x9, x10, o11, x12, x13, x14, none]) (by
    simp only [mPar3, i_moves, i_prices, i_empty, bind_ok]
    rfl)).trans ?_
  have hsrt := B.srt
  refine (seq_nx (for_by (ds := (sortS (nms kvs)).map .str) (ρ' := [S0, K0, some t4, some (.fz (nmD kvs)), some (.od (kvs.map kvD)), n5, some (.ol ML), some (.od [(kO, .int 50), (kT, .int 51)]), some (.ol []), x9, x10, o11, x12, x13, x14, none]) (by
    have hsrt' : fSorted [.dk (kvs.map kvD)] = _ := hsrt
    simp [runD, Dn.runI, env0, mSeq, mIfE, mOr, mAnd, mNot, mBool, mOps, evs, Op.ev, Op.res, resAll, mRet, mC, mVar, mMove, mNx, mSet, mExpr, mCall, mCallE, mA0, mA1, mLst, mTup, d_fz, d_ol, d_od, d_odt, fF, fB, mAndV, mOrV, mNotV, mIt, mRaise, LIM, List.replicate, bind_ok, bind_ex, bind_no, restE, wipeE, slot0, hsrt', items]) e5)).trans ?_
  have e6' : F__law_odd_books t4 [.dk (kvs.map kvD)] = .ok (.ol ods) t6 := e6
  refine (seq_nx (for_by (ds := ods) (ρ' := [S0, K0, some t6, some (.fz (nmD kvs)), some (.fz (dB kvs)), n5', some (.ol ML), some (.od [(kO, .int 50), (kT, .int 51)]), U, x9, x10, o11, x12, x13, x14, none]) (by simp [runD, Dn.runI, env0, mSeq, mIfE, mOr, mAnd, mNot, mBool, mOps, evs, Op.ev, Op.res, resAll, mRet, mC, mVar, mMove, mNx, mSet, mExpr, mCall, mCallE, mA0, mA1, mLst, mTup, d_fz, d_ol, d_od, d_odt, fF, fB, mAndV, mOrV, mNotV, mIt, mRaise, LIM, List.replicate, bind_ok, bind_ex, bind_no, restE, wipeE, slot0, mCallI, e6', items, dB, U]) e7)).trans ?_
  refine (seq_nx (for_by (i_five _) e8)).trans ?_
  simp [runD, Dn.runI, env0, mSeq, mIfE, mOr, mAnd, mNot, mBool, mOps, evs, Op.ev, Op.res, resAll, mRet, mC, mVar, mMove, mNx, mSet, mExpr, mCall, mCallE, mA0, mA1, mLst, mTup, d_fz, d_ol, d_od, d_odt, fF, fB, mAndV, mOrV, mNotV, mIt, mRaise, LIM, List.replicate, bind_ok, bind_ex, bind_no, restE, wipeE, slot0, mCallI, d4, d6, d7, em, e9, S0, K0, U]
theorem rng_n (n : Int) (h : n = 2 ∨ n = 3) : ∃ ds, rngItems 0 n = some ds ∧ ∀ d ∈ ds, ∃ k : Nat, d = .int (k : Int) := by
  rcases h with rfl | rfl
  · exact ⟨[.int ((0 : Nat) : Int), .int ((1 : Nat) : Int)], by kernel_rfl, fun d hd => by
      simp only [List.mem_cons, List.not_mem_nil, or_false] at hd
      rcases hd with rfl | rfl <;> exact ⟨_, rfl⟩⟩
  · exact ⟨[.int ((0 : Nat) : Int), .int ((1 : Nat) : Int), .int ((2 : Nat) : Int)], by kernel_rfl, fun d hd => by
      simp only [List.mem_cons, List.not_mem_nil, or_false] at hd
      rcases hd with rfl | rfl | rfl <;> exact ⟨_, rfl⟩⟩
theorem law_true (sc : List Int) (_ : sc.length ≤ 63) : F_law [.scr sc] = .ok (.fz (.bl true)) () := by
  let n3 : Int := if (sc.length : Int) < 3 then (sc.length : Int) else 3
  let n2 : Int := if n3 > 2 then n3 else 2
  have hn : n2 = 2 ∨ n2 = 3 := by
    simp only [n2, n3]
    split <;> split <;> omega
  obtain ⟨ds, hds, hd⟩ := rng_n n2 hn
  let E0 : List (Option T) := [some (.fz (.scr sc)), none, none, none, none, none, none, none, none, none, none, none, none, none, none, none]
  obtain ⟨ρ', e, -⟩ := forL_inv (g := g1 1) (body := B_law_5) (fun ds ρ => (∀ d ∈ ds, ∃ k : Nat, d = .int (k : Int)) ∧ ∃ x1 x2 x3 x4 x5 x6 x7 x8 x9 x10 x11 x12 x13 x14, ρ = [some (.fz (.scr sc)), x1, x2, x3, x4, x5, x6, x7, x8, x9, x10, x11, x12, x13, x14, none]) ds E0 ⟨hd, none, none, none, none, none, none, none, none, none, none, none, none, none, none, rfl⟩ (fun d ds ρ hI => by
    obtain ⟨hd, x1, x2, x3, x4, x5, x6, x7, x8, x9, x10, x11, x12, x13, x14, rfl⟩ := hI
    obtain ⟨k, rfl⟩ := hd d (by simp)
    obtain ⟨y2, y3, y4, y5, y6, y7, y8, y9, y10, y11, y12, y13, y14, e⟩ := B5_ok sc k x2 x3 x4 x5 x6 x7 x8 x9 x10 x11 x12 x13 x14
    exact ⟨_, _, rfl, e, fun d h => hd d (List.mem_cons_of_mem _ h), _, y2, y3, y4, y5, y6, y7, y8, y9, y10, y11, y12, y13, y14, rfl⟩)
  refine runD_by (ρ := ρ') ?_
  unfold M_law
  refine (seq_nx (for_by (ds := ds) (ρ' := E0) ?_ e)).trans (by simp [runD, Dn.runI, env0, mSeq, mIfE, mOr, mAnd, mNot, mBool, mOps, evs, Op.ev, Op.res, resAll, mRet, mC, mVar, mMove, mNx, mSet, mExpr, mCall, mCallE, mA0, mA1, mLst, mTup, d_fz, d_ol, d_od, d_odt, fF, fB, mAndV, mOrV, mNotV, mIt, mRaise, LIM, List.replicate, bind_ok, bind_ex, bind_no, restE, wipeE, slot0])
  have hmin : fMin [.int 3, .int (sc.length : Int)] = some (.int n3) := rfl
  have hmax : fMax [.int 2, .int n3] = some (.int n2) := rfl
  simp [E0, mRng, runD, Dn.runI, env0, mSeq, mIfE, mOr, mAnd, mNot, mBool, mOps, evs, Op.ev, Op.res, resAll, mRet, mC, mVar, mMove, mNx, mSet, mExpr, mCall, mCallE, mA0, mA1, mLst, mTup, d_fz, d_ol, d_od, d_odt, fF, fB, mAndV, mOrV, mNotV, mIt, mRaise, LIM, List.replicate, bind_ok, bind_ex, bind_no, restE, wipeE, slot0, fLen, lenD, hmin, hmax, hds]
end K90

set_option Elab.async false
set_option maxRecDepth 100000
open PySem PySem.W PyProof.Rows L2 Dn
set_option maxRecDepth 100000 in
set_option maxHeartbeats 0 in
theorem PySem.Challenge.cw_beforeclose_k90_refused_books_and_shares_holds : PySem.Challenge.rw_beforeclose_k90_refused_books_and_shares.Holds := by
  w_on; o_law; k_head; (case hw => w_witness2)
  k_fill
  refine Dn.walk_law (l := PySem.Challenge.rw_beforeclose_k90_refused_books_and_shares) (F := K90.F_law) (k := 18) (st := K90.s_law) rfl rfl ⟨rfl, by decide, by decide⟩ (fun w h Y => PySem.W.kIn_of Y) ?hF rfl (fun _ _ _ _ _ _ _ _ => .of_eq rfl) ?F1 ?F2
  case hF => exact K90.law_true
  case F1 =>
    intro w mg h KX G
    refine' defP_mk KX G ?a ?l ?c ?k; (case a => k_is); (case l => k_is); (case c => k_is); (case k => k_is)
  case F2 =>
    intro w mg h base f fd KX G Gf
    refine' K90.okX_law ?T Gf
    case T =>
      refine' { b_abs := ?b_abs, b_all := ?b_all, b_any := ?b_any, b_bool := ?b_bool, b_dict := ?b_dict, b_enumerate := ?b_enumerate, b_int := ?b_int, b_isinstance := ?b_isinstance, b_len := ?b_len, b_list := ?b_list, b_max := ?b_max, b_min := ?b_min, b_range := ?b_range, b_set := ?b_set, b_sorted := ?b_sorted, b_str := ?b_str, b_sum := ?b_sum, b_tuple := ?b_tuple, b_zip := ?b_zip, c_LETTERS := ?c_LETTERS, c_LONGEST := ?c_LONGEST, c_MOST_MOVES := ?c_MOST_MOVES, c_MOST_PRICE := ?c_MOST_PRICE, c_RESERVED := ?c_RESERVED, tab := ?tab, x_BadBooks := ?x_BadBooks, x_BadCount := ?x_BadCount, x_BadMove := ?x_BadMove, x_BadOwners := ?x_BadOwners, x_BadPrices := ?x_BadPrices, x_BadShares := ?x_BadShares, x_UnknownUnit := ?x_UnknownUnit, y_BadBooks := ?y_BadBooks, y_BadCount := ?y_BadCount, y_BadMove := ?y_BadMove, y_BadOwners := ?y_BadOwners, y_BadPrices := ?y_BadPrices, y_BadShares := ?y_BadShares, y_UnknownUnit := ?y_UnknownUnit, f_is_integer := ?f_is_integer, f_is_name := ?f_is_name, f_is_member := ?f_is_member, f_is_position := ?f_is_position, f_is_price := ?f_is_price, f_check_prices := ?f_check_prices, f_summed := ?f_summed, f_is_move := ?f_is_move, f_check_moves := ?f_check_moves, f_loss_by := ?f_loss_by, f_is_standing := ?f_is_standing, f_check_priced := ?f_check_priced, f_unit_loss := ?f_unit_loss, f_worst_filled := ?f_worst_filled, f_loss_with := ?f_loss_with, f_worst_of := ?f_worst_of, f_is_list := ?f_is_list, f_are_owners := ?f_are_owners, f_lists_of := ?f_lists_of, f_all_lists := ?f_all_lists, f_is_book := ?f_is_book, f_are_books := ?f_are_books, f_all_orders := ?f_all_orders, f_check_world := ?f_check_world, f_joined_position := ?f_joined_position, f_worst_together := ?f_worst_together, f_group_need := ?f_group_need, f_loss_of := ?f_loss_of, f_sharing := ?f_sharing, f_are_shares := ?f_are_shares, f_objecting := ?f_objecting, f_own_needs := ?f_own_needs, f_saved := ?f_saved, f_common_move := ?f_common_move, f__law_tape := ?f__law_tape, f__law_pick := ?f__law_pick, f__law_shuffled := ?f__law_shuffled, f__law_same := ?f__law_same, f__law_asked := ?f__law_asked, f__law_odd_books := ?f__law_odd_books, f__law_odd_moves := ?f__law_odd_moves, f__law_odd_prices := ?f__law_odd_prices, f__law_members_right := ?f__law_members_right, f__law_shares_right := ?f__law_shares_right }
      case b_abs => exact PySem.W.mg_none_of KX G (by k_is)
      case b_all => exact PySem.W.mg_none_of KX G (by k_is)
      case b_any => exact PySem.W.mg_none_of KX G (by k_is)
      case b_bool => exact PySem.W.mg_none_of KX G (by k_is)
      case b_dict => exact PySem.W.mg_none_of KX G (by k_is)
      case b_enumerate => exact PySem.W.mg_none_of KX G (by k_is)
      case b_int => exact PySem.W.mg_none_of KX G (by k_is)
      case b_isinstance => exact PySem.W.mg_none_of KX G (by k_is)
      case b_len => exact PySem.W.mg_none_of KX G (by k_is)
      case b_list => exact PySem.W.mg_none_of KX G (by k_is)
      case b_max => exact PySem.W.mg_none_of KX G (by k_is)
      case b_min => exact PySem.W.mg_none_of KX G (by k_is)
      case b_range => exact PySem.W.mg_none_of KX G (by k_is)
      case b_set => exact PySem.W.mg_none_of KX G (by k_is)
      case b_sorted => exact PySem.W.mg_none_of KX G (by k_is)
      case b_str => exact PySem.W.mg_none_of KX G (by k_is)
      case b_sum => exact PySem.W.mg_none_of KX G (by k_is)
      case b_tuple => exact PySem.W.mg_none_of KX G (by k_is)
      case b_zip => exact PySem.W.mg_none_of KX G (by k_is)
      case c_LETTERS =>
        refine' gloS_mk KX G ?a; (case a => k_is)
      case c_LONGEST =>
        refine' gloI_mk KX G ?a; (case a => k_is)
      case c_MOST_MOVES =>
        refine' gloI_mk KX G ?a; (case a => k_is)
      case c_MOST_PRICE =>
        refine' gloI_mk KX G ?a; (case a => k_is)
      case c_RESERVED =>
        refine' gloT_mk KX G ?a ?t ?s ?r; (case a => k_is); (case t => k_is); (case s => decide); (case r => repeat (first | exact .nil | refine .cons ⟨_, rfl⟩ ?_))
      case tab =>
        refine' tab_mk (l := K90.exL) (.cons (PySem.W.mg_of KX G ?m0) (.cons (PySem.W.mg_of KX G ?m1) (.cons (PySem.W.mg_of KX G ?m2) (.cons (PySem.W.mg_of KX G ?m3) (.cons (PySem.W.mg_of KX G ?m4) (.cons (PySem.W.mg_of KX G ?m5) (.cons (PySem.W.mg_of KX G ?m6) .nil))))))) (.cons (.cons ?e0_0 (.cons ?e0_1 (.cons ?e0_2 (.cons ?e0_3 (.cons ?e0_4 (.cons ?e0_5 (.cons ?e0_6 .nil))))))) (.cons (.cons ?e1_0 (.cons ?e1_1 (.cons ?e1_2 (.cons ?e1_3 (.cons ?e1_4 (.cons ?e1_5 (.cons ?e1_6 .nil))))))) (.cons (.cons ?e2_0 (.cons ?e2_1 (.cons ?e2_2 (.cons ?e2_3 (.cons ?e2_4 (.cons ?e2_5 (.cons ?e2_6 .nil))))))) (.cons (.cons ?e3_0 (.cons ?e3_1 (.cons ?e3_2 (.cons ?e3_3 (.cons ?e3_4 (.cons ?e3_5 (.cons ?e3_6 .nil))))))) (.cons (.cons ?e4_0 (.cons ?e4_1 (.cons ?e4_2 (.cons ?e4_3 (.cons ?e4_4 (.cons ?e4_5 (.cons ?e4_6 .nil))))))) (.cons (.cons ?e5_0 (.cons ?e5_1 (.cons ?e5_2 (.cons ?e5_3 (.cons ?e5_4 (.cons ?e5_5 (.cons ?e5_6 .nil))))))) (.cons (.cons ?e6_0 (.cons ?e6_1 (.cons ?e6_2 (.cons ?e6_3 (.cons ?e6_4 (.cons ?e6_5 (.cons ?e6_6 .nil))))))) .nil)))))))
        (case m0 => k_is); (case m1 => k_is); (case m2 => k_is); (case m3 => k_is); (case m4 => k_is); (case m5 => k_is); (case m6 => k_is)
        (case e0_0 => kts_exm); (case e0_1 => kts_exm); (case e0_2 => kts_exm); (case e0_3 => kts_exm); (case e0_4 => kts_exm); (case e0_5 => kts_exm); (case e0_6 => kts_exm)
        (case e1_0 => kts_exm); (case e1_1 => kts_exm); (case e1_2 => kts_exm); (case e1_3 => kts_exm); (case e1_4 => kts_exm); (case e1_5 => kts_exm); (case e1_6 => kts_exm)
        (case e2_0 => kts_exm); (case e2_1 => kts_exm); (case e2_2 => kts_exm); (case e2_3 => kts_exm); (case e2_4 => kts_exm); (case e2_5 => kts_exm); (case e2_6 => kts_exm)
        (case e3_0 => kts_exm); (case e3_1 => kts_exm); (case e3_2 => kts_exm); (case e3_3 => kts_exm); (case e3_4 => kts_exm); (case e3_5 => kts_exm); (case e3_6 => kts_exm)
        (case e4_0 => kts_exm); (case e4_1 => kts_exm); (case e4_2 => kts_exm); (case e4_3 => kts_exm); (case e4_4 => kts_exm); (case e4_5 => kts_exm); (case e4_6 => kts_exm)
        (case e5_0 => kts_exm); (case e5_1 => kts_exm); (case e5_2 => kts_exm); (case e5_3 => kts_exm); (case e5_4 => kts_exm); (case e5_5 => kts_exm); (case e5_6 => kts_exm)
        (case e6_0 => kts_exm); (case e6_1 => kts_exm); (case e6_2 => kts_exm); (case e6_3 => kts_exm); (case e6_4 => kts_exm); (case e6_5 => kts_exm); (case e6_6 => kts_exm)
      case x_BadBooks =>
        refine' K90.x_BadBooks (excC_mk KX G ?a ?l ?hb ?sa ?eC ?tC ?kC ?ga ?gg ?hd ?hf ?ht) ?no (superF_mk ?fl ?fc ?lc ?hv ?hfl ?ll ?sup ?sub ?own ?op ?top) (PySem.W.mg_none_of KX G ?ms); (case a => k_is); (case l => k_is); (case hb => rfl); (case sa => k_is); (case eC => k_is); (case tC => k_is); (case kC => k_is); (case ga => k_is); (case gg => k_is); (case hd => k_is); (case hf => k_is); (case ht => k_is); (case no => k_is); (case fl => k_is); (case fc => k_is); (case lc => k_is); (case hv => rfl); (case hfl => decide +kernel); (case ll => k_is); (case sup => ks_is); (case sub => k_is); (case own => k_is); (case op => k_is); (case top => decide +kernel); (case ms => k_is)
      case x_BadCount =>
        refine' K90.x_BadCount ⟨?r, ?g, ?at_⟩ (PySem.W.mg_of KX G ?m) (excC_mk KX G ?a ?l ?hb ?sa ?eC ?tC ?kC ?ga ?gg ?hd ?hf ?ht) ?no (fun_mk ?fl ?fc ?fk); (case m => k_is); (case r => k_is); (case g => k_is); (case at_ => k_is); (case a => k_is); (case l => k_is); (case hb => rfl); (case sa => k_is); (case eC => k_is); (case tC => k_is); (case kC => k_is); (case ga => k_is); (case gg => k_is); (case hd => k_is); (case hf => k_is); (case ht => k_is); (case no => k_is); (case fl => k_is); (case fc => k_is); (case fk => k_is)
      case x_BadMove =>
        refine' K90.x_BadMove ⟨?r, ?g, ?at_⟩ (PySem.W.mg_of KX G ?m) (excC_mk KX G ?a ?l ?hb ?sa ?eC ?tC ?kC ?ga ?gg ?hd ?hf ?ht) ?no (fun_mk ?fl ?fc ?fk); (case m => k_is); (case r => k_is); (case g => k_is); (case at_ => k_is); (case a => k_is); (case l => k_is); (case hb => rfl); (case sa => k_is); (case eC => k_is); (case tC => k_is); (case kC => k_is); (case ga => k_is); (case gg => k_is); (case hd => k_is); (case hf => k_is); (case ht => k_is); (case no => k_is); (case fl => k_is); (case fc => k_is); (case fk => k_is)
      case x_BadOwners =>
        refine' K90.x_BadOwners (excC_mk KX G ?a ?l ?hb ?sa ?eC ?tC ?kC ?ga ?gg ?hd ?hf ?ht) ?no (fun_mk ?fl ?fc ?fk); (case a => k_is); (case l => k_is); (case hb => rfl); (case sa => k_is); (case eC => k_is); (case tC => k_is); (case kC => k_is); (case ga => k_is); (case gg => k_is); (case hd => k_is); (case hf => k_is); (case ht => k_is); (case no => k_is); (case fl => k_is); (case fc => k_is); (case fk => k_is)
      case x_BadPrices =>
        refine' K90.x_BadPrices ⟨?r, ?g, ?at_⟩ (PySem.W.mg_of KX G ?m) (excC_mk KX G ?a ?l ?hb ?sa ?eC ?tC ?kC ?ga ?gg ?hd ?hf ?ht) ?no (fun_mk ?fl ?fc ?fk); (case m => k_is); (case r => k_is); (case g => k_is); (case at_ => k_is); (case a => k_is); (case l => k_is); (case hb => rfl); (case sa => k_is); (case eC => k_is); (case tC => k_is); (case kC => k_is); (case ga => k_is); (case gg => k_is); (case hd => k_is); (case hf => k_is); (case ht => k_is); (case no => k_is); (case fl => k_is); (case fc => k_is); (case fk => k_is)
      case x_BadShares =>
        refine' K90.x_BadShares (excC_mk KX G ?a ?l ?hb ?sa ?eC ?tC ?kC ?ga ?gg ?hd ?hf ?ht) ?no (superF_mk ?fl ?fc ?lc ?hv ?hfl ?ll ?sup ?sub ?own ?op ?top) (PySem.W.mg_none_of KX G ?ms); (case a => k_is); (case l => k_is); (case hb => rfl); (case sa => k_is); (case eC => k_is); (case tC => k_is); (case kC => k_is); (case ga => k_is); (case gg => k_is); (case hd => k_is); (case hf => k_is); (case ht => k_is); (case no => k_is); (case fl => k_is); (case fc => k_is); (case lc => k_is); (case hv => rfl); (case hfl => decide +kernel); (case ll => k_is); (case sup => ks_is); (case sub => k_is); (case own => k_is); (case op => k_is); (case top => decide +kernel); (case ms => k_is)
      case x_UnknownUnit =>
        refine' K90.x_UnknownUnit ⟨?r, ?g, ?at_⟩ (PySem.W.mg_of KX G ?m) (excC_mk KX G ?a ?l ?hb ?sa ?eC ?tC ?kC ?ga ?gg ?hd ?hf ?ht) ?no (fun_mk ?fl ?fc ?fk); (case m => k_is); (case r => k_is); (case g => k_is); (case at_ => k_is); (case a => k_is); (case l => k_is); (case hb => rfl); (case sa => k_is); (case eC => k_is); (case tC => k_is); (case kC => k_is); (case ga => k_is); (case gg => k_is); (case hd => k_is); (case hf => k_is); (case ht => k_is); (case no => k_is); (case fl => k_is); (case fc => k_is); (case fk => k_is)
      case y_BadBooks =>
        refine' ⟨_, PySem.W.mg_of KX G ?a, ⟨?ga, ?gg, ?eC, ?hd⟩, ?no⟩; (case a => k_is); (case ga => k_is); (case gg => k_is); (case eC => k_is); (case hd => k_is); (case no => k_is)
      case y_BadCount =>
        refine' ⟨_, PySem.W.mg_of KX G ?a, ⟨?ga, ?gg, ?eC, ?hd⟩, ?no⟩; (case a => k_is); (case ga => k_is); (case gg => k_is); (case eC => k_is); (case hd => k_is); (case no => k_is)
      case y_BadMove =>
        refine' ⟨_, PySem.W.mg_of KX G ?a, ⟨?ga, ?gg, ?eC, ?hd⟩, ?no⟩; (case a => k_is); (case ga => k_is); (case gg => k_is); (case eC => k_is); (case hd => k_is); (case no => k_is)
      case y_BadOwners =>
        refine' ⟨_, PySem.W.mg_of KX G ?a, ⟨?ga, ?gg, ?eC, ?hd⟩, ?no⟩; (case a => k_is); (case ga => k_is); (case gg => k_is); (case eC => k_is); (case hd => k_is); (case no => k_is)
      case y_BadPrices =>
        refine' ⟨_, PySem.W.mg_of KX G ?a, ⟨?ga, ?gg, ?eC, ?hd⟩, ?no⟩; (case a => k_is); (case ga => k_is); (case gg => k_is); (case eC => k_is); (case hd => k_is); (case no => k_is)
      case y_BadShares =>
        refine' ⟨_, PySem.W.mg_of KX G ?a, ⟨?ga, ?gg, ?eC, ?hd⟩, ?no⟩; (case a => k_is); (case ga => k_is); (case gg => k_is); (case eC => k_is); (case hd => k_is); (case no => k_is)
      case y_UnknownUnit =>
        refine' ⟨_, PySem.W.mg_of KX G ?a, ⟨?ga, ?gg, ?eC, ?hd⟩, ?no⟩; (case a => k_is); (case ga => k_is); (case gg => k_is); (case eC => k_is); (case hd => k_is); (case no => k_is)
      case f_is_integer =>
        refine' defD1_mk KX G ?a ?l ?c ?k ?t ?r; (case a => k_is); (case l => k_is); (case c => k_is); (case k => k_is); (case t => k_is); (case r => rfl)
      case f_is_name =>
        refine' defP_mk KX G ?a ?l ?c ?k; (case a => k_is); (case l => k_is); (case c => k_is); (case k => k_is)
      case f_is_member =>
        refine' defP_mk KX G ?a ?l ?c ?k; (case a => k_is); (case l => k_is); (case c => k_is); (case k => k_is)
      case f_is_position =>
        refine' defP_mk KX G ?a ?l ?c ?k; (case a => k_is); (case l => k_is); (case c => k_is); (case k => k_is)
      case f_is_price =>
        refine' defP_mk KX G ?a ?l ?c ?k; (case a => k_is); (case l => k_is); (case c => k_is); (case k => k_is)
      case f_check_prices =>
        refine' defP_mk KX G ?a ?l ?c ?k; (case a => k_is); (case l => k_is); (case c => k_is); (case k => k_is)
      case f_summed =>
        refine' defP_mk KX G ?a ?l ?c ?k; (case a => k_is); (case l => k_is); (case c => k_is); (case k => k_is)
      case f_is_move =>
        refine' defP_mk KX G ?a ?l ?c ?k; (case a => k_is); (case l => k_is); (case c => k_is); (case k => k_is)
      case f_check_moves =>
        refine' defP_mk KX G ?a ?l ?c ?k; (case a => k_is); (case l => k_is); (case c => k_is); (case k => k_is)
      case f_loss_by =>
        refine' defP_mk KX G ?a ?l ?c ?k; (case a => k_is); (case l => k_is); (case c => k_is); (case k => k_is)
      case f_is_standing =>
        refine' defP_mk KX G ?a ?l ?c ?k; (case a => k_is); (case l => k_is); (case c => k_is); (case k => k_is)
      case f_check_priced =>
        refine' defP_mk KX G ?a ?l ?c ?k; (case a => k_is); (case l => k_is); (case c => k_is); (case k => k_is)
      case f_unit_loss =>
        refine' defP_mk KX G ?a ?l ?c ?k; (case a => k_is); (case l => k_is); (case c => k_is); (case k => k_is)
      case f_worst_filled =>
        refine' defP_mk KX G ?a ?l ?c ?k; (case a => k_is); (case l => k_is); (case c => k_is); (case k => k_is)
      case f_loss_with =>
        refine' defP_mk KX G ?a ?l ?c ?k; (case a => k_is); (case l => k_is); (case c => k_is); (case k => k_is)
      case f_worst_of =>
        refine' defP_mk KX G ?a ?l ?c ?k; (case a => k_is); (case l => k_is); (case c => k_is); (case k => k_is)
      case f_is_list =>
        refine' defP_mk KX G ?a ?l ?c ?k; (case a => k_is); (case l => k_is); (case c => k_is); (case k => k_is)
      case f_are_owners =>
        refine' defP_mk KX G ?a ?l ?c ?k; (case a => k_is); (case l => k_is); (case c => k_is); (case k => k_is)
      case f_lists_of =>
        refine' defP_mk KX G ?a ?l ?c ?k; (case a => k_is); (case l => k_is); (case c => k_is); (case k => k_is)
      case f_all_lists =>
        refine' defP_mk KX G ?a ?l ?c ?k; (case a => k_is); (case l => k_is); (case c => k_is); (case k => k_is)
      case f_is_book =>
        refine' defP_mk KX G ?a ?l ?c ?k; (case a => k_is); (case l => k_is); (case c => k_is); (case k => k_is)
      case f_are_books =>
        refine' defP_mk KX G ?a ?l ?c ?k; (case a => k_is); (case l => k_is); (case c => k_is); (case k => k_is)
      case f_all_orders =>
        refine' defP_mk KX G ?a ?l ?c ?k; (case a => k_is); (case l => k_is); (case c => k_is); (case k => k_is)
      case f_check_world =>
        refine' defP_mk KX G ?a ?l ?c ?k; (case a => k_is); (case l => k_is); (case c => k_is); (case k => k_is)
      case f_joined_position =>
        refine' defP_mk KX G ?a ?l ?c ?k; (case a => k_is); (case l => k_is); (case c => k_is); (case k => k_is)
      case f_worst_together =>
        refine' defP_mk KX G ?a ?l ?c ?k; (case a => k_is); (case l => k_is); (case c => k_is); (case k => k_is)
      case f_group_need =>
        refine' defP_mk KX G ?a ?l ?c ?k; (case a => k_is); (case l => k_is); (case c => k_is); (case k => k_is)
      case f_loss_of =>
        refine' defP_mk KX G ?a ?l ?c ?k; (case a => k_is); (case l => k_is); (case c => k_is); (case k => k_is)
      case f_sharing =>
        refine' defP_mk KX G ?a ?l ?c ?k; (case a => k_is); (case l => k_is); (case c => k_is); (case k => k_is)
      case f_are_shares =>
        refine' defP_mk KX G ?a ?l ?c ?k; (case a => k_is); (case l => k_is); (case c => k_is); (case k => k_is)
      case f_objecting =>
        refine' defP_mk KX G ?a ?l ?c ?k; (case a => k_is); (case l => k_is); (case c => k_is); (case k => k_is)
      case f_own_needs =>
        refine' defP_mk KX G ?a ?l ?c ?k; (case a => k_is); (case l => k_is); (case c => k_is); (case k => k_is)
      case f_saved =>
        refine' defP_mk KX G ?a ?l ?c ?k; (case a => k_is); (case l => k_is); (case c => k_is); (case k => k_is)
      case f_common_move =>
        refine' defP_mk KX G ?a ?l ?c ?k; (case a => k_is); (case l => k_is); (case c => k_is); (case k => k_is)
      case f__law_tape =>
        refine' defP_mk KX G ?a ?l ?c ?k; (case a => k_is); (case l => k_is); (case c => k_is); (case k => k_is)
      case f__law_pick =>
        refine' defP_mk KX G ?a ?l ?c ?k; (case a => k_is); (case l => k_is); (case c => k_is); (case k => k_is)
      case f__law_shuffled =>
        refine' defP_mk KX G ?a ?l ?c ?k; (case a => k_is); (case l => k_is); (case c => k_is); (case k => k_is)
      case f__law_same =>
        refine' defP_mk KX G ?a ?l ?c ?k; (case a => k_is); (case l => k_is); (case c => k_is); (case k => k_is)
      case f__law_asked =>
        refine' defP_mk KX G ?a ?l ?c ?k; (case a => k_is); (case l => k_is); (case c => k_is); (case k => k_is)
      case f__law_odd_books =>
        refine' defP_mk KX G ?a ?l ?c ?k; (case a => k_is); (case l => k_is); (case c => k_is); (case k => k_is)
      case f__law_odd_moves =>
        refine' defP_mk KX G ?a ?l ?c ?k; (case a => k_is); (case l => k_is); (case c => k_is); (case k => k_is)
      case f__law_odd_prices =>
        refine' defP_mk KX G ?a ?l ?c ?k; (case a => k_is); (case l => k_is); (case c => k_is); (case k => k_is)
      case f__law_members_right =>
        refine' defP_mk KX G ?a ?l ?c ?k; (case a => k_is); (case l => k_is); (case c => k_is); (case k => k_is)
      case f__law_shares_right =>
        refine' defP_mk KX G ?a ?l ?c ?k; (case a => k_is); (case l => k_is); (case c => k_is); (case k => k_is)
