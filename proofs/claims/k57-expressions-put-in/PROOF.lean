import PyProof.Rows.All
import Wide.All
import OpenK.AllK
import Wide.FinOn
import HandS.TupSets
import HandS.More
import PyProof.Rows.SetFrom
import PyProof.SetRoads
import PyProof.Rows.SortShellAny
import HandS.ForMost
import HandS.ForExc
import HandS.Wide
import HandS.TupAny
import HandS.Style
import HandS.WideBits
import HandS.Deep
import HandS.IsInst
import HandS.Iter
import HandS.Zip
import HandS.CallSlots
import HandS.WordsExc
import HandS.Comp
import HandS.Defaults
import KE.KExcSuper
import HandS.Exc
import HandS.ExcField
import HandS.TryMany
import KE.KExcIs
import HandS.Conv
import HandS.Dict
import HandS.Text
import PyProof.Rows.ListStrD
import HandS.DictTup
import KE.KeyNested
import KE.KDictKeyed
import KE.KDictDisplayH
import PyProof.ReprRoads
import PyProof.CallFns
import HandS.Ends
import HandS.HeadEnd
import KE.KStateDown
import HandS.ExcIs
import HandS.Head0
import HandS.Head1
import HandS.Head2
import HandS.HeadHook1
import HandS.HeadHook2
import KE.GoesSet
import KE.SortData
import KE.DataMinMax
import PyProof.Rows.StrMeet
import HandS.SortKw
import KE.DataEq
import PySem.Challenge.RW_withinbooks_k57_whole_expressions_put_in
set_option Elab.async false
set_option linter.all false
set_option maxRecDepth 100000
set_option maxHeartbeats 4000000
/-! B1: sets of texts, as they lie: made of nothing, of a list; what is put in; sorted; their length. -/
namespace MR
open PySem PySem.Spec L2 PyProof.Rows
/-! ### the rows -/
def rowTxt (e : Int × Value) : Str := match e.2 with
  | .str x _ => x
  | _ => ""
def TxtRow (w : World) (e : Int × Value) : Prop := ∃ x t, e.2 = .str x t ∧ e.1 = keyH w (.inr x)
structure TRows (w : World) (es : Array (Int × Value)) (t : SetTable) (ks : List Str) : Prop where
  row : ∀ e ∈ es.toList, TxtRow w e
  prm : (es.toList.map rowTxt).Perm ks
  nd : ks.Nodup
  few : es.size < scanBound
  fit : t.fits es.size = true
  ris : Ris t.place.toList
  led : w.params.followText "set-order" = true ∨ t.led = true
def TxSet (w : World) (h : Heap) (a : Addr) (ks : List Str) : Prop := ∃ o es ep t, h.get? a = some o ∧ o.ExactSet ∧ o.data = .set es ep t ∧ TRows w es t ks
section
variable {P : Program} {w : World} {es es' : Array (Int × Value)} {t t' : SetTable} {ks : List Str} {h h' : Heap} {a : Addr}
theorem TxSet.keep (R : TxSet w h a ks) (k : ∀ o, h.get? a = some o → h'.get? a = some o) : TxSet w h' a ks := by
  obtain ⟨o, es, ep, t, ho, r⟩ := R
  exact ⟨o, es, ep, t, k o ho, r⟩
theorem TRows.size (R : TRows w es t ks) : es.size = ks.length := by
  have := R.prm.length_eq
  rwa [List.length_map, Array.length_toList] at this
theorem TRows.elems (R : TRows w es t ks) : ElemsOf (mixKind P w) es.toList := fun e he => by
  obtain ⟨x, u, h1, h2⟩ := R.row e he
  rw [h1]
  exact ⟨⟨.inr x, mixKind_str P w x u, h2⟩, rfl⟩
theorem row_is {e : Int × Value} (r : TxtRow w e) (x : Str) : (mixKind P w).is (.inr x) e.2 = true ↔ rowTxt e = x := by
  obtain ⟨y, u, h1, _⟩ := r
  unfold rowTxt
  rw [h1]
  constructor
  · intro z
    exact Sum.inr.inj ((mixKind P w).inj _ _ _ (mixKind_str P w y u) z)
  · intro z
    rw [← z]
    exact mixKind_str P w y u
theorem TRows.has (R : TRows w es t ks) (x : Str) : x ∈ ks ↔ ∃ e ∈ es.toList, (mixKind P w).is (.inr x) e.2 = true := by
  rw [← R.prm.mem_iff, List.mem_map]
  constructor
  · rintro ⟨e, he, z⟩
    exact ⟨e, he, (row_is (R.row e he) x).mpr z⟩
  · rintro ⟨e, he, z⟩
    exact ⟨e, he, (row_is (R.row e he) x).mp z⟩
/-- the same rows in another order, the table laid anew -/
theorem TRows.order (R : TRows w es t ks) (p : es'.toList.Perm es.toList) (f : t'.fits es'.size = true) (r : Ris t'.place.toList) (l : t'.led = t.led) : TRows w es' t' ks where
  row := fun e he => R.row e (p.mem_iff.mp he)
  prm := (p.map rowTxt).trans R.prm
  nd := R.nd
  few := by rw [← Array.length_toList, p.length_eq, Array.length_toList]; exact R.few
  fit := f
  ris := r
  led := R.led.imp id fun z => l.trans z
/-- a row more -/
theorem TRows.more (R : TRows w es t ks) {x : Str} {u : Tok} (hx : x ∉ ks) (p : es'.toList.Perm (es.push (keyH w (.inr x), .str x u)).toList) (few : ks.length + 1 < scanBound) (f : t'.fits es'.size = true) (r : Ris t'.place.toList) (l : t'.led = t.led) : TRows w es' t' (ks ++ [x]) := by
  rw [Array.toList_push] at p
  refine ⟨fun e he => ?_, ?_, ?_, ?_, f, r, R.led.imp id fun z => l.trans z⟩
  · rcases List.mem_append.mp (p.mem_iff.mp he) with z | z
    · exact R.row e z
    · rw [List.mem_singleton.mp z]
      exact ⟨x, u, rfl, rfl⟩
  · refine (p.map rowTxt).trans ?_
    rw [List.map_append]
    exact R.prm.append (List.Perm.refl _)
  · exact List.nodup_append.mpr ⟨R.nd, by simp, fun y hy z hz e => hx (by rw [← List.mem_singleton.mp hz, ← e]; exact hy)⟩
  · rw [← Array.length_toList, p.length_eq, List.length_append, Array.length_toList, R.size]
    exact few
end
/-! ### add -/
/-- a text put to others -/
def addT (ks : List Str) (x : Str) : List Str := if x ∈ ks then ks else ks ++ [x]
section
variable {P : Program} {w : World} {A : Around} {E : Value → Shared → Prop} {s : Shared} {a : Addr} {ks : List Str}
theorem tset_stored {o : Obj} {es es1 : Array (Int × Value)} {ep : Nat} {t t1 : SetTable} {ks1 : List Str} {gw : Bool → Sem Unit} (hg : ∀ (b : Bool) (s1 : Shared) (Q' : Unit → Shared → Prop), Q' () s1 → wpAny (model P w) A (gw b) Q' E s1)
    (ho : s.heap.get? a = some o) (hx : o.ExactSet) (hd : o.data = .set es ep t) (R1 : TRows w es1 t1 ks1) {was : Bool} {Q : Option Bool → Shared → Prop} (q : ∀ h', Heap.SameBut a s.heap h' → TxSet w h' a ks1 → Q (some true) { s with heap := h' }) :
    wpAny (model P w) A (storeSet a es1 t1 >>= fun _ => if (!was && t1.tooFull) = true then gw (relayAll t1 es1 (SetTable.grown es1.size)).2.2 >>= fun _ => storeSet a (relayAll t1 es1 (SetTable.grown es1.size)).1 (relayAll t1 es1 (SetTable.grown es1.size)).2.1 >>= fun _ => pure (some true) else pure (some true)) Q E s := by
  refine wpAny_bind (wpAny_storeSet_of ho hd ?_ (fits_of_scanBound R1.few))
  have at1 := store_at (es' := es1) (t' := t1) ho hd
  have sb1 : Heap.SameBut a s.heap (s.heap.update a (Obj.putSet es1 t1)) := Heap.SameBut.update ..
  by_cases full : (!was && t1.tooFull) = true
  · rw [if_pos full]
    have pm := relayAll_perm t1 es1 (SetTable.grown es1.size)
    have R2 : TRows w (relayAll t1 es1 (SetTable.grown es1.size)).1 (relayAll t1 es1 (SetTable.grown es1.size)).2.1 ks1 :=
      R1.order pm (relayAll_fits _ _ _) (relayAll_ris _ _ _) (relayAll_led _ _ _)
    refine wpAny_bind (hg _ _ _ (wpAny_bind (wpAny_storeSet_of at1 rfl ?_ (fits_of_scanBound R2.few))))
    exact wpAny_pure (q _ (sb1.trans (Heap.SameBut.update ..)) ⟨_, _, _, _, store_at at1 rfl, hx, rfl, R2⟩)
  · rw [if_neg full]
    exact wpAny_pure (q _ sb1 ⟨_, _, _, _, at1, hx, rfl, R1⟩)
theorem tset_put {x : Str} {u : Tok} {Q : Bool → Shared → Prop} (R : TxSet w s.heap a ks) (few : ks.length + 1 < scanBound) (q : ∀ (b : Bool) h', Heap.SameBut a s.heap h' → TxSet w h' a (addT ks x) → Q b { s with heap := h' }) :
    wpAny (model P w) A (setAddHashed a (.str x u) (keyH w (.inr x))) Q E s := by
  obtain ⟨o, es, ep, t, ho, hx, hd, R⟩ := R
  have kx : (mixKind P w).is (.inr x) (.str x u) = true := mixKind_str P w x u
  have el : ElemsOf (mixKind P w) es.toList := R.elems
  have gives : ∀ (b : Bool) {s1 : Shared} {Q' : Unit → Shared → Prop}, Q' () s1 → wpAny (model P w) A (match b with | true => rule "set.scan.the-table-gave-way" | false => pure ()) Q' E s1 := fun b s1 Q' z => by
    cases b
    · exact wpAny_pure z
    · exact wpAny_rule z
  unfold setAddHashed setAddHashedIn
  refine wpAny_holding (wpAny_bind (wpAny_setState_of ho hd R.fit ?_))
  dsimp only
  rw [byScan_of (show (Value.str x u).scannable = true from rfl) R.few el]
  simp only [↓reduceIte]
  unfold setAddByScan
  refine wpAny_bind (wpAny_bind (wpAny_rule (wpAny_bind (wpAny_setScan_of kx ho hd R.fit el ?_))))
  cases hf : List.findIdx? (fun e => (mixKind P w).is (.inr x) e.2) es.toList with
  | some j =>
    obtain ⟨hj, pj, _⟩ := List.findIdx?_eq_some_iff_getElem.mp hf
    have there : x ∈ ks := (R.has (P := P) x).mpr ⟨_, List.getElem_mem hj, pj⟩
    refine wpAny_pure (wpAny_pure (q _ s.heap (Heap.SameBut.refl a s.heap) ?_))
    unfold addT
    rw [if_pos there]
    exact ⟨o, es, ep, t, ho, hx, hd, R⟩
  | none =>
    have off : x ∉ ks := fun z => by
      obtain ⟨e, he, y⟩ := (R.has (P := P) x).mp z
      have := List.findIdx?_eq_none_iff.mp hf e he
      rw [y] at this
      cases this
    have pm := layNew_perm t es (keyH w (.inr x)) (.str x u)
    have fi := layNew_fits t es (keyH w (.inr x)) (.str x u)
    have ri := layNew_ris t es (keyH w (.inr x)) (.str x u) R.ris
    have le := layNew_led t es (keyH w (.inr x)) (.str x u)
    have more : ∀ {t2 : SetTable}, t2.fits (layNew t es (keyH w (.inr x)) (.str x u)).1.size = true → Ris t2.place.toList → t2.led = t.led → TRows w (layNew t es (keyH w (.inr x)) (.str x u)).1 t2 (ks ++ [x]) := fun f r l => R.more off pm few f r l
    have fin : ∀ (b : Bool) h', Heap.SameBut a s.heap h' → TxSet w h' a (ks ++ [x]) → Q b { s with heap := h' } := fun b h' sb r => q b h' sb (by unfold addT; rw [if_neg off]; exact r)
    generalize layNew t es (keyH w (.inr x)) (.str x u) = Z at fi ri le more
    obtain ⟨es1, t1, was, gave⟩ := Z
    dsimp only at fi ri le more ⊢
    refine wpAny_bind (gives _ ?_)
    split
    · refine wpAny_bind ?_
      rw [hashByValue_scannable 8 (show (Value.str x u).scannable = true from rfl)]
      refine wpAny_pure ?_
      refine tset_stored (fun b s1 Q' z => ?_) ho hx hd (more (t2 := if plainKind (Value.str x u) = true then t1 else { t1 with plain := false }) ?_ ?_ ?_) fun h' sb r => wpAny_pure (fin _ h' sb r)
      · exact gives b z
      · split
        · exact fi
        · exact SetTable.fits_plain_off fi
      · split <;> exact ri
      · split <;> exact le
    · refine wpAny_bind (wpAny_pure ?_)
      simp only [↓reduceIte]
      exact tset_stored (fun b s1 Q' z => gives b z) ho hx hd (more fi ri le) fun h' sb r => wpAny_pure (fin _ h' sb r)
/-- a.add(x) -/
theorem tset_add {x : Str} {u : Tok} {Q : Value → Shared → Prop} (R : TxSet w s.heap a ks) (few : ks.length + 1 < scanBound) (q : ∀ h' tk, Heap.SameBut a s.heap h' → TxSet w h' a (addT ks x) → Q .none { s with heap := h', toks := tk }) :
    wpAny (model P w) A (call (.builtin "set.add") [.ref a, .str x u]) Q E s := by
  have ty : s.TypeIs (.ref a) "set" := by
    obtain ⟨o, es, ep, t, ho, hx, _⟩ := R
    exact ⟨o, ho, hx.1⟩
  refine wpAny_call_entry F.slot_set_add ty F.entry_set_add ?_ (F.args_set_add_2 _ _)
  unfold Builtin.«set.add» Builtin.Frozenset.oneOther
  simp only [List.isEmpty_nil, bind_assoc]
  unfold Builtin.Frozenset.addrOf setAdd
  refine wpAny_bind (wpAny_pure ?_)
  refine wpAny_bind (wpAny_pure ?_)
  refine wpAny_bind (wpAny_holding (wpAny_bind ((mixKind P w).pyHash (mixKind_str P w x u) ?_)))
  refine tset_put (s := { s with toks := s.toks + 1 }) R few fun b h' sb r => ?_
  show wpAny _ _ (ret Value.none) _ _ _
  exact wpAny_pure ⟨_, rfl, q h' _ sb r⟩
theorem strs_row : ∀ {vs : List Value} {xs : List Str}, StrsAre vs xs → ∀ {i : Nat} {v : Value}, vs[i]? = some v → ∃ x u, xs[i]? = some x ∧ v = .str x u
  | _, _, .nil, i, v, h => by simp at h
  | _, _, .cons x u r, 0, v, h => ⟨x, u, rfl, by simpa using h.symm⟩
  | _, _, .cons x u r, i + 1, v, h => strs_row r (i := i) (by simpa using h)
/-! ### of nothing, of a list -/
/-- the object that such a set begins as -/
def setOb (w : World) : Obj := { cls := .type "set", dict := none, data := .set #[] 0 (.fresh 0 0 (!w.params.followText "set-order")) }
theorem tset_fresh {h : Heap} (ho : h.get? a = some (setOb w)) : TxSet w h a [] := by
  refine ⟨_, #[], 0, _, ho, ⟨rfl, rfl, rfl⟩, rfl, fun e he => by simp at he, List.Perm.refl _, List.nodup_nil, by decide, rfl, List.Pairwise.nil, ?_⟩
  show _ ∨ (!w.params.followText "set-order") = true
  cases w.params.followText "set-order"
  · exact .inr rfl
  · exact .inl rfl
/-- texts put in one after another -/
def addTs (ks : List Str) (xs : List Str) : List Str := xs.foldl addT ks
theorem addT_len (ks : List Str) (x : Str) : (addT ks x).length ≤ ks.length + 1 := by
  unfold addT
  split
  · exact Nat.le_succ _
  · simp
theorem addTs_len (ks : List Str) (xs : List Str) : (addTs ks xs).length ≤ ks.length + xs.length := by
  unfold addTs
  induction xs generalizing ks with
  | nil => exact Nat.le_refl _
  | cons x xs ih =>
    rw [List.foldl_cons, List.length_cons]
    have := ih (addT ks x)
    have := addT_len ks x
    omega
theorem addTs_take {xs : List Str} {i : Nat} {x : Str} (h : xs[i]? = some x) : addTs [] (xs.take (i + 1)) = addT (addTs [] (xs.take i)) x := by
  unfold addTs
  rw [List.take_succ, h]
  show List.foldl addT [] (xs.take i ++ [x]) = _
  rw [List.foldl_append]
  rfl
/-- set.update over what yields texts -/
theorem tset_updated {I : Addr} {fp wr : List Addr} {G : Array GenState → Array GenState → Prop} {n : Nat} {Pv : Nat → Value → Prop} {St : Nat → Shared → Prop} {R : Result → Shared → Prop} (W : WalksS P w A.in1 I fp wr G n Pv St) (off : a ∉ fp) {xs : List Str} (hn : n = xs.length)
    (hv : ∀ i v, Pv i v → ∃ x u, xs[i]? = some x ∧ v = .str x u) (few : xs.length + 1 < scanBound) :
    ∀ (k i : Nat) (s : Shared), n - i = k → i ≤ n → St i s → TxSet w s.heap a (addTs [] (xs.take i)) →
      (∀ s', Moved (a :: wr) G s s' → TxSet w s'.heap a (addTs [] xs) → R (.ok (.ret .none)) s') → codeAny (model P w) A (.builtin "set.update.loop" ⟨[.ref a, .ref I], []⟩) R s := by
  have offw : a ∉ wr := fun z => off (W.sub _ z)
  have up : ∀ b ∈ wr, b ∈ a :: wr := fun b hb => List.mem_cons_of_mem _ hb
  intro k
  induction k with
  | zero =>
    intro i s hk hi st S hR
    have e : i = n := by omega
    subst e
    refine codeAny_builtin F.entry_set_update_loop ?_
    rw [Around.under_plainId F.plain_set_update_loop _]
    refine wpAny_bind (m := pyNext (.ref I)) (W.done s _ _ st fun s' mv => ?_)
    refine wpAny_pure (hR s' (mv.mono up) ?_)
    rw [hn, List.take_length] at S
    exact S.keep fun o e => mv.heap a o offw e
  | succ k ih =>
    intro i s hk hi st S hR
    have lt : i < n := by omega
    refine codeAny_builtin F.entry_set_update_loop ?_
    rw [Around.under_plainId F.plain_set_update_loop _]
    refine wpAny_bind (m := pyNext (.ref I)) (W.item i s _ _ lt st fun v s' pv st' mv => ?_)
    obtain ⟨x, u, ex, rfl⟩ := hv i v pv
    have S' := S.keep fun o e => mv.heap a o offw e
    refine wpAny_bind (m := holding [Value.str x u] (setAdd a (.str x u))) (wpAny_holding ?_)
    unfold setAdd
    refine wpAny_holding (wpAny_bind ((mixKind P w).pyHash (mixKind_str P w x u) ?_))
    have room : (addTs [] (xs.take i)).length + 1 < scanBound := by
      have := addTs_len [] (xs.take i)
      have : (xs.take i).length ≤ xs.length := by rw [List.length_take]; omega
      simp only [List.length_nil] at *
      omega
    refine tset_put (s := { s' with toks := s'.toks + 1 }) S' room fun b h' sb r => ?_
    rw [← addTs_take ex] at r
    refine wpAny_pure ⟨plainId_quiet F.plain_set_update_loop _, ih (i + 1) _ (by omega) lt (W.frame _ s' _ _ st' (Nat.le_succ _) fun b hb o e => ?_) r fun s2 mv2 S2 => ?_⟩
    · rw [sb.2 b fun z => off (by rw [← z]; exact hb)]
      exact e
    · refine hR s2 (Moved.trans W.gtrans ((mv.mono up).then_heap (Nat.le_succ _) fun b o hb e => ?_) mv2) S2
      rw [sb.2 b fun z => hb (by rw [z]; exact List.mem_cons_self)]
      exact e
set_option maxHeartbeats 3200000 in
/-- set(xs) of a list of texts -/
theorem call_set_txt {l : Addr} {items : Array Value} {xs : List Str} {Q : Value → Shared → Prop} (hh : A.handled = none) (hl : s.heap.IsList l items) (hi : StrsAre items.toList xs) (few : xs.length + 1 < scanBound)
    (q : ∀ h' tk, TxSet w h' s.heap.objs.size (addTs [] xs) → (∀ b o, s.heap.get? b = some o → h'.get? b = some o) → Q (.ref s.heap.objs.size) { s with heap := h', toks := tk }) : wpAny (model P w) A (call (.type "set") [.ref l]) Q E s := by
  have len : items.size = xs.length := by
    have := hi.length
    rwa [Array.length_toList] at this
  obtain ⟨c, tl, hmro⟩ := F.called_set.mro
  have hmade := F.called_set.made
  have hsub := F.called_set.sub
  refine wpAny_call (codeAny_of_tree ?_)
  show wpAny _ _ (callAny (.type "set") ⟨[.ref l], []⟩) _ _ s
  refine wpAny_pure ⟨Code.quiet_builtin _ (by decide +kernel), codeAny_builtin F.entry_type_call ?_⟩
  rw [Around.under_plain (weight_type_call_type "set" [.ref l] []) rfl]
  have h1 := F.called_set.notType
  have h2 := F.called_set.canCreate
  have hct := F.typeCall_set_1 (.ref l)
  repeat (any_goals (first | assumption | wp_step))
  have new := code_set_led1 (P := P) (w := w) (A := A.in1) (s := s) (.ref l) (E := E) (Q₁ := fun v t => v = .ref s.heap.objs.size ∧ t = { s with heap := s.heap.push (setOb w) }) ⟨rfl, rfl⟩
  refine codeAny_mono new fun r t1 hr => ?_
  cases r with
  | error e => exact hr
  | ok fl =>
    cases fl with
    | ret v =>
      obtain ⟨rfl, rfl⟩ := hr
      have at1 : (s.heap.push (setOb w)).get? s.heap.objs.size = some (setOb w) := Heap.get?_push_size _ rfl
      have ty : Shared.TypeIs { s with heap := s.heap.push (setOb w) } (.ref s.heap.objs.size) "set" := ⟨_, at1, rfl⟩
      have look := F.called_set.init.lookup
      have bnd := F.called_set.init.bind (.ref s.heap.objs.size)
      repeat (any_goals (first | assumption | wp_step))
      refine codeAny_mono (codeAny_call_builtin (R := wants (fun r t2 => r = .none ∧ ∃ h' tk, t2 = { s with heap := h', toks := tk } ∧ TxSet w h' s.heap.objs.size (addTs [] xs) ∧ ∀ b o, s.heap.get? b = some o → h'.get? b = some o) E) F.called_set.init.plain F.entry_set_init (check_set_init_1 ty ?_)) fun r2 t2 hr2 => ?_
      · obtain ⟨ol, hol, hcl, nl, hdl⟩ := hl
        obtain ⟨oc, od, oda, osl⟩ := ol
        simp only at hcl hdl
        subst hcl hdl
        have lat : (s.heap.push (setOb w)).get? l = some { cls := .type "list", dict := od, data := .seq items nl, slots := osl } := Heap.get?_push_of_some _ hol
        have l1 : (s.heap.push (setOb w)).IsList l items := ⟨_, lat, rfl, nl, rfl⟩
        have no1 := F.sub_list_set
        have no2 := F.sub_list_frozenset
        have no3 : (Value.type "list" == Value.type "dict") = false := by decide
        unfold Builtin.«set.__init__» noKeywords Builtin.Frozenset.updateFrom
        generalize hit : pyIter = itr
        wp_walk
        subst hit
        refine wpAny_pyIter_list l1 (wpAny_bind (wpAny_runValue ?_))
        have lt : l < s.heap.objs.size := Heap.lt_size hol
        have h3 : A.in1.in1.in1.handled = none := by simp [hh]
        have size1 : (s.heap.push (setOb w)).objs.size = s.heap.objs.size + 1 := Heap.size_push ..
        have neI : l ≠ (s.heap.push (setOb w)).objs.size := by rw [size1]; exact Nat.ne_of_lt (Nat.lt_succ_of_lt lt)
        have off : s.heap.objs.size ∉ [(s.heap.push (setOb w)).objs.size, l] := by
          rw [size1]
          simp only [List.mem_cons, List.not_mem_nil, or_false, not_or]
          exact ⟨Nat.ne_of_lt (Nat.lt_succ_self _), Nat.ne_of_gt lt⟩
        have vals : ∀ (i : Nat) (v : Value), items[i]? = some v → ∃ x u, xs[i]? = some x ∧ v = .str x u := fun i v hv => by
          obtain ⟨x, u, e1, e2⟩ := strs_row hi (i := i) (v := v) (by rw [Array.getElem?_toList]; exact hv)
          exact ⟨x, u, e1, e2⟩
        refine tset_updated ((Walks.list h3 _ l neI items).toS) off len vals few (items.size - 0) 0 _ (by omega) (Nat.zero_le _) ⟨⟨_, Heap.get?_push_size _ rfl, rfl, rfl⟩, l1.push _⟩ ?new ?fin
        case new => exact tset_fresh (Heap.get?_push_of_some _ at1)
        case fin =>
          intro t3 mv S3
          obtain ⟨h4, g4, d4, tk4, os4⟩ := t3
          obtain rfl : g4 = s.gens := mv.gens
          obtain rfl : d4 = s.drawn := mv.drawn
          obtain rfl : os4 = s.os := mv.os
          show wpAny _ _ _ _ _ _
          refine wpAny_pure ?_
          show wpAny _ _ (ret Value.none) _ _ _
          refine wpAny_pure ⟨rfl, h4, tk4, rfl, S3, fun b o e => ?_⟩
          have lb := Heap.lt_size e
          refine mv.heap b o (fun z => ?_) (Heap.get?_push_of_some _ (Heap.get?_push_of_some _ e))
          simp only [List.mem_cons, List.not_mem_nil, or_false] at z
          rcases z with z | z
          · exact Nat.ne_of_lt lb z
          · rw [size1] at z
            exact Nat.ne_of_lt (Nat.lt_succ_of_lt lb) z
      · cases r2 with
        | error e => exact hr2
        | ok f2 =>
          cases f2 with
          | ret r =>
            obtain ⟨rfl, h4, tk4, rfl, S4, k4⟩ := hr2
            repeat (any_goals (first | assumption | wp_step))
            exact q _ _ S4 k4
          | _ => exact hr2.elim
    | _ => exact hr.elim
/-! ### sorted, len -/
theorem strs_txt : ∀ {vs : List Value}, (∀ v ∈ vs, ∃ x u, v = Value.str x u) → StrsAre vs (vs.map fun v => rowTxt (0, v))
  | [], _ => .nil
  | v :: vs, h => by
    obtain ⟨x, u, rfl⟩ := h v List.mem_cons_self
    exact .cons x u (strs_txt fun y hy => h y (List.mem_cons_of_mem _ hy))
theorem sorted_txt {Q : Value → Shared → Prop} (R : TxSet w s.heap a ks) (hh : A.handled = none)
    (q : ∀ s' p (out : Array Value) (c : Nat) (ys : List Str), (∀ b o, s.heap.get? b = some o → s'.heap.get? b = some o) → s'.gens = s.gens → s'.os = s.os → s.heap.objs.size ≤ p → s'.heap.get? p = some (seqObj "list" out c) →
      StrsAre out.toList ys → ys.Perm ks → sortedS ys = true → Q (.ref p) s') : wpAny (model P w) A (call (.builtin "sorted") [.ref a]) Q E s := by
  obtain ⟨o, es, ep, t, ho, hx, hd, R⟩ := R
  refine Calls.call_function_entry kind_sorted plain_sorted entry_sorted (args_sorted1 _) ?_
  unfold Builtin.«sorted»
  refine wpAny_bind (m := checkCount "sorted" 1 1 _) (wpAny_pure ?_)
  refine wpAny_bind (collect_set (A := A.in1) hh ⟨o, ho, hx.1, hd⟩ R.fit R.few R.ris R.led fun s1 vs k1 z1 g1 o1 pm => ?_)
  have all : ∀ v ∈ vs, ∃ x u, v = Value.str x u := fun v hv => by
    obtain ⟨e, he, z⟩ := List.mem_map.mp (pm.mem_iff.mp hv)
    obtain ⟨x, u, h1, _⟩ := R.row e he
    exact ⟨x, u, by rw [← z, h1]⟩
  have hS := strs_txt all
  have pk : (vs.map fun v => rowTxt (0, v)).Perm ks := by
    have := pm.map fun v => rowTxt (0, v)
    rw [List.map_map] at this
    exact this.trans R.prm
  have lim : vs.length ≤ sizeLine := by
    rw [pm.length_eq, List.length_map, Array.length_toList]
    exact fits_of_scanBound R.few
  refine wpAny_bind (wpAny_newList ?_ lim)
  have at2 : (s1.heap.push (seqObj "list" vs.toArray 0)).get? s1.heap.objs.size = some (seqObj "list" vs.toArray 0) := Heap.get?_push_size _ rfl
  refine wpAny_bind (wpAny_holding (wpAny_call_entry slot_list_sort ⟨_, at2, rfl⟩ entry_list_sort (list_sort_treeKAny strKind_oneLt at2 hS.keysOf (fun v1 v2 rest e => keyKind_strs (by rw [← e]; exact hS)) lim fun st hp hs => ⟨_, rfl, ?_⟩) (args_list_sort _)))
  obtain ⟨ys, y1, y2, y3⟩ := sorted_out_str hS hp hs
  obtain ⟨c, hc⟩ := sortedHeap_at (vs := vs) (out := (arrOf st).map (·.2)) at2
  refine wpAny_pure ⟨_, rfl, q _ s1.heap.objs.size ((arrOf st).map (·.2)) c ys (fun b u e => ?_) g1 o1 z1 hc y1 (y2.trans pk) y3⟩
  have e1 := k1 b u e
  have lb := Heap.lt_size e1
  show (sortedHeap (s1.heap.push (seqObj "list" vs.toArray 0)) s1.heap.objs.size vs ((arrOf st).map (·.2))).get? b = some u
  rw [sortedHeap_old (Nat.ne_of_lt lb) (by rw [size_push']; exact Nat.lt_succ_of_lt lb)]
  exact Heap.get?_push_of_some _ e1
theorem len_txt {Q : Value → Shared → Prop} (R : TxSet w s.heap a ks) (q : ∀ tk u, Q (.int ks.length u) { s with toks := tk }) : wpAny (model P w) A (call (.builtin "len") [.ref a]) Q E s := by
  obtain ⟨o, es, ep, t, ho, hx, hd, R⟩ := R
  refine call_len_set ho hx hd R.fit ?_ ?_
  · have := R.few
    unfold scanBound at this
    omega
  · rw [R.size]
    exact q _ _
end
/-- the set of the texts ks, tracked -/
def tsetP (w : World) (a : Addr) (ks : List Str) (h : Heap) : Prop := TxSet w h a ks
def TSO (w : World) (a : Addr) (ks : List Str) : HO := .ext (tsetP w a ks)
theorem tso_ok {P : Program} {w : World} {H : Hp} {h : Heap} {a : Addr} {ks : List Str} (R : TxSet w h a ks) : ObjOk P w H h a (TSO w a ks) := by
  have R' := R
  obtain ⟨o, es, ep, t, ho, r⟩ := R'
  exact ⟨R, ⟨o, ho⟩, fun h1 h2 p k => TxSet.keep p k⟩
end MR

/-! M0: a mirror of the text in plain Lean over a heap of numbered cells, and what ties it to the hand layer's readings. -/
namespace MR
open PySem PySem.Spec L2

/-- a value of the mirror: tuples by what they hold, lists and dicts by the number of their cell -/
inductive D where
  | non | bl (b : Bool) | int (i : Int) | str (s : Str) | tup (xs : List D) | ref (n : Nat)
  /-- the error that a suite holds: its class, its field -/
  | exc (c : Str) (d : D)
  /-- a built-in class; an own one -/
  | ty (n : String) | cls (c : Str)
  /-- a list that nobody writes (the script) -/
  | fz (xs : List D)
  /-- an error that is kept: its class, its field -/
  | er (c : Str) (d : D)
  /-- a dict's own key -/
  | key (k : List Key)
  /-- an error made of nothing: its class -/
  | eb (c : Str)
/-- what a cell holds: a list, a list that is only read, a dict -/
inductive Cell where
  | lst (xs : List D) | fro (xs : List D) | dic (kvs : List (Key × D))
  /-- a dict whose keys are tuples; the same while it is walked; the same with the text 'told' behind them -/
  | dt (kvs : List (List Key × D)) | dtf (kvs : List (List Key × D)) | odd (kvs : List (List Key × D))
  /-- a dict whose keys are texts or ints, that may be written -/
  | dk (kvs : List (Key × D))
  /-- a set of texts -/
  | set (ks : List Str)
/-- the cells, the newest first -/
structure Hs where
  n : Nat
  cs : List Cell
def Hs.get (S : Hs) (a : Nat) : Option Cell := if a < S.n then S.cs[S.n - 1 - a]? else none
def Hs.new (S : Hs) (c : Cell) : Hs := ⟨S.n + 1, c :: S.cs⟩
def Hs.put (S : Hs) (a : Nat) (c : Cell) : Hs := ⟨S.n, S.cs.set (S.n - 1 - a) c⟩
def Hs.Wf (S : Hs) : Prop := S.cs.length = S.n
theorem Hs.get_new (S : Hs) (c : Cell) : (S.new c).get S.n = some c := by
  simp [Hs.get, Hs.new]
theorem Hs.get_old {S : Hs} {c c' : Cell} {a : Nat} (h : S.get a = some c) : (S.new c').get a = some c := by
  unfold Hs.get at h
  split at h
  · rename_i hl
    unfold Hs.get Hs.new
    have e : S.n + 1 - 1 - a = (S.n - 1 - a) + 1 := by omega
    simp only []
    rw [if_pos (by omega), e, List.getElem?_cons_succ]
    exact h
  · cases h
theorem Hs.get_lt {S : Hs} {c : Cell} {a : Nat} (h : S.get a = some c) : a < S.n := by
  unfold Hs.get at h
  split at h
  · assumption
  · cases h
theorem Hs.get_new_inv {S : Hs} {c c' : Cell} {a : Nat} (h : (S.new c').get a = some c) : (a = S.n ∧ c = c') ∨ S.get a = some c := by
  have hl := Hs.get_lt h
  by_cases e : a = S.n
  · subst e
    rw [Hs.get_new] at h
    exact .inl ⟨rfl, (Option.some.inj h).symm⟩
  · refine .inr ?_
    have hl' : a < S.n + 1 := hl
    have hlt : a < S.n := by omega
    unfold Hs.get Hs.new at h
    simp only [] at h
    have e2 : S.n + 1 - 1 - a = (S.n - 1 - a) + 1 := by omega
    rw [if_pos (by omega), e2, List.getElem?_cons_succ] at h
    unfold Hs.get
    rw [if_pos hlt]
    exact h
theorem Hs.get_put {S : Hs} {c c' : Cell} {a : Nat} (h : S.get a = some c) : (S.put a c').get a = some c' := by
  have hl := Hs.get_lt h
  unfold Hs.get at h
  rw [if_pos hl] at h
  unfold Hs.get Hs.put
  simp only []
  rw [if_pos hl]
  exact List.getElem?_set_self (List.getElem?_eq_some_iff.mp h).1
theorem Hs.get_put_ne {S : Hs} {c' : Cell} {a b : Nat} (hb : b < S.n) (h : a ≠ b) : (S.put b c').get a = S.get a := by
  unfold Hs.get Hs.put
  simp only []
  by_cases hl : a < S.n
  · rw [if_pos hl, if_pos hl, List.getElem?_set_ne (by omega)]
  · rw [if_neg hl, if_neg hl]
theorem Hs.Wf.new {S : Hs} (h : S.Wf) (c : Cell) : (S.new c).Wf := by
  unfold Hs.Wf Hs.new at *
  simp [h]
theorem Hs.Wf.put {S : Hs} (h : S.Wf) (a : Nat) (c : Cell) : (S.put a c).Wf := by
  unfold Hs.Wf Hs.put at *
  simp [h]

/-- what comes of a piece of the text: a value, an error of a class with its field, or no word -/
inductive Res (α : Type) where
  | ok (a : α) (S : Hs) | err (c : Str) (d : D) (S : Hs) | bad
def Res.bind {α β : Type} (m : Res α) (k : α → Hs → Res β) : Res β := match m with
  | .ok a S => k a S
  | .err c d S => .err c d S
  | .bad => .bad
abbrev EnvD := List (Option D)
abbrev Ex := EnvD → Hs → Res D
abbrev Exs := EnvD → Hs → Res (List D)

/-- what the relation is told of: the written part, where the classes of errors stand, the errors that suites hold -/
structure Ct where
  K : PySem.W.Frag
  ca : Str → Addr
  sx : List (Nat × Addr × Str × Addr)
  w : World
/-- an error's object, tracked: its class, its own dict -/
def ExcT (a C dd : Addr) : HO := .ext fun h => ∃ oe vs, h.get? a = some oe ∧ oe.cls = .ref C ∧ oe.dict = some dd ∧ oe.data = .fields vs
/-- such an object that has no dict -/
def ExcB (a C : Addr) : HO := .ext fun h => ∃ oe vs, h.get? a = some oe ∧ oe.cls = .ref C ∧ oe.dict = none ∧ oe.data = .fields vs
def fV (v : V) : List (Str × V) := [(("value" : Str), v)]
section
variable (T : Ct)
/-- a tuple at a: tracked, or of the written part -/
def Tp (K : PySem.W.Frag) (H : Hp) (a : Addr) (xs : List V) : Prop :=
  H a = some (.tup xs) ∨ ∃ (o : Obj) (its : Array Value) (n : Nat), K.lookup a = some o ∧ o.cls = .type "tuple" ∧ o.data = .seq its n ∧ its.size ≤ sizeLine ∧ Vals xs its.toList
/-- a list at a that nobody writes: locked, or of the written part -/
def Fz (K : PySem.W.Frag) (H : Hp) (a : Addr) (xs : List V) : Prop :=
  (∃ o, H a = some (.frz o (.lst xs))) ∨ ∃ (o : Obj) (its : Array Value) (n : Nat), K.lookup a = some o ∧ o.cls = .type "list" ∧ o.dict = none ∧ o.data = .seq its n ∧ its.size ≤ sizeLine ∧ Vals xs its.toList
theorem Fz.sql {K : PySem.W.Frag} {H : Hp} {a : Addr} {xs : List V} (h : Fz K H a xs) : SqL K H a xs := by
  rcases h with h | h
  · exact .inl (.inr h)
  · exact .inr h
/-- d is what v is -/
inductive RV (φ : List Addr) (H : Hp) : D → V → Prop where
  | non : RV φ H .non .non
  | bl (b : Bool) : RV φ H (.bl b) (.bl b)
  | int (i : Int) : RV φ H (.int i) (.int i)
  | str (s : Str) : RV φ H (.str s) (.str s)
  | tup {ds : List D} {a : Addr} {vs : List V} (h : Tp T.K H a vs) (l : ds.length = vs.length) (r : ∀ (i : Nat) d v, ds[i]? = some d → vs[i]? = some v → RV φ H d v) : RV φ H (.tup ds) (.ref a)
  | ref {n : Nat} {a : Addr} (h : φ[n]? = some a) : RV φ H (.ref n) (.ref a)
  | ty (n : String) : RV φ H (.ty n) (.ty n)
  | cls (c : Str) : RV φ H (.cls c) (.ref (T.ca c))
  | fz {ds : List D} {a : Addr} {vs : List V} (h : Fz T.K H a vs) (l : ds.length = vs.length) (r : ∀ (i : Nat) d v, ds[i]? = some d → vs[i]? = some v → RV φ H d v) : RV φ H (.fz ds) (.ref a)
  | er {c : Str} {d : D} {a dd : Addr} {v : V} (h : H a = some (ExcT a (T.ca c) dd)) (hd : H dd = some (.xd (fV v))) (r : RV φ H d v) : RV φ H (.er c d) (.ref a)
  | key {k : List Key} {a : Addr} (h : H a = some (.tup (k.map kV))) : RV φ H (.key k) (.ref a)
  | eb {c : Str} {a : Addr} (h : H a = some (ExcB a (T.ca c))) : RV φ H (.eb c) (.ref a)
def RVs (φ : List Addr) (H : Hp) (ds : List D) (vs : List V) : Prop := ds.length = vs.length ∧ ∀ (i : Nat) d v, ds[i]? = some d → vs[i]? = some v → RV T φ H d v
def RKs (φ : List Addr) (H : Hp) (ds : List (Key × D)) (vs : List (Key × V)) : Prop := ds.length = vs.length ∧ ∀ (i : Nat) d v, ds[i]? = some d → vs[i]? = some v → d.1 = v.1 ∧ RV T φ H d.2 v.2
def RTs (φ : List Addr) (H : Hp) (ds : List (List Key × D)) (vs : List (List Key × V)) : Prop := ds.length = vs.length ∧ ∀ (i : Nat) d v, ds[i]? = some d → vs[i]? = some v → d.1 = v.1 ∧ RV T φ H d.2 v.2
/-- what stands before 'told': nothing, or one tuple key -/
def OddE (H : Hp) (vs : List (List Key × V)) (es : Array DictEntry) : Prop := (vs = [] ∧ es = #[]) ∨ ∃ (k : List Key) (v : V) (b : Addr) (u : Value) (P : Program), vs = [(k, v)] ∧ RelV v u ∧ H b = some (.tup (k.map kV)) ∧ es = #[⟨(tupleKind (mixKind P T.w)).hash k, .ref b, u⟩]
def oddP (a : Addr) (es : Array DictEntry) (h : Heap) : Prop := ∃ o ep, h.get? a = some o ∧ o.ExactDict ∧ o.data = .dict es ep
def OddO (a : Addr) (es : Array DictEntry) : HO := .ext (oddP a es)
def told : Str := "told"
inductive RC (φ : List Addr) (H : Hp) : Cell → Addr → Prop where
  | lst {ds : List D} {vs : List V} {a : Addr} (h : H a = some (.lst vs)) (r : RVs T φ H ds vs) : RC φ H (.lst ds) a
  | fro {ds : List D} {vs : List V} {a : Addr} {o : Obj} (h : H a = some (.frz o (.lst vs))) (r : RVs T φ H ds vs) : RC φ H (.fro ds) a
  | dic {ds : List (Key × D)} {vs : List (Key × V)} {a : Addr} {o : Obj} (h : H a = some (.frz o (.dK vs))) (r : RKs T φ H ds vs) : RC φ H (.dic ds) a
  | dt {ds : List (List Key × D)} {vs : List (List Key × V)} {a : Addr} (h : H a = some (.dT vs)) (r : RTs T φ H ds vs) : RC φ H (.dt ds) a
  | dtf {ds : List (List Key × D)} {vs : List (List Key × V)} {a : Addr} {o : Obj} (h : H a = some (.frz o (.dT vs))) (r : RTs T φ H ds vs) : RC φ H (.dtf ds) a
  | odd {ds : List (List Key × D)} {vs : List (List Key × V)} {a : Addr} {es : Array DictEntry} {t : Tok} (hs : (a == sysModules) = false) (h : H a = some (OddO a (es.push ⟨hashStr T.w told, .str told t, .none⟩))) (q : OddE T H vs es) (r : RTs T φ H ds vs) : RC φ H (.odd ds) a
  | dk {ds : List (Key × D)} {vs : List (Key × V)} {a : Addr} (h : H a = some (.dK vs)) (r : RKs T φ H ds vs) : RC φ H (.dk ds) a
  | set {ks : List Str} {a : Addr} (h : H a = some (TSO T.w a ks)) : RC φ H (.set ks) a
structure RS (φ : List Addr) (S : Hs) (H : Hp) : Prop where
  wf : S.Wf
  len : φ.length = S.n
  nd : φ.Nodup
  cell : ∀ n c a, S.get n = some c → φ[n]? = some a → RC T φ H c a
/-- what the name at i holds: a value, or the error that a suite of that name holds -/
inductive RX (φ : List Addr) (H : Hp) (i : Nat) : D → V → Prop where
  | rv {d : D} {v : V} (r : RV T φ H d v) : RX φ H i d v
  | sx {c : Str} {d : D} {a dd : Addr} {v : V} (h : (i, a, c, dd) ∈ T.sx) (hd : H dd = some (.xd (fV v))) (r : RV T φ H d v) : RX φ H i (.exc c d) (.ref a)
def RE (φ : List Addr) (H : Hp) (env : EnvD) (σ : St) : Prop := env.length = σ.length ∧ ∀ (i : Nat) d, env[i]? = some (some d) → ∃ v, σ[i]? = some (some v) ∧ RX T φ H i d v
end
/-- what is locked for good, or for a walk -/
def isFr : HO → Bool
  | .lst _ => true
  | .dK _ => true
  | .dT _ => true
  | _ => false
/-- from one heap to a later one: new cells behind, what is no cell stays -/
structure Up (φ : List Addr) (H : Hp) (φ' : List Addr) (H' : Hp) : Prop where
  pre : ∃ ext, φ' = φ ++ ext ∧ ∀ a ∈ ext, H a = none
  fr : ∀ a o, H a = some o → a ∉ φ → H' a = some o
  dom : ∀ a o, H a = some o → ∃ o', H' a = some o'
  frz : ∀ a o u, isFr u = true → H a = some (.frz o u) → H' a = some (.frz o u)
section
variable {T : Ct} {φ φ' φ'' : List Addr} {H H' H'' : Hp} {S : Hs}
theorem Up.refl (φ : List Addr) (H : Hp) : Up φ H φ H := ⟨⟨[], by simp, by simp⟩, fun _ _ h _ => h, fun _ o h => ⟨o, h⟩, fun _ _ _ _ h => h⟩
theorem Up.trans (u : Up φ H φ' H') (w : Up φ' H' φ'' H'') : Up φ H φ'' H'' := by
  obtain ⟨e1, rfl, n1⟩ := u.pre
  obtain ⟨e2, rfl, n2⟩ := w.pre
  refine ⟨⟨e1 ++ e2, by simp, fun a ha => ?_⟩, fun a o h hn => ?_, fun a o h => ?_, fun a o x f h => w.frz a o x f (u.frz a o x f h)⟩
  · rcases List.mem_append.mp ha with ha | ha
    · exact n1 a ha
    · cases q : H a with
      | none => rfl
      | some o =>
        obtain ⟨o', q'⟩ := u.dom a o q
        rw [n2 a ha] at q'
        cases q'
  · refine w.fr a o (u.fr a o h hn) fun ha => ?_
    rcases List.mem_append.mp ha with ha | ha
    · exact hn ha
    · rw [n1 a ha] at h
      cases h
  · obtain ⟨o', h'⟩ := u.dom a o h
    exact w.dom a o' h'
theorem Up.at_ (u : Up φ H φ' H') {n : Nat} {a : Addr} (h : φ[n]? = some a) : φ'[n]? = some a := by
  obtain ⟨e, rfl, _⟩ := u.pre
  exact (List.getElem?_append_left (List.getElem?_eq_some_iff.mp h).1).trans h
theorem RS.getsome (R : RS T φ S H) {n : Nat} (h : n < S.n) : ∃ c, S.get n = some c := by
  unfold Hs.get
  rw [if_pos h]
  have hw : S.cs.length = S.n := R.wf
  exact ⟨S.cs[S.n - 1 - n], List.getElem?_eq_getElem (by omega)⟩
theorem RS.kind (R : RS T φ S H) {a : Addr} (ha : a ∈ φ) : ∃ c, RC T φ H c a := by
  obtain ⟨i, hi, e⟩ := List.mem_iff_getElem.mp ha
  obtain ⟨c, hc⟩ := R.getsome (n := i) (by rw [← R.len]; exact hi)
  exact ⟨c, R.cell i c a hc (by rw [List.getElem?_eq_getElem hi, e])⟩
theorem RS.some_ (R : RS T φ S H) {a : Addr} (ha : a ∈ φ) : ∃ o, H a = some o := by
  obtain ⟨c, h⟩ := R.kind ha
  cases h with
  | lst h _ => exact ⟨_, h⟩
  | fro h _ => exact ⟨_, h⟩
  | dic h _ => exact ⟨_, h⟩
  | dt h _ => exact ⟨_, h⟩
  | dtf h _ => exact ⟨_, h⟩
  | odd _ h _ _ => exact ⟨_, h⟩
  | dk h _ => exact ⟨_, h⟩
  | set h => exact ⟨_, h⟩
theorem RS.notin_none (R : RS T φ S H) {a : Addr} (h : H a = none) : a ∉ φ := fun ha => by
  obtain ⟨o, e⟩ := R.some_ ha
  rw [h] at e
  cases e
/-- what cells are -/
noncomputable def isCell : HO → Bool
  | .lst _ => true
  | .dT _ => true
  | .dK _ => true
  | .frz _ _ => true
  | .ext p => @decide ((∃ a es, p = oddP a es) ∨ ∃ w a ks, p = tsetP w a ks) (Classical.propDecidable _)
  | _ => false
theorem isCell_odd {a : Addr} {es : Array DictEntry} : isCell (OddO a es) = true := @decide_eq_true _ (Classical.propDecidable _) (.inl ⟨a, es, rfl⟩)
theorem isCell_set {w : World} {a : Addr} {ks : List Str} : isCell (TSO w a ks) = true := @decide_eq_true _ (Classical.propDecidable _) (.inr ⟨w, a, ks, rfl⟩)
/-- an error's object is no cell -/
theorem isCell_ob {a C : Addr} {p : Heap → Prop} {dd : Option Addr} (y : ∀ h, (∃ oe vs, h.get? a = some oe ∧ oe.cls = .ref C ∧ oe.dict = dd ∧ oe.data = .fields vs) → p h) : isCell (.ext p) = false := by
  refine @decide_eq_false _ (Classical.propDecidable _) fun z => ?_
  let ob : Obj := { cls := .ref C, dict := dd, data := .fields #[] }
  let hh : Heap := { objs := Array.replicate (a + 1) ob }
  have one : ∀ c o, hh.get? c = some o → o = ob := fun c o q => by
    unfold Heap.get? at q
    simp only [hh, Array.getElem?_replicate] at q
    split at q
    · cases q
    · split at q
      · exact (Option.some.inj q).symm
      · cases q
  have there : hh.get? a = some ob := by
    unfold Heap.get?
    simp only [hh, Array.getElem?_replicate]
    rw [if_pos (Nat.lt_succ_self a)]
  rcases z with ⟨b, es, e⟩ | ⟨w, b, ks, e⟩
  · have x := (congrFun e hh).mp (y hh ⟨ob, #[], there, rfl, rfl, rfl⟩)
    obtain ⟨o, ep, h1, _, h2⟩ := x
    rw [one _ _ h1] at h2
    cases h2
  · have x : tsetP w b ks hh := (congrFun e hh).mp (y hh ⟨ob, #[], there, rfl, rfl, rfl⟩)
    obtain ⟨o, es, ep, t, h1, _, h2, _⟩ := x
    rw [one _ _ h1] at h2
    cases h2
theorem isCell_exc {a C dd : Addr} : isCell (ExcT a C dd) = false := isCell_ob (dd := some dd) fun _ z => z
theorem isCell_excB {a C : Addr} : isCell (ExcB a C) = false := isCell_ob (dd := none) fun _ z => z
theorem RS.notin (R : RS T φ S H) {a : Addr} {o : HO} (h : H a = some o) (ho : isCell o = false) : a ∉ φ := fun ha => by
  obtain ⟨c, r⟩ := R.kind ha
  cases r with
  | lst q _ => rw [h] at q; cases q; cases ho
  | fro q _ => rw [h] at q; cases q; cases ho
  | dic q _ => rw [h] at q; cases q; cases ho
  | dt q _ => rw [h] at q; cases q; cases ho
  | dtf q _ => rw [h] at q; cases q; cases ho
  | odd _ q _ _ => rw [h] at q; cases q; rw [isCell_odd] at ho; cases ho
  | dk q _ => rw [h] at q; cases q; cases ho
  | set q => rw [h] at q; cases q; rw [isCell_set] at ho; cases ho
theorem RS.stay (R : RS T φ S H) (u : Up φ H φ' H') {a : Addr} {o : HO} (h : H a = some o) (ho : isCell o = false) : H' a = some o := u.fr a o h (R.notin h ho)
theorem Tp.sq {K : PySem.W.Frag} {a : Addr} {vs : List V} (h : Tp K H a vs) : SqT K H a vs := by
  rcases h with h | h
  · exact .inl (.inl h)
  · exact .inr h
theorem RS.tp (R : RS T φ S H) (u : Up φ H φ' H') {a : Addr} {vs : List V} (h : Tp T.K H a vs) : Tp T.K H' a vs := by
  rcases h with h | h
  · exact .inl (R.stay u h rfl)
  · exact .inr h
theorem RV.up (R : RS T φ S H) (u : Up φ H φ' H') {d : D} {v : V} (h : RV T φ H d v) : RV T φ' H' d v := by
  induction h with
  | non => exact .non
  | bl b => exact .bl b
  | int i => exact .int i
  | str s => exact .str s
  | tup h l r ih => exact .tup (R.tp u h) l ih
  | ref h => exact .ref (u.at_ h)
  | ty n => exact .ty n
  | cls c => exact .cls c
  | fz h l r ih =>
    refine .fz ?_ l ih
    rcases h with ⟨o, h⟩ | h
    · exact .inl ⟨o, u.frz _ _ _ rfl h⟩
    · exact .inr h
  | er h hd r ih => exact .er (R.stay u h isCell_exc) (R.stay u hd rfl) ih
  | key h => exact .key (R.stay u h rfl)
  | eb h => exact .eb (R.stay u h isCell_excB)
theorem RVs.up (R : RS T φ S H) (u : Up φ H φ' H') {ds : List D} {vs : List V} (h : RVs T φ H ds vs) : RVs T φ' H' ds vs := ⟨h.1, fun i d v a b => (h.2 i d v a b).up R u⟩
theorem RKs.up (R : RS T φ S H) (u : Up φ H φ' H') {ds : List (Key × D)} {vs : List (Key × V)} (h : RKs T φ H ds vs) : RKs T φ' H' ds vs := ⟨h.1, fun i d v a b => ⟨(h.2 i d v a b).1, (h.2 i d v a b).2.up R u⟩⟩
theorem RX.up (R : RS T φ S H) (u : Up φ H φ' H') {i : Nat} {d : D} {v : V} (h : RX T φ H i d v) : RX T φ' H' i d v := by
  cases h with
  | rv r => exact .rv (r.up R u)
  | sx h hd r => exact .sx h (R.stay u hd rfl) (r.up R u)
theorem RE.up (R : RS T φ S H) (u : Up φ H φ' H') {env : EnvD} {σ : St} (h : RE T φ H env σ) : RE T φ' H' env σ := ⟨h.1, fun i d a => by
  obtain ⟨v, b, r⟩ := h.2 i d a
  exact ⟨v, b, r.up R u⟩⟩
theorem RTs.up (R : RS T φ S H) (u : Up φ H φ' H') {ds : List (List Key × D)} {vs : List (List Key × V)} (h : RTs T φ H ds vs) : RTs T φ' H' ds vs := ⟨h.1, fun i d v a b => ⟨(h.2 i d v a b).1, (h.2 i d v a b).2.up R u⟩⟩
theorem OddE.up (R : RS T φ S H) (u : Up φ H φ' H') {vs : List (List Key × V)} {es : Array DictEntry} (h : OddE T H vs es) : OddE T H' vs es := by
  rcases h with h | ⟨k, v, b, x, P, h1, h2, h3, h4⟩
  · exact .inl h
  · exact .inr ⟨k, v, b, x, P, h1, h2, R.stay u h3 rfl, h4⟩
theorem RVs.nil : RVs T φ H [] [] := ⟨rfl, fun i d v a _ => by simp at a⟩
theorem RVs.cons {d : D} {v : V} {ds : List D} {vs : List V} (r : RV T φ H d v) (rs : RVs T φ H ds vs) : RVs T φ H (d :: ds) (v :: vs) := by
  refine ⟨by simp [rs.1], fun i e u a b => ?_⟩
  cases i with
  | zero =>
    simp at a b
    subst a b
    exact r
  | succ i => exact rs.2 i e u (by simpa using a) (by simpa using b)
theorem RVs.inv_nil {vs : List V} (r : RVs T φ H [] vs) : vs = [] := List.length_eq_zero_iff.mp r.1.symm
theorem RVs.inv_cons {d : D} {ds : List D} {vs : List V} (r : RVs T φ H (d :: ds) vs) : ∃ v us, vs = v :: us ∧ RV T φ H d v ∧ RVs T φ H ds us := by
  cases vs with
  | nil => have := r.1; simp at this
  | cons v us =>
    refine ⟨v, us, rfl, r.2 0 d v rfl rfl, by have := r.1; simpa using this, fun i e u a b => r.2 (i + 1) e u (by simpa using a) (by simpa using b)⟩
theorem RVs.append {ds ds' : List D} {vs vs' : List V} (r : RVs T φ H ds vs) (r' : RVs T φ H ds' vs') : RVs T φ H (ds ++ ds') (vs ++ vs') := by
  induction ds generalizing vs with
  | nil =>
    have e := r.inv_nil
    subst e
    exact r'
  | cons d ds ih =>
    obtain ⟨v, us, rfl, r1, r2⟩ := r.inv_cons
    exact .cons r1 (ih r2)
theorem RVs.get {ds : List D} {vs : List V} (r : RVs T φ H ds vs) {i : Nat} {d : D} (h : ds[i]? = some d) : ∃ v, vs[i]? = some v ∧ RV T φ H d v := by
  have hl : i < vs.length := by rw [← r.1]; exact (List.getElem?_eq_some_iff.mp h).1
  exact ⟨vs[i], List.getElem?_eq_getElem hl, r.2 i d _ h (List.getElem?_eq_getElem hl)⟩
theorem RVs.set {ds : List D} {vs : List V} (r : RVs T φ H ds vs) {d : D} {v : V} (h : RV T φ H d v) (i : Nat) : RVs T φ H (ds.set i d) (vs.set i v) := by
  refine ⟨by simp [r.1], fun j e u a b => ?_⟩
  by_cases hj : i = j
  · subst hj
    by_cases hi : i < ds.length
    · rw [List.getElem?_set_self hi] at a
      rw [List.getElem?_set_self (by rw [← r.1]; exact hi)] at b
      cases a
      cases b
      exact h
    · rw [List.getElem?_eq_none (by simpa using hi)] at a
      cases a
  · rw [List.getElem?_set_ne hj] at a b
    exact r.2 j e u a b
theorem RVs.take {ds : List D} {vs : List V} (r : RVs T φ H ds vs) (k : Nat) : RVs T φ H (ds.take k) (vs.take k) := by
  refine ⟨by simp [r.1], fun i d v a b => ?_⟩
  rw [List.getElem?_take] at a b
  split at a
  · rw [if_pos (by assumption)] at b
    exact r.2 i d v a b
  · cases a
theorem RVs.drop {ds : List D} {vs : List V} (r : RVs T φ H ds vs) (k : Nat) : RVs T φ H (ds.drop k) (vs.drop k) := by
  refine ⟨by simp [r.1], fun i d v a b => ?_⟩
  rw [List.getElem?_drop] at a b
  exact r.2 _ d v a b
/-- a new cell: its address p has nothing yet -/
theorem RS.new (R : RS T φ S H) {p : Addr} {o : HO} {c : Cell} (hp : H p = none) (hc : ∀ φ' H', Up φ H φ' H' → H' p = some o → RC T φ' H' c p) : RS T (φ ++ [p]) (S.new c) (upd H p o) ∧ Up φ H (φ ++ [p]) (upd H p o) := by
  have np := R.notin_none hp
  have U : Up φ H (φ ++ [p]) (upd H p o) := ⟨⟨[p], rfl, fun a ha => by simp at ha; subst ha; exact hp⟩, fun a o' h hn => by rw [upd_ne (fun e => by rw [e, hp] at h; cases h)]; exact h, fun a o' h => ⟨o', by rw [upd_ne (fun e => by rw [e, hp] at h; cases h)]; exact h⟩, fun a o' x _ h => by rw [upd_ne (fun e => by rw [e, hp] at h; cases h)]; exact h⟩
  refine ⟨⟨R.wf.new c, by simp [R.len, Hs.new], ?_, fun n c' a h1 h2 => ?_⟩, U⟩
  · exact List.nodup_append.mpr ⟨R.nd, by simp, fun a ha b hb => by simp at hb; subst hb; exact fun e => np (e ▸ ha)⟩
  · rcases Hs.get_new_inv h1 with ⟨rfl, rfl⟩ | h1
    · have e : a = p := by
        rw [List.getElem?_append_right (by rw [R.len]; exact Nat.le_refl _), R.len] at h2
        simp at h2
        exact h2.symm
      subst e
      exact hc _ _ U upd_same
    · have hl : n < φ.length := by rw [R.len]; exact Hs.get_lt h1
      rw [List.getElem?_append_left hl] at h2
      have na : a ≠ p := fun e => np (e ▸ List.mem_of_getElem? h2)
      cases R.cell n c' a h1 h2 with
      | lst h r => exact .lst (by rw [upd_ne na]; exact h) (r.up R U)
      | fro h r => exact .fro (by rw [upd_ne na]; exact h) (r.up R U)
      | dic h r => exact .dic (by rw [upd_ne na]; exact h) (r.up R U)
      | dt h r => exact .dt (by rw [upd_ne na]; exact h) (r.up R U)
      | dtf h r => exact .dtf (by rw [upd_ne na]; exact h) (r.up R U)
      | odd hs h q r => exact .odd hs (by rw [upd_ne na]; exact h) (q.up R U) (r.up R U)
      | dk h r => exact .dk (by rw [upd_ne na]; exact h) (r.up R U)
      | set h => exact .set (by rw [upd_ne na]; exact h)
/-- something that is no cell is laid -/
theorem RS.laid (R : RS T φ S H) {p : Addr} {o : HO} (hp : H p = none) : RS T φ S (upd H p o) ∧ Up φ H φ (upd H p o) := by
  have np := R.notin_none hp
  have U : Up φ H φ (upd H p o) := ⟨⟨[], by simp, by simp⟩, fun a o' h hn => by rw [upd_ne (fun e => by rw [e, hp] at h; cases h)]; exact h, fun a o' h => ⟨o', by rw [upd_ne (fun e => by rw [e, hp] at h; cases h)]; exact h⟩, fun a o' x _ h => by rw [upd_ne (fun e => by rw [e, hp] at h; cases h)]; exact h⟩
  refine ⟨⟨R.wf, R.len, R.nd, fun n c' a h1 h2 => ?_⟩, U⟩
  have na : a ≠ p := fun e => np (e ▸ List.mem_of_getElem? h2)
  cases R.cell n c' a h1 h2 with
  | lst h r => exact .lst (by rw [upd_ne na]; exact h) (r.up R U)
  | fro h r => exact .fro (by rw [upd_ne na]; exact h) (r.up R U)
  | dic h r => exact .dic (by rw [upd_ne na]; exact h) (r.up R U)
  | dt h r => exact .dt (by rw [upd_ne na]; exact h) (r.up R U)
  | dtf h r => exact .dtf (by rw [upd_ne na]; exact h) (r.up R U)
  | odd hs h q r => exact .odd hs (by rw [upd_ne na]; exact h) (q.up R U) (r.up R U)
  | dk h r => exact .dk (by rw [upd_ne na]; exact h) (r.up R U)
  | set h => exact .set (by rw [upd_ne na]; exact h)
theorem lst_nf {a : Addr} {vs : List V} (h : H a = some (.lst vs)) : ∀ o' u', isFr u' = true → H a ≠ some (.frz o' u') := fun o' u' _ e => by rw [h] at e; cases e
/-- a cell is written -/
theorem RS.put (R : RS T φ S H) {n : Nat} {p : Addr} {o : HO} {c0 c : Cell} (h0 : S.get n = some c0) (hp : φ[n]? = some p) (hmf : ∀ o' u', isFr u' = true → H p ≠ some (.frz o' u')) (hc : ∀ φ' H', Up φ H φ' H' → H' p = some o → RC T φ' H' c p) : RS T φ (S.put n c) (upd H p o) ∧ Up φ H φ (upd H p o) := by
  have U : Up φ H φ (upd H p o) := ⟨⟨[], by simp, by simp⟩, fun a o' h hn => by rw [upd_ne (fun e => hn (by rw [e]; exact List.mem_of_getElem? hp))]; exact h, fun a o' h => by
    by_cases e : a = p
    · exact ⟨o, by rw [e]; exact upd_same⟩
    · exact ⟨o', by rw [upd_ne e]; exact h⟩, fun a o' x f h => by rw [upd_ne (fun e => hmf o' x f (by rw [← e]; exact h))]; exact h⟩
  refine ⟨⟨R.wf.put n c, R.len, R.nd, fun m c' a h1 h2 => ?_⟩, U⟩
  by_cases hm : m = n
  · subst hm
    rw [Hs.get_put h0] at h1
    cases h1
    rw [hp] at h2
    cases h2
    exact hc _ _ U upd_same
  · rw [Hs.get_put_ne (Hs.get_lt h0) hm] at h1
    have na : a ≠ p := fun e => by
      subst e
      obtain ⟨l1, e1⟩ := List.getElem?_eq_some_iff.mp h2
      obtain ⟨l2, e2⟩ := List.getElem?_eq_some_iff.mp hp
      exact hm ((List.getElem_inj R.nd).mp (e1.trans e2.symm))
    cases R.cell m c' a h1 h2 with
    | lst h r => exact .lst (by rw [upd_ne na]; exact h) (r.up R U)
    | fro h r => exact .fro (by rw [upd_ne na]; exact h) (r.up R U)
    | dic h r => exact .dic (by rw [upd_ne na]; exact h) (r.up R U)
    | dt h r => exact .dt (by rw [upd_ne na]; exact h) (r.up R U)
    | dtf h r => exact .dtf (by rw [upd_ne na]; exact h) (r.up R U)
    | odd hs h q r => exact .odd hs (by rw [upd_ne na]; exact h) (q.up R U) (r.up R U)
    | dk h r => exact .dk (by rw [upd_ne na]; exact h) (r.up R U)
    | set h => exact .set (by rw [upd_ne na]; exact h)
/-- the address of a cell -/
theorem RS.addr (R : RS T φ S H) {n : Nat} {c : Cell} (h : S.get n = some c) : ∃ a, φ[n]? = some a ∧ RC T φ H c a := by
  have hl : n < φ.length := by rw [R.len]; exact Hs.get_lt h
  exact ⟨φ[n], List.getElem?_eq_getElem hl, R.cell n c _ h (List.getElem?_eq_getElem hl)⟩
theorem RS.start : RS T [] ⟨0, []⟩ H := ⟨rfl, rfl, by simp, fun n c a h _ => by simp [Hs.get] at h⟩
end
end MR

/-! M1: what the mirror's results ask; expressions, arguments, tests. -/
namespace MR
open PySem PySem.Spec L2

def Post {α : Type} (ok : α → Hs → Prop) (er : Str → D → Hs → Prop) : Res α → Prop
  | .ok a S => ok a S
  | .err c d S => er c d S
  | .bad => False
theorem Post.mono {α : Type} {ok ok' : α → Hs → Prop} {er er' : Str → D → Hs → Prop} {m : Res α} (h : Post ok er m) (h1 : ∀ a S, ok a S → ok' a S) (h2 : ∀ c d S, er c d S → er' c d S) : Post ok' er' m := by
  cases m with
  | ok a S => exact h1 a S h
  | err c d S => exact h2 c d S h
  | bad => exact h
theorem Post.bind {α β : Type} {ok : β → Hs → Prop} {er : Str → D → Hs → Prop} {m : Res α} {k : α → Hs → Res β} (h : Post ok er (m.bind k)) : Post (fun a S => Post ok er (k a S)) er m := by
  cases m with
  | ok a S => exact h
  | err c d S => exact h
  | bad => exact h
section
variable (T : Ct)
def okE (φ : List Addr) (H : Hp) (Q : VK) : D → Hs → Prop := fun d S' => ∀ φ' H' v, Up φ H φ' H' → RS T φ' S' H' → RV T φ' H' d v → Q v H'
def okA (φ : List Addr) (H : Hp) (Q : List V → Hp → Prop) : List D → Hs → Prop := fun ds S' => ∀ φ' H' vs, Up φ H φ' H' → RS T φ' S' H' → RVs T φ' H' ds vs → Q vs H'
def okT (φ : List Addr) (H : Hp) (Q : Bool → Hp → Prop) : D → Hs → Prop := fun d S' => ∃ b, d = .bl b ∧ ∀ φ' H', Up φ H φ' H' → RS T φ' S' H' → Q b H'
/-- an error leaves: its class, its own dict with the field -/
def erE (W : WX) (φ : List Addr) (H : Hp) (σ : L2.St) : Str → D → Hs → Prop := fun c d S' => ∀ φ' H' dd v, Up φ H φ' H' → RS T φ' S' H' → RV T φ' H' d v → H' dd = some (.xd (fV v)) → W (.ref (T.ca c)) (some dd) σ H'
def tE (W : WX) (m : Ex) : TE := fun σ H Q => ∃ φ env S, RS T φ S H ∧ RE T φ H env σ ∧ Post (okE T φ H Q) (erE T W φ H σ) (m env S)
def tA (W : WX) (m : Exs) : TA := fun σ H Q => ∃ φ env S, RS T φ S H ∧ RE T φ H env σ ∧ Post (okA T φ H Q) (erE T W φ H σ) (m env S)
def tT (W : WX) (m : Ex) : TT := fun σ H Q => ∃ φ env S, RS T φ S H ∧ RE T φ H env σ ∧ Post (okT T φ H Q) (erE T W φ H σ) (m env S)
end
section
variable {T : Ct} {W : WX} {φ φ1 : List Addr} {H H1 : Hp} {S S1 : Hs} {σ : L2.St} {env : EnvD}
theorem okE.up (u : Up φ H φ1 H1) {Q : VK} {d : D} (h : okE T φ H Q d S) : okE T φ1 H1 Q d S := fun φ' H' v u' R r => h φ' H' v (u.trans u') R r
theorem okA.up (u : Up φ H φ1 H1) {Q : List V → Hp → Prop} {d : List D} (h : okA T φ H Q d S) : okA T φ1 H1 Q d S := fun φ' H' v u' R r => h φ' H' v (u.trans u') R r
theorem okT.up (u : Up φ H φ1 H1) {Q : Bool → Hp → Prop} {d : D} (h : okT T φ H Q d S) : okT T φ1 H1 Q d S := by
  obtain ⟨b, e, h⟩ := h
  exact ⟨b, e, fun φ' H' u' R => h φ' H' (u.trans u') R⟩
theorem erE.up (u : Up φ H φ1 H1) {c : Str} {d : D} (h : erE T W φ H σ c d S) : erE T W φ1 H1 σ c d S := fun φ' H' dd v u' R r x => h φ' H' dd v (u.trans u') R r x
/-- one expression, then the rest -/
theorem tE_bind {α : Type} {ma : Ex} {k : D → Hs → Res α} {ok : α → Hs → Prop} {Q : VK} (R : RS T φ S H) (E : RE T φ H env σ) (P : Post ok (erE T W φ H σ) ((ma env S).bind k))
    (h : ∀ d S1 φ1 H1 v, Up φ H φ1 H1 → RS T φ1 S1 H1 → RV T φ1 H1 d v → RE T φ1 H1 env σ → Post ok (erE T W φ1 H1 σ) (k d S1) → Q v H1) : tE T W ma σ H Q :=
  ⟨φ, env, S, R, E, P.bind.mono (fun d S1 p φ1 H1 v u R1 r => h d S1 φ1 H1 v u R1 r (E.up R u) (p.mono (fun _ _ x => x) fun _ _ _ x => x.up u)) fun _ _ _ x => x⟩
theorem tA_bind {α : Type} {ma : Exs} {k : List D → Hs → Res α} {ok : α → Hs → Prop} {Q : List V → Hp → Prop} (R : RS T φ S H) (E : RE T φ H env σ) (P : Post ok (erE T W φ H σ) ((ma env S).bind k))
    (h : ∀ ds S1 φ1 H1 vs, Up φ H φ1 H1 → RS T φ1 S1 H1 → RVs T φ1 H1 ds vs → RE T φ1 H1 env σ → Post ok (erE T W φ1 H1 σ) (k ds S1) → Q vs H1) : tA T W ma σ H Q :=
  ⟨φ, env, S, R, E, P.bind.mono (fun d S1 p φ1 H1 v u R1 r => h d S1 φ1 H1 v u R1 r (E.up R u) (p.mono (fun _ _ x => x) fun _ _ _ x => x.up u)) fun _ _ _ x => x⟩
/-- the truth of a value that is a bool -/
def asB {α : Type} (d : D) (k : Bool → Res α) : Res α := match d with
  | .bl b => k b
  | _ => .bad
theorem tT_bind {α : Type} {ma : Ex} {k : Bool → Hs → Res α} {ok : α → Hs → Prop} {Q : Bool → Hp → Prop} (R : RS T φ S H) (E : RE T φ H env σ) (P : Post ok (erE T W φ H σ) ((ma env S).bind fun d S1 => asB d fun b => k b S1))
    (h : ∀ b S1 φ1 H1, Up φ H φ1 H1 → RS T φ1 S1 H1 → RE T φ1 H1 env σ → Post ok (erE T W φ1 H1 σ) (k b S1) → Q b H1) : tT T W ma σ H Q := by
  refine ⟨φ, env, S, R, E, P.bind.mono (fun d S1 p => ?_) fun _ _ _ x => x⟩
  cases d with
  | bl b => exact ⟨b, rfl, fun φ1 H1 u R1 => h b S1 φ1 H1 u R1 (E.up R u) (p.mono (fun _ _ x => x) fun _ _ _ x => x.up u)⟩
  | _ => exact False.elim p
theorem Post.upE {Q : VK} {m : Res D} (u : Up φ H φ1 H1) {er : Str → D → Hs → Prop} (P : Post (okE T φ H Q) er m) : Post (okE T φ1 H1 Q) er m := P.mono (fun _ _ x => x.up u) fun _ _ _ x => x
end
theorem weakE {X : Cx} {e : Expr} {t t' : TE} (h : PE X e t) (w : ∀ σ H Q, t' σ H Q → t σ H Q) : PE X e t' := ⟨fun pins s σ H Q I q => h.run pins s σ H Q I (w σ H Q q)⟩
theorem weakT {X : Cx} {e : Expr} {t t' : TT} (h : PT X e t) (w : ∀ σ H Q, t' σ H Q → t σ H Q) : PT X e t' := ⟨fun pins s σ H Q I q => h.run pins s σ H Q I (w σ H Q q)⟩
theorem weakPW {X : Cx} {e : Expr} {t t' : TT} (h : PW X e t) (w : ∀ σ H Q, t' σ H Q → t σ H Q) : PW X e t' := ⟨fun wh pins s σ H Q I q => h.run wh pins s σ H Q I (w σ H Q q)⟩
theorem weakA {X : Cx} {e : List Expr} {t t' : TA} (h : PA X e t) (w : ∀ σ H Q, t' σ H Q → t σ H Q) : PA X e t' := ⟨fun pos pins s σ H Q I q => h.run pos pins s σ H Q I (w σ H Q q)⟩

/-! ### leaves -/
def mC (d : D) : Ex := fun _ S => .ok d S
/-- an error that a suite holds is no value -/
def noX (d : D) : Bool := match d with
  | .exc _ _ => false
  | _ => true
def mV (i : Nat) : Ex := fun env S => match env[i]? with
  | some (some d) => if noX d then .ok d S else .bad
  | _ => .bad
theorem RX.out {T : Ct} {φ : List Addr} {H : Hp} {i : Nat} {d : D} {v : V} (r : RX T φ H i d v) (h : noX d = true) : RV T φ H d v := by
  cases r with
  | rv r => exact r
  | sx _ _ _ => cases h
section
variable {X : Cx} {T : Ct} {W : WX} {pos : Pos}
theorem r_var (i : Nat) {x : Str} (hN : X.N[i]? = some x := by rfl) (hv : Vis X.env.scope x := by first | exact Or.inl rfl | exact Or.inr (Or.inl rfl) | exact Or.inr (Or.inr rfl)) (hd : (x == ("__debug__" : Str)) = false := by decide) (hcd : (x == ("__classdict__" : Str)) = false := by decide) :
    PE X (.Name x pos) (tE T W (mV i)) := weakE (pe_var hN hv hd hcd) fun σ H Q ⟨φ, env, S, R, E, P⟩ => by
  unfold mV at P
  split at P
  · rename_i d hd
    obtain ⟨v, hv, r⟩ := E.2 i d hd
    split at P
    · rename_i hx
      exact ⟨v, hv, P φ H v (Up.refl _ _) R (r.out hx)⟩
    · exact P.elim
  · exact P.elim
theorem tC_of {d : D} {v : V} (hr : ∀ φ H, RV T φ H d v) {σ : L2.St} {H : Hp} {Q : VK} (h : tE T W (mC d) σ H Q) : tC v σ H Q := by
  obtain ⟨φ, env, S, R, E, P⟩ := h
  exact P φ H v (Up.refl _ _) R (hr φ H)
theorem r_int {i : Int} {j} : PE X (.Constant (.int i) j pos) (tE T W (mC (.int i))) := weakE pe_int fun _ _ _ h => tC_of (fun _ _ => .int i) h
theorem r_bl {b : Bool} {j} : PE X (.Constant (.bool b) j pos) (tE T W (mC (.bl b))) := weakE pe_bl fun _ _ _ h => tC_of (fun _ _ => .bl b) h
theorem r_non {j} : PE X (.Constant .none j pos) (tE T W (mC .non)) := weakE pe_non fun _ _ _ h => tC_of (fun _ _ => .non) h
theorem r_str {x : Str} {j} : PE X (.Constant (.str x) j pos) (tE T W (mC (.str x))) := weakE pe_str fun _ _ _ h => tC_of (fun _ _ => .str x) h
/-- a constant of the module: an int, a text -/
theorem r_gInt {x : Str} {i : Int} {t : Tok} (hg : Gl X x) (hm : X.mg x = some (.int i t)) (hd : (x == ("__debug__" : Str)) = false := by decide) : PE X (.Name x pos) (tE T W (mC (.int i))) :=
  weakE (pe_glob (v := .int i) hg hm ⟨t, rfl⟩ hd) fun _ _ _ h => tC_of (fun _ _ => .int i) h
theorem r_gStr {x y : Str} {t : Tok} (hg : Gl X x) (hm : X.mg x = some (.str y t)) (hd : (x == ("__debug__" : Str)) = false := by decide) : PE X (.Name x pos) (tE T W (mC (.str y))) :=
  weakE (pe_glob (v := .str y) hg hm ⟨t, rfl⟩ hd) fun _ _ _ h => tC_of (fun _ _ => .str y) h
/-! ### arguments -/
def mNil : Exs := fun _ S => .ok [] S
def mCons (m : Ex) (ms : Exs) : Exs := fun env S => (m env S).bind fun d S1 => (ms env S1).bind fun ds S2 => .ok (d :: ds) S2
theorem a_nil : PA X [] (tA T W mNil) := weakA pa_nil fun σ H Q ⟨φ, env, S, R, E, P⟩ => P φ H [] (Up.refl _ _) R .nil
theorem a_cons {e : Expr} {es : List Expr} {m : Ex} {ms : Exs} (ha : PE X e (tE T W m)) (hr : PA X es (tA T W ms)) (hs : starEach (e :: es) X.env = (false, eval e X.env) :: starEach es X.env := by rfl) : PA X (e :: es) (tA T W (mCons m ms)) :=
  weakA (pa_cons ha hr hs) fun σ H Q ⟨φ, env, S, R, E, P⟩ => tE_bind R E P fun d S1 φ1 H1 v u1 R1 r1 E1 P1 => tA_bind R1 E1 P1 fun ds S2 φ2 H2 vs u2 R2 r2 E2 P2 => P2 φ2 H2 (v :: vs) (u1.trans u2) R2 (.cons (r1.up R1 u2) r2)
/-! ### operations of two values -/
def mOp2 (g : D → D → Hs → Res D) (ma mb : Ex) : Ex := fun env S => (ma env S).bind fun x S1 => (mb env S1).bind fun y S2 => g x y S2
def OpM (T : Ct) (r : R2) (g : D → D → Hs → Res D) : Prop := ∀ {φ : List Addr} {S : Hs} {H : Hp} {x y : D} {v u : V} {Q : VK} {er : Str → D → Hs → Prop}, RS T φ S H → RV T φ H x v → RV T φ H y u → (∀ c d S', ¬ er c d S') → Post (okE T φ H Q) er (g x y S) → r v u H Q
/-- no error comes -/
def NoEr (g : D → D → Hs → Res D) : Prop := ∀ x y S c d S', g x y S ≠ .err c d S'
theorem Post.noEr {α : Type} {ok : α → Hs → Prop} {er : Str → D → Hs → Prop} {m : Res α} (h : Post ok er m) (n : ∀ c d S', m ≠ .err c d S') : Post ok (fun _ _ _ => False) m := by
  cases m with
  | ok a S => exact h
  | err c d S => exact (n c d S rfl).elim
  | bad => exact h
theorem op2_weak {r : R2} {g : D → D → Hs → Res D} (hg : OpM T r g) (hn : NoEr g) {ma mb : Ex} {σ : L2.St} {H : Hp} {Q : VK} (h : tE T W (mOp2 g ma mb) σ H Q) : tOp r (tE T W ma) (tE T W mb) σ H Q := by
  obtain ⟨φ, env, S, R, E, P⟩ := h
  exact tE_bind R E P fun x S1 φ1 H1 v u1 R1 r1 E1 P1 => tE_bind R1 E1 P1 fun y S2 φ2 H2 w u2 R2 r2 E2 P2 =>
    hg R2 (r1.up R1 u2) r2 (fun _ _ _ z => z) ((P2.upE (u1.trans u2)).noEr (hn x y S2))
variable {a b c : Expr} {ma mb mc : Ex}
theorem r_bin {op : Operator} {r : R2} {g : D → D → Hs → Res D} (ho : OpR X (binaryOp op) r) (hg : OpM T r g) (hn : NoEr g) (ha : PE X a (tE T W ma)) (hb : PE X b (tE T W mb)) : PE X (.BinOp a op b pos) (tE T W (mOp2 g ma mb)) :=
  weakE (pe_op ho ha hb) fun _ _ _ h => op2_weak hg hn h
theorem r_cmp {op : CmpOp} {r : R2} {g : D → D → Hs → Res D} (ho : OpR X (compareOp op) r) (hg : OpM T r g) (hn : NoEr g) (ha : PE X a (tE T W ma)) (hb : PE X b (tE T W mb)) (hm : behindInMarks op b = false) : PE X (.Compare a [op] [b] pos) (tE T W (mOp2 g ma mb)) :=
  weakE (pe_cmpR ho ha hb hm) fun _ _ _ h => op2_weak hg hn h
/-- a reading of a value as a test -/
theorem tT_of {m : Ex} {σ : L2.St} {H : Hp} {Q : Bool → Hp → Prop} (h : tT T W m σ H Q) : tE T W m σ H fun x H' => ∃ k, x = .bl k ∧ Q k H' := by
  obtain ⟨φ, env, S, R, E, P⟩ := h
  refine ⟨φ, env, S, R, E, P.mono (fun d S1 ⟨b, e, q⟩ φ1 H1 v u R1 r => ?_) fun _ _ _ x => x⟩
  subst e
  cases r
  exact ⟨b, rfl, q φ1 H1 u R1⟩
theorem t_cmp {op : CmpOp} {r : R2} {g : D → D → Hs → Res D} (ho : OpR X (compareOp op) r) (hg : OpM T r g) (hn : NoEr g) (ha : PE X a (tE T W ma)) (hb : PE X b (tE T W mb)) (hm : behindInMarks op b = false) : PT X (.Compare a [op] [b] pos) (tT T W (mOp2 g ma mb)) :=
  weakT (pt_cmpR ho ha hb hm) fun _ _ _ h => op2_weak hg hn (tT_of h)
/-- an expression whose value is a bool -/
theorem t_val {e : Expr} {m : Ex} (h : PE X e (tE T W m)) (he : ∀ whole, isTrue e X.env whole = (do let v ← whole; standAt e.pos; holding [v] (truthy v)) := by intro _; rfl) : PT X e (tT T W m) :=
  weakT (pt_val h he) fun _ _ _ h => tT_of h
/-! ### a op b op' c -/
def mChain (g g' : D → D → Hs → Res D) (ma mb mc : Ex) : Ex := fun env S => (ma env S).bind fun x S1 => (mb env S1).bind fun y S2 => (g x y S2).bind fun z S3 => asB z fun k => if k then (mc env S3).bind fun w S4 => g' y w S4 else .ok (.bl false) S3
theorem chain_weak {r r' : R2} {g g' : D → D → Hs → Res D} (hg : OpM T r g) (hn : NoEr g) (hg' : OpM T r' g') (hn' : NoEr g') {σ : L2.St} {H : Hp} {Q : VK} (h : tE T W (mChain g g' ma mb mc) σ H Q) : tChain r r' (tE T W ma) (tE T W mb) (tE T W mc) σ H Q := by
  obtain ⟨φ, env, S, R, E, P⟩ := h
  refine tE_bind R E P fun x S1 φ1 H1 v u1 R1 r1 E1 P1 => tE_bind R1 E1 P1 fun y S2 φ2 H2 w u2 R2 r2 E2 P2 => ?_
  have P3 := P2.bind.noEr (hn x y S2)
  refine hg R2 (r1.up R1 u2) r2 (fun _ _ _ z => z) (P3.mono (fun z S3 p φ3 H3 zv u3 R3 r3 => ?_) fun _ _ _ z => z)
  cases r3 with
  | bl k =>
    refine ⟨k, rfl, ?_⟩
    have p' := p
    unfold asB at p'
    cases k with
    | true =>
      rw [if_pos rfl]
      have p2 : Post (okE T φ H Q) (erE T W φ3 H3 σ) ((mc env S3).bind fun w S4 => g' y w S4) := Post.mono p' (fun _ _ x => x) fun _ _ _ x => x.up u3
      exact tE_bind R3 (E2.up R2 u3) p2 fun w' S4 φ4 H4 w4 u4 R4 r4 E4 P4 => hg' R4 ((r2.up R2 u3).up R3 u4) r4 (fun _ _ _ z => z) ((P4.upE (((u1.trans u2).trans u3).trans u4)).noEr (hn' y w' S4))
    | false =>
      rw [if_neg Bool.false_ne_true]
      exact p' φ3 H3 _ ((u1.trans u2).trans u3) R3 (.bl false)
  | _ => exact False.elim p
theorem r_chain {op op' : CmpOp} {r r' : R2} {g g' : D → D → Hs → Res D} (ho : OpR X (compareOp op) r) (hg : OpM T r g) (hn : NoEr g) (ho' : OpR X (compareOp op') r') (hg' : OpM T r' g') (hn' : NoEr g') (ha : PE X a (tE T W ma)) (hb : PE X b (tE T W mb)) (hc : PE X c (tE T W mc))
    (hm : lastMarks [op, op'] [b, c] = false := by rfl) : PE X (.Compare a [op, op'] [b, c] pos) (tE T W (mChain g g' ma mb mc)) :=
  weakE (pe_chain ho ho' ha hb hc hm) fun _ _ _ h => chain_weak hg hn hg' hn' h
theorem t_chain {op op' : CmpOp} {r r' : R2} {g g' : D → D → Hs → Res D} (ho : OpR X (compareOp op) r) (hg : OpM T r g) (hn : NoEr g) (ho' : OpR X (compareOp op') r') (hg' : OpM T r' g') (hn' : NoEr g') (ha : PE X a (tE T W ma)) (hb : PE X b (tE T W mb)) (hc : PE X c (tE T W mc))
    (hm : lastMarks [op, op'] [b, c] = false := by rfl) : PT X (.Compare a [op, op'] [b, c] pos) (tT T W (mChain g g' ma mb mc)) :=
  weakT (pt_chain ho ho' ha hb hc hm) fun _ _ _ h => chain_weak hg hn hg' hn' (tT_of h)
/-! ### and, or, not, if else -/
def mAnd (ma mb : Ex) : Ex := fun env S => (ma env S).bind fun d S1 => asB d fun k => if k then mb env S1 else .ok (.bl false) S1
def mOr (ma mb : Ex) : Ex := fun env S => (ma env S).bind fun d S1 => asB d fun k => if k then .ok (.bl true) S1 else mb env S1
def mNot (ma : Ex) : Ex := fun env S => (ma env S).bind fun d S1 => asB d fun k => .ok (.bl (!k)) S1
def mIf (mt ma mb : Ex) : Ex := fun env S => (mt env S).bind fun d S1 => asB d fun k => if k then ma env S1 else mb env S1
variable {rest : List Expr}
theorem and_weak {σ : L2.St} {H : Hp} {Q : Bool → Hp → Prop} (h : tT T W (mAnd ma mb) σ H Q) : tAnd (tT T W ma) (tT T W mb) σ H Q := by
  obtain ⟨φ, env, S, R, E, P⟩ := h
  refine tT_bind (k := fun k S1 => if k then mb env S1 else .ok (.bl false) S1) R E P fun k S1 φ1 H1 u R1 E1 P1 => ?_
  cases k with
  | true =>
    rw [if_pos rfl] at *
    exact ⟨φ1, env, S1, R1, E1, P1.mono (fun _ _ x => x.up u) fun _ _ _ x => x⟩
  | false =>
    rw [if_neg Bool.false_ne_true] at *
    obtain ⟨b, e, q⟩ := P1
    cases e
    exact q φ1 H1 u R1
theorem or_weak {σ : L2.St} {H : Hp} {Q : Bool → Hp → Prop} (h : tT T W (mOr ma mb) σ H Q) : tOr (tT T W ma) (tT T W mb) σ H Q := by
  obtain ⟨φ, env, S, R, E, P⟩ := h
  refine tT_bind (k := fun k S1 => if k then .ok (.bl true) S1 else mb env S1) R E P fun k S1 φ1 H1 u R1 E1 P1 => ?_
  cases k with
  | false =>
    rw [if_neg Bool.false_ne_true] at *
    exact ⟨φ1, env, S1, R1, E1, P1.mono (fun _ _ x => x.up u) fun _ _ _ x => x⟩
  | true =>
    rw [if_pos rfl] at *
    obtain ⟨b, e, q⟩ := P1
    cases e
    exact q φ1 H1 u R1
theorem w_one {op : BoolOp} (ha : PT X a (tT T W ma)) : PW X (.BoolOp op [a] pos) (tT T W ma) := by
  cases op with
  | And => exact pw_and1 ha
  | Or => exact pw_or1 ha
theorem w_and (ha : PT X a (tT T W ma)) (hb : PW X (.BoolOp .And (b :: rest) pos) (tT T W mb)) : PW X (.BoolOp .And (a :: b :: rest) pos) (tT T W (mAnd ma mb)) := weakPW (pw_and ha hb) fun _ _ _ h => and_weak h
theorem w_or (ha : PT X a (tT T W ma)) (hb : PW X (.BoolOp .Or (b :: rest) pos) (tT T W mb)) : PW X (.BoolOp .Or (a :: b :: rest) pos) (tT T W (mOr ma mb)) := weakPW (pw_or ha hb) fun _ _ _ h => or_weak h
theorem t_not (ha : PT X a (tT T W ma)) : PT X (.UnaryOp .Not a pos) (tT T W (mNot ma)) := weakT (pt_not ha) fun σ H Q ⟨φ, env, S, R, E, P⟩ =>
  tT_bind (k := fun k S1 => (Res.ok (D.bl (!k)) S1 : Res D)) R E P fun k S1 φ1 H1 u R1 E1 P1 => by
    obtain ⟨b, e, q⟩ := P1
    cases e
    exact q φ1 H1 u R1
theorem r_one {op : BoolOp} (ha : PE X a (tE T W ma)) : PE X (.BoolOp op [a] pos) (tE T W ma) := pe_one ha
theorem r_and (ha : PE X a (tE T W ma)) (hb : PE X (.BoolOp .And (b :: rest) pos) (tE T W mb)) : PE X (.BoolOp .And (a :: b :: rest) pos) (tE T W (mAnd ma mb)) := weakE (pe_and ha hb) fun σ H Q ⟨φ, env, S, R, E, P⟩ =>
  tE_bind R E P fun d S1 φ1 H1 v u R1 r1 E1 P1 => by
    cases r1 with
    | bl k =>
      refine ⟨k, rfl, ?_⟩
      have p : Post (okE T φ H Q) (erE T W φ1 H1 σ) (if k then mb env S1 else .ok (.bl false) S1) := P1
      cases k with
      | true =>
        rw [if_pos rfl] at *
        exact ⟨φ1, env, S1, R1, E1, p.upE u⟩
      | false =>
        rw [if_neg Bool.false_ne_true] at *
        exact p φ1 H1 _ u R1 (.bl false)
    | _ => exact False.elim P1
theorem r_or (ha : PE X a (tE T W ma)) (hb : PE X (.BoolOp .Or (b :: rest) pos) (tE T W mb)) : PE X (.BoolOp .Or (a :: b :: rest) pos) (tE T W (mOr ma mb)) := weakE (pe_or ha hb) fun σ H Q ⟨φ, env, S, R, E, P⟩ =>
  tE_bind R E P fun d S1 φ1 H1 v u R1 r1 E1 P1 => by
    cases r1 with
    | bl k =>
      refine ⟨k, rfl, ?_⟩
      have p : Post (okE T φ H Q) (erE T W φ1 H1 σ) (if k then .ok (.bl true) S1 else mb env S1) := P1
      cases k with
      | false =>
        rw [if_neg Bool.false_ne_true] at *
        exact ⟨φ1, env, S1, R1, E1, p.upE u⟩
      | true =>
        rw [if_pos rfl] at *
        exact p φ1 H1 _ u R1 (.bl true)
    | _ => exact False.elim P1
theorem r_not (ha : PE X a (tE T W ma)) : PE X (.UnaryOp .Not a pos) (tE T W (mNot ma)) := weakE (pe_not ha) fun σ H Q ⟨φ, env, S, R, E, P⟩ =>
  tE_bind R E P fun d S1 φ1 H1 v u R1 r1 E1 P1 => by
    cases r1 with
    | bl k => exact ⟨k, rfl, P1 φ1 H1 _ u R1 (.bl (!k))⟩
    | _ => exact False.elim P1
theorem r_if (hc : PT X c (tT T W mc)) (ha : PE X a (tE T W ma)) (hb : PE X b (tE T W mb)) : PE X (.IfExp c a b pos) (tE T W (mIf mc ma mb)) := weakE (pe_ifExp hc ha hb) fun σ H Q ⟨φ, env, S, R, E, P⟩ =>
  tT_bind (k := fun k S1 => if k then ma env S1 else mb env S1) R E P fun k S1 φ1 H1 u R1 E1 P1 => by
    cases k with
    | true =>
      rw [if_pos rfl] at *
      exact ⟨φ1, env, S1, R1, E1, P1.upE u⟩
    | false =>
      rw [if_neg Bool.false_ne_true] at *
      exact ⟨φ1, env, S1, R1, E1, P1.upE u⟩
end
end MR

/-! M2: operators, comparisons, displays, places, slices. -/
namespace MR
open PySem PySem.Spec L2

def line : Nat := 16777216
theorem line_eq : line = sizeLine := sizeLine_eq.symm
/-- the items of a list's cell -/
def listOf (S : Hs) (n : Nat) : Option (List D) := match S.get n with
  | some (.lst xs) => some xs
  | some (.fro xs) => some xs
  | _ => none
section
variable {T : Ct} {φ : List Addr} {H : Hp} {S : Hs} {Q : VK}
theorem RS.lst (R : RS T φ S H) {n : Nat} {a : Addr} {ds : List D} (h : φ[n]? = some a) (e : S.get n = some (.lst ds)) : ∃ vs, H a = some (.lst vs) ∧ RVs T φ H ds vs := by
  cases R.cell n _ a e h with
  | lst q r => exact ⟨_, q, r⟩
theorem RS.dic (R : RS T φ S H) {n : Nat} {a : Addr} {ds : List (Key × D)} (h : φ[n]? = some a) (e : S.get n = some (.dic ds)) : ∃ o vs, H a = some (.frz o (.dK vs)) ∧ RKs T φ H ds vs := by
  cases R.cell n _ a e h with
  | dic q r => exact ⟨_, _, q, r⟩
theorem RS.listOf (R : RS T φ S H) {n : Nat} {a : Addr} {ds : List D} (h : φ[n]? = some a) (e : listOf S n = some ds) : ∃ vs, SqL T.K H a vs ∧ RVs T φ H ds vs := by
  unfold MR.listOf at e
  split at e
  · rename_i xs hx
    cases e
    obtain ⟨vs, q, r⟩ := R.lst h hx
    exact ⟨vs, SqL.of q, r⟩
  · rename_i xs hx
    cases e
    cases R.cell n _ a hx h with
    | fro q r => exact ⟨_, .inl (.inr ⟨_, q⟩), r⟩
  · cases e
theorem okE.now (P : okE T φ H Q d S) (R : RS T φ S H) (r : RV T φ H d v) : Q v H := P φ H v (Up.refl _ _) R r
theorem okE.newLst {ds : List D} {vs : List V} (R : RS T φ S H) (r : RVs T φ H ds vs) (P : okE T φ H Q (.ref S.n) (S.new (.lst ds))) : ∀ p, H p = none → Q (.ref p) (upd H p (.lst vs)) := fun p hp => by
  obtain ⟨R', U⟩ := R.new (o := .lst vs) (c := .lst ds) hp fun φ' H' u h => .lst h (r.up R u)
  exact P _ _ _ U R' (.ref (by rw [List.getElem?_append_right (by rw [R.len]; exact Nat.le_refl _), R.len]; simp))
theorem okE.newTup {ds : List D} {vs : List V} (R : RS T φ S H) (r : RVs T φ H ds vs) (P : okE T φ H Q (.tup ds) S) : ∀ p, H p = none → Q (.ref p) (upd H p (.tup vs)) := fun p hp => by
  obtain ⟨R', U⟩ := R.laid (o := .tup vs) hp
  have r' := r.up R U
  exact P _ _ _ U R' (.tup (.inl upd_same) r'.1 r'.2)
end

/-! ### numbers -/
def intD (C : Int → Int → Bool) (f : Int → Int → Int) (x y : D) (S : Hs) : Res D := match x, y with
  | .int i, .int j => if C i j then .ok (.int (f i j)) S else .bad
  | _, _ => .bad
theorem int_no (C : Int → Int → Bool) (f : Int → Int → Int) : NoEr (intD C f) := fun x y S c d S' h => by
  unfold intD at h
  split at h
  · split at h <;> cases h
  · cases h
theorem int_M {T : Ct} {C : Int → Int → Bool} {C' : Int → Int → Prop} {f : Int → Int → Int} (hC : ∀ i j, C i j = true → C' i j) : OpM T (rI C' fun i j => .int (f i j)) (intD C f) := by
  intro φ S H x y v u Q er R vx vy ne P
  cases vx <;> cases vy <;> try (exact False.elim P)
  rename_i i j
  unfold intD at P
  simp only at P
  split at P
  · rename_i h
    exact ⟨i, j, rfl, rfl, hC i j h, P.now R (.int _)⟩
  · exact False.elim P
def subD := intD (fun _ _ => true) (fun i j => i - j)
def modD := intD (fun _ j => decide (j ≠ 0)) Int.fmod
def fdivD := intD (fun _ j => decide (0 < j) && decide (j.natAbs.log2 < 9000)) (fun i j => i / j)
def powD := intD (fun i j => decide (0 ≤ j) && decide ((Builtin.Int.intBits i : Int) * j ≤ 2 ^ 27)) (fun i j => i ^ j.toNat)
section
variable {X : Cx} {T : Ct} {W : WX} {pos : Pos} {a b : Expr} {ma mb : Ex}
theorem op_sub' : OpR X (binaryOp .Sub) (rI (fun _ _ => True) fun i j => .int (i - j)) := fun pins s σ H x y v u Q I rx ry h => by
  obtain ⟨i, j, e1, e2, _, q⟩ := h
  exact op_sub pins s σ H x y v u Q I rx ry ⟨i, j, e1, e2, q⟩
theorem op_powW : OpR X (binaryOp .Pow) (rI (fun i j => 0 ≤ j ∧ (Builtin.Int.intBits i : Int) * j ≤ 2 ^ 27) fun i j => .int (i ^ j.toNat)) := opI fun _ _ _ _ _ _ _ hc q => PyProof.Rows.pow_int hc.1 hc.2 q
theorem r_sub (ha : PE X a (tE T W ma)) (hb : PE X b (tE T W mb)) : PE X (.BinOp a .Sub b pos) (tE T W (mOp2 subD ma mb)) := r_bin op_sub' (int_M fun _ _ _ => trivial) (int_no _ _) ha hb
theorem r_mod (ha : PE X a (tE T W ma)) (hb : PE X b (tE T W mb)) : PE X (.BinOp a .Mod b pos) (tE T W (mOp2 modD ma mb)) := r_bin op_modN (int_M fun i j h => of_decide_eq_true h) (int_no _ _) ha hb
theorem r_fdiv (ha : PE X a (tE T W ma)) (hb : PE X b (tE T W mb)) : PE X (.BinOp a .FloorDiv b pos) (tE T W (mOp2 fdivD ma mb)) := r_bin op_fdivW (int_M fun i j h => ⟨of_decide_eq_true (Bool.and_eq_true_iff.mp h).1, of_decide_eq_true (Bool.and_eq_true_iff.mp h).2⟩) (int_no _ _) ha hb
theorem r_pow (ha : PE X a (tE T W ma)) (hb : PE X b (tE T W mb)) : PE X (.BinOp a .Pow b pos) (tE T W (mOp2 powD ma mb)) := r_bin op_powW (int_M fun i j h => ⟨of_decide_eq_true (Bool.and_eq_true_iff.mp h).1, of_decide_eq_true (Bool.and_eq_true_iff.mp h).2⟩) (int_no _ _) ha hb
end
/-- * of ints; of a list and an int -/
def mulD (x y : D) (S : Hs) : Res D := match x, y with
  | .int i, .int j => if i.natAbs.log2 + j.natAbs.log2 < 1000000 then .ok (.int (i * j)) S else .bad
  | .ref n, .int k => match S.get n with
    | some (.lst xs) => if -(2 ^ 63) ≤ k ∧ k < 2 ^ 63 ∧ xs.length * k.toNat ≤ line then .ok (.ref S.n) (S.new (.lst (List.replicate k.toNat xs).flatten)) else .bad
    | _ => .bad
  | _, _ => .bad
theorem RVs.rep {T : Ct} {φ : List Addr} {H : Hp} {ds : List D} {vs : List V} (r : RVs T φ H ds vs) : ∀ k, RVs T φ H (List.replicate k ds).flatten (List.replicate k vs).flatten
  | 0 => .nil
  | k + 1 => by
    rw [List.replicate_succ, List.replicate_succ, List.flatten_cons, List.flatten_cons]
    exact r.append (RVs.rep r k)
theorem mul_no : NoEr mulD := fun x y S c d S' h => by
  unfold mulD at h
  split at h
  · split at h <;> cases h
  · split at h
    · split at h <;> cases h
    · cases h
  · cases h
def rMulU : R2 := fun x y H Q => rI CMulW (fun i j => .int (i * j)) x y H Q ∨ rRep x y H Q
theorem mul_M {T : Ct} : OpM T rMulU mulD := by
  intro φ S H x y v u Q er R vx vy ne P
  cases vx <;> cases vy <;> try (exact False.elim P)
  · rename_i i j
    unfold mulD at P
    simp only at P
    split at P
    · rename_i h
      exact .inl ⟨i, j, rfl, rfl, h, P.now R (.int _)⟩
    · exact False.elim P
  · rename_i n a ha k
    unfold mulD at P
    simp only at P
    split at P
    · rename_i xs hx
      split at P
      · rename_i h
        obtain ⟨vs, q, r⟩ := R.lst ha hx
        refine .inr ⟨a, k, vs, rfl, rfl, q, h.1, h.2.1, by rw [← r.1, ← line_eq]; exact h.2.2, okE.newLst R (r.rep _) P⟩
      · exact False.elim P
    · exact False.elim P
/-- + of ints, texts, tuples, lists -/
def addD (x y : D) (S : Hs) : Res D := match x, y with
  | .int i, .int j => .ok (.int (i + j)) S
  | .str a, .str b => if a.length + b.length ≤ line then .ok (.str (a ++ b)) S else .bad
  | .tup xs, .tup ys => if xs.length + ys.length ≤ line then .ok (.tup (xs ++ ys)) S else .bad
  | .ref n, .ref m => match S.get n, S.get m with
    | some (.lst xs), some (.lst ys) => if xs.length + ys.length ≤ line then .ok (.ref S.n) (S.new (.lst (xs ++ ys))) else .bad
    | _, _ => .bad
  | _, _ => .bad
theorem add_no : NoEr addD := fun x y S c d S' h => by
  unfold addD at h
  split at h
  · cases h
  · split at h <;> cases h
  · split at h <;> cases h
  · split at h
    · split at h <;> cases h
    · cases h
  · cases h
def rAddU (K : PySem.W.Frag) : R2 := fun x y H Q => rI0 (fun i j => .int (i + j)) x y H Q ∨ (∃ i j, x = .str i ∧ y = .str j ∧ i.length + j.length ≤ sizeLine ∧ Q (.str (i ++ j)) H) ∨ rCat x y H Q ∨ rCatA K x y H Q
theorem add_M {T : Ct} : OpM T (rAddU T.K) addD := by
  intro φ S H x y v u Q er R vx vy ne P
  cases vx <;> cases vy <;> try (exact False.elim P)
  · rename_i i j
    exact .inl ⟨i, j, rfl, rfl, P.now R (.int _)⟩
  · rename_i i j
    unfold addD at P
    simp only at P
    split at P
    · rename_i h
      exact .inr (.inl ⟨i, j, rfl, rfl, by rw [← line_eq]; exact h, P.now R (.str _)⟩)
    · exact False.elim P
  · rename_i ds a vs h1 l1 r1 es b us h2 l2 r2
    unfold addD at P
    simp only at P
    split at P
    · rename_i h
      have q1 : RVs T φ H ds vs := ⟨l1, r1⟩
      have q2 : RVs T φ H es us := ⟨l2, r2⟩
      refine .inr (.inr (.inr ⟨a, b, vs, us, rfl, rfl, h1.sq, h2.sq, by rw [← l1, ← l2, ← line_eq]; exact h, fun e => ?_, fun _ e => ?_, fun _ _ => okE.newTup R (q1.append q2) P⟩))
      · subst e
        have e' : ds = [] := List.length_eq_zero_iff.mp l1
        subst e'
        exact P.now R (.tup h2 l2 r2)
      · subst e
        have e' : es = [] := List.length_eq_zero_iff.mp l2
        subst e'
        exact P.now R (by rw [List.append_nil]; exact .tup h1 l1 r1)
    · exact False.elim P
  · rename_i n a h1 m b h2
    unfold addD at P
    simp only at P
    split at P
    · rename_i xs ys e1 e2
      split at P
      · rename_i h
        obtain ⟨vs, q1, r1⟩ := R.lst h1 e1
        obtain ⟨us, q2, r2⟩ := R.lst h2 e2
        exact .inr (.inr (.inl ⟨a, b, vs, us, rfl, rfl, q1, q2, by rw [← r1.1, ← r2.1, ← line_eq]; exact h, okE.newLst R (r1.append r2) P⟩))
      · exact False.elim P
    · exact False.elim P
section
variable {X : Cx} {T : Ct} {W : WX} {pos : Pos} {a b : Expr} {ma mb : Ex}
theorem r_mul (ha : PE X a (tE T W ma)) (hb : PE X b (tE T W mb)) : PE X (.BinOp a .Mult b pos) (tE T W (mOp2 mulD ma mb)) := r_bin (op_mulW.or op_rep) mul_M mul_no ha hb
theorem r_add (ha : PE X a (tE T W ma)) (hb : PE X b (tE T W mb)) (hK : T.K = X.K := by rfl) : PE X (.BinOp a .Add b pos) (tE T W (mOp2 addD ma mb)) :=
  r_bin (r := rAddU T.K) (by rw [hK]; exact op_add.or (op_add_str.or (op_cat.or op_catA))) add_M add_no ha hb
/-- -a -/
def mNeg (ma : Ex) : Ex := fun env S => (ma env S).bind fun d S1 => match d with
  | .int i => .ok (.int (-i)) S1
  | _ => .bad
theorem r_neg (ha : PE X a (tE T W ma)) : PE X (.UnaryOp .USub a pos) (tE T W (mNeg ma)) := weakE (pe_un un_neg ha) fun σ H Q ⟨φ, env, S, R, E, P⟩ =>
  tE_bind R E P fun d S1 φ1 H1 v u R1 r1 E1 P1 => by
    cases r1 with
    | int i => exact ⟨i, rfl, P1 φ1 H1 _ u R1 (.int _)⟩
    | _ => exact False.elim P1
/-- a.bit_length() -/
def mBits (ma : Ex) : Ex := fun env S => (ma env S).bind fun d S1 => match d with
  | .int i => .ok (.int (Builtin.Int.intBits i : Nat)) S1
  | _ => .bad
end
/-! ### order -/
def ordD (f : Int → Int → Bool) (x y : D) (S : Hs) : Res D := match x, y with
  | .int i, .int j => .ok (.bl (f i j)) S
  | _, _ => .bad
theorem ord_no (f : Int → Int → Bool) : NoEr (ordD f) := fun x y S c d S' h => by
  unfold ordD at h
  split at h <;> cases h
theorem ord_M {T : Ct} {f : Int → Int → Bool} : OpM T (rI0 fun i j => .bl (f i j)) (ordD f) := by
  intro φ S H x y v u Q er R vx vy ne P
  cases vx <;> cases vy <;> try (exact False.elim P)
  rename_i i j
  exact ⟨i, j, rfl, rfl, P.now R (.bl _)⟩
def gtD := ordD fun i j => decide (j < i)
def geD := ordD fun i j => decide (j ≤ i)
/-- < and <= of ints, of texts -/
def ltD (x y : D) (S : Hs) : Res D := match x, y with
  | .int i, .int j => .ok (.bl (decide (i < j))) S
  | .str a, .str b => .ok (.bl (decide (a.cps.toList < b.cps.toList))) S
  | _, _ => .bad
def leD (x y : D) (S : Hs) : Res D := match x, y with
  | .int i, .int j => .ok (.bl (decide (i ≤ j))) S
  | .str a, .str b => .ok (.bl (!decide (b.cps.toList < a.cps.toList))) S
  | _, _ => .bad
theorem lt_no : NoEr ltD := fun x y S c d S' h => by
  unfold ltD at h
  split at h <;> cases h
theorem le_no : NoEr leD := fun x y S c d S' h => by
  unfold leD at h
  split at h <;> cases h
theorem lt_M {T : Ct} : OpM T (fun x y H Q => rI0 (fun i j => .bl (decide (i < j))) x y H Q ∨ ∃ i j, x = .str i ∧ y = .str j ∧ Q (.bl (decide (i.cps.toList < j.cps.toList))) H) ltD := by
  intro φ S H x y v u Q er R vx vy ne P
  cases vx <;> cases vy <;> try (exact False.elim P)
  · exact .inl ⟨_, _, rfl, rfl, P.now R (.bl _)⟩
  · exact .inr ⟨_, _, rfl, rfl, P.now R (.bl _)⟩
theorem le_M {T : Ct} : OpM T (fun x y H Q => rI0 (fun i j => .bl (decide (i ≤ j))) x y H Q ∨ ∃ i j, x = .str i ∧ y = .str j ∧ Q (.bl (!decide (j.cps.toList < i.cps.toList))) H) leD := by
  intro φ S H x y v u Q er R vx vy ne P
  cases vx <;> cases vy <;> try (exact False.elim P)
  · exact .inl ⟨_, _, rfl, rfl, P.now R (.bl _)⟩
  · exact .inr ⟨_, _, rfl, rfl, P.now R (.bl _)⟩
/-! ### is -/
def isD (x y : D) (S : Hs) : Res D := match x, y with
  | .non, .non => .ok (.bl true) S
  | .bl a, .bl b => .ok (.bl (decide (a = b))) S
  | .bl _, .non => .ok (.bl false) S
  | .int _, .non => .ok (.bl false) S
  | .str _, .non => .ok (.bl false) S
  | .tup _, .non => .ok (.bl false) S
  | .ref _, .non => .ok (.bl false) S
  | .er _ _, .non => .ok (.bl false) S
  | _, _ => .bad
def isnotD (x y : D) (S : Hs) : Res D := match isD x y S with
  | .ok (.bl b) S => .ok (.bl (!b)) S
  | _ => .bad
theorem is_no : NoEr isD := fun x y S c d S' h => by
  unfold isD at h
  split at h <;> cases h
theorem isnot_no : NoEr isnotD := fun x y S c d S' h => by
  unfold isnotD at h
  split at h <;> cases h
theorem is_M {T : Ct} : OpM T (fun x y H Q => (y = .non ∧ Q (.bl (decide (x = .non))) H) ∨ rIsB x y H Q) isD := by
  intro φ S H x y v u Q er R vx vy ne P
  cases vx <;> cases vy <;> first
    | exact False.elim P
    | exact .inl ⟨rfl, P.now R (.bl _)⟩
    | exact .inr ⟨_, _, rfl, rfl, P.now R (.bl _)⟩
theorem isnot_M {T : Ct} : OpM T (fun x y H Q => (y = .non ∧ Q (.bl (!decide (x = .non))) H) ∨ rNotB x y H Q) isnotD := by
  intro φ S H x y v u Q er R vx vy ne P
  cases vx <;> cases vy <;> first
    | exact False.elim P
    | exact .inl ⟨rfl, P.now R (.bl _)⟩
    | exact .inr ⟨_, _, rfl, rfl, P.now R (.bl _)⟩
section
variable {X : Cx} {T : Ct} {W : WX} {pos : Pos} {a b : Expr} {ma mb : Ex}
theorem r_lt (ha : PE X a (tE T W ma)) (hb : PE X b (tE T W mb)) : PE X (.Compare a [.Lt] [b] pos) (tE T W (mOp2 ltD ma mb)) := r_cmp (op_lt.or op_lt_str) lt_M lt_no ha hb (nomark _)
theorem t_lt (ha : PE X a (tE T W ma)) (hb : PE X b (tE T W mb)) : PT X (.Compare a [.Lt] [b] pos) (tT T W (mOp2 ltD ma mb)) := t_cmp (op_lt.or op_lt_str) lt_M lt_no ha hb (nomark _)
theorem r_le (ha : PE X a (tE T W ma)) (hb : PE X b (tE T W mb)) : PE X (.Compare a [.LtE] [b] pos) (tE T W (mOp2 leD ma mb)) := r_cmp (op_le.or op_le_str) le_M le_no ha hb (nomark _)
theorem t_le (ha : PE X a (tE T W ma)) (hb : PE X b (tE T W mb)) : PT X (.Compare a [.LtE] [b] pos) (tT T W (mOp2 leD ma mb)) := t_cmp (op_le.or op_le_str) le_M le_no ha hb (nomark _)
theorem r_gt (ha : PE X a (tE T W ma)) (hb : PE X b (tE T W mb)) : PE X (.Compare a [.Gt] [b] pos) (tE T W (mOp2 gtD ma mb)) := r_cmp op_gt ord_M (ord_no _) ha hb (nomark _)
theorem t_gt (ha : PE X a (tE T W ma)) (hb : PE X b (tE T W mb)) : PT X (.Compare a [.Gt] [b] pos) (tT T W (mOp2 gtD ma mb)) := t_cmp op_gt ord_M (ord_no _) ha hb (nomark _)
theorem r_ge (ha : PE X a (tE T W ma)) (hb : PE X b (tE T W mb)) : PE X (.Compare a [.GtE] [b] pos) (tE T W (mOp2 geD ma mb)) := r_cmp op_ge ord_M (ord_no _) ha hb (nomark _)
theorem t_ge (ha : PE X a (tE T W ma)) (hb : PE X b (tE T W mb)) : PT X (.Compare a [.GtE] [b] pos) (tT T W (mOp2 geD ma mb)) := t_cmp op_ge ord_M (ord_no _) ha hb (nomark _)
theorem r_is (ha : PE X a (tE T W ma)) (hb : PE X b (tE T W mb)) : PE X (.Compare a [.Is] [b] pos) (tE T W (mOp2 isD ma mb)) := r_cmp (op_isN.or op_isBl) is_M is_no ha hb (nomark _)
theorem t_is (ha : PE X a (tE T W ma)) (hb : PE X b (tE T W mb)) : PT X (.Compare a [.Is] [b] pos) (tT T W (mOp2 isD ma mb)) := t_cmp (op_isN.or op_isBl) is_M is_no ha hb (nomark _)
theorem r_isnot (ha : PE X a (tE T W ma)) (hb : PE X b (tE T W mb)) : PE X (.Compare a [.IsNot] [b] pos) (tE T W (mOp2 isnotD ma mb)) := r_cmp (op_notN.or op_notBl) isnot_M isnot_no ha hb (nomark _)
theorem t_isnot (ha : PE X a (tE T W ma)) (hb : PE X b (tE T W mb)) : PT X (.Compare a [.IsNot] [b] pos) (tT T W (mOp2 isnotD ma mb)) := t_cmp (op_notN.or op_notBl) isnot_M isnot_no ha hb (nomark _)
theorem r_ltlt {c : Expr} {mc : Ex} (ha : PE X a (tE T W ma)) (hb : PE X b (tE T W mb)) (hc : PE X c (tE T W mc)) (hm : lastMarks [.Lt, .Lt] [b, c] = false := by rfl) : PE X (.Compare a [.Lt, .Lt] [b, c] pos) (tE T W (mChain ltD ltD ma mb mc)) := r_chain (op_lt.or op_lt_str) lt_M lt_no (op_lt.or op_lt_str) lt_M lt_no ha hb hc hm
theorem t_ltlt {c : Expr} {mc : Ex} (ha : PE X a (tE T W ma)) (hb : PE X b (tE T W mb)) (hc : PE X c (tE T W mc)) (hm : lastMarks [.Lt, .Lt] [b, c] = false := by rfl) : PT X (.Compare a [.Lt, .Lt] [b, c] pos) (tT T W (mChain ltD ltD ma mb mc)) := t_chain (op_lt.or op_lt_str) lt_M lt_no (op_lt.or op_lt_str) lt_M lt_no ha hb hc hm
theorem r_lele {c : Expr} {mc : Ex} (ha : PE X a (tE T W ma)) (hb : PE X b (tE T W mb)) (hc : PE X c (tE T W mc)) (hm : lastMarks [.LtE, .LtE] [b, c] = false := by rfl) : PE X (.Compare a [.LtE, .LtE] [b, c] pos) (tE T W (mChain leD leD ma mb mc)) := r_chain (op_le.or op_le_str) le_M le_no (op_le.or op_le_str) le_M le_no ha hb hc hm
end
end MR

/-! M3: == of data, in, places, slices, displays, calls of built-ins. -/
namespace MR
open PySem PySem.Spec L2

/-! ### data as a whole -/
def mapO {α β : Type} (f : α → Option β) : List α → Option (List β)
  | [] => some []
  | x :: xs => match f x with
    | some y => match mapO f xs with
      | some ys => some (y :: ys)
      | none => none
    | none => none
/-- what a value is as data, down to some depth -/
def toP (S : Hs) : Nat → D → Option PyData
  | 0, d => match d with
    | .non => some .none
    | .bl b => some (.bool b)
    | .int i => some (.int i)
    | .str s => some (.str s)
    | _ => none
  | k + 1, d => match d with
    | .non => some .none
    | .bl b => some (.bool b)
    | .int i => some (.int i)
    | .str s => some (.str s)
    | .tup xs => (mapO (toP S k) xs).map .tuple
    | .ref n => match listOf S n with
      | some xs => (mapO (toP S k) xs).map .list
      | none => none
    | _ => none
section
variable {T : Ct} {φ : List Addr} {H : Hp} {S : Hs}
theorem dpAll_of {f : D → Option PyData} (ih : ∀ d v p, RV T φ H d v → f d = some p → Dp T.K H v p) : ∀ (ds : List D) (vs : List V) (ps : List PyData), RVs T φ H ds vs → mapO f ds = some ps → DpAll T.K H vs ps
  | [], vs, ps, r, e => by
    have q := r.inv_nil
    subst q
    cases e
    exact .nil
  | d :: ds, vs, ps, r, e => by
    obtain ⟨v, us, rfl, r1, r2⟩ := r.inv_cons
    unfold mapO at e
    split at e
    · rename_i y hy
      split at e
      · rename_i ys hys
        cases e
        exact .cons (ih d v y r1 hy) (dpAll_of ih ds us ys r2 hys)
      · cases e
    · cases e
theorem toP_dp (R : RS T φ S H) : ∀ (k : Nat) (d : D) (v : V) (p : PyData), RV T φ H d v → toP S k d = some p → Dp T.K H v p
  | 0, d, v, p, r, e => by
    cases r <;> first
      | (cases e; first | exact .non | exact .bl _ | exact .int _ | exact .str _)
      | (cases e)
  | k + 1, d, v, p, r, e => by
    cases r with
    | non => cases e; exact .non
    | bl b => cases e; exact .bl b
    | int i => cases e; exact .int i
    | str s => cases e; exact .str s
    | tup h l r =>
      have e' : (mapO (toP S k) _).map PyData.tuple = some p := e
      obtain ⟨ps, h1, h2⟩ := Option.map_eq_some_iff.mp e'
      subst h2
      exact .tup h.sq (dpAll_of (fun d v p => toP_dp R k d v p) _ _ _ ⟨l, r⟩ h1)
    | @ref n a h =>
      have e' : (match listOf S n with
        | some xs => (mapO (toP S k) xs).map PyData.list
        | none => none) = some p := e
      split at e'
      · rename_i xs hx
        obtain ⟨ps, h1, h2⟩ := Option.map_eq_some_iff.mp e'
        subst h2
        obtain ⟨vs, q, r⟩ := R.listOf h hx
        exact .lst q (dpAll_of (fun d v p => toP_dp R k d v p) _ _ _ r h1)
      · cases e'
    | ty n => cases e
    | cls c => cases e
    | fz h l r => cases e
    | er h hd r => cases e
    | key h => cases e
    | eb h => cases e
end
/-- how deep == looks -/
def deep : Nat := 40
def eqD (x y : D) (S : Hs) : Res D := match toP S deep x, toP S deep y with
  | some p, some q => if SeqAt.shaped p && SeqAt.shaped q then .ok (.bl (PyData.eqv p q)) S else .bad
  | _, _ => .bad
def neD (x y : D) (S : Hs) : Res D := match eqD x y S with
  | .ok (.bl b) S => .ok (.bl (!b)) S
  | _ => .bad
theorem eq_no : NoEr eqD := fun x y S c d S' h => by
  unfold eqD at h
  split at h
  · split at h <;> cases h
  · cases h
theorem ne_no : NoEr neD := fun x y S c d S' h => by
  unfold neD at h
  split at h <;> cases h
theorem eq_M {T : Ct} : OpM T (rEqD T.K) eqD := by
  intro φ S H x y v u Q er R vx vy ne P
  unfold eqD at P
  split at P
  · rename_i p q hp hq
    split at P
    · rename_i h
      exact ⟨p, q, toP_dp R _ _ _ _ vx hp, toP_dp R _ _ _ _ vy hq, (Bool.and_eq_true_iff.mp h).1, (Bool.and_eq_true_iff.mp h).2, P.now R (.bl _)⟩
    · exact False.elim P
  · exact False.elim P
theorem ne_M {T : Ct} : OpM T (rNeD T.K) neD := by
  intro φ S H x y v u Q er R vx vy ne P
  unfold neD eqD at P
  split at P
  · rename_i b S' h
    split at h
    · rename_i p q hp hq
      split at h
      · rename_i hs
        cases h
        exact ⟨p, q, toP_dp R _ _ _ _ vx hp, toP_dp R _ _ _ _ vy hq, (Bool.and_eq_true_iff.mp hs).1, (Bool.and_eq_true_iff.mp hs).2, P.now R (.bl _)⟩
      · cases h
    · cases h
  · exact False.elim P
/-! ### in -/
/-- what is compared flat -/
def flatD : D → Bool
  | .non => true
  | .bl _ => true
  | .int _ => true
  | .str _ => true
  | _ => false
def eqFl : D → D → Bool
  | .non, .non => true
  | .bl a, .bl b => a == b
  | .bl a, .int b => (if a then 1 else 0) == b
  | .int a, .bl b => a == (if b then 1 else 0)
  | .int a, .int b => a == b
  | .str a, .str b => a == b
  | _, _ => false
/-- x in y: y a text (x one sign), a list or a tuple of flat things; a list of data -/
def inB (x y : D) (S : Hs) : Option Bool := match y with
  | .str z => match x with
    | .str c => if c.cps.size = 1 then some (decide (c.cps.getD 0 0 ∈ z.cps.toList)) else none
    | _ => none
  | .tup ys => if flatD x && ys.all flatD then some (ys.any fun y => eqFl y x) else none
  | .ref n => match listOf S n with
    | some ys => if flatD x && ys.all flatD then some (ys.any fun y => eqFl y x) else
      match toP S deep x, toP S deep (.ref n) with
      | some d, some (.list ds) => if SeqAt.shaped d && SeqAt.shaped (.list ds) then some (ds.any fun z => PyData.eqv z d) else none
      | _, _ => none
    | none => none
  | _ => none
def inD (x y : D) (S : Hs) : Res D := match inB x y S with
  | some b => .ok (.bl b) S
  | none => .bad
def notinD (x y : D) (S : Hs) : Res D := match inB x y S with
  | some b => .ok (.bl (!b)) S
  | none => .bad
section
variable {T : Ct} {φ : List Addr} {H : Hp} {S : Hs}
theorem flat_of {d : D} {v : V} (r : RV T φ H d v) (f : flatD d = true) : flatV v = true := by
  cases r <;> first | rfl | cases f
theorem flats_of : ∀ {ds : List D} {vs : List V}, RVs T φ H ds vs → ds.all flatD = true → vs.all flatV = true
  | [], vs, r, _ => by
    have e := r.inv_nil
    subst e
    rfl
  | d :: ds, vs, r, f => by
    obtain ⟨v, us, rfl, r1, r2⟩ := r.inv_cons
    rw [List.all_cons, Bool.and_eq_true] at f
    rw [List.all_cons, flat_of r1 f.1, flats_of r2 f.2]
    rfl
theorem eqFl_of {x y : D} {v u : V} (rx : RV T φ H x v) (ry : RV T φ H y u) : flatD x = true → flatD y = true → eqFl x y = eqV v u := by
  intro fx fy
  cases rx <;> cases ry <;> first | rfl | exact absurd fx Bool.false_ne_true | exact absurd fy Bool.false_ne_true
theorem any_of {x : D} {v : V} (rx : RV T φ H x v) (fx : flatD x = true) : ∀ {ds : List D} {vs : List V}, RVs T φ H ds vs → ds.all flatD = true → ds.any (fun y => eqFl y x) = inV v vs
  | [], vs, r, _ => by
    have e := r.inv_nil
    subst e
    rfl
  | d :: ds, vs, r, f => by
    obtain ⟨w, us, rfl, r1, r2⟩ := r.inv_cons
    rw [List.all_cons, Bool.and_eq_true] at f
    have ih := any_of rx fx r2 f.2
    show (eqFl d x || ds.any fun y => eqFl y x) = (eqV w v || us.any fun y => eqV y v)
    rw [ih, eqFl_of r1 rx f.1 fx]
    rfl
end
theorem in_no : NoEr inD := fun x y S c d S' h => by
  unfold inD at h
  split at h <;> cases h
theorem notin_no : NoEr notinD := fun x y S c d S' h => by
  unfold notinD at h
  split at h <;> cases h
def rInU (K : PySem.W.Frag) : R2 := fun x y H Q => (∃ (c : Nat) (z : Str), x = .str ⟨#[c]⟩ ∧ y = .str z ∧ Q (.bl (decide (c ∈ z.cps.toList))) H) ∨ rIn K false x y H Q ∨ rInD K x y H Q
def rNotInU (K : PySem.W.Frag) : R2 := fun x y H Q => (∃ (c : Nat) (z : Str), x = .str ⟨#[c]⟩ ∧ y = .str z ∧ Q (.bl (!decide (c ∈ z.cps.toList))) H) ∨ rIn K true x y H Q ∨ rNotInD K x y H Q
theorem one_sign {c : Str} (h : c.cps.size = 1) : c = ⟨#[c.cps.getD 0 0]⟩ := by
  obtain ⟨⟨l⟩⟩ := c
  match l, h with
  | [a], _ => rfl
theorem inB_of {T : Ct} {φ : List Addr} {H : Hp} {S : Hs} {x y : D} {v u : V} {b : Bool} (R : RS T φ S H) (vx : RV T φ H x v) (vy : RV T φ H y u) (h : inB x y S = some b) :
    (∃ (c : Nat) (z : Str), v = .str ⟨#[c]⟩ ∧ u = .str z ∧ b = decide (c ∈ z.cps.toList)) ∨ (∃ a vs, u = .ref a ∧ (SqL T.K H a vs ∨ SqT T.K H a vs) ∧ flatV v = true ∧ vs.all flatV = true ∧ b = inV v vs) ∨
      ∃ d ds, Dp T.K H v d ∧ Dp T.K H u (.list ds) ∧ SeqAt.shaped d = true ∧ SeqAt.shaped (.list ds) = true ∧ b = ds.any fun z => PyData.eqv z d := by
  unfold inB at h
  cases vy with
  | str z =>
    cases vx with
    | str c =>
      simp only at h
      split at h
      · rename_i e
        cases h
        exact .inl ⟨c.cps.getD 0 0, z, by rw [← one_sign e], rfl, rfl⟩
      · cases h
    | _ => cases h
  | @tup ys a vs h1 l r =>
    simp only at h
    split at h
    · rename_i hf
      cases h
      have hf := Bool.and_eq_true_iff.mp hf
      exact .inr (.inl ⟨a, vs, rfl, .inr h1.sq, flat_of vx hf.1, flats_of ⟨l, r⟩ hf.2, any_of vx hf.1 ⟨l, r⟩ hf.2⟩)
    · cases h
  | @ref n a h1 =>
    simp only at h
    split at h
    · rename_i ys hys
      split at h
      · rename_i hf
        cases h
        have hf := Bool.and_eq_true_iff.mp hf
        obtain ⟨vs, q, r⟩ := R.listOf h1 hys
        exact .inr (.inl ⟨a, vs, rfl, .inl q, flat_of vx hf.1, flats_of r hf.2, any_of vx hf.1 r hf.2⟩)
      · split at h
        · rename_i d ds hd hds
          split at h
          · rename_i hs
            cases h
            have hs := Bool.and_eq_true_iff.mp hs
            exact .inr (.inr ⟨d, ds, toP_dp R _ _ _ _ vx hd, toP_dp R _ _ _ _ (.ref h1) hds, hs.1, hs.2, rfl⟩)
          · cases h
        · cases h
    · cases h
  | _ => cases h
theorem in_M {T : Ct} : OpM T (rInU T.K) inD := by
  intro φ S H x y v u Q er R vx vy ne P
  unfold inD at P
  split at P
  · rename_i b hb
    have q := P.now R (.bl b)
    rcases inB_of R vx vy hb with ⟨c, z, rfl, rfl, rfl⟩ | ⟨a, vs, rfl, h1, h2, h3, rfl⟩ | ⟨d, ds, h1, h2, h3, h4, rfl⟩
    · exact .inl ⟨c, z, rfl, rfl, q⟩
    · exact .inr (.inl ⟨a, vs, rfl, h1, h2, h3, q⟩)
    · exact .inr (.inr ⟨d, ds, h1, h2, h3, h4, q⟩)
  · exact False.elim P
theorem notin_M {T : Ct} : OpM T (rNotInU T.K) notinD := by
  intro φ S H x y v u Q er R vx vy ne P
  unfold notinD at P
  split at P
  · rename_i b hb
    have q := P.now R (.bl (!b))
    rcases inB_of R vx vy hb with ⟨c, z, rfl, rfl, rfl⟩ | ⟨a, vs, rfl, h1, h2, h3, rfl⟩ | ⟨d, ds, h1, h2, h3, h4, rfl⟩
    · exact .inl ⟨c, z, rfl, rfl, q⟩
    · exact .inr (.inl ⟨a, vs, rfl, h1, h2, h3, q⟩)
    · exact .inr (.inr ⟨d, ds, h1, h2, h3, h4, q⟩)
  · exact False.elim P
/-- room for == at depth -/
def Deepy (X : Cx) : Prop := X.A.units + 65 < cLine
theorem deepy_of {X : Cx} {k : Nat} (hr : Room k X.A) : Deepy X := by
  have := hr.un
  unfold Deepy
  omega
section
variable {X : Cx} {T : Ct} {W : WX} {pos : Pos} {a b : Expr} {ma mb : Ex}
theorem r_eq (hu : Deepy X) (ha : PE X a (tE T W ma)) (hb : PE X b (tE T W mb)) (hK : T.K = X.K := by rfl) : PE X (.Compare a [.Eq] [b] pos) (tE T W (mOp2 eqD ma mb)) := r_cmp (r := rEqD T.K) (by rw [hK]; exact op_eqD (by unfold Deepy at hu; omega)) eq_M eq_no ha hb (nomark _)
theorem t_eq (hu : Deepy X) (ha : PE X a (tE T W ma)) (hb : PE X b (tE T W mb)) (hK : T.K = X.K := by rfl) : PT X (.Compare a [.Eq] [b] pos) (tT T W (mOp2 eqD ma mb)) := t_cmp (r := rEqD T.K) (by rw [hK]; exact op_eqD (by unfold Deepy at hu; omega)) eq_M eq_no ha hb (nomark _)
theorem r_ne (hu : Deepy X) (ha : PE X a (tE T W ma)) (hb : PE X b (tE T W mb)) (hK : T.K = X.K := by rfl) : PE X (.Compare a [.NotEq] [b] pos) (tE T W (mOp2 neD ma mb)) := r_cmp (r := rNeD T.K) (by rw [hK]; exact op_neD (by unfold Deepy at hu; omega)) ne_M ne_no ha hb (nomark _)
theorem t_ne (hu : Deepy X) (ha : PE X a (tE T W ma)) (hb : PE X b (tE T W mb)) (hK : T.K = X.K := by rfl) : PT X (.Compare a [.NotEq] [b] pos) (tT T W (mOp2 neD ma mb)) := t_cmp (r := rNeD T.K) (by rw [hK]; exact op_neD (by unfold Deepy at hu; omega)) ne_M ne_no ha hb (nomark _)
theorem r_in (hu : Deepy X) (ha : PE X a (tE T W ma)) (hb : PE X b (tE T W mb)) (hm : behindInMarks .In b = false := by rfl) (hK : T.K = X.K := by rfl) : PE X (.Compare a [.In] [b] pos) (tE T W (mOp2 inD ma mb)) := r_cmp (r := rInU T.K) (by rw [hK]; exact op_in_sign.or (op_in_seq.or (op_inD hu))) in_M in_no ha hb hm
theorem t_in (hu : Deepy X) (ha : PE X a (tE T W ma)) (hb : PE X b (tE T W mb)) (hm : behindInMarks .In b = false := by rfl) (hK : T.K = X.K := by rfl) : PT X (.Compare a [.In] [b] pos) (tT T W (mOp2 inD ma mb)) := t_cmp (r := rInU T.K) (by rw [hK]; exact op_in_sign.or (op_in_seq.or (op_inD hu))) in_M in_no ha hb hm
theorem r_notin (hu : Deepy X) (ha : PE X a (tE T W ma)) (hb : PE X b (tE T W mb)) (hm : behindInMarks .NotIn b = false := by rfl) (hK : T.K = X.K := by rfl) : PE X (.Compare a [.NotIn] [b] pos) (tE T W (mOp2 notinD ma mb)) := r_cmp (r := rNotInU T.K) (by rw [hK]; exact op_notIn_sign.or (op_notIn_seq.or (op_notInD hu))) notin_M notin_no ha hb hm
theorem t_notin (hu : Deepy X) (ha : PE X a (tE T W ma)) (hb : PE X b (tE T W mb)) (hm : behindInMarks .NotIn b = false := by rfl) (hK : T.K = X.K := by rfl) : PT X (.Compare a [.NotIn] [b] pos) (tT T W (mOp2 notinD ma mb)) := t_cmp (r := rNotInU T.K) (by rw [hK]; exact op_notIn_sign.or (op_notIn_seq.or (op_notInD hu))) notin_M notin_no ha hb hm
/-! ### displays -/
def mTup (ms : Exs) : Ex := fun env S => (ms env S).bind fun ds S1 => if ds.length ≤ line then .ok (.tup ds) S1 else .bad
def mLst (ms : Exs) : Ex := fun env S => (ms env S).bind fun ds S1 => if ds.length ≤ line then .ok (.ref S1.n) (S1.new (.lst ds)) else .bad
variable {es : List Expr} {ms : Exs}
theorem r_tup {k} (h : PA X es (tA T W ms)) : PE X (.Tuple es k pos) (tE T W (mTup ms)) := weakE (pe_tup h) fun σ H Q ⟨φ, env, S, R, E, P⟩ =>
  tA_bind R E P fun ds S1 φ1 H1 vs u R1 r1 E1 P1 => by
    split at P1
    · rename_i hl
      exact ⟨by rw [← r1.1, ← line_eq]; exact hl, okE.newTup R1 r1 (okE.up u P1)⟩
    · exact False.elim P1
theorem r_lst (h : PA X es (tA T W ms)) : PE X (.List es pos) (tE T W (mLst ms)) := weakE (pe_lst h) fun σ H Q ⟨φ, env, S, R, E, P⟩ =>
  tA_bind R E P fun ds S1 φ1 H1 vs u R1 r1 E1 P1 => by
    split at P1
    · rename_i hl
      exact ⟨by rw [← r1.1, ← line_eq]; exact hl, okE.newLst R1 r1 (okE.up u P1)⟩
    · exact False.elim P1
/-! ### places -/
def ixD (x y : D) (S : Hs) : Res D := match y with
  | .int i => match x with
    | .tup xs => match atI xs i with
      | some d => .ok d S
      | none => .bad
    | .ref n => match listOf S n with
      | some xs => match atI xs i with
        | some d => .ok d S
        | none => .bad
      | none => .bad
    | .str z => if z.length ≤ line then match atI z.cps.toList i with
      | some c => .ok (.str ⟨#[c]⟩) S
      | none => .bad else .bad
    | _ => .bad
  | _ => .bad
theorem ix_no : NoEr ixD := fun x y S c d S' h => by
  unfold ixD at h
  repeat' (first | cases h | split at h)
theorem atI_of {φ : List Addr} {H : Hp} {ds : List D} {vs : List V} (r : RVs T φ H ds vs) {i : Int} {d : D} (h : atI ds i = some d) : ∃ v, atI vs i = some v ∧ RV T φ H d v := by
  unfold atI at *
  rw [← r.1]
  cases e : ixN ds.length i with
  | none => rw [e] at h; cases h
  | some j =>
    rw [e] at h
    exact r.get h
theorem ix_M : OpM T (rIx T.K) ixD := by
  intro φ S H x y v u Q er R vx vy ne P
  unfold ixD at P
  cases vy with
  | int i =>
    cases vx with
    | @tup xs a vs h l r =>
      simp only at P
      split at P
      · rename_i d hd
        obtain ⟨w, hw, rw'⟩ := atI_of ⟨l, r⟩ hd
        exact .inr (.inl ⟨a, vs, i, w, rfl, rfl, h.sq, hw, P.now R rw'⟩)
      · exact False.elim P
    | @ref n a h =>
      simp only at P
      split at P
      · rename_i xs hx
        split at P
        · rename_i d hd
          obtain ⟨vs, q, r⟩ := R.listOf h hx
          obtain ⟨w, hw, rw'⟩ := atI_of r hd
          exact .inl ⟨a, vs, i, w, rfl, rfl, q, hw, P.now R rw'⟩
        · exact False.elim P
      · exact False.elim P
    | str z =>
      simp only at P
      split at P
      · rename_i hl
        split at P
        · rename_i c hc
          exact .inr (.inr ⟨z, i, c, rfl, rfl, by rw [← line_eq]; exact hl, hc, P.now R (.str _)⟩)
        · exact False.elim P
      · exact False.elim P
    | _ => exact False.elim P
  | _ => exact False.elim P
theorem r_ix (ha : PE X a (tE T W ma)) (hb : PE X b (tE T W mb)) (hs : PlainIx b := by exact fun _ _ => rfl) (hK : T.K = X.K := by rfl) : PE X (.Subscript a b pos) (tE T W (mOp2 ixD ma mb)) :=
  weakE (pe_ix (r := rIx T.K) (by rw [hK]; exact ix_seq) ha hb hs) fun _ _ _ h => op2_weak ix_M ix_no h
end
end MR

/-! M4: slices, calls of built-ins, of methods, of own defs. -/
namespace MR
open PySem PySem.Spec L2

/-! ### slices -/
def cutD (xs : List D) (lo hi : Option Int) : List D := (xs.drop (HT.sIx xs.length 0 lo)).take (HT.sIx xs.length xs.length hi - HT.sIx xs.length 0 lo)
def sliceD (x : D) (lo hi : Option Int) (S : Hs) : Res D := match x with
  | .tup xs => .ok (.tup (cutD xs lo hi)) S
  | .fz xs => .ok (.ref S.n) (S.new (.lst (cutD xs lo hi)))
  | .ref n => match listOf S n with
    | some xs => .ok (.ref S.n) (S.new (.lst (cutD xs lo hi)))
    | none => .bad
  | .str z => if z.length ≤ line then .ok (.str (cutS z lo hi)) S else .bad
  | _ => .bad
abbrev ExO := EnvD → Hs → Res (Option Int)
def mNoPart : ExO := fun _ S => .ok none S
def mPart (m : Ex) : ExO := fun env S => (m env S).bind fun d S1 => match d with
  | .int i => .ok (some i) S1
  | _ => .bad
def mSlice (m : Ex) (l h : ExO) : Ex := fun env S => (m env S).bind fun x S1 => (l env S1).bind fun lo S2 => (h env S2).bind fun hi S3 => sliceD x lo hi S3
section
variable (T : Ct)
def okO (φ : List Addr) (H : Hp) (Q : Option Int → Hp → Prop) : Option Int → Hs → Prop := fun o S' => ∀ φ' H', Up φ H φ' H' → RS T φ' S' H' → Q o H'
def tO (W : WX) (m : ExO) : TO := fun σ H Q => ∃ φ env S, RS T φ S H ∧ RE T φ H env σ ∧ Post (okO T φ H Q) (erE T W φ H σ) (m env S)
end
section
variable {X : Cx} {T : Ct} {W : WX} {pos p2 : Pos} {a b e : Expr} {m ma mb : Ex} {lo hi : Option Expr} {ml mh : ExO}
theorem weakO {X : Cx} {e : Option Expr} {t t' : TO} (h : PO X e t) (w : ∀ σ H Q, t' σ H Q → t σ H Q) : PO X e t' := ⟨fun pins s σ H Q I q => h.run pins s σ H Q I (w σ H Q q)⟩
theorem o_none : PO X none (tO T W mNoPart) := weakO po_none fun σ H Q ⟨φ, env, S, R, E, P⟩ => P φ H (Up.refl _ _) R
theorem o_some (h : PE X e (tE T W m)) : PO X (some e) (tO T W (mPart m)) := weakO (po_some h) fun σ H Q ⟨φ, env, S, R, E, P⟩ =>
  tE_bind R E P fun d S1 φ1 H1 v u R1 r1 E1 P1 => by
    cases r1 with
    | int i => exact ⟨i, rfl, P1 φ1 H1 u R1⟩
    | _ => exact False.elim P1
theorem tO_bind {φ : List Addr} {S : Hs} {H : Hp} {env : EnvD} {σ : L2.St} {α : Type} {ma : ExO} {k : Option Int → Hs → Res α} {ok : α → Hs → Prop} {Q : Option Int → Hp → Prop} (R : RS T φ S H) (E : RE T φ H env σ) (P : Post ok (erE T W φ H σ) ((ma env S).bind k))
    (h : ∀ d S1 φ1 H1, Up φ H φ1 H1 → RS T φ1 S1 H1 → RE T φ1 H1 env σ → Post ok (erE T W φ1 H1 σ) (k d S1) → Q d H1) : tO T W ma σ H Q :=
  ⟨φ, env, S, R, E, P.bind.mono (fun d S1 p φ1 H1 u R1 => h d S1 φ1 H1 u R1 (E.up R u) (p.mono (fun _ _ x => x) fun _ _ _ x => x.up u)) fun _ _ _ x => x⟩
theorem RVs.cut {φ : List Addr} {H : Hp} {ds : List D} {vs : List V} (r : RVs T φ H ds vs) (lo hi : Option Int) : RVs T φ H (cutD ds lo hi) (cutV vs lo hi) := by
  unfold cutD cutV
  rw [r.1]
  exact (r.drop _).take _
theorem r_slice (he : PE X e (tE T W m)) (hl : PO X lo (tO T W ml)) (hh : PO X hi (tO T W mh)) (hK : T.K = X.K := by rfl) : PE X (.Subscript e (.Slice lo hi none p2) pos) (tE T W (mSlice m ml mh)) := by
  have hr : SlR X (fun x l u H Q => rSlL T.K x l u H Q ∨ rSlA T.K x l u H Q ∨ (∃ z, x = V.str z ∧ z.length ≤ sizeLine ∧ Q (.str (cutS z l u)) H)) := by
    rw [hK]
    exact sl_list.or (sl_tupA.or sl_str)
  refine weakE (pe_slice hr he hl hh) fun σ H Q ⟨φ, env, S, R, E, P⟩ => ?_
  refine tE_bind R E P fun x S1 φ1 H1 v u1 R1 r1 E1 P1 => tO_bind R1 E1 P1 fun l S2 φ2 H2 u2 R2 E2 P2 => tO_bind R2 E2 P2 fun h S3 φ3 H3 u3 R3 E3 P3 => ?_
  have r3 := (r1.up R1 u2).up R2 u3
  have u := (u1.trans u2).trans u3
  unfold sliceD at P3
  cases r3 with
  | @tup xs a vs hq l' r' =>
    refine .inr (.inl ⟨a, vs, rfl, hq.sq, fun hw => ?_, fun _ => okE.newTup R3 (RVs.cut ⟨l', r'⟩ l h) (okE.up u P3)⟩)
    have e : cutD xs l h = xs := by
      unfold cutD
      rw [l', hw.1, hw.2]
      simp [← l']
    exact (okE.up u P3).now R3 (by rw [e]; exact .tup hq l' r')
  | @fz xs a vs hq l' r' => exact .inl ⟨a, vs, rfl, hq.sql, okE.newLst R3 (RVs.cut ⟨l', r'⟩ l h) (okE.up u P3)⟩
  | @ref n a hn =>
    simp only at P3
    split at P3
    · rename_i xs hx
      obtain ⟨vs, q, r⟩ := R3.listOf hn hx
      exact .inl ⟨a, vs, rfl, q, okE.newLst R3 (r.cut l h) (okE.up u P3)⟩
    · exact False.elim P3
  | str z =>
    simp only at P3
    split at P3
    · rename_i hl
      exact .inr (.inr ⟨z, rfl, by rw [← line_eq]; exact hl, (okE.up u P3).now R3 (.str _)⟩)
    · exact False.elim P3
  | _ => exact False.elim P3
/-! ### calls of built-ins -/
def mCall (f : List D → Hs → Res D) (ms : Exs) : Ex := fun env S => (ms env S).bind f
def CallM (T : Ct) (r : List V → Hp → VK → Prop) (f : List D → Hs → Res D) : Prop := ∀ {φ : List Addr} {S : Hs} {H : Hp} {ds : List D} {vs : List V} {Q : VK}, RS T φ S H → RVs T φ H ds vs → Post (okE T φ H Q) (fun _ _ _ => False) (f ds S) → r vs H Q
def NoErL (f : List D → Hs → Res D) : Prop := ∀ ds S c d S', f ds S ≠ .err c d S'
variable {x : Str} {p : Pos} {es : List Expr} {ms : Exs} {id Ty : String} {r : List V → Hp → VK → Prop} {f : List D → Hs → Res D}
theorem call_weak (hM : CallM T r f) (hn : NoErL f) {σ : L2.St} {H : Hp} {Q : VK} (h : tE T W (mCall f ms) σ H Q) : tCB r (tA T W ms) σ H Q := by
  obtain ⟨φ, env, S, R, E, P⟩ := h
  exact tA_bind R E P fun ds S1 φ1 H1 vs u R1 r1 E1 P1 => hM R1 r1 ((P1.upE u).noEr (hn ds S1))
theorem r_callB (hc : CallR X (.builtin id) r) (hM : CallM T r f) (hn : NoErL f) (hg : Gl X x) (hm : X.mg x = none) (hv : bootBuiltins x = some (.builtin id)) (ha : PA X (e :: es) (tA T W ms)) (hnn : x ≠ "__name__" := by decide) (hd : (x == ("__debug__" : Str)) = false := by decide)
    (he : starEach (e :: es) X.env = (false, eval e X.env) :: starEach es X.env := by rfl) (hpl : (backTo pos (starEach es X.env)).any (·.1) = false := by rfl) : PE X (.Call (.Name x p) (e :: es) [] pos) (tE T W (mCall f ms)) :=
  weakE (pe_callB hc hg hm hv ha hnn hd he hpl) fun _ _ _ h => call_weak hM hn h
theorem r_callTy (hc : CallR X (.type Ty) r) (hM : CallM T r f) (hn : NoErL f) (hg : Gl X x) (hm : X.mg x = none) (hv : bootBuiltins x = some (.type Ty)) (ha : PA X (e :: es) (tA T W ms)) (hnn : x ≠ "__name__" := by decide) (hd : (x == ("__debug__" : Str)) = false := by decide)
    (he : starEach (e :: es) X.env = (false, eval e X.env) :: starEach es X.env := by rfl) (hpl : (backTo pos (starEach es X.env)).any (·.1) = false := by rfl) : PE X (.Call (.Name x p) (e :: es) [] pos) (tE T W (mCall f ms)) :=
  weakE (pe_callTy hc hg hm hv ha hnn hd he hpl) fun _ _ _ h => call_weak hM hn h
end
/-! ### len, int, max, min, sum, all, list, tuple, str -/
def lenF (ds : List D) (S : Hs) : Res D := match ds with
  | [.str z] => if z.length ≤ line then .ok (.int z.length) S else .bad
  | [.tup xs] => .ok (.int xs.length) S
  | [.fz xs] => .ok (.int xs.length) S
  | [.ref n] => match listOf S n with
    | some xs => .ok (.int xs.length) S
    | none => .bad
  | _ => .bad
def intF (ds : List D) (S : Hs) : Res D := match ds with
  | [.int i] => .ok (.int i) S
  | [.bl b] => .ok (.int (if b then 1 else 0)) S
  | _ => .bad
def maxF (ds : List D) (S : Hs) : Res D := match ds with
  | [.int i, .int j] => .ok (.int (if j > i then j else i)) S
  | _ => .bad
def minF (ds : List D) (S : Hs) : Res D := match ds with
  | [.int i, .int j] => .ok (.int (if j < i then j else i)) S
  | _ => .bad
def intOf : D → Option Int
  | .int i => some i
  | _ => none
def blOf : D → Option Bool
  | .bl b => some b
  | _ => none
def sumF (ds : List D) (S : Hs) : Res D := match ds with
  | [.ref n] => match listOf S n with
    | some xs => match mapO intOf xs with
      | some is => .ok (.int is.sum) S
      | none => .bad
    | none => .bad
  | _ => .bad
def allF (ds : List D) (S : Hs) : Res D := match ds with
  | [.ref n] => match listOf S n with
    | some xs => match mapO blOf xs with
      | some bs => .ok (.bl (bs.all id)) S
      | none => .bad
    | none => .bad
  | _ => .bad
def listF (ds : List D) (S : Hs) : Res D := match ds with
  | [.tup xs] => .ok (.ref S.n) (S.new (.lst xs))
  | [.ref n] => match listOf S n with
    | some xs => .ok (.ref S.n) (S.new (.lst xs))
    | none => .bad
  | _ => .bad
def tupleF (ds : List D) (S : Hs) : Res D := match ds with
  | [.tup xs] => .ok (.tup xs) S
  | [.ref n] => match listOf S n with
    | some xs => .ok (.tup xs) S
    | none => .bad
  | _ => .bad
def strF (ds : List D) (S : Hs) : Res D := match ds with
  | [.int i] => if i.natAbs.log2 < 1920 then .ok (.str (toString i)) S else .bad
  | _ => .bad
theorem noErL_of {f : List D → Hs → Res D} (h : ∀ ds S c d S', f ds S = .err c d S' → False) : NoErL f := fun ds S c d S' e => h ds S c d S' e
theorem len_no : NoErL lenF := fun ds S c d S' h => by
  unfold lenF at h
  repeat' (first | cases h | split at h)
theorem int_noL : NoErL intF := fun ds S c d S' h => by
  unfold intF at h
  repeat' (first | cases h | split at h)
theorem max_no : NoErL maxF := fun ds S c d S' h => by
  unfold maxF at h
  split at h <;> cases h
theorem min_no : NoErL minF := fun ds S c d S' h => by
  unfold minF at h
  split at h <;> cases h
theorem sum_no : NoErL sumF := fun ds S c d S' h => by
  unfold sumF at h
  repeat' (first | cases h | split at h)
theorem all_no : NoErL allF := fun ds S c d S' h => by
  unfold allF at h
  repeat' (first | cases h | split at h)
theorem list_no : NoErL listF := fun ds S c d S' h => by
  unfold listF at h
  repeat' (first | cases h | split at h)
theorem tuple_no : NoErL tupleF := fun ds S c d S' h => by
  unfold tupleF at h
  repeat' (first | cases h | split at h)
theorem str_no : NoErL strF := fun ds S c d S' h => by
  unfold strF at h
  repeat' (first | cases h | split at h)
section
variable {T : Ct} {φ : List Addr} {H : Hp} {S : Hs}
theorem RVs.one {d : D} {vs : List V} (r : RVs T φ H [d] vs) : ∃ v, vs = [v] ∧ RV T φ H d v := by
  obtain ⟨v, us, rfl, r1, r2⟩ := r.inv_cons
  have e := r2.inv_nil
  subst e
  exact ⟨v, rfl, r1⟩
theorem RVs.two {d e : D} {vs : List V} (r : RVs T φ H [d, e] vs) : ∃ v u, vs = [v, u] ∧ RV T φ H d v ∧ RV T φ H e u := by
  obtain ⟨v, us, rfl, r1, r2⟩ := r.inv_cons
  obtain ⟨u, rfl, r3⟩ := r2.one
  exact ⟨v, u, rfl, r1, r3⟩
theorem mapO_ints : ∀ {ds : List D} {vs : List V} {is : List Int}, RVs T φ H ds vs → mapO intOf ds = some is → vs = is.map V.int
  | [], vs, is, r, e => by
    cases e
    exact r.inv_nil
  | d :: ds, vs, is, r, e => by
    obtain ⟨v, us, rfl, r1, r2⟩ := r.inv_cons
    unfold mapO at e
    split at e
    · rename_i y hy
      split at e
      · rename_i ys hys
        cases e
        rw [List.map_cons, mapO_ints r2 hys]
        cases r1 <;> first | (cases hy; rfl) | cases hy
      · cases e
    · cases e
theorem mapO_bls : ∀ {ds : List D} {vs : List V} {is : List Bool}, RVs T φ H ds vs → mapO blOf ds = some is → vs = is.map V.bl
  | [], vs, is, r, e => by
    cases e
    exact r.inv_nil
  | d :: ds, vs, is, r, e => by
    obtain ⟨v, us, rfl, r1, r2⟩ := r.inv_cons
    unfold mapO at e
    split at e
    · rename_i y hy
      split at e
      · rename_i ys hys
        cases e
        rw [List.map_cons, mapO_bls r2 hys]
        cases r1 <;> first | (cases hy; rfl) | cases hy
      · cases e
    · cases e
end
section
variable {T : Ct}
theorem len_M : CallM T (fun xs H Q => ∃ x n, xs = [x] ∧ LenV T.K x H n ∧ Q (.int n) H) lenF := by
  intro φ S H ds vs Q R r P
  unfold lenF at P
  split at P
  · obtain ⟨v, rfl, rv⟩ := r.one
    cases rv
    split at P
    · rename_i z hl
      exact ⟨_, z.length, rfl, ⟨by rw [← line_eq]; exact hl, rfl⟩, P.now R (.int _)⟩
    · exact False.elim P
  · obtain ⟨v, rfl, rv⟩ := r.one
    cases rv with
    | @tup xs a us h l q => exact ⟨_, us.length, rfl, .inr ⟨us, h.sq, rfl⟩, by rw [← l]; exact P.now R (.int _)⟩
  · obtain ⟨v, rfl, rv⟩ := r.one
    cases rv with
    | @fz xs a us h l q => exact ⟨_, us.length, rfl, .inl ⟨us, h.sql, rfl⟩, by rw [← l]; exact P.now R (.int _)⟩
  · obtain ⟨v, rfl, rv⟩ := r.one
    split at P
    · rename_i xs hx
      cases rv with
      | ref h =>
        obtain ⟨us, q, r'⟩ := R.listOf h hx
        exact ⟨_, us.length, rfl, .inl ⟨us, q, rfl⟩, by rw [← r'.1]; exact P.now R (.int _)⟩
    · exact False.elim P
  · exact False.elim P
theorem int_ML : CallM T (fun xs H Q => (∃ i, xs = [V.int i] ∧ Q (.int i) H) ∨ ∃ k, xs = [V.bl k] ∧ Q (.int (if k then 1 else 0)) H) intF := by
  intro φ S H ds vs Q R r P
  unfold intF at P
  split at P
  · obtain ⟨v, rfl, rv⟩ := r.one
    cases rv
    exact .inl ⟨_, rfl, P.now R (.int _)⟩
  · obtain ⟨v, rfl, rv⟩ := r.one
    cases rv
    exact .inr ⟨_, rfl, P.now R (.int _)⟩
  · exact False.elim P
theorem max_M : CallM T (fun xs H Q => ∃ i j, xs = [V.int i, V.int j] ∧ Q (.int (if j > i then j else i)) H) maxF := by
  intro φ S H ds vs Q R r P
  unfold maxF at P
  split at P
  · obtain ⟨v, u, rfl, r1, r2⟩ := r.two
    cases r1
    cases r2
    exact ⟨_, _, rfl, P.now R (.int _)⟩
  · exact False.elim P
theorem min_M : CallM T (fun xs H Q => ∃ i j, xs = [V.int i, V.int j] ∧ Q (.int (if j < i then j else i)) H) minF := by
  intro φ S H ds vs Q R r P
  unfold minF at P
  split at P
  · obtain ⟨v, u, rfl, r1, r2⟩ := r.two
    cases r1
    cases r2
    exact ⟨_, _, rfl, P.now R (.int _)⟩
  · exact False.elim P
theorem sum_M : CallM T (rSum T.K) sumF := by
  intro φ S H ds vs Q R r P
  unfold sumF at P
  split at P
  · obtain ⟨v, rfl, rv⟩ := r.one
    split at P
    · rename_i xs hx
      split at P
      · rename_i is his
        cases rv with
        | @ref n a h =>
          obtain ⟨us, q, r'⟩ := R.listOf h hx
          have e := mapO_ints r' his
          subst e
          exact ⟨a, is, rfl, q, P.now R (.int _)⟩
      · exact False.elim P
    · exact False.elim P
  · exact False.elim P
theorem all_M : CallM T (rAll T.K) allF := by
  intro φ S H ds vs Q R r P
  unfold allF at P
  split at P
  · obtain ⟨v, rfl, rv⟩ := r.one
    split at P
    · rename_i xs hx
      split at P
      · rename_i is his
        cases rv with
        | @ref n a h =>
          obtain ⟨us, q, r'⟩ := R.listOf h hx
          have e := mapO_bls r' his
          subst e
          exact ⟨a, is, rfl, q, P.now R (.bl _)⟩
      · exact False.elim P
    · exact False.elim P
  · exact False.elim P
theorem list_M : CallM T (fun xs H Q => ∃ p ys, xs = [V.ref p] ∧ (SqL T.K H p ys ∨ SqT T.K H p ys) ∧ ∀ l, H l = none → Q (.ref l) (upd H l (.lst ys))) listF := by
  intro φ S H ds vs Q R r P
  unfold listF at P
  split at P
  · obtain ⟨v, rfl, rv⟩ := r.one
    cases rv with
    | @tup xs a us h l q => exact ⟨a, us, rfl, .inr h.sq, okE.newLst R ⟨l, q⟩ P⟩
  · obtain ⟨v, rfl, rv⟩ := r.one
    split at P
    · rename_i xs hx
      cases rv with
      | @ref n a h =>
        obtain ⟨us, q, r'⟩ := R.listOf h hx
        exact ⟨a, us, rfl, .inl q, okE.newLst R r' P⟩
    · exact False.elim P
  · exact False.elim P
theorem tuple_M : CallM T (fun xs H Q => ∃ p ys, xs = [V.ref p] ∧ ((SqL T.K H p ys ∧ ∀ l, H l = none → Q (.ref l) (upd H l (.tup ys))) ∨ (SqT T.K H p ys ∧ Q (.ref p) H))) tupleF := by
  intro φ S H ds vs Q R r P
  unfold tupleF at P
  split at P
  · obtain ⟨v, rfl, rv⟩ := r.one
    cases rv with
    | @tup xs a us h l q => exact ⟨a, us, rfl, .inr ⟨h.sq, P.now R (.tup h l q)⟩⟩
  · obtain ⟨v, rfl, rv⟩ := r.one
    split at P
    · rename_i xs hx
      cases rv with
      | @ref n a h =>
        obtain ⟨us, q, r'⟩ := R.listOf h hx
        exact ⟨a, us, rfl, .inl ⟨q, okE.newTup R r' P⟩⟩
    · exact False.elim P
  · exact False.elim P
theorem str_M : CallM T (fun xs H Q => ∃ i, xs = [V.int i] ∧ i.natAbs.log2 < 1920 ∧ Q (.str (toString i)) H) strF := by
  intro φ S H ds vs Q R r P
  unfold strF at P
  split at P
  · obtain ⟨v, rfl, rv⟩ := r.one
    cases rv
    split at P
    · rename_i i hl
      exact ⟨i, rfl, hl, P.now R (.str _)⟩
    · exact False.elim P
  · exact False.elim P
end
/-! ### isinstance -/
def tyN (d : D) (S : Hs) : Option String := match d with
  | .non => some "NoneType"
  | .bl _ => some "bool"
  | .int _ => some "int"
  | .str _ => some "str"
  | .tup _ => some "tuple"
  | .ref n => match S.get n with
    | some (.lst _) => some "list"
    | some (.fro _) => some "list"
    | some (.dic _) => some "dict"
    | some (.dt _) => some "dict"
    | some (.dk _) => some "dict"
    | _ => none
  | _ => none
def kitBs (t : String) : List D → Option Bool
  | [] => some false
  | .ty n :: r => match kitB t n, kitBs t r with
    | some b, some c => some (b || c)
    | _, _ => none
  | _ :: _ => none
def isiF (ds : List D) (S : Hs) : Res D := match ds with
  | [x, .ty n] => match tyN x S with
    | some t => match kitB t n with
      | some b => .ok (.bl b) S
      | none => .bad
    | none => .bad
  | [x, .tup cs] => match tyN x S with
    | some t => match kitBs t cs with
      | some b => .ok (.bl b) S
      | none => .bad
    | none => .bad
  | _ => .bad
theorem isi_no : NoErL isiF := fun ds S c d S' h => by
  unfold isiF at h
  repeat' (first | cases h | split at h)
section
variable {T : Ct} {φ : List Addr} {H : Hp} {S : Hs}
theorem tyN_of (R : RS T φ S H) {d : D} {v : V} {t : String} (r : RV T φ H d v) (h : tyN d S = some t) : TyX T.K H v (.type t) := by
  cases r with
  | non => cases h; exact .base .non
  | bl b => cases h; exact .base (.bl b)
  | int i => cases h; exact .base (.int i)
  | str s => cases h; exact .base (.str s)
  | @tup ds a vs q l r =>
    cases h
    rcases q with q | ⟨o, its, n, q1, q2, _⟩
    · exact .base (.tup q)
    · exact .kTuple q1 q2
  | @ref n a q =>
    unfold tyN at h
    simp only at h
    split at h
    · rename_i xs hx
      cases h
      obtain ⟨vs, e, _⟩ := R.lst q hx
      exact .base (.lst e)
    · rename_i xs hx
      cases h
      cases R.cell n _ a hx q with
      | fro e _ => exact .base (.frz e)
    · rename_i xs hx
      cases h
      obtain ⟨o, vs, e, _⟩ := R.dic q hx
      exact .fDict e
    · rename_i xs hx
      cases h
      cases R.cell n _ a hx q with
      | dt e _ => exact .base (.dT e)
    · rename_i xs hx
      cases h
      cases R.cell n _ a hx q with
      | dk e _ => exact .base (.dK e)
    · cases h
  | ty n => cases h
  | cls c => cases h
  | fz q l r => cases h
  | er q hd r => cases h
  | key q => cases h
  | eb q => cases h
theorem kits_of {t : String} : ∀ {cs : List D} {vs : List V} {b : Bool}, RVs T φ H cs vs → kitBs t cs = some b → ∃ us, Paired ClsV vs us ∧ PySem.W.kitAny T.K (.type t) us = some b
  | [], vs, b, r, h => by
    have e := r.inv_nil
    subst e
    cases h
    exact ⟨[], .nil, kitAny_nil⟩
  | c :: cs, vs, b, r, h => by
    obtain ⟨v, us, rfl, r1, r2⟩ := r.inv_cons
    cases r1 with
    | ty n =>
      have h' : (match kitB t n, kitBs t cs with
        | some b, some c => some (b || c)
        | _, _ => none) = some b := h
      split at h'
      · rename_i k c hk hc
        cases h'
        obtain ⟨ws, p, q⟩ := kits_of r2 hc
        refine ⟨.type n :: ws, .cons (.ty n) p, kitAny_cons (kit_ty hk) (fun z => ?_) (fun z => ?_)⟩
        · rw [z]
          exact q
        · rw [z]
          rfl
      · cases h'
    | _ => cases h
end
def rIsiU (K : PySem.W.Frag) : List V → Hp → VK → Prop := fun xs H Q => rIsi K xs H Q ∨ rIsiT K xs H Q ∨ rIsiK K xs H Q
theorem isi_M {T : Ct} : CallM T (rIsiU T.K) isiF := by
  intro φ S H ds vs Q R r P
  unfold isiF at P
  split at P
  · rename_i x n
    obtain ⟨v, u, rfl, r1, r2⟩ := r.two
    cases r2
    split at P
    · rename_i t ht
      split at P
      · rename_i b hb
        exact .inl ⟨v, .ty n, .type t, .type n, b, rfl, .ty n, tyN_of R r1 ht, kit_ty hb, P.now R (.bl b)⟩
      · exact False.elim P
    · exact False.elim P
  · rename_i x cs
    obtain ⟨v, u, rfl, r1, r2⟩ := r.two
    split at P
    · rename_i t ht
      split at P
      · rename_i b hb
        have q := P.now R (.bl b)
        cases r2 with
        | @tup ds tp us h l r' =>
          obtain ⟨ws, p, k⟩ := kits_of ⟨l, r'⟩ hb
          rcases h with h | ⟨o, its, n, h1, h2, h3, h4, h5⟩
          · exact .inr (.inl ⟨v, tp, us, .type t, ws, b, rfl, h, p, tyN_of R r1 ht, k, q⟩)
          · refine .inr (.inr ⟨v, tp, o.dict, its.toList, n, o.slots, .type t, b, rfl, ?_, tyN_of R r1 ht, ?_, q⟩)
            · rw [h1]
              cases o
              simp only at h2 h3
              subst h2 h3
              simp
            · rw [ClsV.all p h5]
              exact k
      · exact False.elim P
    · exact False.elim P
  · exact False.elim P
section
variable {X : Cx} {T : Ct} {W : WX} {pos p p2 : Pos} {e e2 : Expr} {ms : Exs} {x : Str}
/-- a built-in class as a value -/
theorem r_ty {n : String} (hg : Gl X x) (hm : X.mg x = none) (hv : bootBuiltins x = some (.type n)) (hn : x ≠ "__name__" := by decide) (hd : (x == ("__debug__" : Str)) = false := by decide) : PE X (.Name x pos) (tE T W (mC (.ty n))) :=
  weakE (pe_bltn (v := .ty n) hg hm hv rfl hn hd) fun _ _ _ h => tC_of (fun _ _ => .ty n) h
theorem r_len (hm : X.mg "len" = none) (ha : PA X [e] (tA T W ms)) (hg : Gl X "len" := by rfl) (hK : T.K = X.K := by rfl) (he : starEach [e] X.env = (false, eval e X.env) :: starEach [] X.env := by rfl) (hpl : (backTo pos (starEach [] X.env)).any (·.1) = false := by rfl) : PE X (.Call (.Name "len" p) [e] [] pos) (tE T W (mCall lenF ms)) :=
  r_callB (r := fun xs H Q => ∃ x n, xs = [x] ∧ LenV T.K x H n ∧ Q (.int n) H) (by rw [hK]; exact call_len) len_M len_no hg hm (by decide +kernel) ha (by decide) (by decide) he hpl
theorem r_intc (hm : X.mg "int" = none) (ha : PA X [e] (tA T W ms)) (hg : Gl X "int" := by rfl) (he : starEach [e] X.env = (false, eval e X.env) :: starEach [] X.env := by rfl) (hpl : (backTo pos (starEach [] X.env)).any (·.1) = false := by rfl) : PE X (.Call (.Name "int" p) [e] [] pos) (tE T W (mCall intF ms)) :=
  r_callTy call_int1 int_ML int_noL hg hm (by decide +kernel) ha (by decide) (by decide) he hpl
theorem r_strc (hm : X.mg "str" = none) (ha : PA X [e] (tA T W ms)) (hg : Gl X "str" := by rfl) (he : starEach [e] X.env = (false, eval e X.env) :: starEach [] X.env := by rfl) (hpl : (backTo pos (starEach [] X.env)).any (·.1) = false := by rfl) : PE X (.Call (.Name "str" p) [e] [] pos) (tE T W (mCall strF ms)) :=
  r_callTy call_str_int str_M str_no hg hm (by decide +kernel) ha (by decide) (by decide) he hpl
theorem r_max (hc : X.calm = true) (hm : X.mg "max" = none) (ha : PA X [e, e2] (tA T W ms)) (hg : Gl X "max" := by rfl) (he : starEach [e, e2] X.env = (false, eval e X.env) :: starEach [e2] X.env := by rfl) (hpl : (backTo pos (starEach [e2] X.env)).any (·.1) = false := by rfl) : PE X (.Call (.Name "max" p) [e, e2] [] pos) (tE T W (mCall maxF ms)) :=
  r_callB (call_max2 hc) max_M max_no hg hm (by decide +kernel) ha (by decide) (by decide) he hpl
theorem r_min (hc : X.calm = true) (hm : X.mg "min" = none) (ha : PA X [e, e2] (tA T W ms)) (hg : Gl X "min" := by rfl) (he : starEach [e, e2] X.env = (false, eval e X.env) :: starEach [e2] X.env := by rfl) (hpl : (backTo pos (starEach [e2] X.env)).any (·.1) = false := by rfl) : PE X (.Call (.Name "min" p) [e, e2] [] pos) (tE T W (mCall minF ms)) :=
  r_callB (call_min2 hc) min_M min_no hg hm (by decide +kernel) ha (by decide) (by decide) he hpl
theorem r_sum (hc : X.calm = true) (hm : X.mg "sum" = none) (ha : PA X [e] (tA T W ms)) (hg : Gl X "sum" := by rfl) (hK : T.K = X.K := by rfl) (he : starEach [e] X.env = (false, eval e X.env) :: starEach [] X.env := by rfl) (hpl : (backTo pos (starEach [] X.env)).any (·.1) = false := by rfl) : PE X (.Call (.Name "sum" p) [e] [] pos) (tE T W (mCall sumF ms)) :=
  r_callB (r := rSum T.K) (by rw [hK]; exact cr_sum hc) sum_M sum_no hg hm (by decide +kernel) ha (by decide) (by decide) he hpl
theorem r_all (hc : X.calm = true) (hm : X.mg "all" = none) (ha : PA X [e] (tA T W ms)) (hg : Gl X "all" := by rfl) (hK : T.K = X.K := by rfl) (he : starEach [e] X.env = (false, eval e X.env) :: starEach [] X.env := by rfl) (hpl : (backTo pos (starEach [] X.env)).any (·.1) = false := by rfl) : PE X (.Call (.Name "all" p) [e] [] pos) (tE T W (mCall allF ms)) :=
  r_callB (r := rAll T.K) (by rw [hK]; exact cr_all hc) all_M all_no hg hm (by decide +kernel) ha (by decide) (by decide) he hpl
theorem r_list (hm : X.mg "list" = none) (ha : PA X [e] (tA T W ms)) (hg : Gl X "list" := by rfl) (hK : T.K = X.K := by rfl) (he : starEach [e] X.env = (false, eval e X.env) :: starEach [] X.env := by rfl) (hpl : (backTo pos (starEach [] X.env)).any (·.1) = false := by rfl) : PE X (.Call (.Name "list" p) [e] [] pos) (tE T W (mCall listF ms)) :=
  r_callTy (r := fun xs H Q => ∃ p ys, xs = [V.ref p] ∧ (SqL T.K H p ys ∨ SqT T.K H p ys) ∧ ∀ l, H l = none → Q (.ref l) (upd H l (.lst ys))) (by rw [hK]; exact call_list_of) list_M list_no hg hm (by decide +kernel) ha (by decide) (by decide) he hpl
theorem r_tuple (hm : X.mg "tuple" = none) (ha : PA X [e] (tA T W ms)) (hg : Gl X "tuple" := by rfl) (hK : T.K = X.K := by rfl) (he : starEach [e] X.env = (false, eval e X.env) :: starEach [] X.env := by rfl) (hpl : (backTo pos (starEach [] X.env)).any (·.1) = false := by rfl) : PE X (.Call (.Name "tuple" p) [e] [] pos) (tE T W (mCall tupleF ms)) :=
  r_callTy (r := fun xs H Q => ∃ p ys, xs = [V.ref p] ∧ ((SqL T.K H p ys ∧ ∀ l, H l = none → Q (.ref l) (upd H l (.tup ys))) ∨ (SqT T.K H p ys ∧ Q (.ref p) H))) (by rw [hK]; exact call_tuple_of) tuple_M tuple_no hg hm (by decide +kernel) ha (by decide) (by decide) he hpl
theorem r_isi (hm : X.mg "isinstance" = none) (ha : PA X [e, e2] (tA T W ms)) (hg : Gl X "isinstance" := by rfl) (hK : T.K = X.K := by rfl) (he : starEach [e, e2] X.env = (false, eval e X.env) :: starEach [e2] X.env := by rfl) (hpl : (backTo pos (starEach [e2] X.env)).any (·.1) = false := by rfl) : PE X (.Call (.Name "isinstance" p) [e, e2] [] pos) (tE T W (mCall isiF ms)) :=
  r_callB (r := rIsiU T.K) (by rw [hK]; exact call_isi.or (call_isiT.or call_isiK)) isi_M isi_no hg hm (by decide +kernel) ha (by decide) (by decide) he hpl
end
/-! ### methods of built-in types -/
def tyD (Ty : String) (d : D) (S : Hs) : Bool := match d with
  | .str _ => Ty == "str"
  | .int _ => Ty == "int"
  | .ref n => match S.get n with
    | some (.lst _) => Ty == "list"
    | some (.fro _) => Ty == "list"
    | _ => false
  | _ => false
theorem tyD_of {T : Ct} {φ : List Addr} {H : Hp} {S : Hs} (R : RS T φ S H) {Ty : String} {d : D} {v : V} (r : RV T φ H d v) (h : tyD Ty d S = true) : tyV T.K Ty v H := by
  cases r with
  | str s => exact eq_of_beq h
  | int i => exact eq_of_beq h
  | @ref n a q =>
    unfold tyD at h
    simp only at h
    split at h
    · rename_i xs hx
      obtain ⟨vs, e, _⟩ := R.lst q hx
      exact .inl ⟨eq_of_beq h, vs, SqL.of e⟩
    · rename_i xs hx
      cases R.cell n _ a hx q with
      | fro e _ => exact .inl ⟨eq_of_beq h, _, .inl (.inr ⟨_, e⟩)⟩
    · cases h
  | _ => cases h
def mMeth (Ty : String) (g : D → List D → Hs → Res D) (m : Ex) (ms : Exs) : Ex := fun env S => (m env S).bind fun x S1 => if tyD Ty x S1 then (ms env S1).bind fun xs S2 => g x xs S2 else .bad
def MethM (T : Ct) (r : V → List V → Hp → VK → Prop) (g : D → List D → Hs → Res D) : Prop := ∀ {φ : List Addr} {S : Hs} {H : Hp} {x : D} {v : V} {ds : List D} {vs : List V} {Q : VK}, RS T φ S H → RV T φ H x v → RVs T φ H ds vs → Post (okE T φ H Q) (fun _ _ _ => False) (g x ds S) → r v vs H Q
def NoErM (g : D → List D → Hs → Res D) : Prop := ∀ x ds S c d S', g x ds S ≠ .err c d S'
section
variable {X : Cx} {T : Ct} {W : WX} {o e : Expr} {es : List Expr} {m : Ex} {ms : Exs} {name : Str} {apos cpos : Pos} {Ty id : String} {r : V → List V → Hp → VK → Prop} {g : D → List D → Hs → Res D}
theorem r_bm (pa : PlainAttrs Ty) (slot : Slot Ty name id) (hty : typeOf (.builtin id) = pure (.type "method_descriptor")) (hm : MtR X id r) (hM : MethM T r g) (hn : NoErM g) (ho : PE X o (tE T W m)) (ha : PA X (e :: es) (tA T W ms)) (hK : T.K = X.K := by rfl)
    (hbase : attributeBase o name X.env (eval o X.env) = eval o X.env := by rfl)
    (hfew : ((backTo cpos (starEach (e :: es) X.env)).all (fun x => !x.1) && (backToKw cpos (keywordEach [] X.env)).all (fun x => x.1.isSome)
      && decide ((e :: es).length + ([] : List Keyword).length + (if ([] : List Keyword).isEmpty then 0 else 1) < 30)) = true := by rfl)
    (hline : (apos.endLine == cpos.line) = true := by rfl) (hs : starEach (e :: es) X.env = (false, eval e X.env) :: starEach es X.env := by rfl) (hpl : (backTo cpos (starEach es X.env)).any (·.1) = false := by rfl) :
    PE X (.Call (.Attribute o name apos) (e :: es) [] cpos) (tE T W (mMeth Ty g m ms)) :=
  weakE (pe_bm pa slot hty hm ho ha hbase hfew hline hs hpl) fun σ H Q ⟨φ, env, S, R, E, P⟩ => tE_bind R E P fun x S1 φ1 H1 v u R1 r1 E1 P1 => by
    split at P1
    · rename_i ht
      exact ⟨by rw [← hK]; exact tyD_of R1 r1 ht, tA_bind R1 E1 P1 fun ds S2 φ2 H2 vs u2 R2 r2 E2 P2 => hM R2 (r1.up R1 u2) r2 ((P2.upE (u.trans u2)).noEr (hn x ds S2))⟩
    · exact False.elim P1
theorem r_bm0 (pa : PlainAttrs Ty) (slot : Slot Ty name id) (hty : typeOf (.builtin id) = pure (.type "method_descriptor")) (hm : MtR X id r) (hM : MethM T r g) (hn : NoErM g) (ho : PE X o (tE T W m)) (hK : T.K = X.K := by rfl)
    (hbase : attributeBase o name X.env (eval o X.env) = eval o X.env := by rfl)
    (hline : (apos.endLine == cpos.line) = true := by rfl) :
    PE X (.Call (.Attribute o name apos) [] [] cpos) (tE T W (mMeth Ty g m mNil)) :=
  weakE (pe_bm0 pa slot hty hm ho hbase hline) fun σ H Q ⟨φ, env, S, R, E, P⟩ => tE_bind R E P fun x S1 φ1 H1 v u R1 r1 E1 P1 => by
    split at P1
    · rename_i ht
      exact ⟨by rw [← hK]; exact tyD_of R1 r1 ht, hM R1 r1 .nil ((Post.upE u (show Post (okE T φ H Q) _ (g x [] S1) from P1)).noEr (hn x [] S1))⟩
    · exact False.elim P1
def appendG (x : D) (ds : List D) (S : Hs) : Res D := match x, ds with
  | .ref n, [y] => match S.get n with
    | some (.lst xs) => if xs.length < line then .ok .non (S.put n (.lst (xs ++ [y]))) else .bad
    | _ => .bad
  | _, _ => .bad
def popG (x : D) (ds : List D) (S : Hs) : Res D := match x, ds with
  | .ref n, [] => match S.get n with
    | some (.lst xs) => match xs[xs.length - 1]? with
      | some y => .ok y (S.put n (.lst xs.dropLast))
      | none => .bad
    | _ => .bad
  | _, _ => .bad
theorem append_no : NoErM appendG := fun x ds S c d S' h => by
  unfold appendG at h
  repeat' (first | cases h | split at h)
theorem pop_no : NoErM popG := fun x ds S c d S' h => by
  unfold popG at h
  repeat' (first | cases h | split at h)
theorem append_M : MethM T rAppend appendG := by
  intro φ S H x v ds vs Q R rx r P
  unfold appendG at P
  split at P
  · rename_i n y
    split at P
    · rename_i xs hx
      split at P
      · rename_i hl
        obtain ⟨w, rfl, rw'⟩ := r.one
        cases rx with
        | @ref n a h =>
          obtain ⟨us, q, r'⟩ := R.lst h hx
          have r2 : RVs T φ H (xs ++ [y]) (us ++ [w]) := r'.append (.cons rw' .nil)
          obtain ⟨R', U⟩ := R.put (o := .lst (us ++ [w])) (c := .lst (xs ++ [y])) hx h (lst_nf q) fun φ' H' u z => .lst z (r2.up R u)
          exact ⟨a, us, w, rfl, rfl, q, by rw [← r'.1, ← line_eq]; exact hl, P _ _ _ U R' .non⟩
      · exact False.elim P
    · exact False.elim P
  · exact False.elim P
theorem RVs.dropLast {φ : List Addr} {H : Hp} {ds : List D} {vs : List V} (r : RVs T φ H ds vs) : RVs T φ H ds.dropLast vs.dropLast := by
  rw [List.dropLast_eq_take, List.dropLast_eq_take, r.1]
  exact r.take _
theorem pop_M : MethM T rPop popG := by
  intro φ S H x v ds vs Q R rx r P
  unfold popG at P
  split at P
  · rename_i n
    split at P
    · rename_i xs hx
      split at P
      · rename_i y hy
        have e := r.inv_nil
        subst e
        cases rx with
        | @ref n a h =>
          obtain ⟨us, q, r'⟩ := R.lst h hx
          obtain ⟨w, hw, rw'⟩ := r'.get hy
          obtain ⟨R', U⟩ := R.put (o := .lst us.dropLast) (c := .lst xs.dropLast) hx h (lst_nf q) fun φ' H' u z => .lst z (r'.dropLast.up R u)
          exact ⟨a, us, w, rfl, rfl, q, by rw [← r'.1]; exact hw, P _ _ _ U R' (rw'.up R U)⟩
      · exact False.elim P
    · exact False.elim P
  · exact False.elim P
theorem r_append (ho : PE X o (tE T W m)) (ha : PA X [e] (tA T W ms)) (hK : T.K = X.K := by rfl) (hbase : attributeBase o "append" X.env (eval o X.env) = eval o X.env := by rfl)
    (hfew : ((backTo cpos (starEach [e] X.env)).all (fun x => !x.1) && (backToKw cpos (keywordEach [] X.env)).all (fun x => x.1.isSome)
      && decide ([e].length + ([] : List Keyword).length + (if ([] : List Keyword).isEmpty then 0 else 1) < 30)) = true := by rfl)
    (hline : (apos.endLine == cpos.line) = true := by rfl) (hs : starEach [e] X.env = (false, eval e X.env) :: starEach [] X.env := by rfl) (hpl : (backTo cpos (starEach [] X.env)).any (·.1) = false := by rfl) :
    PE X (.Call (.Attribute o "append" apos) [e] [] cpos) (tE T W (mMeth "list" appendG m ms)) :=
  r_bm PySem.F.plainAttrs_list PySem.F.slot_list_append PySem.F.type_list_append mt_append append_M append_no ho ha hK hbase hfew hline hs hpl
theorem r_pop0 (ho : PE X o (tE T W m)) (hK : T.K = X.K := by rfl) (hbase : attributeBase o "pop" X.env (eval o X.env) = eval o X.env := by rfl) (hline : (apos.endLine == cpos.line) = true := by rfl) :
    PE X (.Call (.Attribute o "pop" apos) [] [] cpos) (tE T W (mMeth "list" popG m mNil)) :=
  r_bm0 PySem.F.plainAttrs_list PySem.F.slot_list_pop PySem.F.type_list_pop mt_pop pop_M pop_no ho hK hbase hline
/-- a.bit_length() -/
theorem r_bits {pos : Pos} (ho : PE X o (tE T W m)) (hbase : attributeBase o "bit_length" X.env (eval o X.env) = eval o X.env := by rfl) (hline : (apos.endLine == pos.line) = true := by rfl) : PE X (.Call (.Attribute o "bit_length" apos) [] [] pos) (tE T W (mBits m)) :=
  weakE (pe_bits ho hbase hline) fun σ H Q ⟨φ, env, S, R, E, P⟩ => tE_bind R E P fun d S1 φ1 H1 v u R1 r1 E1 P1 => by
    cases r1 with
    | int i => exact ⟨i, rfl, P1 φ1 H1 _ u R1 (.int _)⟩
    | _ => exact False.elim P1
end
end MR

/-! M5: targets, what is walked, statements, loops. -/
namespace MR
open PySem PySem.Spec L2 RZ

/-! ### targets: the slots that are stored -/
abbrev Bnd := D → Option (List (Nat × D))
def apD (env : EnvD) (ups : List (Nat × D)) : EnvD := ups.foldl (fun e p => e.set p.1 (some p.2)) env
def apV (σ : L2.St) (ups : List (Nat × V)) : L2.St := ups.foldl (fun e p => e.set p.1 (some p.2)) σ
def bName (i : Nat) : Bnd := fun d => some [(i, d)]
def bTup (is : List Nat) : Bnd := fun d => match d with
  | .tup ds => if ds.length = is.length then some (is.zip ds) else none
  | _ => none
section
variable (T : Ct)
def RU (φ : List Addr) (H : Hp) (us : List (Nat × D)) (vs : List (Nat × V)) : Prop := us.map (·.1) = vs.map (·.1) ∧ RVs T φ H (us.map (·.2)) (vs.map (·.2))
def TgOk (g : TG) (b : Bnd) : Prop := ∀ {φ : List Addr} {S : Hs} {H : Hp} {d : D} {v : V} {σ : L2.St} {Q : L2.St → Hp → Prop} {us : List (Nat × D)}, RS T φ S H → RV T φ H d v → b d = some us → (∀ vs, RU T φ H us vs → Q (apV σ vs) H) → g v σ H Q
end
section
variable {T : Ct} {φ : List Addr} {S : Hs} {H : Hp}
theorem RE.set {env : EnvD} {σ : L2.St} (E : RE T φ H env σ) {d : D} {v : V} (r : RV T φ H d v) (i : Nat) : RE T φ H (env.set i (some d)) (σ.set i (some v)) := by
  refine ⟨by simp [E.1], fun j e h => ?_⟩
  by_cases hj : i = j
  · subst hj
    by_cases hi : i < env.length
    · rw [List.getElem?_set_self hi] at h
      cases h
      exact ⟨v, List.getElem?_set_self (by rw [← E.1]; exact hi), .rv r⟩
    · rw [List.getElem?_eq_none (by simpa using hi)] at h
      cases h
  · rw [List.getElem?_set_ne hj] at h
    obtain ⟨u, h1, h2⟩ := E.2 j e h
    exact ⟨u, by rw [List.getElem?_set_ne hj]; exact h1, h2⟩
theorem RE.ap {us : List (Nat × D)} : ∀ {vs : List (Nat × V)} {env : EnvD} {σ : L2.St}, RE T φ H env σ → RU T φ H us vs → RE T φ H (apD env us) (apV σ vs) := by
  induction us with
  | nil =>
    intro vs env σ E u
    have e : vs = [] := by
      have := u.1
      simp at this
      exact this
    subst e
    exact E
  | cons p us ih =>
    intro vs env σ E u
    cases vs with
    | nil => have := u.1; simp at this
    | cons q vs =>
      have h1 := u.1
      simp only [List.map_cons, List.cons.injEq] at h1
      obtain ⟨v, ws, e1, r1, r2⟩ := RVs.inv_cons (d := p.2) (ds := us.map (·.2)) u.2
      simp only [List.map_cons, List.cons.injEq] at e1
      obtain ⟨e1, e2⟩ := e1
      subst e1
      refine ih (env := env.set p.1 (some p.2)) (σ := σ.set q.1 (some q.2)) ?_ ⟨h1.2, by rw [e2]; exact r2⟩
      rw [← h1.1]
      exact E.set r1 p.1
theorem tg_name {i : Nat} : TgOk T (gName i) (bName i) := by
  intro φ S H d v σ Q us R r hb h
  cases hb
  exact h [(i, v)] ⟨rfl, .cons r .nil⟩
/-- the targets of a tuple, one after another -/
def gNames : List Nat → TGs
  | [] => gNil
  | i :: is => gCons (gName i) (gNames is)
theorem gNames_ok : ∀ {is : List Nat} {ds : List D} {vs : List V} {σ : L2.St} {Q : L2.St → Hp → Prop}, RVs T φ H ds vs → ds.length = is.length → (∀ ws, RU T φ H (is.zip ds) ws → Q (apV σ ws) H) → gNames is vs σ H Q
  | [], ds, vs, σ, Q, r, hl, h => by
    have e : ds = [] := List.length_eq_zero_iff.mp hl
    subst e
    have e := r.inv_nil
    subst e
    exact ⟨rfl, h [] ⟨rfl, .nil⟩⟩
  | i :: is, ds, vs, σ, Q, r, hl, h => by
    cases ds with
    | nil => simp at hl
    | cons d ds =>
      obtain ⟨v, us, rfl, r1, r2⟩ := r.inv_cons
      refine ⟨v, us, rfl, ?_⟩
      refine gNames_ok (is := is) r2 (by simpa using hl) fun ws hw => ?_
      exact h ((i, v) :: ws) ⟨by simp [hw.1], .cons r1 hw.2⟩
theorem tg_tup {is : List Nat} : TgOk T (gTup T.K is.length (gNames is)) (bTup is) := by
  intro φ S H d v σ Q us R r hb h
  unfold bTup at hb
  split at hb
  · rename_i ds
    split at hb
    · rename_i hl
      cases hb
      cases r with
      | @tup ds a vs q l r' => exact ⟨a, vs, rfl, q.sq, by rw [← l]; exact hl, gNames_ok ⟨l, r'⟩ hl h⟩
    · cases hb
  · cases hb
end
/-! ### what is walked -/
inductive DI where
  | lst (n : Nat) | tup (xs : List D) | rng (lo : Int) (n : Nat) | str (z : Str) | zipL (n m : Nat) | zipT (xs ys : List D) | keys (n : Nat) (ks : List Key) | keysT (ks : List (List Key))
def kD : Key → D
  | .inl i => .int i
  | .inr x => .str x
theorem kD_rv {T : Ct} {φ : List Addr} {H : Hp} (k : Key) : RV T φ H (kD k) (kV k) := by
  cases k with
  | inl i => exact .int i
  | inr x => exact .str x
theorem kDs_rv {T : Ct} {φ : List Addr} {H : Hp} : ∀ ks : List Key, RVs T φ H (ks.map kD) (ks.map kV)
  | [] => .nil
  | k :: ks => .cons (kD_rv k) (kDs_rv ks)
def pairAt (xs ys : List D) (i : Nat) : Option D := match xs[i]?, ys[i]? with
  | some x, some y => some (.tup [x, y])
  | _, _ => none
/-- at turn i: an item, the end, or no word -/
def DI.next (di : DI) (i : Nat) (S : Hs) : Option (Option D) := match di with
  | .lst n => match listOf S n with
    | some xs => some xs[i]?
    | none => none
  | .tup xs => some xs[i]?
  | .rng lo n => some (if i < n then some (.int (lo + i)) else none)
  | .str z => some (match z.cps[i]? with
    | some c => some (.str ⟨#[c]⟩)
    | none => none)
  | .zipL n m => match listOf S n, listOf S m with
    | some xs, some ys => some (pairAt xs ys i)
    | _, _ => none
  | .zipT xs ys => some (pairAt xs ys i)
  | .keys _ ks => some (ks[i]?.map kD)
  | .keysT ks => some (ks[i]?.map .key)
def DI.size (di : DI) (S : Hs) : Nat := match di with
  | .lst n => match listOf S n with
    | some xs => xs.length
    | none => 0
  | .tup xs => xs.length
  | .rng _ n => n
  | .str z => z.cps.size
  | .zipL n _ => match listOf S n with
    | some xs => xs.length
    | none => 0
  | .zipT xs _ => xs.length
  | .keys _ ks => ks.length
  | .keysT ks => ks.length
abbrev ExI := EnvD → Hs → Res DI
section
variable (T : Ct)
inductive ItR (φ : List Addr) (H : Hp) : DI → It → Prop where
  | lst {n : Nat} {a : Addr} (h : φ[n]? = some a) : ItR φ H (.lst n) (Itl T.K a)
  | tup {xs : List D} {a : Addr} {vs : List V} (h : Tp T.K H a vs) (r : RVs T φ H xs vs) : ItR φ H (.tup xs) (Itt T.K a)
  | rng (lo : Int) (n : Nat) : ItR φ H (.rng lo n) (Itr lo n)
  | str (z : Str) : ItR φ H (.str z) (Its z)
  | zipL {n m : Nat} {a b : Addr} (h : φ[n]? = some a) (h' : φ[m]? = some b) : ItR φ H (.zipL n m) (Itz T.K a b)
  | zipT {xs ys : List D} {a b : Addr} {vs us : List V} (h : Tp T.K H a vs) (r : RVs T φ H xs vs) (h' : Tp T.K H b us) (r' : RVs T φ H ys us) : ItR φ H (.zipT xs ys) (ItzT T.K a b)
  | keys {n : Nat} {ks : List Key} {a : Addr} {o : Obj} {kvs : List (Key × V)} (h : H a = some (.frz o (.dK kvs))) (e : kvs.map (·.1) = ks) : ItR φ H (.keys n ks) (Itk a o kvs)
  | keysT {ks : List (List Key)} {a : Addr} {o : Obj} {kvs : List (List Key × V)} (h : H a = some (.frz o (.dT kvs))) (e : kvs.map (·.1) = ks) : ItR φ H (.keysT ks) (Itkt a o kvs)
def okI (φ : List Addr) (H : Hp) (Q : It → Hp → Prop) : DI → Hs → Prop := fun di S' => ∀ φ' H' J, Up φ H φ' H' → RS T φ' S' H' → ItR T φ' H' di J → Q J H'
def tI (W : WX) (m : ExI) : TI := fun σ H R => ∃ φ env S, RS T φ S H ∧ RE T φ H env σ ∧ Post (okI T φ H R) (erE T W φ H σ) (m env S)
end
section
variable {T : Ct} {φ φ' : List Addr} {S S' : Hs} {H H' : Hp}
theorem ItR.up {di : DI} {J : It} (R : RS T φ S H) (u : Up φ H φ' H') (h : ItR T φ H di J) : ItR T φ' H' di J := by
  cases h with
  | lst h => exact .lst (u.at_ h)
  | tup h r => exact .tup (R.tp u h) (r.up R u)
  | rng lo n => exact .rng lo n
  | str z => exact .str z
  | zipL h h' => exact .zipL (u.at_ h) (u.at_ h')
  | zipT h r h' r' => exact .zipT (R.tp u h) (r.up R u) (R.tp u h') (r'.up R u)
  | keys h e => exact .keys (u.frz _ _ _ rfl h) e
  | keysT h e => exact .keysT (u.frz _ _ _ rfl h) e
/-- what the walked thing's turn is, by the cells -/
theorem ItR.stop {di : DI} {J : It} {i : Nat} (R : RS T φ S H) (I : ItR T φ H di J) (h : di.next i S = some none) : J.stop i H := by
  cases I with
  | @lst n a ha =>
    unfold DI.next at h
    simp only at h
    split at h
    · rename_i xs hx
      obtain ⟨vs, q, r⟩ := R.listOf ha hx
      exact ⟨vs, q, by rw [← r.1]; exact List.getElem?_eq_none_iff.mp (Option.some.inj h)⟩
    · cases h
  | tup ha r =>
    have h' := Option.some.inj h
    exact ⟨_, ha.sq, by rw [← r.1]; exact List.getElem?_eq_none_iff.mp h'⟩
  | rng lo n =>
    have h' := Option.some.inj h
    split at h'
    · cases h'
    · rename_i hn
      show n ≤ i
      omega
  | str z =>
    have h' := Option.some.inj h
    split at h'
    · cases h'
    · rename_i hc
      show z.cps.size ≤ i
      exact Array.getElem?_eq_none_iff.mp hc
  | @zipL n m a b ha hb =>
    unfold DI.next at h
    simp only at h
    split at h
    · rename_i xs ys hx hy
      obtain ⟨vs, q, r⟩ := R.listOf ha hx
      obtain ⟨us, q', r'⟩ := R.listOf hb hy
      have h' := Option.some.inj h
      refine ⟨vs, us, q, q', ?_⟩
      unfold pairAt at h'
      rw [← r.1, ← r'.1]
      cases e1 : xs[i]? with
      | none => exact .inl (List.getElem?_eq_none_iff.mp e1)
      | some x =>
        cases e2 : ys[i]? with
        | none => exact .inr (List.getElem?_eq_none_iff.mp e2)
        | some y => rw [e1, e2] at h'; cases h'
    · cases h
  | @zipT xs ys a b vs us ha r hb r' =>
    have h' : pairAt xs ys i = none := Option.some.inj h
    refine ⟨vs, us, ha.sq, hb.sq, ?_⟩
    unfold pairAt at h'
    rw [← r.1, ← r'.1]
    cases e1 : xs[i]? with
    | none => exact .inl (List.getElem?_eq_none_iff.mp e1)
    | some x =>
      cases e2 : ys[i]? with
      | none => exact .inr (List.getElem?_eq_none_iff.mp e2)
      | some y => rw [e1, e2] at h'; cases h'
  | @keys n ks a o kvs ha e =>
    refine ⟨ha, ?_⟩
    have h' : ks[i]?.map kD = none := Option.some.inj h
    rw [← e, List.getElem?_map] at h'
    cases e1 : kvs[i]? with
    | none => exact List.getElem?_eq_none_iff.mp e1
    | some x => rw [e1] at h'; cases h'
  | @keysT ks a o kvs ha e =>
    refine ⟨ha, ?_⟩
    have h' : ks[i]?.map D.key = none := Option.some.inj h
    rw [← e, List.getElem?_map] at h'
    cases e1 : kvs[i]? with
    | none => exact List.getElem?_eq_none_iff.mp e1
    | some x => rw [e1] at h'; cases h'
theorem pairAt_some {xs ys : List D} {i : Nat} {d : D} (h : pairAt xs ys i = some d) : ∃ x y, xs[i]? = some x ∧ ys[i]? = some y ∧ d = .tup [x, y] := by
  unfold pairAt at h
  split at h
  · rename_i x y e1 e2
    cases h
    exact ⟨x, y, e1, e2, rfl⟩
  · cases h
theorem ItR.go {di : DI} {J : It} {i : Nat} {d : D} (R : RS T φ S H) (I : ItR T φ H di J) (h : di.next i S = some (some d)) :
    J.go i H ∧ ∀ x H', J.yld i H x H' → Up φ H φ H' ∧ RS T φ S H' ∧ RV T φ H' d x := by
  cases I with
  | @lst n a ha =>
    unfold DI.next at h
    simp only at h
    split at h
    · rename_i xs hx
      obtain ⟨vs, q, r⟩ := R.listOf ha hx
      obtain ⟨v, hv, rv⟩ := r.get (Option.some.inj h)
      refine ⟨⟨vs, v, q, hv⟩, fun x H' y => ?_⟩
      obtain ⟨rfl, y⟩ := y
      have e := y vs q
      rw [hv] at e
      cases e
      exact ⟨Up.refl _ _, R, rv⟩
    · cases h
  | @tup xs a vs ha r =>
    obtain ⟨v, hv, rv⟩ := r.get (Option.some.inj h)
    refine ⟨⟨vs, v, ha.sq, hv⟩, fun x H' y => ?_⟩
    obtain ⟨rfl, y⟩ := y
    have e := y vs ha.sq
    rw [hv] at e
    cases e
    exact ⟨Up.refl _ _, R, rv⟩
  | rng lo n =>
    have h' := Option.some.inj h
    split at h'
    · rename_i hn
      cases h'
      refine ⟨hn, fun x H' y => ?_⟩
      obtain ⟨rfl, rfl⟩ := y
      exact ⟨Up.refl _ _, R, .int _⟩
    · cases h'
  | str z =>
    have h' := Option.some.inj h
    split at h'
    · rename_i c hc
      cases h'
      refine ⟨(Array.getElem?_eq_some_iff.mp hc).1, fun x H' y => ?_⟩
      obtain ⟨rfl, c', hc', rfl⟩ := y
      rw [hc] at hc'
      cases hc'
      exact ⟨Up.refl _ _, R, .str _⟩
    · cases h'
  | @zipL n m a b ha hb =>
    unfold DI.next at h
    simp only at h
    split at h
    · rename_i xs ys hx hy
      obtain ⟨vs, q, r⟩ := R.listOf ha hx
      obtain ⟨us, q', r'⟩ := R.listOf hb hy
      obtain ⟨x, y, e1, e2, rfl⟩ := pairAt_some (Option.some.inj h)
      obtain ⟨v, hv, rv⟩ := r.get e1
      obtain ⟨u, hu, ru⟩ := r'.get e2
      refine ⟨⟨vs, us, v, u, q, q', hv, hu⟩, fun w H' z => ?_⟩
      obtain ⟨Tt, v', u', rfl, hT, rfl, f1, f2⟩ := z
      have e1 := f1 vs q
      have e2 := f2 us q'
      rw [hv] at e1
      rw [hu] at e2
      cases e1
      cases e2
      obtain ⟨R', U⟩ := R.laid (o := .tup [v, u]) hT
      have rr := (RVs.cons rv (.cons ru .nil)).up R U
      exact ⟨U, R', .tup (.inl upd_same) rr.1 rr.2⟩
    · cases h
  | @zipT xs ys a b vs us ha r hb r' =>
    obtain ⟨x, y, e1, e2, rfl⟩ := pairAt_some (Option.some.inj h)
    obtain ⟨v, hv, rv⟩ := r.get e1
    obtain ⟨u, hu, ru⟩ := r'.get e2
    refine ⟨⟨vs, us, v, u, ha.sq, hb.sq, hv, hu⟩, fun w H' z => ?_⟩
    obtain ⟨Tt, v', u', rfl, hT, rfl, f1, f2⟩ := z
    have e1 := f1 vs ha.sq
    have e2 := f2 us hb.sq
    rw [hv] at e1
    rw [hu] at e2
    cases e1
    cases e2
    obtain ⟨R', U⟩ := R.laid (o := .tup [v, u]) hT
    have rr := (RVs.cons rv (.cons ru .nil)).up R U
    exact ⟨U, R', .tup (.inl upd_same) rr.1 rr.2⟩
  | @keys n ks a o kvs ha e =>
    have h' : ks[i]?.map kD = some d := Option.some.inj h
    rw [← e, List.getElem?_map] at h'
    cases e1 : kvs[i]? with
    | none => rw [e1] at h'; cases h'
    | some p =>
      rw [e1] at h'
      cases h'
      refine ⟨⟨ha, (List.getElem?_eq_some_iff.mp e1).1⟩, fun x H' y => ?_⟩
      obtain ⟨rfl, k, v, e2, rfl⟩ := y
      rw [e1] at e2
      cases e2
      exact ⟨Up.refl _ _, R, kD_rv k⟩
  | @keysT ks a o kvs ha e =>
    have h' : ks[i]?.map D.key = some d := Option.some.inj h
    rw [← e, List.getElem?_map] at h'
    cases e1 : kvs[i]? with
    | none => rw [e1] at h'; cases h'
    | some p =>
      rw [e1] at h'
      cases h'
      refine ⟨⟨ha, (List.getElem?_eq_some_iff.mp e1).1⟩, fun x H' y => ?_⟩
      obtain ⟨rfl, k, v, q, e2, rfl, hq⟩ := y
      rw [e1] at e2
      cases e2
      exact ⟨Up.refl _ _, R, .key hq⟩
end
/-- a list, a tuple or a text, whichever it is -/
def iAny (K : PySem.W.Frag) (te : TE) : TI := fun σ H R => te σ H fun x H1 => (∃ a, x = .ref a ∧ (∃ xs, SqL K H1 a xs) ∧ R (Itl K a) H1) ∨ (∃ a, x = .ref a ∧ (∃ xs, SqT K H1 a xs) ∧ R (Itt K a) H1) ∨ ∃ z, x = .str z ∧ R (Its z) H1
theorem pi_any {X : Cx} {tg l : Expr} {te : TE} (hl : PE X l te) : PI X tg l (iAny X.K te) := by
  constructor
  intro ps t st hp G I h
  refine thn (hl.run ps t st hp _ I h) fun v t1 ⟨x, hp1, J, rel, which⟩ => ?_
  rcases which with ⟨a, is, ⟨xs, seq⟩, q⟩ | ⟨a, is, ⟨xs, seq⟩, q⟩ | ⟨z, is, q⟩ <;> subst is
  · cases rel
    have ⟨its, _, at_, _⟩ := J.list seq
    exact wpAny_pyIter_list at_.isList (pi_one (tk := t1.toks) J _ (turn_list a _) ⟨_, Heap.get?_push_size _ rfl, rfl, rfl⟩ q)
  · cases rel
    have ⟨its, _, at_, _⟩ := J.tuple seq
    exact wpAny_pyIter_tuple (show t1.heap.IsTuple a its.toArray from at_) (pi_one (tk := t1.toks) J _ (turn_tuple a _) ⟨_, Heap.get?_push_size _ rfl, rfl, rfl⟩ q)
  · have ⟨t, e⟩ := rel
    subst e
    cases ha : z.cps.all (· < 128)
    · exact wpAny_pyIter_wide ha (pi_one (tk := t1.toks) J _ (turn_str _ z t "str_iterator" (.inr rfl)) ⟨_, Heap.get?_push_size _ rfl, rfl, rfl⟩ q)
    · exact wpAny_pyIter_ascii ha (pi_one (tk := t1.toks) J _ (turn_str _ z t "str_ascii_iterator" (.inl rfl)) ⟨_, Heap.get?_push_size _ rfl, rfl, rfl⟩ q)
theorem weakI {X : Cx} {tg e : Expr} {t t' : TI} (h : PI X tg e t) (w : ∀ σ H Q, t' σ H Q → t σ H Q) : PI X tg e t' := ⟨fun pins s σ H Q I q => h.run pins s σ H Q I (w σ H Q q)⟩
def mIter (m : Ex) : ExI := fun env S => (m env S).bind fun d S1 => match d with
  | .tup xs => .ok (.tup xs) S1
  | .ref n => match listOf S1 n with
    | some _ => .ok (.lst n) S1
    | none => .bad
  | .str z => .ok (.str z) S1
  | _ => .bad
def mRange1 (ms : Exs) : ExI := fun env S => (ms env S).bind fun ds S1 => match ds with
  | [.int j] => if -(2 ^ 62) ≤ j ∧ j < 2 ^ 62 then .ok (.rng 0 j.toNat) S1 else .bad
  | _ => .bad
def mRange2 (ms : Exs) : ExI := fun env S => (ms env S).bind fun ds S1 => match ds with
  | [.int i, .int j] => if -(2 ^ 62) ≤ i ∧ i < 2 ^ 62 ∧ -(2 ^ 62) ≤ j ∧ j < 2 ^ 62 then .ok (.rng i (j - i).toNat) S1 else .bad
  | _ => .bad
def mZip (ms : Exs) : ExI := fun env S => (ms env S).bind fun ds S1 => match ds with
  | [.ref n, .ref m] => match listOf S1 n, listOf S1 m with
    | some _, some _ => .ok (.zipL n m) S1
    | _, _ => .bad
  | [.tup xs, .tup ys] => .ok (.zipT xs ys) S1
  | _ => .bad
section
variable {X : Cx} {T : Ct} {W : WX} {tg e a b : Expr} {m : Ex} {ms : Exs} {p pos tpos : Pos}
/-- the keys of a dict -/
def mKeys (m : Ex) : ExI := fun env S => (m env S).bind fun d S1 => match d with
  | .ref n => match S1.get n with
    | some (.dic kvs) => .ok (.keys n (kvs.map (·.1))) S1
    | _ => .bad
  | _ => .bad
theorem RKs.keys {T : Ct} {φ : List Addr} {H : Hp} {ds : List (Key × D)} {vs : List (Key × V)} (r : RKs T φ H ds vs) : vs.map (·.1) = ds.map (·.1) := by
  refine List.ext_getElem? fun i => ?_
  rw [List.getElem?_map, List.getElem?_map]
  cases e1 : ds[i]? with
  | none => rw [List.getElem?_eq_none (by rw [← r.1]; exact List.getElem?_eq_none_iff.mp e1)] <;> rfl
  | some p =>
    have hl : i < vs.length := by rw [← r.1]; exact (List.getElem?_eq_some_iff.mp e1).1
    have e2 := List.getElem?_eq_getElem hl
    rw [e2]
    exact congrArg some (r.2 i _ _ e1 e2).1.symm
theorem i_keys (h : PE X e (tE T W m)) : PI X tg e (tI T W (mKeys m)) := weakI (pi_keys h) fun σ H Q ⟨φ, env, S, R, E, P⟩ =>
  tE_bind R E P fun d S1 φ1 H1 v u R1 r1 E1 P1 => by
    cases r1 with
    | @ref n a q =>
      simp only at P1
      split at P1
      · rename_i kvs hx
        obtain ⟨o, vs, hk, r⟩ := R1.dic q hx
        exact ⟨a, o, rfl, .inl ⟨vs, hk, P1 φ1 H1 _ u R1 (.keys hk r.keys)⟩⟩
      · exact False.elim P1
    | _ => exact False.elim P1
theorem i_any (h : PE X e (tE T W m)) (hK : T.K = X.K := by rfl) : PI X tg e (tI T W (mIter m)) := weakI (pi_any h) fun σ H Q ⟨φ, env, S, R, E, P⟩ => by
  rw [← hK]
  exact tE_bind R E P fun d S1 φ1 H1 v u R1 r1 E1 P1 => by
    cases r1 with
    | @tup xs a vs q l r => exact .inr (.inl ⟨a, rfl, ⟨vs, q.sq⟩, P1 φ1 H1 _ u R1 (.tup q ⟨l, r⟩)⟩)
    | @ref n a q =>
      simp only at P1
      split at P1
      · rename_i xs hx
        obtain ⟨vs, q', r⟩ := R1.listOf q hx
        exact .inl ⟨a, rfl, ⟨vs, q'⟩, P1 φ1 H1 _ u R1 (.lst q)⟩
      · exact False.elim P1
    | str z => exact .inr (.inr ⟨z, rfl, P1 φ1 H1 _ u R1 (.str z)⟩)
    | _ => exact False.elim P1
theorem RVs.int1 {φ : List Addr} {H : Hp} {j : Int} {vs : List V} (r : RVs T φ H [.int j] vs) : vs = [.int j] := by
  obtain ⟨v, rfl, rv⟩ := r.one
  cases rv
  rfl
theorem i_range1 (hm : X.mg "range" = none) (ha : PA X [a] (tA T W ms)) (hg : Gl X "range" := by rfl) (hs : starEach [a] X.env = [(false, eval a X.env)] := by rfl) : PI X tg (.Call (.Name "range" p) [a] [] pos) (tI T W (mRange1 ms)) :=
  weakI (pi_range1 hg hm ha hs) fun σ H Q ⟨φ, env, S, R, E, P⟩ => tA_bind R E P fun ds S1 φ1 H1 vs u R1 r1 E1 P1 => by
    split at P1
    · rename_i j
      obtain ⟨v, rfl, rv⟩ := r1.one
      cases rv
      split at P1
      · rename_i hj
        exact ⟨j, rfl, hj.1, hj.2, P1 φ1 H1 _ u R1 (.rng 0 _)⟩
      · exact False.elim P1
    · exact False.elim P1
theorem i_range2 (hm : X.mg "range" = none) (ha : PA X [a, b] (tA T W ms)) (hg : Gl X "range" := by rfl) (hs : starEach [a, b] X.env = [(false, eval a X.env), (false, eval b X.env)] := by rfl) (hs2 : starEach [b] X.env = [(false, eval b X.env)] := by rfl) : PI X tg (.Call (.Name "range" p) [a, b] [] pos) (tI T W (mRange2 ms)) :=
  weakI (pi_range2 hg hm ha hs hs2) fun σ H Q ⟨φ, env, S, R, E, P⟩ => tA_bind R E P fun ds S1 φ1 H1 vs u R1 r1 E1 P1 => by
    split at P1
    · rename_i i j
      obtain ⟨v, w, rfl, rv, rw'⟩ := r1.two
      cases rv
      cases rw'
      split at P1
      · rename_i hj
        exact ⟨i, j, rfl, hj, P1 φ1 H1 _ u R1 (.rng i _)⟩
      · exact False.elim P1
    · exact False.elim P1
theorem i_zip {elts : List Expr} {kk : Nat} (hm : X.mg "zip" = none) (ha : PA X [a, b] (tA T W ms)) (hg : Gl X "zip" := by rfl) (hK : T.K = X.K := by rfl)
    (hs : starEach [a, b] X.env = (false, eval a X.env) :: starEach [b] X.env := by rfl) (hpl : (backTo pos (starEach [b] X.env)).any (·.1) = false := by rfl) :
    PI X (.Tuple elts kk tpos) (.Call (.Name "zip" p) [a, b] [] pos) (tI T W (mZip ms)) :=
  weakI (pi_zipA hg hm ha hs hpl) fun σ H Q ⟨φ, env, S, R, E, P⟩ => by
    rw [← hK]
    exact tA_bind R E P fun ds S1 φ1 H1 vs u R1 r1 E1 P1 => by
      split at P1
      · rename_i n m
        obtain ⟨v, w, rfl, rv, rw'⟩ := r1.two
        split at P1
        · rename_i xs ys hx hy
          cases rv with
          | @ref n a ha =>
            cases rw' with
            | @ref m b hb =>
              obtain ⟨vs, q, r⟩ := R1.listOf ha hx
              obtain ⟨us, q', r'⟩ := R1.listOf hb hy
              exact ⟨a, b, vs, us, rfl, .inl ⟨q, q', P1 φ1 H1 _ u R1 (.zipL ha hb)⟩⟩
        · exact False.elim P1
      · rename_i xs ys
        obtain ⟨v, w, rfl, rv, rw'⟩ := r1.two
        cases rv with
        | @tup xs a vs q l r =>
          cases rw' with
          | @tup ys b us q' l' r' => exact ⟨a, b, vs, us, rfl, .inr ⟨q.sq, q'.sq, P1 φ1 H1 _ u R1 (.zipT q ⟨l, r⟩ q' ⟨l', r'⟩)⟩⟩
      · exact False.elim P1
end
end MR

/-! M6: statements, loops, comprehensions. -/
namespace MR
open PySem PySem.Spec L2

/-- how a statement ends -/
inductive SRes where
  | nx (env : EnvD) (S : Hs) | rt (d : D) (S : Hs) | bk (env : EnvD) (S : Hs) | ct (env : EnvD) (S : Hs) | err (c : Str) (d : D) (env : EnvD) (S : Hs) | bad
abbrev SM := EnvD → Hs → SRes
def Res.toS {α : Type} (r : Res α) (env : EnvD) (k : α → Hs → SRes) : SRes := match r with
  | .ok a S => k a S
  | .err c d S => .err c d env S
  | .bad => .bad
section
variable (T : Ct) (W : WX)
def PostS (φ : List Addr) (H : Hp) (E : Ends) : SRes → Prop
  | .nx env S => ∀ φ' H' σ', Up φ H φ' H' → RS T φ' S H' → RE T φ' H' env σ' → E.nx σ' H'
  | .rt d S => ∀ φ' H' v, Up φ H φ' H' → RS T φ' S H' → RV T φ' H' d v → E.rt v H'
  | .bk env S => ∀ φ' H' σ', Up φ H φ' H' → RS T φ' S H' → RE T φ' H' env σ' → E.bk σ' H'
  | .ct env S => ∀ φ' H' σ', Up φ H φ' H' → RS T φ' S H' → RE T φ' H' env σ' → E.ct σ' H'
  | .err c d env S => ∀ φ' H' σ' dd v, Up φ H φ' H' → RS T φ' S H' → RE T φ' H' env σ' → RV T φ' H' d v → H' dd = some (.xd (fV v)) → W (.ref (T.ca c)) (some dd) σ' H'
  | .bad => False
def tS (m : SM) : TS := fun E σ H => ∃ φ env S, RS T φ S H ∧ RE T φ H env σ ∧ PostS T W φ H E (m env S)
end
section
variable {T : Ct} {W : WX} {φ φ1 : List Addr} {H H1 : Hp} {S : Hs} {σ : L2.St} {env : EnvD} {D0 : Ends}
theorem PostS.up (u : Up φ H φ1 H1) {r : SRes} (h : PostS T W φ H D0 r) : PostS T W φ1 H1 D0 r := by
  cases r with
  | nx env S => exact fun φ' H' σ' u' => h φ' H' σ' (u.trans u')
  | rt d S => exact fun φ' H' v u' => h φ' H' v (u.trans u')
  | bk env S => exact fun φ' H' σ' u' => h φ' H' σ' (u.trans u')
  | ct env S => exact fun φ' H' σ' u' => h φ' H' σ' (u.trans u')
  | err c d env S => exact fun φ' H' σ' dd v u' => h φ' H' σ' dd v (u.trans u')
  | bad => exact h
theorem tE_st {m : Ex} {k : D → Hs → SRes} {Q : VK} (R : RS T φ S H) (E : RE T φ H env σ) (P : PostS T W φ H D0 ((m env S).toS env k))
    (h : ∀ d S1 φ1 H1 v, Up φ H φ1 H1 → RS T φ1 S1 H1 → RV T φ1 H1 d v → RE T φ1 H1 env σ → PostS T W φ1 H1 D0 (k d S1) → Q v H1) : tE T W m σ H Q := by
  refine ⟨φ, env, S, R, E, ?_⟩
  cases e : m env S with
  | ok d S1 =>
    rw [e] at P
    exact fun φ1 H1 v u R1 r => h d S1 φ1 H1 v u R1 r (E.up R u) (PostS.up u P)
  | err c d S1 =>
    rw [e] at P
    exact fun φ1 H1 dd v u R1 r x => P φ1 H1 σ dd v u R1 (E.up R u) r x
  | bad =>
    rw [e] at P
    exact P
theorem tA_st {m : Exs} {k : List D → Hs → SRes} {Q : List V → Hp → Prop} (R : RS T φ S H) (E : RE T φ H env σ) (P : PostS T W φ H D0 ((m env S).toS env k))
    (h : ∀ d S1 φ1 H1 v, Up φ H φ1 H1 → RS T φ1 S1 H1 → RVs T φ1 H1 d v → RE T φ1 H1 env σ → PostS T W φ1 H1 D0 (k d S1) → Q v H1) : tA T W m σ H Q := by
  refine ⟨φ, env, S, R, E, ?_⟩
  cases e : m env S with
  | ok d S1 =>
    rw [e] at P
    exact fun φ1 H1 v u R1 r => h d S1 φ1 H1 v u R1 r (E.up R u) (PostS.up u P)
  | err c d S1 =>
    rw [e] at P
    exact fun φ1 H1 dd v u R1 r x => P φ1 H1 σ dd v u R1 (E.up R u) r x
  | bad =>
    rw [e] at P
    exact P
theorem tI_st {m : ExI} {k : DI → Hs → SRes} {Q : It → Hp → Prop} (R : RS T φ S H) (E : RE T φ H env σ) (P : PostS T W φ H D0 ((m env S).toS env k))
    (h : ∀ d S1 φ1 H1 v, Up φ H φ1 H1 → RS T φ1 S1 H1 → ItR T φ1 H1 d v → RE T φ1 H1 env σ → PostS T W φ1 H1 D0 (k d S1) → Q v H1) : tI T W m σ H Q := by
  refine ⟨φ, env, S, R, E, ?_⟩
  cases e : m env S with
  | ok d S1 =>
    rw [e] at P
    exact fun φ1 H1 v u R1 r => h d S1 φ1 H1 v u R1 r (E.up R u) (PostS.up u P)
  | err c d S1 =>
    rw [e] at P
    exact fun φ1 H1 dd v u R1 r x => P φ1 H1 σ dd v u R1 (E.up R u) r x
  | bad =>
    rw [e] at P
    exact P
theorem tT_st {m : Ex} {k : Bool → Hs → SRes} {Q : Bool → Hp → Prop} (R : RS T φ S H) (E : RE T φ H env σ) (P : PostS T W φ H D0 ((m env S).toS env fun d S1 => match d with | .bl b => k b S1 | _ => .bad))
    (h : ∀ b S1 φ1 H1, Up φ H φ1 H1 → RS T φ1 S1 H1 → RE T φ1 H1 env σ → PostS T W φ1 H1 D0 (k b S1) → Q b H1) : tT T W m σ H Q := by
  refine ⟨φ, env, S, R, E, ?_⟩
  cases e : m env S with
  | ok d S1 =>
    rw [e] at P
    cases d with
    | bl b => exact ⟨b, rfl, fun φ1 H1 u R1 => h b S1 φ1 H1 u R1 (E.up R u) (PostS.up u P)⟩
    | _ => exact False.elim P
  | err c d S1 =>
    rw [e] at P
    exact fun φ1 H1 dd v u R1 r x => P φ1 H1 σ dd v u R1 (E.up R u) r x
  | bad =>
    rw [e] at P
    exact P
end
theorem weakS {X : Cx} {st : Stmt} {t t' : TS} (h : PS X st t) (w : ∀ E σ H, t' E σ H → t E σ H) : PS X st t' := ⟨fun pins s σ H E I q => h.run pins s σ H E I (w E σ H q)⟩
theorem weakSs {X : Cx} {st : List Stmt} {t t' : TS} (h : PSs X st t) (w : ∀ E σ H, t' E σ H → t E σ H) : PSs X st t' := ⟨fun pins s σ H E I q => h.run pins s σ H E I (w E σ H q)⟩
/-! ### blocks -/
def mNx : SM := fun env S => .nx env S
def mSeq (a b : SM) : SM := fun env S => match a env S with
  | .nx env1 S1 => b env1 S1
  | r => r
def mRet (m : Ex) : SM := fun env S => (m env S).toS env fun d S1 => .rt d S1
def mExp (m : Ex) : SM := fun env S => (m env S).toS env fun _ S1 => .nx env S1
def mIfS (m : Ex) (a b : SM) : SM := fun env S => (m env S).toS env fun d S1 => match d with
  | .bl k => if k then a env S1 else b env S1
  | _ => .bad
def mSet (i : Nat) (m : Ex) : SM := fun env S => (m env S).toS env fun d S1 => .nx (env.set i (some d)) S1
def mAsg (b : Bnd) (m : Ex) : SM := fun env S => (m env S).toS env fun d S1 => match b d with
  | some us => .nx (apD env us) S1
  | none => .bad
def mPar (i j : Nat) (ms : Exs) : SM := fun env S => (ms env S).toS env fun ds S1 => match ds with
  | [d, e] => .nx ((env.set i (some d)).set j (some e)) S1
  | _ => .bad
def mPar3 (i j l : Nat) (ms : Exs) : SM := fun env S => (ms env S).toS env fun ds S1 => match ds with
  | [d, e, f] => .nx (((env.set i (some d)).set j (some e)).set l (some f)) S1
  | _ => .bad
/-- o[i] = e of a list -/
def putD (o i v : D) (S : Hs) : Option Hs := match o, i with
  | .ref n, .int k => match S.get n with
    | some (.lst xs) => match ixN xs.length k with
      | some j => some (S.put n (.lst (xs.set j v)))
      | none => none
    | _ => none
  | _, _ => none
def mPut (mo mi mv : Ex) : SM := fun env S => (mv env S).toS env fun v S1 => (mo env S1).toS env fun o S2 => (mi env S2).toS env fun i S3 => match putD o i v S3 with
  | some S4 => .nx env S4
  | none => .bad
def mNever : SM := fun _ _ => .bad
section
variable {X : Cx} {T : Ct} {W : WX} {pos : Pos} {st : Stmt} {rest : List Stmt} {e : Expr} {m : Ex} {a b : SM}
theorem s_nil : PSs X [] (tS T W mNx) := weakSs pss_nil fun E σ H ⟨φ, env, S, R, Ev, P⟩ => P φ H σ (Up.refl _ _) R Ev
theorem s_cons (h1 : PS X st (tS T W a)) (h2 : PSs X rest (tS T W b)) : PSs X (st :: rest) (tS T W (mSeq a b)) := weakSs (pss_cons h1 h2) fun E σ H ⟨φ, env, S, R, Ev, P⟩ => by
  refine ⟨φ, env, S, R, Ev, ?_⟩
  unfold mSeq at P
  cases e : a env S with
  | nx env1 S1 =>
    rw [e] at P
    exact fun φ' H' σ' u R' E' => ⟨φ', env1, S1, R', E', PostS.up u P⟩
  | _ =>
    rw [e] at P
    exact P
theorem s_one (h : PS X st (tS T W a)) : PSs X [st] (tS T W a) := pss_one h
theorem s_pass : PS X (.Pass pos) (tS T W mNx) := weakS ps_pass fun E σ H ⟨φ, env, S, R, Ev, P⟩ => P φ H σ (Up.refl _ _) R Ev
theorem s_exp (he : PE X e (tE T W m)) (hs : swapsWith e none pos.line X.env = pure false := by rfl) : PS X (.Expr e pos) (tS T W (mExp m)) := weakS (ps_expr he hs) fun E σ H ⟨φ, env, S, R, Ev, P⟩ =>
  tE_st R Ev P fun d S1 φ1 H1 v u R1 r1 E1 P1 => P1 φ1 H1 σ (Up.refl _ _) R1 E1
theorem s_ret (he : PE X e (tE T W m)) : PS X (.Return (some e) pos) (tS T W (mRet m)) := weakS (ps_ret he) fun E σ H ⟨φ, env, S, R, Ev, P⟩ =>
  tE_st R Ev P fun d S1 φ1 H1 v u R1 r1 E1 P1 => P1 φ1 H1 v (Up.refl _ _) R1 r1
theorem s_if {c : Expr} {x y : List Stmt} (hc : PT X c (tT T W m)) (ha : PSs X x (tS T W a)) (hb : PSs X y (tS T W b)) : PS X (.If c x y pos) (tS T W (mIfS m a b)) := weakS (ps_if hc ha hb) fun E σ H ⟨φ, env, S, R, Ev, P⟩ =>
  tT_st (k := fun k S1 => if k then a env S1 else b env S1) R Ev P fun k S1 φ1 H1 u R1 E1 P1 => by
    cases k with
    | true =>
      rw [if_pos rfl] at *
      exact ⟨φ1, env, S1, R1, E1, P1⟩
    | false =>
      rw [if_neg Bool.false_ne_true] at *
      exact ⟨φ1, env, S1, R1, E1, P1⟩
theorem s_never : PS X st (tS T W mNever) := weakS ps_never fun E σ H ⟨φ, env, S, R, Ev, P⟩ => P
theorem s_set (i : Nat) {x : Str} {pos' : Pos} (hN : X.N.Nodup) (he : PE X e (tE T W m)) (hi : X.N[i]? = some x := by rfl) (hx : Loc X.env.scope x := by first | exact Or.inl rfl | exact Or.inr rfl) (hs : swapsWith e (some (.Name x pos')) pos.line X.env = pure false := by rfl) (hf : X.fn x = true ∨ X.env.scope.names.lookup x = some .local := by first | exact .inl rfl | exact .inr rfl) :
    PS X (.Assign [.Name x pos'] e pos) (tS T W (mSet i m)) := weakS (ps_set hN hi hx he hs hf) fun E σ H ⟨φ, env, S, R, Ev, P⟩ =>
  tE_st R Ev P fun d S1 φ1 H1 v u R1 r1 E1 P1 => P1 φ1 H1 _ (Up.refl _ _) R1 (E1.set r1 i)
theorem s_asg {tg : Expr} {g : TG} {bd : Bnd} (he : PE X e (tE T W m)) (hg : PG X tg g) (ho : TgOk T g bd) (hs : swapsWithSole [tg] e pos.line X.env = pure false := by rfl) (hw : swappedStores [tg] e X.env = pure none := by rfl)
    (h1 : (assignEach [tg] X.env).map (·.2) = [assign tg X.env] := by rfl) : PS X (.Assign [tg] e pos) (tS T W (mAsg bd m)) := weakS (ps_asg he hg hs hw h1) fun E σ H ⟨φ, env, S, R, Ev, P⟩ =>
  tE_st R Ev P fun d S1 φ1 H1 v u R1 r1 E1 P1 => by
    split at P1
    · rename_i us hus
      exact ho R1 r1 hus fun vs hv => P1 φ1 H1 _ (Up.refl _ _) R1 (E1.ap hv)
    · exact False.elim P1
theorem s_par (i j : Nat) {x y : Str} {c d : Expr} {ms : Exs} {px py pt : Pos} {kt k2 pt2} (hc : X.calm = true) (hN : X.N.Nodup) (ha : PA X [c, d] (tA T W ms)) (hi : X.N[i]? = some x := by rfl) (hj : X.N[j]? = some y := by rfl) (hij : i ≠ j := by decide)
    (hx : X.env.scope.names.lookup x = some .local := by rfl) (hy : X.env.scope.names.lookup y = some .local := by rfl)
    (hw : swappedStores [.Tuple [.Name x px, .Name y py] kt pt] (.Tuple [c, d] k2 pt2) X.env = pure (some [x, y]) := by rfl)
    (hs : swapsWithSole [.Tuple [.Name x px, .Name y py] kt pt] (.Tuple [c, d] k2 pt2) pos.line X.env = pure false := by rfl) :
    PS X (.Assign [.Tuple [.Name x px, .Name y py] kt pt] (.Tuple [c, d] k2 pt2) pos) (tS T W (mPar i j ms)) := weakS (ps_par hc hN hi hj hij hx hy ha hw hs) fun E σ H ⟨φ, env, S, R, Ev, P⟩ =>
  tA_st R Ev P fun ds S1 φ1 H1 vs u R1 r1 E1 P1 => by
    split at P1
    · rename_i d1 e1
      obtain ⟨v, w, rfl, rv, rw'⟩ := r1.two
      exact ⟨v, w, rfl, P1 φ1 H1 _ (Up.refl _ _) R1 ((E1.set rv i).set rw' j)⟩
    · exact False.elim P1
theorem s_par3 (i j l : Nat) {x y z : Str} {c d f : Expr} {ms : Exs} {px py pz pt : Pos} {kt k2 pt2} (hc : X.calm = true) (hN : X.N.Nodup) (ha : PA X [c, d, f] (tA T W ms)) (hi : X.N[i]? = some x := by rfl) (hj : X.N[j]? = some y := by rfl) (hl : X.N[l]? = some z := by rfl) (hij : i ≠ j := by decide) (hil : i ≠ l := by decide) (hjl : j ≠ l := by decide)
    (hx : X.env.scope.names.lookup x = some .local := by rfl) (hy : X.env.scope.names.lookup y = some .local := by rfl) (hz : X.env.scope.names.lookup z = some .local := by rfl)
    (hw : swappedStores [.Tuple [.Name x px, .Name y py, .Name z pz] kt pt] (.Tuple [c, d, f] k2 pt2) X.env = pure (some [x, y, z]) := by rfl)
    (hs : swapsWithSole [.Tuple [.Name x px, .Name y py, .Name z pz] kt pt] (.Tuple [c, d, f] k2 pt2) pos.line X.env = pure false := by rfl) :
    PS X (.Assign [.Tuple [.Name x px, .Name y py, .Name z pz] kt pt] (.Tuple [c, d, f] k2 pt2) pos) (tS T W (mPar3 i j l ms)) := weakS (ps_par3 hc hN hi hj hl hij hil hjl hx hy hz ha hw hs) fun E σ H ⟨φ, env, S, R, Ev, P⟩ =>
  tA_st R Ev P fun ds S1 φ1 H1 vs u R1 r1 E1 P1 => by
    split at P1
    · rename_i d1 e1 f1
      obtain ⟨v, us, rfl, rv, r2⟩ := r1.inv_cons
      obtain ⟨w, t, rfl, rw', rt⟩ := r2.two
      exact ⟨v, w, t, rfl, P1 φ1 H1 _ (Up.refl _ _) R1 (((E1.set rv i).set rw' j).set rt l)⟩
    · exact False.elim P1
theorem s_put {o i v : Expr} {mo mi mv : Ex} {tpos : Pos} (ho : PE X o (tE T W mo)) (hi : PE X i (tE T W mi)) (hv : PE X v (tE T W mv))
    (ha : ∀ v, assign (.Subscript o i tpos) X.env v = (do
      let ov ← holding [v] (eval o X.env)
      let iv ← holding [v, ov] (eval i X.env)
      standAt tpos
      holding [v, ov, iv] (setItem ov iv v)
      release [v, ov, iv] []) := by intro _; rfl) (hs : swapsWithSole [.Subscript o i tpos] v pos.line X.env = pure false := by rfl) (hw : swappedStores [.Subscript o i tpos] v X.env = pure none := by rfl)
    (h1 : (assignEach [.Subscript o i tpos] X.env).map (·.2) = [assign (.Subscript o i tpos) X.env] := by rfl) : PS X (.Assign [.Subscript o i tpos] v pos) (tS T W (mPut mo mi mv)) :=
  weakS (ps_asg hv (pg_sub ho hi set_list ha) hs hw h1) fun E σ H ⟨φ, env, S, R, Ev, P⟩ =>
    tE_st R Ev P fun dv S1 φ1 H1 vv u1 R1 r1 E1 P1 => tE_st R1 E1 P1 fun od S2 φ2 H2 ov u2 R2 r2 E2 P2 => tE_st R2 E2 P2 fun id S3 φ3 H3 iv u3 R3 r3 E3 P3 => by
      have rv := (r1.up R1 u2).up R2 u3
      have ro := r2.up R2 u3
      unfold putD at P3
      cases ro with
      | @ref n a h =>
        cases r3 with
        | int k =>
          simp only at P3
          split at P3
          · rename_i S4 h4
            split at h4
            · rename_i xs hx
              split at h4
              · rename_i j hj
                cases h4
                obtain ⟨vs, q, r⟩ := R3.lst h hx
                have r' := r.set rv j
                obtain ⟨R', U⟩ := R3.put (o := .lst (vs.set j vv)) (c := .lst (xs.set j dv)) hx h (lst_nf q) fun φ' H' u z => .lst z (r'.up R3 u)
                exact ⟨a, vs, k, j, rfl, rfl, q, by rw [← r.1]; exact hj, P3 _ _ σ U R' (E3.up R3 U)⟩
              · cases h4
            · cases h4
          · exact False.elim P3
        | _ => exact False.elim P3
      | _ => exact False.elim P3
end
/-! ### for -/
def mLoop (di : DI) (b : Bnd) (body : SM) : Nat → Nat → SM
  | 0, _, _, _ => .bad
  | k + 1, i, env, S => match di.next i S with
    | none => .bad
    | some none => .nx env S
    | some (some d) => match b d with
      | none => .bad
      | some us => match body (apD env us) S with
        | .nx env2 S2 => mLoop di b body k (i + 1) env2 S2
        | .ct env2 S2 => mLoop di b body k (i + 1) env2 S2
        | .bk env2 S2 => .nx env2 S2
        | r => r
def mFor (mi : ExI) (b : Bnd) (body : SM) : SM := fun env S => (mi env S).toS env fun di S1 => mLoop di b body (di.size S1 + 1) 0 env S1
section
variable {X : Cx} {T : Ct} {W : WX} {pos : Pos}
theorem s_for {tg iter : Expr} {body : List Stmt} {mi : ExI} {g : TG} {bd : Bnd} {mb : SM} (hp : PassesOwn (model X.prog X.w) X.A X.env X.xe) (hc : X.calm = true) (hi : PI X tg iter (tI T W mi)) (hg : PG X tg g) (ho : TgOk T g bd) (hb : PSs X body (tS T W mb))
    (hs : ∀ x, foldedSetIterable iter X.env x = pure x := by intro _; rfl) : PS X (.For tg iter body [] pos) (tS T W (mFor mi bd mb)) := weakS (ps_for hp hc hi hg hb hs) fun E σ H ⟨φ, env, S, R, Ev, P⟩ => by
  refine tI_st R Ev P fun di S1 φ1 H1 J u1 R1 J1 E1 P1 => ?_
  refine ⟨fun i m σ H => ∃ φ env S, RS T φ S H ∧ RE T φ H env σ ∧ ItR T φ H di J ∧ PostS T W φ H E (mLoop di bd mb m i env S), ⟨_, φ1, env, S1, R1, E1, J1, P1⟩, ?_⟩
  rintro i m σ2 H2 ⟨φ2, env2, S2, R2, E2, J2, P2⟩
  cases m with
  | zero => exact False.elim P2
  | succ k =>
    unfold mLoop at P2
    split at P2
    · exact False.elim P2
    · rename_i hn
      exact .inl ⟨J2.stop R2 hn, P2 φ2 H2 σ2 (Up.refl _ _) R2 E2⟩
    · rename_i d hn
      obtain ⟨go, yl⟩ := J2.go R2 hn
      refine .inr ⟨go, fun σ' H' => ∃ φ env S, RS T φ S H' ∧ RE T φ H' env σ' ∧ ItR T φ H' di J ∧ PostS T W φ H' E (mLoop di bd mb k (i + 1) env S), fun σ' H' h => ⟨k, Nat.lt_succ_self k, h⟩, fun x H' hy => ?_⟩
      obtain ⟨U, R3, rx⟩ := yl x H' hy
      have E3 := E2.up R2 U
      have J3 := J2.up R2 U
      split at P2
      · exact False.elim P2
      · rename_i us hus
        refine ho R3 rx hus fun vs hv => ?_
        refine ⟨φ2, _, S2, R3, E3.ap hv, ?_⟩
        cases e : mb (apD env2 us) S2 with
        | nx env4 S4 =>
          rw [e] at P2
          exact fun φ' H'' σ' u R' E' => ⟨φ', env4, S4, R', E', J3.up R3 u, PostS.up (U.trans u) P2⟩
        | ct env4 S4 =>
          rw [e] at P2
          exact fun φ' H'' σ' u R' E' => ⟨φ', env4, S4, R', E', J3.up R3 u, PostS.up (U.trans u) P2⟩
        | bk env4 S4 =>
          rw [e] at P2
          exact fun φ' H'' σ' u R' E' => P2 φ' H'' σ' (U.trans u) R' E'
        | rt d S4 =>
          rw [e] at P2
          exact fun φ' H'' v u R' r' => P2 φ' H'' v (U.trans u) R' r'
        | err c d env4 S4 =>
          rw [e] at P2
          exact fun φ' H'' σ' dd v u R' E' r' x' => P2 φ' H'' σ' dd v (U.trans u) R' E' r' x'
        | bad =>
          rw [e] at P2
          exact P2
end
/-! ### comprehensions -/
def wipeD (env : EnvD) : List Nat → EnvD
  | [] => env
  | v :: vs => (wipeD env vs).set v none
def mTrue : Ex := fun _ S => .ok (.bl true) S
def mLcL (di : DI) (b : Bnd) (mt me : Ex) (env : EnvD) (a : Nat) : Nat → Nat → Hs → Res D
  | 0, _, _ => .bad
  | k + 1, i, S => match di.next i S with
    | none => .bad
    | some none => .ok (.ref a) S
    | some (some d) => match b d with
      | none => .bad
      | some us => match mt (apD env us) S with
        | .ok (.bl true) S3 => match me (apD env us) S3 with
          | .ok y S4 => match S4.get a with
            | some (.lst acc) => if acc.length < line then mLcL di b mt me env a k (i + 1) (S4.put a (.lst (acc ++ [y]))) else .bad
            | _ => .bad
          | _ => .bad
        | .ok (.bl false) S3 => mLcL di b mt me env a k (i + 1) S3
        | _ => .bad
def mLc (mi : ExI) (b : Bnd) (mt me : Ex) (vs : List Nat) : Ex := fun env S => (mi env S).bind fun di S1 => mLcL di b mt me (wipeD env vs) S1.n (di.size S1 + 1) 0 (S1.new (.lst []))
abbrev W0 : WX := fun _ _ _ _ => False
theorem wipe_in {σ : L2.St} {i : Nat} : ∀ {vs : List Nat}, i ∈ vs → i < σ.length → (wipe σ vs)[i]? = some none
  | v :: vs, h, hl => by
    unfold wipe
    by_cases e : v = i
    · subst e
      exact List.getElem?_set_self (by rw [wipe_length]; exact hl)
    · rw [List.getElem?_set_ne e]
      rcases List.mem_cons.mp h with h | h
      · exact absurd h.symm e
      · exact wipe_in h hl
/-- the slots of a target are among the block's own -/
def Bnd.In (b : Bnd) (vs : List Nat) : Prop := ∀ d us, b d = some us → ∀ p ∈ us, p.1 ∈ vs
theorem bName_in {i : Nat} {vs : List Nat} (h : i ∈ vs) : (bName i).In vs := fun d us e p hp => by
  cases e
  simp at hp
  rw [hp]
  exact h
theorem bTup_in {is vs : List Nat} (h : ∀ i ∈ is, i ∈ vs) : (bTup is).In vs := fun d us e p hp => by
  unfold bTup at e
  split at e
  · split at e
    · cases e
      exact h _ (List.of_mem_zip hp).1
    · cases e
  · cases e
theorem apV_length (σ : L2.St) : ∀ us : List (Nat × V), (apV σ us).length = σ.length := fun us => by
  induction us generalizing σ with
  | nil => rfl
  | cons p us ih =>
    show (apV (σ.set p.1 (some p.2)) us).length = _
    rw [ih, List.length_set]
theorem apV_out {i : Nat} : ∀ {us : List (Nat × V)} {σ : L2.St}, (∀ p ∈ us, p.1 ≠ i) → (apV σ us)[i]? = σ[i]?
  | [], σ, _ => rfl
  | p :: us, σ, h => by
    show (apV (σ.set p.1 (some p.2)) us)[i]? = _
    rw [apV_out fun q hq => h q (List.mem_cons_of_mem _ hq), List.getElem?_set_ne (h p List.mem_cons_self)]
theorem wipe_ap {σ : L2.St} {vs : List Nat} {us : List (Nat × V)} (h : ∀ p ∈ us, p.1 ∈ vs) : wipe (apV (wipe σ vs) us) vs = wipe σ vs := by
  apply List.ext_getElem?
  intro i
  by_cases hi : i ∈ vs
  · by_cases hl : i < σ.length
    · rw [wipe_in hi hl, wipe_in hi (by rw [apV_length, wipe_length]; exact hl)]
    · rw [List.getElem?_eq_none (by rw [wipe_length, apV_length, wipe_length]; omega), List.getElem?_eq_none (by rw [wipe_length]; omega)]
  · rw [wipe_out hi, apV_out fun p hp e => hi (by rw [← e]; exact h p hp)]
section
variable {T : Ct} {φ : List Addr} {S : Hs} {H : Hp}
theorem RE.wipe {env : EnvD} {σ : L2.St} (E : RE T φ H env σ) : ∀ vs : List Nat, RE T φ H (wipeD env vs) (L2.wipe σ vs)
  | [] => E
  | v :: vs => by
    have ih := E.wipe vs
    refine ⟨by unfold wipeD L2.wipe; rw [List.length_set, List.length_set]; exact ih.1, fun i d h => ?_⟩
    unfold wipeD at h
    by_cases e : v = i
    · subst e
      by_cases hl : v < (wipeD env vs).length
      · rw [List.getElem?_set_self hl] at h
        cases h
      · rw [List.getElem?_eq_none (by simpa using hl)] at h
        cases h
    · rw [List.getElem?_set_ne e] at h
      obtain ⟨u, h1, h2⟩ := ih.2 i d h
      exact ⟨u, by unfold L2.wipe; rw [List.getElem?_set_ne e]; exact h1, h2⟩
end
section
variable {X : Cx} {T : Ct} {W : WX} {pos : Pos}
theorem ts_nil {X : Cx} : PTs X [] (tT T W mTrue) := ⟨fun pins s σ H Q I ⟨φ, env, S, R, E, P⟩ => pts_nil.run pins s σ H Q I (by
  obtain ⟨b, e, q⟩ := P
  cases e
  exact q φ H (Up.refl _ _) R)⟩
theorem ts_one {X : Cx} {c : Expr} {m : Ex} (h : PT X c (tT T W m)) : PTs X [c] (tT T W m) := pts_one h
theorem lc_weak {mi : ExI} {g : TG} {bd : Bnd} {mt me : Ex} {vs : List Nat} (ho : TgOk T g bd) (hin : bd.In vs) {σ : L2.St} {H : Hp} {Q : VK} (h : tE T W (mLc mi bd mt me vs) σ H Q) : tLc (tI T W mi) g (tT T W0 mt) (tE T W0 me) vs σ H Q := by
  obtain ⟨φ, env, S, R, E, P⟩ := h
  refine ⟨φ, env, S, R, E, P.bind.mono (fun di S1 P1 φ1 H1 J u1 R1 J1 Dd hD => ?_) fun _ _ _ x => x⟩
  obtain ⟨R2, U2⟩ := R1.new (o := .lst []) (c := .lst []) hD fun φ' H' u z => .lst z .nil
  have hat : (φ1 ++ [Dd])[S1.n]? = some Dd := by
    rw [List.getElem?_append_right (by rw [R1.len]; exact Nat.le_refl _), R1.len]
    simp
  have ne : ∀ k i S', ∀ c d S'', mLcL di bd mt me (wipeD env vs) S1.n k i S' ≠ .err c d S'' := by
    intro k
    induction k with
    | zero => intro i S' c d S'' h; cases h
    | succ k ih =>
      intro i S' c d S'' h
      unfold mLcL at h
      repeat' (first | exact ih _ _ _ _ _ h | cases h | split at h)
  refine ⟨fun i m H => ∃ φ S, RS T φ S H ∧ RE T φ H env σ ∧ ItR T φ H di J ∧ φ[S1.n]? = some Dd ∧ Post (okE T φ H Q) (fun _ _ _ => False) (mLcL di bd mt me (wipeD env vs) S1.n m i S), ⟨_, _, _, R2, E.up R (u1.trans U2), J1.up R1 U2, hat, (P1.noEr (ne _ _ _)).upE (u1.trans U2)⟩, ?_⟩
  rintro i m H3 ⟨φ3, S3, R3, E3, J3, hat3, P3⟩
  cases m with
  | zero => exact False.elim P3
  | succ k =>
    unfold mLcL at P3
    split at P3
    · exact False.elim P3
    · rename_i hn
      exact .inl ⟨J3.stop R3 hn, P3.now R3 (.ref hat3)⟩
    · rename_i d hn
      obtain ⟨go, yl⟩ := J3.go R3 hn
      refine .inr ⟨go, fun H' => ∃ φ S, RS T φ S H' ∧ RE T φ H' env σ ∧ ItR T φ H' di J ∧ φ[S1.n]? = some Dd ∧ Post (okE T φ H' Q) (fun _ _ _ => False) (mLcL di bd mt me (wipeD env vs) S1.n k (i + 1) S), fun H' h => ⟨k, Nat.lt_succ_self k, h⟩, fun x H' hy => ?_⟩
      obtain ⟨U, R4, rx⟩ := yl x H' hy
      have E4 := E3.up R3 U
      have J4 := J3.up R3 U
      split at P3
      · exact False.elim P3
      · rename_i us hus
        refine ho R4 rx hus fun ws hw => ?_
        have hsl : ∀ p ∈ ws, p.1 ∈ vs := fun p hp => by
          have hm : p.1 ∈ us.map (·.1) := by
            rw [hw.1]
            exact List.mem_map_of_mem hp
          obtain ⟨q, hq, e⟩ := List.mem_map.mp hm
          rw [← e]
          exact hin d us hus q hq
        refine ⟨wipe_ap hsl, ?_⟩
        have E5 := (E4.wipe vs).ap hw
        refine ⟨φ3, _, S3, R4, E5, ?_⟩
        cases e : mt (apD (wipeD env vs) us) S3 with
        | ok t S5 =>
          rw [e] at P3
          cases t with
          | bl tb =>
            refine ⟨tb, rfl, fun φ5 H5 u5 R5 => ?_⟩
            cases tb with
            | true =>
              rw [if_pos rfl]
              have E6 := E5.up R4 u5
              refine ⟨φ5, _, S5, R5, E6, ?_⟩
              cases e2 : me (apD (wipeD env vs) us) S5 with
              | ok y S6 =>
                simp only [e2] at P3
                intro φ6 H6 v u6 R6 rv
                split at P3
                · rename_i acc hacc
                  split at P3
                  · rename_i hl
                    have hat6 := u6.at_ (u5.at_ hat3)
                    obtain ⟨vacc, q, r⟩ := R6.lst hat6 hacc
                    have r2 : RVs T φ6 H6 (acc ++ [y]) (vacc ++ [v]) := r.append (.cons rv .nil)
                    obtain ⟨R7, U7⟩ := R6.put (o := .lst (vacc ++ [v])) (c := .lst (acc ++ [y])) hacc hat6 (lst_nf q) fun φ' H' u z => .lst z (r2.up R6 u)
                    refine ⟨vacc, q, by rw [← r.1, ← line_eq]; exact hl, φ6, _, R7, (((E4.up R4 u5).up R5 u6).up R6 U7), ((J4.up R4 u5).up R5 u6).up R6 U7, U7.at_ hat6, ?_⟩
                    exact P3.upE (((U.trans u5).trans u6).trans U7)
                  · exact False.elim P3
                · exact False.elim P3
              | err c d S6 => simp only [e2] at P3; exact False.elim P3
              | bad => simp only [e2] at P3; exact False.elim P3
            | false =>
              rw [if_neg Bool.false_ne_true]
              exact ⟨φ5, S5, R5, E4.up R4 u5, J4.up R4 u5, u5.at_ hat3, P3.upE (U.trans u5)⟩
          | _ => exact False.elim P3
        | err c d S5 => rw [e] at P3; exact False.elim P3
        | bad => rw [e] at P3; exact False.elim P3
theorem r_lc {elt tg iter : Expr} {ifs : List Expr} {scope : Scope} {own : List (Str × Nat)} {mi : ExI} {g : TG} {bd : Bnd} {mt me : Ex} (hc : X.calm = true) (hN : X.N.Nodup) (ok : BlkOk X.N X.env.scope scope own) (hi : PI X tg iter (tI T W mi)) (ho : TgOk T g bd) (hin : bd.In (own.map (·.2)))
    (hg : ∀ (s : Shared) (H : Hp) (C : Addr) (cl : List (Str × Addr)) (fp : List Addr), PG (X.blk s H scope (compEnvC scope cl C X.env) fp) tg g) (ht : ∀ (s : Shared) (H : Hp) (C : Addr) (cl : List (Str × Addr)) (fp : List Addr), PTs (X.blk s H scope (compEnvC scope cl C X.env) fp) ifs (tT T W0 mt))
    (he : ∀ (s : Shared) (H : Hp) (C : Addr) (cl : List (Str × Addr)) (fp : List Addr), PE (X.blk s H scope (compEnvC scope cl C X.env) fp) elt (tE T W0 me)) (hs : ∀ x, foldedSetIterable iter X.env x = pure x := by intro _; rfl) :
    PE X (.ListComp elt [⟨tg, iter, ifs, 0⟩] scope pos) (tE T W (mLc mi bd mt me (own.map (·.2)))) := weakE (pe_lc hc hN hi ok hg ht he hs) fun σ H Q h => lc_weak ho hin h
theorem s_setLc (i : Nat) {y : Str} {py : Pos} {elt tg iter : Expr} {ifs : List Expr} {scope : Scope} {own : List (Str × Nat)} {spos : Pos} {mi : ExI} {g : TG} {bd : Bnd} {mt me : Ex} (hc : X.calm = true) (hN : X.N.Nodup) (ok : BlkOk X.N X.env.scope scope own) (hi : PI X tg iter (tI T W mi)) (ho : TgOk T g bd) (hin : bd.In (own.map (·.2)))
    (hg : ∀ (s : Shared) (H : Hp) (C : Addr) (cl : List (Str × Addr)) (fp : List Addr), PG (X.blk s H scope (compEnvC scope cl C X.env) fp) tg g) (ht : ∀ (s : Shared) (H : Hp) (C : Addr) (cl : List (Str × Addr)) (fp : List Addr), PTs (X.blk s H scope (compEnvC scope cl C X.env) fp) ifs (tT T W0 mt))
    (he : ∀ (s : Shared) (H : Hp) (C : Addr) (cl : List (Str × Addr)) (fp : List Addr), PE (X.blk s H scope (compEnvC scope cl C X.env) fp) elt (tE T W0 me))
    (hsw : swapsWith (.ListComp elt [⟨tg, iter, ifs, 0⟩] scope pos) (some (.Name y py)) spos.line X.env = pure true) (hy : X.N[i]? = some y := by rfl) (hyl : X.env.scope.names.lookup y = some .local := by rfl) (hs : ∀ x, foldedSetIterable iter X.env x = pure x := by intro _; rfl) :
    PS X (.Assign [.Name y py] (.ListComp elt [⟨tg, iter, ifs, 0⟩] scope pos) spos) (tS T W (mSet i (mLc mi bd mt me (own.map (·.2))))) := weakS (ps_setLc hc hN hy hyl hsw hi ok hg ht he hs) fun E σ H ⟨φ, env, S, R, Ev, P⟩ =>
  lc_weak ho hin (tE_st R Ev P fun d S1 φ1 H1 v u R1 r1 E1 P1 => P1 φ1 H1 _ (Up.refl _ _) R1 (E1.set r1 i))
end
end MR

/-! M7: own defs: what one promises, by its mirror; their calls. -/
namespace MR
open PySem PySem.Spec L2
open PyProof.Rows (envOfC)

abbrev Fn := List D → Hs → Res D
section
variable (T : Ct)
def erF (φ : List Addr) (H : Hp) (E : XK) : Str → D → Hs → Prop := fun c d S' => ∀ φ' H' dd v, Up φ H φ' H' → RS T φ' S' H' → RV T φ' H' d v → H' dd = some (.xd (fV v)) → E (.ref (T.ca c)) (some dd) H'
/-- a def does what F does -/
def spM (F : Fn) : Sp := fun vs H Q E => ∃ φ S ds, RS T φ S H ∧ RVs T φ H ds vs ∧ Post (okE T φ H Q) (erF T φ H E) (F ds S)
end
def startD (n : Nat) (ds : List D) : EnvD := ds.map some ++ List.replicate (n - ds.length) none
/-- a def's body run: p parameters, n names -/
def runB (p n : Nat) (body : SM) : Fn := fun ds S => if ds.length = p then (match body (startD n ds) S with
  | .nx _ S1 => .ok .non S1
  | .rt d S1 => .ok d S1
  | .err c d _ S1 => .err c d S1
  | _ => .bad) else .bad
theorem RE.start {T : Ct} {φ : List Addr} {H : Hp} {ds : List D} {vs : List V} (r : RVs T φ H ds vs) (N : List Str) : RE T φ H (startD N.length ds) (L2.start N vs) := by
  refine ⟨by simp [startD, L2.start, r.1], fun i d h => ?_⟩
  unfold startD at h
  unfold L2.start
  by_cases hi : i < ds.length
  · rw [List.getElem?_append_left (by simpa using hi), List.getElem?_map] at h
    cases e : ds[i]? with
    | none => rw [e] at h; cases h
    | some d' =>
      rw [e] at h
      cases h
      obtain ⟨v, hv, rv⟩ := r.get e
      exact ⟨v, by rw [List.getElem?_append_left (by rw [List.length_map, ← r.1]; exact hi), List.getElem?_map, hv]; rfl, .rv rv⟩
  · rw [List.getElem?_append_right (by simpa using hi), List.getElem?_replicate] at h
    split at h <;> cases h
abbrev WD (E : XK) : WX := fun cls d _ H => E cls d H
section
variable {P : Program} {w : World} {K : PySem.W.Frag} {mg : Str → Option Value} {base : Heap}
abbrev cxD (P : Program) (w : World) (K : PySem.W.Frag) (mg : Str → Option Value) (base : Heap) (N : List Str) (qual : Str) (scope : Scope) (f : Addr) (cdv : Value) (A : Around) (outer : List Env) (s : Shared) (H : Hp) (E : XK) : Cx := cxOf (L2.CX P w) P w K mg base N qual scope f cdv A outer s H E
/-- a def, its promise by its mirror -/
theorem fn_ok {x qual : Str} {params : Arguments} {st : List Stmt} {scope : Scope} {dvs : List V} {kws : List (Str × V)} {f : Addr} {fd : FuncData} {N ps : List Str} {k : Nat} (T : Ct) {body : SM} (F0 : FunD K x qual params st scope dvs kws f fd) (S : FnScope N ps scope)
    (hb : ∀ (cdv : Value) (A : Around) (outer : List Env) (s : Shared) (H : Hp) (E : XK), Room k (A.deeper (envOfC qual scope s.heap.objs.size f cdv)) →
      Takes (cxD P w K mg base N qual scope f cdv A outer s H E) (WD E) → PassesOwn (model P w) (cxD P w K mg base N qual scope f cdv A outer s H E).A (cxD P w K mg base N qual scope f cdv A outer s H E).env (cxD P w K mg base N qual scope f cdv A outer s H E).xe →
      PSs (cxD P w K mg base N qual scope f cdv A outer s H E) st (tS T (WD E) body)) :
    FnOk P w K mg base (L2.CX P w) (k + 1) f fd ps (spM T (runB ps.length N.length body)) := by
  refine F0.ok S (fun vs H Q E h => ?_) (fun cdv A outer s H vs Q E hr h => ?_)
  · obtain ⟨φ, S, ds, R, r, P0⟩ := h
    unfold runB at P0
    split at P0
    · rename_i hl
      rw [← r.1]
      exact hl
    · exact False.elim P0
  · refine ⟨_, hb cdv A outer s H E hr (takes_of rfl rfl rfl rfl) (passes_of rfl), ?_⟩
    obtain ⟨φ, S1, ds, R, r, P0⟩ := h
    refine ⟨φ, startD N.length ds, S1, R, RE.start r N, ?_⟩
    unfold runB at P0
    split at P0
    · cases e : body (startD N.length ds) S1 with
      | nx env S2 =>
        rw [e] at P0
        exact fun φ' H' σ' u R' E' => P0 φ' H' _ u R' .non
      | rt d S2 =>
        rw [e] at P0
        exact fun φ' H' v u R' r' => P0 φ' H' v u R' r'
      | err c d env S2 =>
        rw [e] at P0
        exact fun φ' H' σ' dd v u R' E' r' x' => P0 φ' H' dd v u R' r' x'
      | bk env S2 => rw [e] at P0; exact False.elim P0
      | ct env S2 => rw [e] at P0; exact False.elim P0
      | bad => rw [e] at P0; exact False.elim P0
    · exact False.elim P0
/-- a def that is ready to be called -/
structure Def (P : Program) (w : World) (K : PySem.W.Frag) (mg : Str → Option Value) (base : Heap) (T : Ct) (k : Nat) (x : Str) (f : Addr) (fd : FuncData) (ps : List Str) (F : Fn) : Prop where
  ok : FnOk P w K mg base (L2.CX P w) k f fd ps (spM T F)
  gl : mg x = some (.ref f)
  kp : PySem.W.keepIn K (.ref f) = true
end
/-! ### calls -/
def mOwn (F : Fn) (dD : List D) (ms : Exs) : Ex := fun env S => (ms env S).bind fun ds S1 => F (ds ++ dD) S1
/-- items by places -/
def pick {α : Type} (ix : List Nat) (l : List α) : List α := ix.filterMap (l[·]?)
def mOwnK (F : Fn) (ix : List Nat) (ms ks : Exs) : Ex := fun env S => (ms env S).bind fun ds S1 => (ks env S1).bind fun zs S2 => F (pick ix (ds ++ zs)) S2
theorem RVs.pick {T : Ct} {φ : List Addr} {H : Hp} {ds : List D} {vs : List V} (r : RVs T φ H ds vs) : ∀ ix : List Nat, RVs T φ H (MR.pick ix ds) (MR.pick ix vs)
  | [] => .nil
  | i :: ix => by
    have ih := r.pick ix
    unfold MR.pick at *
    cases e : ds[i]? with
    | none =>
      have e2 : vs[i]? = none := List.getElem?_eq_none_iff.mpr (by rw [← r.1]; exact List.getElem?_eq_none_iff.mp e)
      rw [List.filterMap_cons_none e, List.filterMap_cons_none e2]
      exact ih
    | some d =>
      obtain ⟨v, hv, rv⟩ := r.get e
      rw [List.filterMap_cons_some e, List.filterMap_cons_some hv]
      exact .cons rv ih
theorem Vals.pick {vs : List V} {us : List Value} (r : Vals vs us) : ∀ ix : List Nat, Vals (MR.pick ix vs) (MR.pick ix us)
  | [] => .nil
  | i :: ix => by
    have ih := Vals.pick r ix
    unfold MR.pick at *
    cases e : vs[i]? with
    | none =>
      have e2 : us[i]? = none := List.getElem?_eq_none_iff.mpr (by rw [← r.length]; exact List.getElem?_eq_none_iff.mp e)
      rw [List.filterMap_cons_none e, List.filterMap_cons_none e2]
      exact ih
    | some v =>
      obtain ⟨u, hu, ru⟩ := r.get e
      rw [List.filterMap_cons_some e, List.filterMap_cons_some hu]
      exact .cons ru ih
/-- the keywords' arguments -/
def tK (T : Ct) (W : WX) (m : Exs) : TA := tA T W m
section
variable {X : Cx} {T : Ct} {W : WX} {k : Nat} {f : Addr} {fd : FuncData} {ps ks : List Str} {F : Fn} {x : Str} {p pos : Pos} {e : Expr} {es : List Expr} {kws : List Keyword} {ms mk : Exs} {dvs : List V} {dsv : List Value} {dD : List D}
theorem own_weak {σ : L2.St} {H : Hp} {Q : VK} (hD : ∀ φ H, RVs T φ H dD dvs) (h : tE T W (mOwn F dD ms) σ H Q) : tCallSD (spM T F) dvs (WE W) (tA T W ms) σ H Q := by
  obtain ⟨φ, env, S, R, E, P⟩ := h
  exact tA_bind R E P fun ds S1 φ1 H1 vs u R1 r1 E1 P1 => ⟨φ1, S1, ds ++ dD, R1, r1.append (hD _ _), P1.mono (fun _ _ x => x.up u) fun _ _ _ x => x⟩
/-- f(e, ..), defaults filling up -/
theorem r_callD (G : Def X.prog X.w X.K X.mg X.base T k x f fd ps F) (hr : Room k X.A) (hb : Binds X.K fd ps dsv) (hd : Vals dvs dsv) (hD : ∀ φ H, RVs T φ H dD dvs) (tk : Takes X W) (ha : PA X (e :: es) (tA T W ms)) (hg : Gl X x := by rfl) (hdb : (x == ("__debug__" : Str)) = false := by decide)
    (he : starEach (e :: es) X.env = (false, eval e X.env) :: starEach es X.env := by rfl) (hpl : (backTo pos (starEach es X.env)).any (·.1) = false := by rfl) : PE X (.Call (.Name x p) (e :: es) [] pos) (tE T W (mOwn F dD ms)) :=
  weakE (pe_callSD G.ok hr hg G.gl G.kp hb hd (fun σ => passAt tk σ) ha hdb he hpl) fun _ _ _ h => own_weak hD h
/-- f(e, ..), every parameter written -/
theorem r_call (G : Def X.prog X.w X.K X.mg X.base T k x f fd ps F) (hr : Room k X.A) (hb : Binds X.K fd ps []) (tk : Takes X W) (ha : PA X (e :: es) (tA T W ms)) (hg : Gl X x := by rfl) (hdb : (x == ("__debug__" : Str)) = false := by decide)
    (he : starEach (e :: es) X.env = (false, eval e X.env) :: starEach es X.env := by rfl) (hpl : (backTo pos (starEach es X.env)).any (·.1) = false := by rfl) : PE X (.Call (.Name x p) (e :: es) [] pos) (tE T W (mOwn F [] ms)) :=
  r_callD G hr hb .nil (fun _ _ => .nil) tk ha hg hdb he hpl
/-- f() -/
theorem run_fnW {pins : List (Addr × Obj)} {σ : L2.St} {H : Hp} {s : Shared} {Q : VK} {us ws : List Value} {bs : List Value} {vs : List V} (G : Def X.prog X.w X.K X.mg X.base T k x f fd ps F) (hr : Room k X.A) (tk : Takes X W) (I : Inv X pins σ H s)
    (hb : BindsTo s fd ⟨us, ks.zip ws⟩ (ps.zip bs)) (r : Vals vs bs) (h : spM T F vs H Q (WE W σ)) : wpAny (model X.prog X.w) X.A (call (.ref f) us (ks.zip ws)) (EP X pins σ Q) X.xe s := by
  refine wpAny_call (codeAny_mono (G.ok.run X.A X.stack s H ⟨us, ks.zip ws⟩ bs vs Q (WE W σ) hr I.env0 hb r h) fun r s' hq => ?_)
  cases r with
  | error e => exact passAt tk σ pins H s e s' I hq
  | ok fl =>
    cases fl with
    | ret u => exact I.after hq
    | next => exact False.elim hq
    | brk => exact False.elim hq
    | cont => exact False.elim hq
theorem r_call0 (G : Def X.prog X.w X.K X.mg X.base T k x f fd [] F) (hr : Room k X.A) (hb : Binds X.K fd [] []) (tk : Takes X W) (hg : Gl X x := by rfl) (hdb : (x == ("__debug__" : Str)) = false := by decide) : PE X (.Call (.Name x p) [] [] pos) (tE T W (mOwn F [] mNil)) := by
  refine ⟨fun pins s σ H Q I ⟨φ, env, S, R, E, P⟩ => ?_⟩
  refine wpAny_Call_Name_kw (ld_glob I hg G.gl ?_ hdb)
  refine PySem.W.callWith_K0 I.kIn G.kp ?_
  exact run_fnW (ks := []) (ws := []) (us := []) (bs := []) (vs := []) G hr tk I (by simpa using hb s [] I.kIn rfl) .nil ⟨φ, S, [], R, .nil, P⟩
/-- what a call with keywords binds -/
structure KB (K : PySem.W.Frag) (fd : FuncData) (ps : List Str) (n : Nat) (ks : List Str) (ix : List Nat) : Prop where
  to : ∀ (s : Shared) (us ws : List Value), K.In s.heap → us.length = n → ws.length = ks.length → BindsTo s fd ⟨us, ks.zip ws⟩ (ps.zip (pick ix (us ++ ws)))
theorem PK_tA {kws : List Keyword} {t t' : TA} (h : PK X kws t) (w : ∀ σ H Q, t' σ H Q → t σ H Q) : PK X kws t' := ⟨fun pos pins s σ H Q I q => h.run pos pins s σ H Q I (w σ H Q q)⟩
theorem k_nil : PK X [] (tA T W mNil) := PK_tA pk_nil fun σ H Q ⟨φ, env, S, R, E, P⟩ => P φ H [] (Up.refl _ _) R .nil
theorem k_cons {nm : Option Str} {kpos : Pos} {m : Ex} (ha : PE X e (tE T W m)) (hr : PK X kws (tA T W mk)) : PK X (⟨nm, e, kpos⟩ :: kws) (tA T W (mCons m mk)) :=
  PK_tA (pk_cons ha hr) fun σ H Q ⟨φ, env, S, R, E, P⟩ => tE_bind R E P fun d S1 φ1 H1 v u1 R1 r1 E1 P1 => tA_bind R1 E1 P1 fun ds S2 φ2 H2 vs u2 R2 r2 E2 P2 => P2 φ2 H2 (v :: vs) (u1.trans u2) R2 (.cons (r1.up R1 u2) r2)
/-- the length of what is handed on -/
def lenIs (n : Nat) (ms : Exs) : Exs := fun env S => (ms env S).bind fun ds S1 => if ds.length = n then .ok ds S1 else .bad
theorem lenIs_tA {n : Nat} {σ : L2.St} {H : Hp} {Q : List V → Hp → Prop} (h : tA T W (lenIs n ms) σ H Q) : tA T W ms σ H fun vs H1 => vs.length = n ∧ Q vs H1 := by
  obtain ⟨φ, env, S, R, E, P⟩ := h
  exact tA_bind R E P fun ds S1 φ1 H1 vs u R1 r1 E1 P1 => by
    split at P1
    · rename_i hl
      exact ⟨by rw [← r1.1]; exact hl, P1 φ1 H1 vs u R1 r1⟩
    · exact False.elim P1
/-- f(k = v, ..) -/
theorem r_callK0 {ix : List Nat} (G : Def X.prog X.w X.K X.mg X.base T k x f fd ps F) (hr : Room k X.A) (hb : KB X.K fd ps 0 ks ix) (tk : Takes X W) (hkw : PK X kws (tA T W mk)) (hg : Gl X x := by rfl) (hall : (backToKw pos (keywordEach kws X.env)).all (·.1.isSome) = true := by rfl) (hks : (backToKw pos (keywordEach kws X.env)).filterMap (·.1) = ks := by rfl)
    (hdb : (x == ("__debug__" : Str)) = false := by decide)
    (hpl : ((backTo pos (starEach [] X.env)).any (·.1) || (backToKw pos (keywordEach kws X.env)).any (·.1.isNone)) = false := by rfl) :
    PE X (.Call (.Name x p) [] kws pos) (tE T W (mOwnK F ix mNil (lenIs ks.length mk))) := by
  refine ⟨fun pins s σ H Q I h => ?_⟩
  refine wpAny_Call_Name_kw (ld_glob I hg G.gl ?_ hdb)
  refine PySem.W.callWith_KW0 (h₀ := X.base) I.ok.mod.kin G.kp hall ?_ hpl
  obtain ⟨φ, env, S, R, E, P⟩ := h
  have P' : Post (okE T φ H Q) (erE T W φ H σ) ((lenIs ks.length mk env S).bind fun zs S2 => F (pick ix ([] ++ zs)) S2) := P
  have q : tA T W mk σ H fun vs H1 => vs.length = ks.length ∧ spM T F (pick ix vs) H1 Q (WE W σ) := lenIs_tA (tA_bind R E P' fun zs S1 φ1 H1 vs u R1 r1 E1 P1 => ⟨φ1, S1, pick ix zs, R1, r1.pick ix, P1.mono (fun _ _ x => x.up u) fun _ _ _ x => x⟩)
  refine thn (hkw.run pos pins s σ H _ I q) fun ws s2 ⟨zs, H2, I2, rz, l2, q2⟩ => ⟨I2.kIn, ?_⟩
  rw [hks]
  exact run_fnW (us := []) G hr tk I2 (hb.to s2 [] ws I2.kIn rfl (rz.length.symm.trans l2)) (Vals.pick (by simpa using rz) ix) (by simpa using q2)
/-- f(e, .., k = v, ..) -/
theorem r_callK {n : Nat} {ix : List Nat} (G : Def X.prog X.w X.K X.mg X.base T k x f fd ps F) (hr : Room k X.A) (hb : KB X.K fd ps n ks ix) (tk : Takes X W) (ha : PA X (e :: es) (tA T W ms)) (hkw : PK X kws (tA T W mk)) (hg : Gl X x := by rfl) (hall : (backToKw pos (keywordEach kws X.env)).all (·.1.isSome) = true := by rfl) (hks : (backToKw pos (keywordEach kws X.env)).filterMap (·.1) = ks := by rfl)
    (hdb : (x == ("__debug__" : Str)) = false := by decide) (he : starEach (e :: es) X.env = (false, eval e X.env) :: starEach es X.env := by rfl)
    (hpl : ((backTo pos (starEach (e :: es) X.env)).any (·.1) || (backToKw pos (keywordEach kws X.env)).any (·.1.isNone)) = false := by rfl) :
    PE X (.Call (.Name x p) (e :: es) kws pos) (tE T W (mOwnK F ix (lenIs n ms) (lenIs ks.length mk))) := by
  refine ⟨fun pins s σ H Q I h => ?_⟩
  refine wpAny_Call_Name_kw (ld_glob I hg G.gl ?_ hdb)
  obtain ⟨φ, env, S, R, E, P⟩ := h
  have q : tA T W ms σ H fun us H1 => us.length = n ∧ tA T W mk σ H1 fun vs H2 => vs.length = ks.length ∧ spM T F (pick ix (us ++ vs)) H2 Q (WE W σ) :=
    lenIs_tA (tA_bind R E P fun ds S1 φ1 H1 us u1 R1 r1 E1 P1 => lenIs_tA (tA_bind R1 E1 P1 fun zs S2 φ2 H2 vs u2 R2 r2 E2 P2 => ⟨φ2, S2, pick ix (ds ++ zs), R2, RVs.pick ((r1.up R1 u2).append r2) ix, P2.mono (fun _ _ x => x.up (u1.trans u2)) fun _ _ _ x => x⟩))
  refine PySem.W.callWith_KW (h₀ := X.base) I.ok.mod.kin G.kp hall (thn (ha.run pos pins s σ H _ I q) fun us s1 ⟨vs, H1, I1, r, l1, q1⟩ => ?_) hpl he
  refine thn (hkw.run pos pins s1 σ H1 _ I1 q1) fun ws s2 ⟨zs, H2, I2, rz, l2, q2⟩ => ⟨I2.kIn, ?_⟩
  rw [hks]
  exact run_fnW G hr tk I2 (hb.to s2 us ws I2.kIn (r.length.symm.trans l1) (rz.length.symm.trans l2)) (Vals.pick (r.append rz) ix) q2
end
end MR

/-! M8: an own error class over ValueError (by way of another own class) whose __init__ says super().__init__() and keeps one field. -/
namespace PySem
namespace ErX
open PySem.W PySem.Calls PyProof.Rows PySem.HandSPX

/-! ### the text of __init__ -/
def iA (p1 p2 p3 : Pos) : Arguments := { posonlyargs := [], args := [{ arg := "self", annotation := none, pos := p1 }, { arg := "value", annotation := none, pos := p2 }], vararg := none, kwonlyargs := [], kw_defaults := [], kwarg := none, defaults := [.Constant .none 0 p3] }
def iB (q1 q2 q3 q4 q5 r1 r2 r3 r4 : Pos) : List Stmt := [.Expr (.Call (.Attribute (.Call (.Name "super" q1) [] [] q2) "__init__" q3) [] [] q4) q5, .Assign [.Attribute (.Name "self" r1) "value" r2] (.Name "value" r3) r4]
def iS : Scope := { kind := .function, names := [(PySem.Str.ofString "self", .local), (PySem.Str.ofString "value", .local), (PySem.Str.ofString "__class__", .free), (PySem.Str.ofString "super", .globalImplicit)], isGenerator := false, isCoroutine := false, more := [] }
/-- what the written part says of such a class at C, its __init__ at fI -/
structure ErrTxt (prog : Program) (K : Frag) (mg : Str → Option Value) (x : Str) (C fI : Addr) : Prop where
  gC : mg x = some (.ref C)
  cls : ∃ nm q N bs bm sn sub ab col dd k0 k1 k2 k3 k5, K.lookup C = some (excClassObj nm q C N bs bm true sn sub ab col dd k0 k1 k2 k3 k5 "ValueError.__new__") ∧ refsVE bm = true ∧ alongIn K "__init__" (((Value.ref C :: bm).dropWhile (· != .ref C)).drop 1) = some (some (.builtin "ValueError.__init__"))
  sa : findIn K (.ref C) "__setattr__" = some (some (.builtin "object.__setattr__"))
  ga : findIn K (.ref C) "__getattribute__" = some (some (.builtin "BaseException.__getattribute__"))
  gg : findIn K (.ref C) "__getattr__" = some none
  noN : findIn K (.ref C) "value" = some none
  iC : findIn K (.ref C) "__init__" = some (some (.ref fI))
  tC : typeIn K (.ref fI) = some (.type "function")
  kC : keepIn K (.ref C) = true
  exC : subIn K (.ref C) (.type "BaseException") = some true
  veC : subIn K (.ref C) (.type "ValueError") = some true
  meC : mroIn K C (.ref C) = some true
  tyC : typeIn K (.ref C) = some (.type "type")
  hdC : hasDictIn K C = true
  te : exmOne K (.ref C) (.ref C) = some true
  opq : nsIn K cStatics "thirdparty.any" = some none
  sup : mg "super" = none
  htop : (prog.main.scope.names.lookup ("super" : Str)).isSome = false
  fn : ∃ (oc : Value) (od : Option Addr) (qual : Str) (DV : Addr) (doc pm : Value) (an : Option Addr) (cda cc : Addr) (ct kV : Value) (osl : Array (Option Value)) (p1 p2 p3 q1 q2 q3 q4 q5 r1 r2 r3 r4 : Pos),
    K.lookup fI = some ⟨oc, od, .func (ksFn "__init__" qual (iA p1 p2 p3) (iB q1 q2 q3 q4 q5 r1 r2 r3 r4) iS (.ref DV) kV doc pm an (.ref cda) ct cc), osl⟩ ∧ codeIn K (.ref cda) qual = true ∧
    (∃ (o : Obj) (n : Nat), K.lookup DV = some o ∧ o.data = .seq #[.none] n) ∧
    (∃ (cl : Value) (cld : Option Addr) (csl : Array (Option Value)), K.lookup cc = some ⟨cl, cld, .cell (some (.ref C)), csl⟩) ∧
    (∃ (ccl : Value) (cdd : Option Addr) (vs : Array Value) (ccs : Array (Option Value)) (file : Str) (tf : Tok), K.lookup cda = some ⟨ccl, cdd, .fields vs, ccs⟩ ∧ vs[2]? = some (.str file tf) ∧ ((prog.main.file : Str) == file) = true) ∧ (q3.endLine == q4.line) = true
structure InitEnd (h h' : Heap) (x C dx : Addr) (v : Value) : Prop where
  keep : ∀ b o, b ≠ x → h.get? b = some o → h'.get? b = some o
  obj : ∃ t1 : Addr, h'.get? x = some { cls := .ref C, dict := some dx, data := .fields #[.ref t1, .none, .none, .none, .bool false, .none] }
  dbig : h.objs.size ≤ dx
  dne : dx ≠ x
  ns : h'.Ns1 dx (fun y => if y = "value" then some v else none)
section
variable {prog : Program} {w : World} {A : Around} {E : Value → Shared → Prop} {h : Heap} {g : Array GenState} {d : Drawn} {t : Nat} {os : OsState}
variable {nm q : Str} {C N : Addr} {bs bm : List Value} {hdct : Bool} {sn : List Str} {sub : List Value} {ab : Bool} {col : Option Bool} {dd : Option Addr} {k0 k1 k2 k3 k5 : Option Value}
/-- ValueError.__init__, bound to e by the wrapper at u, is called: the arguments are laid anew in e -/
theorem call_mw {u e t0 : Addr} {more : List Value} {Q : Value → Shared → Prop} (cls : h.get? C = some (excClassObj nm q C N bs bm hdct sn sub ab col dd k0 k1 k2 k3 k5 "ValueError.__new__")) (err : h.get? e = some (excO C t0))
    (wrap : h.get? u = some (kxs_mw "ValueError.__init__" e)) (few : more.length ≤ sizeLine) (then_ : ∀ h' t1, (∀ b o, b ≠ e → h.get? b = some o → h'.get? b = some o) → h'.get? e = some (excO C t1) → Q .none ⟨h', g, d, t, os⟩) : wpAny (model prog w) A (call (.ref u) more) Q E ⟨h, g, d, t, os⟩ := by
  have isWrap : (Value.type "method-wrapper" == Value.type "method" || Value.type "method-wrapper" == Value.type "builtin_function_or_method" || Value.type "method-wrapper" == Value.type "method-wrapper") = true := by decide
  apply wpAny_call
  apply codeAny_of_tree
  show wpAny _ A.in1 (callAny (Value.ref u) { pos := more, kw := [] }) _ _ _
  simp only [callAny]
  refine wpAny_bind (wpAny_load wrap ?ran)
  simp only [kxs_mw, isWrap, if_true]
  refine W.KFB.if_so (by decide) (wpAny_bind (check_bound_init F.excBase_ValueError.toExcCallFacts cls err rfl (wpAny_bind (wpAny_pure (wpAny_pure ⟨Code.quiet_builtin _ (by decide +kernel), codeAny_builtin F.excBase_ValueError.initEntry ?laid⟩)))))
  rw [Around.under_plainId F.excBase_ValueError.init.plain _]
  wp_walk
  refine then_ _ h.objs.size (fun b o ne at_ => (Heap.get?_update_other _ _ ne.symm).trans (Heap.get?_push_of_some _ at_)) ?same
  exact (Heap.get?_update_self _ (Heap.get?_push_of_some _ err) rfl).trans rfl
end
section
variable {M : Model} {A : Around} {c : Code} {E : Value → Shared → Prop} {s : Shared} {env : Env}
theorem wpAt_MC0 {o : Expr} {name : Str} {apos pos : Pos} {Q : Value → Shared → Prop} (hline : (apos.endLine == pos.line) = true)
    (h : _root_.PySem.wpAt M A c (attributeBase o name env (eval o env)) (fun ov s₁ => wpAny M A (calleeOf true o env ov name) (fun fx s₂ => wpAny M A (callWith pos fx.1 fx.2 [] []) Q E s₂) E s₁) E s) :
    _root_.PySem.wpAt M A c (eval (.Call (.Attribute o name apos) [] [] pos) env) Q E s := by
  rw [arm_eval_Call]
  refine wpAt_bind (wpAt_mono h (fun ov s₁ h₁ => wpAt_of_wpAny (wpAny_bind (wpAny_standAt ?_))) fun _ _ x => x)
  have here_ : methodCallPos true o env apos pos = pure pos := by
    simp [methodCallPos, hline]
  show wpAny _ _ (methodCall o name apos pos env ov 0 [] []) _ _ _
  unfold methodCall
  show wpAny _ _ (holding [ov] (calleeOf true o env ov name) >>= fun fx => methodCallPos true o env apos pos >>= fun p => callWith p fx.1 fx.2 [] []) _ _ _
  exact wpAny_bind (wpAny_holding (wpAny_mono h₁ (fun fx s₂ h₂ => wpAny_bind (wpAny_of_eq here_ h₂)) fun _ _ x => x))
end
section
variable {prog : Program} {w : World} {A : Around} {E : Value → Shared → Prop} {R : Result → Shared → Prop} {s : Shared} {K : Frag} {mg mb : Str → Option Value} {x : Str} {C fI : Addr}
/-- how such an __init__ binds what it is handed -/
def Bnds (K : Frag) (s : Shared) (ar : Args) (bd : List (Str × Value)) : Prop := ∀ (qual : Str) (DV : Addr) (kV doc pm : Value) (an : Option Addr) (cda cc : Addr) (ct : Value) (p1 p2 p3 q1 q2 q3 q4 q5 r1 r2 r3 r4 : Pos) (o : Obj) (n : Nat),
  K.lookup DV = some o → o.data = .seq #[.none] n → BindsTo s (ksFn "__init__" qual (iA p1 p2 p3) (iB q1 q2 q3 q4 q5 r1 r2 r3 r4) iS (.ref DV) kV doc pm an (.ref cda) ct cc) ar bd
theorem err_initA (T : ErrTxt prog K mg x C fI) {e t0 : Addr} {v : Value} {ar : Args} (hbd : Bnds K s ar [("self", .ref e), ("value", v)]) (X : K.In s.heap) (G : s.heap.Ns mainGlobals mg) (B : s.heap.Ns builtinsNs mb) (hB : mb "super" = some (.type "super")) (hlim : s.heap.NoLimit) (hx : s.heap.get? e = some (excO C t0)) (hnx : K.lookup e = none) (hroom : A.depth < recursionLimit)
    (hq : ∀ h' tk dx, InitEnd s.heap h' e C dx v → R (.ok (.ret .none)) { s with heap := h', toks := tk }) :
    codeAny (model prog w) A (.call (.ref fI) ar) R s := by
  obtain ⟨oc, od, qual, DV, doc, pm, an, cda, cc, ct, kV, osl, p1, p2, p3, q1, q2, q3, q4, q5, r1, r2, r3, r4, ho, hcd, ⟨oD, nD, lD, dD⟩, ⟨cl, cld, csl, hcell⟩, ⟨ccl, cdd, cvs, ccs, file, tf, hcode, hvs, hfile⟩, hline⟩ := T.fn
  obtain ⟨nm, q, N, bs, bm, sn, sub, ab, col, dd, k0, k1, k2, k3, k5, hC, hbm, hal⟩ := T.cls
  have hcl : clsIn K C = some { name := nm, bases := bs, mro := .ref C :: bm, ns := N, qualname := q, hasDict := true, slotNames := sn, subclasses := sub, abstract := ab, collection := col, hasDel := false } := by unfold clsIn; rw [hC] <;> rfl
  refine ks_codeAny_call_defAt (fd := ksFn "__init__" qual (iA p1 p2 p3) (iB q1 q2 q3 q4 q5 r1 r2 r3 r4) iS (.ref DV) kV doc pm an (.ref cda) ct cc) (body := iB q1 q2 q3 q4 q5 r1 r2 r3 r4) (binds := [("self", .ref e), ("value", v)]) hroom (X _ _ ho) rfl hlim (codeRec_of X hcd) rfl
    (hbd _ _ _ _ _ _ _ _ _ _ _ _ _ _ _ _ _ _ _ _ _ _ _ lD dD) (show ∀ x ∈ iS.names, x.2 ≠ .cell from by decide +kernel) (locs rfl) (fun h₀ hns k => ?_) rfl rfl rfl
  have X₀ : K.In h₀ := X.keeps k
  have hx₀ := k _ _ hx
  have hC₀ := X₀ _ _ hC
  have eL : e ≠ s.heap.objs.size := Nat.ne_of_lt (Heap.lt_size hx)
  have IX : PySem.W.InstAt h₀ e (excO C t0) C none := ⟨hx₀, rfl, rfl, trivial⟩
  -- super().__init__()
  show _root_.PySem.wpAt _ _ _ (execs (_ :: _) _) _ _ _
  refine ks_wpAt_execs_cons (ks_wpAt_Expr_any (wpAt_MC0 hline ?_))
  refine ks_wpAt_super_base (ar := { arg := "self", annotation := none, pos := p1 }) rfl rfl (by decide +kernel) rfl (X₀ _ _ ho) rfl rfl rfl (X₀ _ _ hcode) rfl hvs hfile T.htop ?_
  refine ks_loadName_global rfl rfl (loadGlobal_builtin (G.keeps k) T.sup (B.keeps k) hB ⟨rfl, ?_⟩)
  refine wpAny_loadName_free rfl rfl rfl ⟨_, X₀ _ _ hcell, rfl⟩ ?_
  refine wpAny_loadName_local rfl rfl hns (v := .ref e) (by first | rfl | kernel_rfl) ?_
  refine ks_wpAny_isType_cls hC₀ rfl ⟨rfl, ?_⟩
  refine ks_wpAny_call_super hC₀ rfl hx₀ rfl (fun c z => by cases z) (looks_mroIn X₀ T.meC) (fun h1 e1 k1 => ?_)
  have X1 : K.In h1 := X₀.keeps k1
  have hx1 := k1 _ _ hx₀
  have I1 : PySem.W.InstAt h1 e (excO C t0) C none := ⟨hx1, rfl, rfl, trivial⟩
  have eL1 : e ≠ h₀.objs.size := Nat.ne_of_lt (Heap.lt_size hx₀)
  refine wpAny_mono (Q := fun fx s' => fx = (.ref h1.objs.size, []) ∧ ∃ tk, s' = { s with heap := h1.push (kxs_mw "ValueError.__init__" e), toks := tk }) (E := fun _ _ => False) (kxs_getMethod kxs_ValueError e1 (looks_opaque X1 T.opq) (fun A Q E s k q => wpAny_bind ((looks_clsIn X1 hcl) A _ E s k (wpAny_pure q))) rfl X1 hal (I1.type.andThen (looks_subIn X1 T.veC)) (ks_ne X1 I1 hcl) (by decide) ⟨rfl, _, rfl⟩) (fun fx s' hh => ?_) fun _ _ z => z.elim
  obtain ⟨rfl, tk2, rfl⟩ := hh
  have k2 : ∀ b o, h1.get? b = some o → (h1.push (kxs_mw "ValueError.__init__" e)).get? b = some o := fun b o q => Heap.get?_push_of_some _ q
  refine kxs_callWith (i := "ValueError.__init__") (x := e) rfl (evalArgs_empty ⟨(Heap.get?_push_at rfl rfl : (h1.push (kxs_mw "ValueError.__init__" e)).get? h1.objs.size = some _), ?_⟩)
  refine call_mw (k2 _ _ (X1 _ _ hC)) (k2 _ _ hx1) (Heap.get?_push_at rfl rfl) (by rw [sizeLine_eq]; exact Nat.zero_le _) (fun h2 t1 k3 hx2 => ?_)
  have kk : ∀ b o, b ≠ e → h₀.get? b = some o → h2.get? b = some o := fun b o hb z => k3 b o hb (k2 b o (k1 b o z))
  have X2 : K.In h2 := fun a o z => kk a o (fun q => by rw [q, hnx] at z; cases z) (X₀ _ _ z)
  have hns2 := hns.at (fun o q => kk _ o (Ne.symm eL) q)
  refine wpAt_of_wpAny ?_
  show wpAny _ _ (execs (_ :: _) _) _ _ _
  refine wpAny_execs_cons (plainObj_wpAny_Assign_Attribute ?_)
  refine wpAny_Name (wpAny_loadName_local rfl rfl hns2 (v := v) (by first | rfl | kernel_rfl) ?_) (by decide)
  refine wpAny_Name (wpAny_loadName_local rfl rfl hns2 (v := .ref e) (by first | rfl | kernel_rfl) ?_) (by decide)
  refine set_plain X2 (ox := excO C t1) (od := none) ⟨hx2, rfl, rfl, trivial⟩ T.sa ?_
  refine exc_osa X2 hx2 hcl (show refsVE (.ref C :: bm) = true from hbm) rfl T.noN (fun h₃ tk₃ dx k₃ dn dne hx₃ hn₃ => ?_)
  show wpAny _ _ (execs _ _) _ _ _
  have z : s.heap.objs.size ≤ h2.objs.size := Nat.le_of_lt hns2.lt
  exact wpAny_execs_nil (hq h₃ tk₃ dx ⟨fun b o hb q => k₃ b o hb (kk b o hb (k b o q)), ⟨t1, hx₃⟩, Nat.le_trans z dn, dne, hn₃⟩)
theorem err_init (T : ErrTxt prog K mg x C fI) {e t0 : Addr} {v : Value} (X : K.In s.heap) (G : s.heap.Ns mainGlobals mg) (B : s.heap.Ns builtinsNs mb) (hB : mb "super" = some (.type "super")) (hlim : s.heap.NoLimit) (hx : s.heap.get? e = some (excO C t0)) (hnx : K.lookup e = none) (hroom : A.depth < recursionLimit)
    (hq : ∀ h' tk dx, InitEnd s.heap h' e C dx v → R (.ok (.ret .none)) { s with heap := h', toks := tk }) :
    codeAny (model prog w) A (.call (.ref fI) ⟨[.ref e, v], []⟩) R s :=
  err_initA T (fun _ _ _ _ _ _ _ _ _ _ _ _ _ _ _ _ _ _ _ _ _ _ _ l d => binds_K (items := #[.none]) (k := fun its => _) X rfl l d rfl rfl) X G B hB hlim hx hnx hroom hq
theorem bnds_kw {e : Addr} {v : Value} (X : K.In s.heap) : Bnds K s ⟨[.ref e], [("value", v)]⟩ [("self", .ref e), ("value", v)] :=
  fun _ _ _ _ _ _ _ _ _ _ _ _ _ _ _ _ _ _ _ _ _ _ _ l d => binds_K (items := #[.none]) (k := fun its => _) X rfl l d rfl rfl
theorem bnds_no {e : Addr} (X : K.In s.heap) : Bnds K s ⟨[.ref e], []⟩ [("self", .ref e), ("value", .none)] :=
  fun _ _ _ _ _ _ _ _ _ _ _ _ _ _ _ _ _ _ _ _ _ _ _ l d => binds_K (items := #[.none]) (k := fun its => _) X rfl l d rfl rfl
theorem bnds_at {e : Addr} {v : Value} (X : K.In s.heap) : Bnds K s ⟨[.ref e, v], []⟩ [("self", .ref e), ("value", v)] :=
  fun _ _ _ _ _ _ _ _ _ _ _ _ _ _ _ _ _ _ _ _ _ _ _ l d => binds_K (items := #[.none]) (k := fun its => _) X rfl l d rfl rfl
end
end ErX
end PySem

/-! M9: own errors: made, raised, caught by a name, asked. -/
namespace PySem
namespace ErX
open PySem.W PySem.Calls PyProof.Rows PySem.HandSPX
theorem one_size (v : Value) : [v].length ≤ sizeLine := by
  rw [sizeLine_eq]
  exact (by decide : 1 ≤ 16777216)
/-- a made error -/
structure OwnMade (h h' : Heap) (e C d : Addr) (v : Value) : Prop where
  keep : ∀ b o, h.get? b = some o → h'.get? b = some o
  new : h.objs.size ≤ e
  obj : ∃ oe vs, h'.get? e = some oe ∧ oe.cls = .ref C ∧ oe.dict = some d ∧ oe.data = .fields vs ∧ vs[1]? = some .none
  dbig : h.objs.size ≤ d
  dne : d ≠ e
  ns : h'.Ns1 d (fun y => if y = "value" then some v else none)
section
variable {prog : Program} {w : World} {A : Around} {R : Result → Shared → Prop} {s : Shared} {K : Frag} {mg mb : Str → Option Value} {x : Str} {C fI : Addr}
theorem err_made (T : ErrTxt prog K mg x C fI) {v : Value} (X : K.In s.heap) (G : s.heap.Ns mainGlobals mg) (B : s.heap.Ns builtinsNs mb) (hB : mb "super" = some (.type "super")) (hlim : s.heap.NoLimit) (hroom : A.depth + 1 < recursionLimit)
    (hq : ∀ h' tk e d, OwnMade s.heap h' e C d v → R (.ok (.ret (.ref e))) { s with heap := h', toks := tk }) :
    codeAny (model prog w) A (.call (.ref C) ⟨[v], []⟩) R s := by
  obtain ⟨nm, q, N, bs, bm, sn, sub, ab, col, dd, k0, k1, k2, k3, k5, hC, hbm, hal⟩ := T.cls
  obtain ⟨hp, g, dr, tk, os⟩ := s
  have k : ∀ b o, hp.get? b = some o → ((hp.push (kdv_tup [v])).push (excO C hp.objs.size)).get? b = some o := fun b o e => Heap.get?_push_of_some _ (Heap.get?_push_of_some _ e)
  have hget : ((hp.push (kdv_tup [v])).push (excO C hp.objs.size)).get? (hp.objs.size + 1) = some (excO C hp.objs.size) := by heap_get
  have hnx : K.lookup (hp.objs.size + 1) = none := by
    cases e : K.lookup (hp.objs.size + 1) with
    | none => rfl
    | some o =>
      have z : hp.get? (hp.objs.size + 1) = some o := X _ _ e
      exact absurd (Nat.lt_of_succ_lt (Heap.lt_size z)) (Nat.lt_irrefl _)
  refine call_own F.excBase_ValueError (fun X => refsVE_contains X bm hbm) (X _ _ hC) (looks_findIn X T.iC) (fun self => bind_fn X self T.tC) (one_size v) ?_
  refine err_init (s := ⟨(hp.push (kdv_tup [v])).push (excO C hp.objs.size), g, dr, tk, os⟩) T (X.keeps k) (G.keeps k) (B.keeps k) hB (hlim.keeps k) hget hnx ?_ fun h' tk' dx IE => ?_
  · show A.depth + 1 < recursionLimit
    exact hroom
  · obtain ⟨k', ⟨t1, hx⟩, dn, dne, hns⟩ := IE
    have old : ∀ b o, hp.get? b = some o → h'.get? b = some o := fun b o e => k' b o (Nat.ne_of_lt (Nat.lt_succ_of_lt (Heap.lt_size e))) (k b o e)
    have z : hp.objs.size + 1 + 1 ≤ dx := by
      first
        | (simpa only [Heap.size_push] using dn)
        | exact dn
        | (have q := dn; rw [Heap.size_push, Heap.size_push] at q; exact q)
    exact ⟨rfl, hq h' tk' (hp.objs.size + 1) dx ⟨old, Nat.le_succ _, ⟨_, _, hx, rfl, rfl, rfl, rfl⟩, Nat.le_trans (Nat.le_trans (Nat.le_succ _) (Nat.le_succ _)) z, dne, hns⟩⟩
end
end ErX
end PySem
namespace MR
open PySem PySem.Spec L2 PyProof.Rows
theorem relO_fV {v : V} {v' : Value} (r : RelV v v') (f : Str) : RelO (List.lookup f (fV v)) (if f = "value" then some v' else none) := by
  unfold fV
  by_cases hw : f = "value"
  · subst hw
    rw [if_pos rfl]
    have q : List.lookup ("value" : Str) [(("value" : Str), v)] = some v := by simp [List.lookup]
    rw [q]
    exact r
  · rw [if_neg hw]
    have qw : (f == ("value" : Str)) = false := by simpa using hw
    have q2 : List.lookup f [(("value" : Str), v)] = none := by simp [List.lookup, qw]
    rw [q2]
    trivial
section
variable {X : Cx} {C fI : Addr} {x : Str}
/-- x(e) -/
def tMk (C : Addr) (ta : TA) : L2.St → Hp → XK → Prop := fun σ H Q => ta σ H fun vs H1 => ∃ v, vs = [v] ∧ ∀ d, H1 d = none → Q (.ref C) (some d) (upd H1 d (.xd (fV v)))
theorem pmk_err {a : Expr} {ta : TA} {p pos : Pos} {k : Nat} (T : PySem.ErX.ErrTxt X.prog X.K X.mg x C fI) (hr : Room k X.A) (ha : PA X [a] ta) (hg : Gl X x := by rfl) (hdb : (x == ("__debug__" : Str)) = false := by decide)
    (he : starEach (a :: []) X.env = (false, eval a X.env) :: starEach [] X.env := by rfl) (hpl : (backTo pos (starEach [] X.env)).any (·.1) = false := by rfl) :
    PMk X (.Call (.Name x p) [a] [] pos) (tMk C ta) := by
  intro pins s σ H Q I h
  refine wpAny_Call_Name_kw (ld_glob I hg T.gC ?_ hdb)
  refine PySem.W.callWith_K (h₀ := X.base) I.ok.mod.kin T.kC (thn (ha.run pos pins s σ H _ I h) fun us s1 hh => ?_) he hpl
  obtain ⟨vs, H1, I1, r1, v, ev, q1⟩ := hh
  subst ev
  refine ⟨I1.kIn, ?_⟩
  cases r1 with
  | cons rv rn =>
    rename_i v' us'
    cases rn
    show wpAny _ _ (call (.ref C) [v']) _ _ _
    have hlim := I1.nolimit
    obtain ⟨mb, b1, b2⟩ := I1.mod.blt
    have gG : s1.heap.Ns mainGlobals X.mg := I1.mod.glob.keeps I1.bk
    have gB : s1.heap.Ns builtinsNs mb := b1.keeps I1.bk
    have gS : mb "super" = some (.type "super") := (b2 "super" (by decide)).trans (by decide +kernel)
    obtain ⟨hp, g, dr, tk, os⟩ := s1
    refine wpAny_call (PySem.ErX.err_made T I1.kIn gG gB gS hlim (by have := hr.dp; omega) fun h' tk' e d M => ?_)
    show MkP X pins σ Q (.ref e) ⟨h', g, dr, tk', os⟩
    obtain ⟨oe, fv, hoe, hc, hd, hdat, h1⟩ := M.obj
    have hns := M.ns
    obtain ⟨G', g1, g2⟩ := restrict h' fun b => decide (b ≠ e)
    have gk : ∀ b, b ≠ e → G'.get? b = h'.get? b := fun b hb => g1 b (decide_eq_true hb)
    have ge : G'.get? e = none := g2 e (by simp)
    have old : ∀ b o, hp.get? b = some o → G'.get? b = some o := fun b o q => (gk b (Nat.ne_of_lt (Nat.lt_of_lt_of_le (Heap.lt_size q) M.new))).trans (M.keep b o q)
    have ob : ObjOk X.prog X.w (upd H1 d (.xd (fV v))) G' d (.xd (fV v)) :=
      ⟨_, hns.at (fun o q => (gk d M.dne).trans q), fun f => relO_fV rv f⟩
    have J : Inv X pins σ (upd H1 d (.xd (fV v))) ⟨G', g, dr, tk', os⟩ := I1.laid (t' := tk') old M.dbig ob
    refine ⟨e, oe, fv, ⟨G', g, dr, tk', os⟩, _, .ref C, some d, rfl, J, fun b o q => ?_, ge, hoe, ⟨hc, hd⟩, hdat, h1, ?_, rfl, I1.bare, raises_own T.exC T.tyC, q1 d (I1.hok.fresh M.dbig)⟩
    · by_cases hb : b = e
      · have q' : G'.get? b = some o := q
        rw [hb, ge] at q'; cases q'
      · exact (gk b hb).symm.trans q
    · rw [upd_ne (Ne.symm M.dne)]
      exact I1.hok.fresh M.new
/-- raise x(e) -/
def mRaise (c : Str) (m : Ex) : SM := fun env S => (m env S).toS env fun d S1 => .err c d env S1
theorem s_raise {T : Ct} {W : WX} {a : Expr} {m : Ex} {p pos pos2 : Pos} {k : Nat} (hc : X.calm = true) (G : PySem.ErX.ErrTxt X.prog X.K X.mg x C fI) (hca : T.ca x = C) (hr : Room k X.A) (tk : Takes X W) (ha : PE X a (tE T W m)) (hg : Gl X x := by rfl) (hdb : (x == ("__debug__" : Str)) = false := by decide)
    (he : starEach (a :: []) X.env = (false, eval a X.env) :: starEach [] X.env := by rfl) (hpl : (backTo pos (starEach [] X.env)).any (·.1) = false := by rfl) :
    PS X (.Raise (some (.Call (.Name x p) [a] [] pos)) none pos2) (tS T W (mRaise x m)) := weakS (ps_raise hc tk (pmk_err G hr (pa_cons ha pa_nil he) hg hdb he hpl)) fun E σ H ⟨φ, env, S, R, Ev, P⟩ => by
  refine tE_st R Ev P fun d S1 φ1 H1 v u R1 r1 E1 P1 => ?_
  refine ⟨v, rfl, fun dd hn => ?_⟩
  obtain ⟨R2, u2⟩ := R1.laid (o := .xd (fV v)) hn
  rw [← hca]
  exact P1 φ1 _ σ dd v u2 R2 (E1.up R1 u2) (r1.up R1 u2) upd_same
end
end MR

/-! M10: try .. except X as e; what the suites ask of e. -/
namespace MR
open PySem PySem.Spec L2 PyProof.Rows
/-! ### several clauses, each with a name -/
def wAsMany (K : PySem.W.Frag) (Wout : WX) (D : Ends) : List (Value × Nat × (Addr → Value → Option Addr → TS)) → WX
  | [] => Wout
  | (c, i, ts) :: r => fun cls d σ H => ∃ b, PySem.W.exmOne K cls c = some b ∧
    (b = true → ∀ a, H a = none → ts a cls d { nx := fun σ' H' => D.nx (σ'.set i none) H', rt := D.rt, bk := fun σ' H' => D.bk (σ'.set i none) H', ct := fun σ' H' => D.ct (σ'.set i none) H' } (σ.set i (some (.ref a))) H) ∧ (b = false → wAsMany K Wout D r cls d σ H)
inductive HdsA (X : Cx) : List ExceptHandler → List (Value × Nat × (Addr → Value → Option Addr → TS)) → Prop
  | nil : HdsA X [] []
  | cons {x n : Str} {c : Value} {i : Nat} {ts : Addr → Value → Option Addr → TS} {b₀ : Stmt} {suite : List Stmt} {np pos' : Pos} {hds : List ExceptHandler} {l : List (Value × Nat × (Addr → Value → Option Addr → TS))} (hc : Names X x c) (hi : X.N[i]? = some n) (hln : X.env.kindOf n = some .local)
      (hsu : ∀ (a : Addr) (oe : Obj) (cls : Value) (d : Option Addr) (pn : List (Addr × Obj)), Zc cls d oe → (∃ vs, oe.data = .fields vs) → PSs (X.suite a ((a, oe) :: pn)) (b₀ :: suite) (ts a cls d)) (r : HdsA X hds l) :
      HdsA X (.ExceptHandler (some (.Name x np)) (some n) (b₀ :: suite) pos' :: hds) ((c, i, ts) :: l)
section
variable {X : Cx} {Wout : WX} {D : Ends} {ps0 : List (Addr × Obj)}
/-- an error e that was caught in the frame of X: all that the clauses may lean on (B: the ground; t0: the state without it; t1: as it lies now) -/
structure Caught (X : Cx) (ps0 : List (Addr × Obj)) (st : L2.St) (hp : Hp) (kl : Value) (dc : Option Addr) (e : Addr) (B : Heap) (t0 t1 : Shared) : Prop where
  inv : Inv X ps0 st hp t0
  kept : ∀ b o, t0.heap.get? b = some o → b ∉ frs X.stack → B.get? b = some o
  slots : t0.heap.UpToSlots t1.heap
  fly : HandSPX.FlyingZ B X.stack e (Zc kl dc) t1.heap
  none_ : hp e = none
  os : t1.os = t0.os
  bare : AllBare t1.gens
section
variable {st : L2.St} {hp : Hp} {kl : Value} {dc : Option Addr} {e : Addr} {B : Heap} {t0 t1 : Shared}
theorem Caught.now (c : Caught X ps0 st hp kl dc e B t0 t1) : Inv X ps0 st hp t1 := c.inv.landed c.kept c.fly.1 c.slots c.os c.bare
/-- e is no frame's namespace -/
theorem Caught.apart (c : Caught X ps0 st hp kl dc e B t0 t1) : e ∉ frs X.stack := fun inFrame => by
  have ⟨oe, vs, atE, _, isF⟩ := c.fly.there
  have ⟨_, o2, at2, noF⟩ := c.fly.2.2.1.mem inFrame
  rw [atE] at at2
  injection at2 with same
  exact noF vs (same ▸ isF)
theorem Caught.off (c : Caught X ps0 st hp kl dc e B t0 t1) (hs : X.stack = X.env :: X.outer) (hf : X.env.frame = some X.env.locals) : e ≠ X.env.locals ∧ e ∉ X.fs := by
  have out := c.apart
  rw [hs] at out
  constructor
  · intro same
    exact out (by unfold frs; rw [List.filterMap_cons_some hf]; exact same ▸ List.mem_cons_self)
  · intro inOuter
    refine out ?_
    unfold frs
    rw [List.filterMap_cons_some hf]
    exact List.mem_cons_of_mem _ inOuter
/-- the same error behind another landing -/
theorem Caught.again (c : Caught X ps0 st hp kl dc e B t0 t1) {g : Heap} (fl : HandSPX.FlyingZ B X.stack e (Zc kl dc) g) (up : t1.heap.UpToSlots g) : Caught X ps0 st hp kl dc e B t0 { t1 with heap := g } :=
  ⟨c.inv, c.kept, c.slots.trans up, fl, c.none_, c.os, c.bare⟩
/-- no clause takes it: it goes on -/
theorem Caught.pass (c : Caught X ps0 st hp kl dc e B t0 t1) (hf : X.env.frame = some X.env.locals) (tk : Takes X Wout) (w : Wout kl dc st hp) : wpAny (model X.prog X.w) X.A (handleBy (.ref e) X.env []) (SP X ps0 D) X.xe t1 := by
  apply wpAny_handleBy_nil
  have ⟨_, _, _, _, _, tb, _, _, atE, _, isF, one, _⟩ := c.fly
  have out : wpAny (model X.prog X.w) X.A (setFlight (.ref e) X.env.frame) (fun _ t2 => wpAny (model X.prog X.w) X.A (throw (.ref e) : Sem Flow) (SP X ps0 D) X.xe t2) X.xe t1 := by
    rw [hf]
    exact HandSPX.setFlight_upZ c.fly fun g held up => wpAny_throw (tk _ _ ⟨e, B, t0, ps0, st, hp, kl, dc, rfl, c.inv, c.kept, c.slots.trans up, .inr (.inr held), c.none_, c.os, c.bare, w⟩)
  unfold PySem.passOn
  apply wpAny_bind
  apply wpAny_field atE isF one
  have ne : ¬ ((Value.ref tb == Value.none) = true) := by simp
  rw [if_neg ne]
  first
    | exact wpAny_bind (wpAny_pure (wpAny_bind out))
    | exact wpAny_bind out
/-- the clauses, from the first on -/
theorem Caught.clauses (hs : X.stack = X.env :: X.outer) (hf : X.env.frame = some X.env.locals) (hN : X.N.Nodup) (tk : Takes X Wout) {hds : List ExceptHandler} {l : List (Value × Nat × (Addr → Value → Option Addr → TS))} (k : HdsA X hds l) :
    ∀ {t1 : Shared}, Caught X ps0 st hp kl dc e B t0 t1 → wAsMany X.K Wout D l kl dc st hp → wpAny (model X.prog X.w) X.A (handleBy (.ref e) X.env hds) (SP X ps0 D) X.xe t1 := by
  induction k with
  | nil => exact fun c w => c.pass hf tk w
  | @cons x n kx i ts b0 su np pc rest l2 nm hi hln suite more ih =>
    intro t1 c w
    have ⟨yes, asked, ifYes, ifNo⟩ := w
    have ⟨ne1, ne2⟩ := c.off hs hf
    have ⟨o1, v1, at1, z1, d1⟩ := c.fly.there
    have I1 := c.now.suite at1 d1 c.none_ ne1 ne2
    have kind : PySem.W.Looks (model X.prog X.w) t1.heap (typeOf (.ref e)) kl := fun _ _ _ _ same q => wpAny_typeOf_ref (same _ _ at1) (z1.1.symm ▸ q)
    have matched := PySem.W.exm_one (M := model X.prog X.w) c.now.kIn kind asked
    refine wpAny_handleBy_cons (codeAny_handlers_test ?_) (fun q => nomatch q)
    have named : ∀ {R : Value → Shared → Prop} {N : Value → Shared → Prop}, R kx t1 → wpAny (model X.prog X.w) (X.A.mark (some (.ref e))) (eval (.Name x np) X.env) R N t1 := by
      intro R N r
      have ⟨g1, g2, g3⟩ := nm
      rcases g3 with g3 | ⟨g3, g4, g5⟩
      · exact ld_glob (X := X.suite e ((e, o1) :: (X.pn ++ ps0))) I1 g1 g3 r g2
      · exact ld_blt (X := X.suite e ((e, o1) :: (X.pn ++ ps0))) I1 g1 g3 g4 r g5 g2
    apply named
    apply matched.here
    cases yes
    · exact ih c (ifNo rfl)
    · apply codeAny_handlers_suite_as
      apply HandSPX.lands_againZ c.fly
      intro g fl up
      have c2 := c.again fl up
      have ⟨o2, v2, at2, z2, d2⟩ := fl.there
      have I2 := c2.now.suite at2 d2 c.none_ ne1 ne2
      refine store_ok (X := X.suite e ((e, o2) :: (X.pn ++ ps0))) (v := .ref e) I2 hN hi (.inl hln) rfl (fun t3 I3 => ?_) (.inr hln)
      have body := (suite e o2 kl dc (X.pn ++ ps0) z2 ⟨v2, d2⟩).run [] t3 _ hp _ I3 (ifYes rfl e c.none_)
      have away : ∀ {t4 : Shared} {st4 : L2.St} {hp4 : Hp} {G : Shared → Prop}, Inv (X.suite e ((e, o2) :: (X.pn ++ ps0))) [] st4 hp4 t4 → (∀ t5, Inv X ps0 (st4.set i none) hp4 t5 → G t5) → wpAny (model X.prog X.w) X.A (do bindName X.env n .none; unbindBehindTheSuite X.env n pc) (fun _ t5 => G t5) X.xe t4 :=
        fun I4 on => gone_ok (I4.unsuite c.inv.ok) hN hi hln on
      refine wpAny_mono body (fun f t4 ended => ?_) fun _ _ none_ => none_.elim
      cases f with
      | ret u =>
        have ⟨v, st4, hp4, I4, rel, q⟩ := ended
        exact away I4 fun _ I5 => ⟨v, _, hp4, I5, rel, q⟩
      | next => have ⟨st4, hp4, I4, q⟩ := ended; exact away I4 fun _ I5 => ⟨_, hp4, I5, q⟩
      | brk => have ⟨st4, hp4, I4, q⟩ := ended; exact away I4 fun _ I5 => ⟨_, hp4, I5, q⟩
      | cont => have ⟨st4, hp4, I4, q⟩ := ended; exact away I4 fun _ I5 => ⟨_, hp4, I5, q⟩
end
theorem ps_try_asmany {body : List Stmt} {hd0 : ExceptHandler} {hds : List ExceptHandler} {l : List (Value × Nat × (Addr → Value → Option Addr → TS))} {pos : Pos} {tb : WX → TS} (hs : X.stack = X.env :: X.outer) (hf : X.env.frame = some X.env.locals) (hN : X.N.Nodup) (tk : Takes X Wout)
    (hb : ∀ (W : WX) (pn : List (Addr × Obj)) (xe : Value → Shared → Prop), Takes (X.tr pn xe) W → PassesOwn (model X.prog X.w) X.A X.env xe → PSs (X.tr pn xe) body (tb W)) (hh : HdsA X (hd0 :: hds) l) :
    PS X (.Try body (hd0 :: hds) [] [] pos) (fun D st hp => tb (wAsMany X.K Wout D l) D st hp) := by
  constructor
  intro ps0 t st hp D I h
  have frames : X.A.frames = some (X.env :: X.outer) := I.ok.frames.trans (congrArg some hs)
  let onError : Value → Shared → Prop := fun v t1 => wpAny (model X.prog X.w) X.A (noteFrame v X.env) (fun _ t2 => wpAny (model X.prog X.w) X.A (setFlight v none) (fun _ t3 => wpAny (model X.prog X.w) X.A (handleBy v X.env (hd0 :: hds)) (SP X ps0 D) X.xe t3) X.xe t2) X.xe t1
  have caught : Takes (X.tr (X.pn ++ ps0) onError) (wAsMany X.K Wout D l) := by
    intro u t1 air
    have ⟨e, B, t0, ps1, st1, hp1, kl, dc, is, J, kept, slots, sky, none_, os, bare, w⟩ := air
    subst is
    have J0 : Inv X ps0 st1 hp1 t0 := J.ofTry I.ok
    have sky0 : Sky B (X.env :: X.outer) e (Zc kl dc) X.env.locals t1.heap := hs ▸ sky
    show wpAny (model X.prog X.w) X.A (noteFrame (.ref e) X.env) _ _ _
    apply Sky.land Zc.steady frames hf sky0
    intro g fl up
    exact Caught.clauses hs hf hN tk hh ⟨J0, kept, slots.trans up, hs ▸ fl, none_, os, bare⟩ w
  apply wpAny_Try_except
  refine wpAny_mono ((hb _ (X.pn ++ ps0) onError caught PassesOwn.looking).run [] t st hp D (I.toTry _) h) (fun f t1 ended => ?_) fun _ _ is => is
  cases f with
  | ret u => have ⟨v, st1, hp1, J, rel, q⟩ := ended; exact ⟨v, st1, hp1, J.ofTry I.ok, rel, q⟩
  | next => have ⟨st1, hp1, J, q⟩ := ended; exact wpAny_execs_nil ⟨st1, hp1, J.ofTry I.ok, q⟩
  | brk => have ⟨st1, hp1, J, q⟩ := ended; exact ⟨st1, hp1, J.ofTry I.ok, q⟩
  | cont => have ⟨st1, hp1, J, q⟩ := ended; exact ⟨st1, hp1, J.ofTry I.ok, q⟩
end
/-! ### the relations do not ask what suites hold, but for the names -/
def Ct.plus (T : Ct) (p : Nat × Addr × Str × Addr) : Ct := { T with sx := p :: T.sx }
section
variable {T : Ct} {φ : List Addr} {S : Hs} {H : Hp}
theorem RV.sxs {sx' : List (Nat × Addr × Str × Addr)} {d : D} {v : V} (r : RV T φ H d v) : RV { T with sx := sx' } φ H d v := by
  induction r with
  | non => exact .non
  | bl b => exact .bl b
  | int i => exact .int i
  | str s => exact .str s
  | tup h l r ih => exact .tup h l ih
  | ref h => exact .ref h
  | ty n => exact .ty n
  | cls c => exact RV.cls (T := { T with sx := sx' }) c
  | fz h l r ih => exact .fz h l ih
  | er h hd r ih => exact .er h hd ih
  | key h => exact .key h
  | eb h => exact .eb h
theorem RV.plus {p} {d : D} {v : V} (r : RV T φ H d v) : RV (T.plus p) φ H d v := r.sxs
theorem RV.minus {p} {d : D} {v : V} (r : RV (T.plus p) φ H d v) : RV T φ H d v := RV.sxs (T := T.plus p) (sx' := T.sx) r
theorem RC.sxs {sx' : List (Nat × Addr × Str × Addr)} {c : Cell} {a : Addr} (r : RC T φ H c a) : RC { T with sx := sx' } φ H c a := by
  cases r with
  | lst h r => exact .lst h ⟨r.1, fun i d v a b => (r.2 i d v a b).sxs⟩
  | fro h r => exact .fro h ⟨r.1, fun i d v a b => (r.2 i d v a b).sxs⟩
  | dic h r => exact .dic h ⟨r.1, fun i d v a b => ⟨(r.2 i d v a b).1, (r.2 i d v a b).2.sxs⟩⟩
  | dt h r => exact .dt h ⟨r.1, fun i d v a b => ⟨(r.2 i d v a b).1, (r.2 i d v a b).2.sxs⟩⟩
  | dtf h r => exact .dtf h ⟨r.1, fun i d v a b => ⟨(r.2 i d v a b).1, (r.2 i d v a b).2.sxs⟩⟩
  | odd hs h q r => exact .odd hs h q ⟨r.1, fun i d v a b => ⟨(r.2 i d v a b).1, (r.2 i d v a b).2.sxs⟩⟩
  | dk h r => exact .dk h ⟨r.1, fun i d v a b => ⟨(r.2 i d v a b).1, (r.2 i d v a b).2.sxs⟩⟩
  | set h => exact RC.set (T := { T with sx := sx' }) h
theorem RS.plus {p} (R : RS T φ S H) : RS (T.plus p) φ S H := ⟨R.wf, R.len, R.nd, fun n c a h1 h2 => (R.cell n c a h1 h2).sxs⟩
theorem RS.minus {p} (R : RS (T.plus p) φ S H) : RS T φ S H := ⟨R.wf, R.len, R.nd, fun n c a h1 h2 => RC.sxs (T := T.plus p) (sx' := T.sx) (R.cell n c a h1 h2)⟩
theorem RE.plus {i : Nat} {a dd : Addr} {c : Str} {d : D} {v : V} {env : EnvD} {σ : L2.St} (E : RE T φ H env σ) (hd : H dd = some (.xd (fV v))) (r : RV T φ H d v) : RE (T.plus (i, a, c, dd)) φ H (env.set i (some (.exc c d))) (σ.set i (some (.ref a))) := by
  refine ⟨by simp [E.1], fun j e h => ?_⟩
  by_cases hj : i = j
  · subst hj
    by_cases hi : i < env.length
    · rw [List.getElem?_set_self hi] at h
      cases h
      exact ⟨_, List.getElem?_set_self (by rw [← E.1]; exact hi), .sx (List.mem_cons_self) hd r.plus⟩
    · rw [List.getElem?_eq_none (by simpa using hi)] at h
      cases h
  · rw [List.getElem?_set_ne hj] at h
    obtain ⟨u, h1, h2⟩ := E.2 j e h
    refine ⟨u, by rw [List.getElem?_set_ne hj]; exact h1, ?_⟩
    cases h2 with
    | rv r => exact .rv r.plus
    | sx h3 h4 h5 => exact .sx (List.mem_cons_of_mem _ h3) h4 h5.plus
theorem RE.minus {i : Nat} {a dd : Addr} {c : Str} {env : EnvD} {σ : L2.St} (E : RE (T.plus (i, a, c, dd)) φ H env σ) : RE T φ H (env.set i none) (σ.set i none) := by
  refine ⟨by simp [E.1], fun j e h => ?_⟩
  by_cases hj : i = j
  · subst hj
    by_cases hi : i < env.length
    · rw [List.getElem?_set_self hi] at h
      cases h
    · rw [List.getElem?_eq_none (by simpa using hi)] at h
      cases h
  · rw [List.getElem?_set_ne hj] at h
    obtain ⟨u, h1, h2⟩ := E.2 j e h
    refine ⟨u, by rw [List.getElem?_set_ne hj]; exact h1, ?_⟩
    cases h2 with
    | rv r => exact .rv r.minus
    | sx h3 h4 h5 =>
      rcases List.mem_cons.mp h3 with h3 | h3
      · cases h3
        exact (hj rfl).elim
      · exact .sx h3 h4 h5.minus
end
/-! ### the mirror -/
abbrev Isa := Str → Str → Bool
def unS (i : Nat) : SRes → SRes
  | .nx env S => .nx (env.set i none) S
  | .rt d S => .rt d S
  | .bk env S => .bk (env.set i none) S
  | .ct env S => .ct (env.set i none) S
  | _ => .bad
def mHds (isa : Isa) : List (Str × Nat × SM) → Str → D → SM
  | [], c, d => fun env S => .err c d env S
  | (x, i, m) :: r, c, d => fun env S => if isa c x then unS i (m (env.set i (some (.exc c d))) S) else mHds isa r c d env S
def mTry (isa : Isa) (kn : List Str) (b : SM) (hs : List (Str × Nat × SM)) : SM := fun env S => match b env S with
  | .err c d env1 S1 => if c ∈ kn then mHds isa hs c d env1 S1 else .bad
  | r => r
abbrev Wn : WX := fun _ _ _ _ => False
/-- the clauses do what their mirrors do -/
inductive HdsM (X : Cx) (T : Ct) (isa : Isa) (kn : List Str) : List ExceptHandler → List (Str × Nat × SM) → Prop
  | nil : HdsM X T isa kn [] []
  | cons {x n : Str} {i : Nat} {m : SM} {b₀ : Stmt} {suite : List Stmt} {np pos' : Pos} {hds : List ExceptHandler} {l : List (Str × Nat × SM)} (hg : Gl X x) (hm : X.mg x = some (.ref (T.ca x))) (hex : ∀ c ∈ kn, PySem.W.exmOne X.K (.ref (T.ca c)) (.ref (T.ca x)) = some (isa c x)) (hi : X.N[i]? = some n) (hln : X.env.kindOf n = some .local)
      (hsu : ∀ (c : Str) (a dd : Addr) (oe : Obj) (pn : List (Addr × Obj)), c ∈ kn → Zc (.ref (T.ca c)) (some dd) oe → (∃ vs, oe.data = .fields vs) → PSs (X.suite a ((a, oe) :: pn)) (b₀ :: suite) (tS (T.plus (i, a, c, dd)) Wn m)) (r : HdsM X T isa kn hds l) (hdb : (x == ("__debug__" : Str)) = false := by decide) :
      HdsM X T isa kn (.ExceptHandler (some (.Name x np)) (some n) (b₀ :: suite) pos' :: hds) ((x, i, m) :: l)
def tsM (T : Ct) (kn : List Str) (i : Nat) (m : SM) : Addr → Value → Option Addr → TS := fun a cls d D σ H => ∃ c dd, c ∈ kn ∧ cls = .ref (T.ca c) ∧ d = some dd ∧ tS (T.plus (i, a, c, dd)) Wn m D σ H
def hsA (T : Ct) (kn : List Str) : List (Str × Nat × SM) → List (Value × Nat × (Addr → Value → Option Addr → TS))
  | [] => []
  | (x, i, m) :: r => (.ref (T.ca x), i, tsM T kn i m) :: hsA T kn r
theorem HdsM.a {X : Cx} {T : Ct} {isa : Isa} {kn : List Str} {hds : List ExceptHandler} {l : List (Str × Nat × SM)} (h : HdsM X T isa kn hds l) : HdsA X hds (hsA T kn l) := by
  induction h with
  | nil => exact .nil
  | cons hg hm hex hi hln hsu r hdb ih =>
    refine .cons ⟨hg, hdb, .inl hm⟩ hi hln (fun a oe cls d pn hz hf => ⟨fun pins s σ H D I h => ?_⟩) ih
    obtain ⟨c, dd, hc, rfl, rfl, h⟩ := h
    exact (hsu c a dd oe pn hc hz hf).run pins s σ H D I h
/-- what a suite's end means outside of it -/
theorem unS_ok {T : Ct} {W : WX} {φ : List Addr} {H : Hp} {D0 : Ends} {i : Nat} {a dd : Addr} {c : Str} {r : SRes} (P : PostS T W φ H D0 (unS i r)) :
    PostS (T.plus (i, a, c, dd)) Wn φ H { nx := fun σ' H' => D0.nx (σ'.set i none) H', rt := D0.rt, bk := fun σ' H' => D0.bk (σ'.set i none) H', ct := fun σ' H' => D0.ct (σ'.set i none) H' } r := by
  cases r with
  | nx env S => exact fun φ' H' σ' u R E => P φ' H' _ u R.minus E.minus
  | rt d S => exact fun φ' H' v u R r => P φ' H' v u R.minus r.minus
  | bk env S => exact fun φ' H' σ' u R E => P φ' H' _ u R.minus E.minus
  | ct env S => exact fun φ' H' σ' u R E => P φ' H' _ u R.minus E.minus
  | err c d env S => exact False.elim P
  | bad => exact False.elim P
theorem hds_ok {X : Cx} {T : Ct} {isa : Isa} {kn : List Str} {W : WX} {D0 : Ends} {hds : List ExceptHandler} {l : List (Str × Nat × SM)} (h : HdsM X T isa kn hds l) {φ : List Addr} {H : Hp} {S : Hs} {env : EnvD} {σ : L2.St} {c : Str} {d : D} {v : V} {dd : Addr} (hc : c ∈ kn) (R : RS T φ S H) (E : RE T φ H env σ)
    (r : RV T φ H d v) (hd : H dd = some (.xd (fV v))) (P : PostS T W φ H D0 (mHds isa l c d env S)) : wAsMany X.K W D0 (hsA T kn l) (.ref (T.ca c)) (some dd) σ H := by
  induction h with
  | nil => exact P φ H σ dd v (Up.refl _ _) R E r hd
  | @cons x n i m b₀ suite np pos' hds l hg hm hex hi hln hsu r' hdb ih =>
    unfold mHds at P
    refine ⟨isa c x, hex c hc, fun hb a ha => ?_, fun hb => ih ?_⟩
    · rw [if_pos hb] at P
      exact ⟨c, dd, hc, rfl, rfl, φ, env.set i (some (.exc c d)), S, R.plus, E.plus hd r, unS_ok P⟩
    · rw [hb, if_neg Bool.false_ne_true] at P
      exact P
theorem s_try {X : Cx} {T : Ct} {W : WX} {isa : Isa} {kn : List Str} {body : List Stmt} {h₀ : ExceptHandler} {hds : List ExceptHandler} {l : List (Str × Nat × SM)} {pos : Pos} {mb : SM} (hs : X.stack = X.env :: X.outer) (hf : X.env.frame = some X.env.locals) (hN : X.N.Nodup) (tk : Takes X W)
    (hb : ∀ (W : WX) (pn : List (Addr × Obj)) (xe : Value → Shared → Prop), Takes (X.tr pn xe) W → PassesOwn (model X.prog X.w) X.A X.env xe → PSs (X.tr pn xe) body (tS T W mb))
    (hh : HdsM X T isa kn (h₀ :: hds) l) : PS X (.Try body (h₀ :: hds) [] [] pos) (tS T W (mTry isa kn mb l)) := weakS (ps_try_asmany (tb := fun W => tS T W mb) hs hf hN tk hb hh.a) fun D0 σ H ⟨φ, env, S, R, E, P⟩ => by
  refine ⟨φ, env, S, R, E, ?_⟩
  unfold mTry at P
  cases e : mb env S with
  | err c d env1 S1 =>
    rw [e] at P
    by_cases hc : c ∈ kn
    · have P' : PostS T W φ H D0 (if c ∈ kn then mHds isa l c d env1 S1 else .bad) := P
      rw [if_pos hc] at P'
      exact fun φ' H' σ' dd v u R' E' r' x' => hds_ok hh hc R' E' r' x' (PostS.up u P')
    · have P' : PostS T W φ H D0 (if c ∈ kn then mHds isa l c d env1 S1 else .bad) := P
      rw [if_neg hc] at P'
      exact False.elim P'
  | _ =>
    rw [e] at P
    exact P
end MR

/-! M11: dicts that are only read; what a suite asks of its error; own classes as values. -/
namespace MR
open PySem PySem.Spec L2 PyProof.Rows
theorem upd_twice {H : Hp} {p : Addr} {x y : HO} : upd (upd H p x) p y = upd H p y := by
  funext b
  by_cases h : b = p
  · rw [h, upd_same, upd_same]
  · rw [upd_ne h, upd_ne h, upd_ne h]
/-- what was just made is only read from now on -/
def tLk (t : TE) : TE := fun σ H Q => t σ H fun v H1 => ∃ a u, v = .ref a ∧ H1 a = some u ∧ Mut (some u) ∧ ∀ od, Q v (upd H1 a (.frz od u))
theorem pe_lk {X : Cx} {e : Expr} {t : TE} (he : PE X e t) : PE X e (tLk t) := by
  refine ⟨fun pins s σ H Q I h => thn (he.run pins s σ H _ I h) fun u s1 ⟨v, H1, I1, r1, a, ob, ev, ha, hm, q⟩ => ?_⟩
  subst ev
  obtain ⟨od, I2⟩ := I1.lock ha hm
  exact ⟨_, _, I2, r1, q od⟩
section
variable {T : Ct} {φ : List Addr} {H : Hp} {S : Hs} {Q : VK}
theorem RKs.nil : RKs T φ H [] [] := ⟨rfl, fun i d v a _ => by simp at a⟩
theorem okE.newDic {ds : List (Key × D)} {vs : List (Key × V)} (R : RS T φ S H) (r : RKs T φ H ds vs) (P : okE T φ H Q (.ref S.n) (S.new (.dic ds))) : ∀ p od, H p = none → Q (.ref p) (upd H p (.frz od (.dK vs))) := fun p od hp => by
  obtain ⟨R', U⟩ := R.new (o := .frz od (.dK vs)) (c := .dic ds) hp fun φ' H' u h => .dic h (r.up R u)
  exact P _ _ _ U R' (.ref (by rw [List.getElem?_append_right (by rw [R.len]; exact Nat.le_refl _), R.len]; simp))
end
def mD0 : Ex := fun _ S => .ok (.ref S.n) (S.new (.dic []))
def mD1 (k : Key) (d : D) : Ex := fun _ S => .ok (.ref S.n) (S.new (.dic [(k, d)]))
section
variable {X : Cx} {T : Ct} {W : WX} {pos : Pos}
theorem r_dict0 : PE X (.Dict [] [] pos) (tE T W mD0) := weakE (pe_lk pe_dnewK) fun σ H Q ⟨φ, env, S, R, E, P⟩ => fun p hp =>
  ⟨p, .dK [], rfl, upd_same, trivial, fun od => by rw [upd_twice]; exact okE.newDic R .nil P p od hp⟩
theorem r_dict1 {ke ve : Expr} {k : Key} {v : V} {d : D} (hk : PE X ke (tC (kV k))) (hv : PE X ve (tC v)) (hr : ∀ φ H, RV T φ H d v) : PE X (.Dict [some ke] [ve] pos) (tE T W (mD1 k d)) :=
  weakE (pe_lk (pe_disp (pps_cons hk hv pps_nil) rfl rfl (by simp) (by simp))) fun σ H Q ⟨φ, env, S, R, E, P⟩ => fun p hp => by
    refine ⟨upd_same, [(k, v)], rfl, by simp, p, .dK [(k, v)], rfl, ?_, trivial, fun od => ?_⟩
    · rw [upd_twice]
      exact upd_same
    · have r : RKs T φ H [(k, d)] [(k, v)] := ⟨rfl, fun i x y a b => by
        cases i with
        | zero =>
          simp at a b
          subst a b
          exact ⟨rfl, hr φ H⟩
        | succ i => simp at a⟩
      have q := okE.newDic R r P p od hp
      rw [upd_twice, upd_twice]
      exact q
end
/-! ### list(d), d[k] -/
def rListDf : List V → Hp → VK → Prop := fun xs H Q => ∃ p o kvs, xs = [.ref p] ∧ H p = some (.frz o (.dK kvs)) ∧ ∀ q, H q = none → Q (.ref q) (upd H q (.lst (kvs.map fun kv => kV kv.1)))
/-- the made list's items are the keys -/
theorem keys_made {ks : List Key} {made : Array Value} (size : made.size = ks.length) (at_ : ∀ (j : Nat) (w : Value), made[j]? = some w → ∃ k, ks[j]? = some k ∧ keyIs k w = true) : Vals (ks.map kV) made.toList := by
  apply vals_of_at
  · exact (List.length_map ..).trans (size.symm.trans Array.length_toList.symm)
  · intro j x w hx hw
    rw [Array.getElem?_toList] at hw
    have ⟨k, hk, is⟩ := at_ j w hw
    rw [List.getElem?_map, hk] at hx
    injection hx with hx
    exact hx ▸ keyIs_rel is
theorem call_list_dKf {X : Cx} (hc : X.calm = true) : CallR X (.type "list") rListDf := by
  intro ps0 t st hp args us Q I rel ⟨p, o, kvs, is, locked, q⟩
  subst is
  have ⟨u, one, r1⟩ := vals1 rel
  subst one
  cases (show u = Value.ref p from r1)
  have ⟨notSys, _, _, _, ep, ws, _, _, kw, dict⟩ := I.frzK locked
  have fits : kvs.length ≤ sizeLine := (I.hok p _ locked).2.1
  have same : (ws.map (·.1)) = kvs.map (·.1) := kw.keys.symm
  have len : ws.length = kvs.length := (Paired.length kw).symm
  refine PySem.W.kdl_call (PySem.W.kdl_dict (knd := mixKind X.prog X.w) (kvs := ws) (ep := ep) notSys) (I.ok.hd hc) dict (len ▸ fits) fun g tk made cap keep listed each => ?_
  have vals : Vals (kvs.map fun kv => kV kv.1) made.toList := by
    have e : (kvs.map fun kv => kV kv.1) = (kvs.map (·.1)).map kV := by rw [List.map_map]; rfl
    rw [e]
    refine keys_made (by rw [List.length_map, each.1, len]) fun j w hw => ?_
    have ⟨k, y, atj, is⟩ := each.2 j w hw
    refine ⟨k, ?_, is⟩
    rw [← same, List.getElem?_map, atj]
    rfl
  have stands : ObjOk X.prog X.w (upd hp t.heap.objs.size (.lst (kvs.map fun kv => kV kv.1))) g t.heap.objs.size (.lst (kvs.map fun kv => kV kv.1)) :=
    ⟨by rw [List.length_map]; exact fits, made.toList, cap, vals, by rw [Array.toArray_toList]; exact listed⟩
  exact ⟨.ref t.heap.objs.size, _, I.laid keep (Nat.le_refl _) stands, rfl, q _ (I.hok.fresh (Nat.le_refl _))⟩
def listDF (ds : List D) (S : Hs) : Res D := match ds with
  | [.ref n] => match S.get n with
    | some (.dic kvs) => .ok (.ref S.n) (S.new (.lst (kvs.map fun kv => kD kv.1)))
    | _ => .bad
  | _ => .bad
theorem listD_no : NoErL listDF := fun ds S c d S' h => by
  unfold listDF at h
  repeat' (first | cases h | split at h)
theorem RVs.keys {T : Ct} {φ : List Addr} {H : Hp} : ∀ ks : List Key, RVs T φ H (ks.map kD) (ks.map kV)
  | [] => .nil
  | k :: ks => .cons (kD_rv k) (RVs.keys ks)
theorem listD_M {T : Ct} : CallM T rListDf listDF := by
  intro φ S H ds vs Q R r P
  unfold listDF at P
  split at P
  · rename_i n
    obtain ⟨v, rfl, r1⟩ := r.one
    cases r1 with
    | @ref n a q =>
      split at P
      · rename_i kvs hx
        obtain ⟨o, ws, hk, rk⟩ := R.dic q hx
        have rr : RVs T φ H (kvs.map fun kv => kD kv.1) (ws.map fun kv => kV kv.1) := by
          have e1 : (kvs.map fun kv => kD kv.1) = (kvs.map (·.1)).map kD := by rw [List.map_map] <;> rfl
          have e2 : (ws.map fun kv => kV kv.1) = (kvs.map (·.1)).map kV := by rw [← rk.keys, List.map_map] <;> rfl
          rw [e1, e2]
          exact RVs.keys _
        exact ⟨a, o, ws, rfl, hk, okE.newLst R rr P⟩
      · exact False.elim P
  · exact False.elim P
def keyD (d : D) : Option Key := match d with
  | .int i => some (.inl i)
  | .str x => some (.inr x)
  | _ => none
def valD (kvs : List (Key × D)) (k : Key) : Option D := (kvs.find? fun kv => decide (kv.1 = k)).map (·.2)
theorem valD_of {T : Ct} {φ : List Addr} {H : Hp} {k : Key} {d : D} : ∀ {kvs : List (Key × D)} {vs : List (Key × V)}, RKs T φ H kvs vs → valD kvs k = some d → ∃ v, valV vs k = some v ∧ RV T φ H d v
  | [], vs, r, h => by cases h
  | p :: kvs, [], r, h => by have := r.1; simp at this
  | p :: kvs, q :: vs, r, h => by
    obtain ⟨e, r0⟩ := r.2 0 p q rfl rfl
    by_cases hk : p.1 = k
    · have e1 : valD (p :: kvs) k = some p.2 := by simp [valD, List.find?_cons, hk]
      rw [e1] at h
      cases h
      exact ⟨q.2, valV_pos (e.symm.trans hk), r0⟩
    · have e1 : valD (p :: kvs) k = valD kvs k := by simp [valD, List.find?_cons, hk]
      rw [e1] at h
      obtain ⟨v, h1, h2⟩ := valD_of (kvs := kvs) (vs := vs) ⟨by have := r.1; simpa using this, fun i x y a b => r.2 (i + 1) x y (by simpa using a) (by simpa using b)⟩ h
      exact ⟨v, (valV_neg (fun z => hk (e.trans z))).trans h1, h2⟩
def dgetD (x y : D) (S : Hs) : Res D := match x with
  | .ref n => match S.get n, keyD y with
    | some (.dic kvs), some k => match valD kvs k with
      | some d => .ok d S
      | none => .bad
    | _, _ => .bad
  | _ => .bad
theorem keyD_of {T : Ct} {φ : List Addr} {H : Hp} {d : D} {v : V} {k : Key} (r : RV T φ H d v) (h : keyD d = some k) : v = kV k := by
  cases r with
  | int i => cases h; rfl
  | str x => cases h; rfl
  | _ => cases h
section
variable {X : Cx} {T : Ct} {W : WX} {pos p : Pos} {a b e : Expr} {ma mb : Ex} {ms : Exs}
theorem r_dget (hu : Deepy X) (ha : PE X a (tE T W ma)) (hb : PE X b (tE T W mb)) (hs : NoSl b := by exact fun _ _ => rfl) : PE X (.Subscript a b pos) (tE T W (mOp2 dgetD ma mb)) :=
  weakE (pe_dget (by have : X.A.units + 65 < cLine := hu; omega) ha hb hs) fun σ H Q ⟨φ, env, S, R, E, P⟩ => tE_bind R E P fun x S1 φ1 H1 v u1 R1 r1 E1 P1 => tE_bind R1 E1 P1 fun y S2 φ2 H2 w u2 R2 r2 E2 P2 => by
    unfold dgetD at P2
    split at P2
    · rename_i n
      split at P2
      · rename_i kvs k hx hk
        split at P2
        · rename_i d hd
          have r1' := r1.up R1 u2
          cases r1' with
          | @ref n a q =>
            obtain ⟨o, vs, hh, rk⟩ := R2.dic q hx
            obtain ⟨vv, hv, rv⟩ := valD_of rk hd
            exact ⟨a, vv, rfl, .inl ⟨vs, k, .inr ⟨o, hh⟩, keyD_of r2 hk, hv.symm⟩, P2 φ2 H2 _ (u1.trans u2) R2 rv⟩
        · exact False.elim P2
      · exact False.elim P2
    · exact False.elim P2
theorem r_listD (hc : X.calm = true) (hm : X.mg "list" = none) (ha : PA X [e] (tA T W ms)) (hg : Gl X "list" := by rfl) (he : starEach [e] X.env = (false, eval e X.env) :: starEach [] X.env := by rfl) (hpl : (backTo pos (starEach [] X.env)).any (·.1) = false := by rfl) : PE X (.Call (.Name "list" p) [e] [] pos) (tE T W (mCall listDF ms)) :=
  r_callTy (call_list_dKf hc) listD_M listD_no hg hm (by decide +kernel) ha (by decide) (by decide) he hpl
end
/-! ### own classes as values; what a suite asks -/
theorem r_cls {X : Cx} {T : Ct} {W : WX} {pos : Pos} {x : Str} (hm : X.mg x = some (.ref (T.ca x))) (hg : Gl X x := by rfl) (hd : (x == ("__debug__" : Str)) = false := by decide) : PE X (.Name x pos) (tE T W (mC (.cls x))) :=
  weakE (pe_glob (v := .ref (T.ca x)) hg hm rfl hd) fun _ _ _ h => tC_of (fun _ _ => .cls x) h
/-- e.value, e the suite's error at i -/
def mFld (i : Nat) : Ex := fun env S => match env[i]? with
  | some (some (.exc _ d)) => .ok d S
  | _ => .bad
/-- what isinstance answers of an error of the class c -/
def isaD (isa : Isa) (c : Str) : D → Option Bool
  | .cls x => some (isa c x)
  | _ => none
def isaDs (isa : Isa) (c : Str) : List D → Option Bool
  | [] => some false
  | x :: xs => match isaD isa c x, isaDs isa c xs with
    | some a, some b => some (a || b)
    | _, _ => none
def mIsE (isa : Isa) (i : Nat) (m : Ex) : Ex := fun env S => match env[i]? with
  | some (some (.exc c _)) => (m env S).bind fun d S1 => match d with
    | .cls x => .ok (.bl (isa c x)) S1
    | .tup xs => match isaDs isa c xs with
      | some b => .ok (.bl b) S1
      | none => .bad
    | _ => .bad
  | _ => .bad
/-- the facts of the errors' classes kn: of each, what the suites ask -/
structure ErrK (K : PySem.W.Frag) (ca : Str → Addr) (isa : Isa) (kn cl : List Str) : Prop where
  xf : ∀ c ∈ kn, XfC K (ca c)
  no : ∀ c ∈ kn, PySem.W.findIn K (.ref (ca c)) "value" = some none
  ha : ∀ c ∈ kn, PySem.W.findIn K (.ref (ca c)) "__class__" = some (some (.builtin "object.__class__"))
  hm : ∀ c ∈ kn, PySem.W.mroIn K (ca c) (.type "object") = some true
  hn : PySem.W.specialIn K (.builtin "object.__class__") "__get__" = some (some (.builtin "getset_descriptor.__get__"))
  ht : PySem.W.takesIn K (.builtin "object.__class__") = some true
  ki : ∀ c ∈ kn, ∀ x ∈ cl, PySem.W.kitOne K (.ref (ca c)) (.ref (ca x)) = some (isa c x)
section
variable {X : Cx} {T : Ct} {W : WX} {i : Nat} {a dd : Addr} {c n : Str} {oe : Obj} {pn : List (Addr × Obj)} {pos np p : Pos} {isa : Isa} {kn cl : List Str}
/-- what stands at i is the suite's own error -/
theorem RX.suite {φ : List Addr} {H : Hp} {d : D} {v : V} (hns : ∀ e ∈ T.sx, e.1 ≠ i) {c' : Str} (r : RX (T.plus (i, a, c, dd)) φ H i (.exc c' d) v) : v = .ref a ∧ c' = c ∧ ∃ u, H dd = some (.xd (fV u)) ∧ RV (T.plus (i, a, c, dd)) φ H d u := by
  cases r with
  | rv r => cases r
  | sx h hd r =>
    rcases List.mem_cons.mp h with h | h
    · cases h
      exact ⟨rfl, rfl, _, hd, r⟩
    · exact (hns _ h rfl).elim
theorem r_fld (F : ErrK X.K T.ca isa kn cl) (hc : c ∈ kn) (hz : Zc (.ref (T.ca c)) (some dd) oe) (hf : ∃ vs, oe.data = .fields vs) (hN : X.N[i]? = some n) (hv : Vis X.env.scope n) (hns : ∀ e ∈ T.sx, e.1 ≠ i) (hd : (n == ("__debug__" : Str)) = false := by decide) (hcd : (n == ("__classdict__" : Str)) = false := by decide)
    (hb : attributeBase (.Name n np) "value" X.env (eval (.Name n np) X.env) = eval (.Name n np) X.env := by rfl) :
    PE (X.suite a ((a, oe) :: pn)) (.Attribute (.Name n np) "value" pos) (tE (T.plus (i, a, c, dd)) W (mFld i)) :=
  weakE (pe_xf (F.xf c hc) (F.no c hc) hz hf (pe_var (X := X.suite a ((a, oe) :: pn)) hN hv hd hcd) hb) fun σ H Q ⟨φ, env, S, R, E, P⟩ => by
    unfold mFld at P
    split at P
    · rename_i c' d he
      obtain ⟨v, hv, r⟩ := E.2 i _ he
      obtain ⟨rfl, rfl, u, hd, ru⟩ := r.suite hns
      exact ⟨_, hv, rfl, rfl, dd, fV u, u, rfl, hd, by simp [fV, List.lookup], P φ H u (Up.refl _ _) R ru⟩
    · exact False.elim P
/-- isinstance(e, c), isinstance(e, (c, ..)) of the suite's error -/
def rIsX (K : PySem.W.Frag) (C a : Addr) : List V → Hp → VK → Prop := fun xs H Q => ∃ (t : V) (b : Bool), xs = [.ref a, t] ∧ Q (.bl b) H ∧
  ((∃ u, ClsV t u ∧ PySem.W.kitOne K (.ref C) u = some b) ∨ (∃ tp vs us, t = .ref tp ∧ Tp K H tp vs ∧ Paired ClsV vs us ∧ PySem.W.kitAny K (.ref C) us = some b))
theorem call_isX {C : Addr} (x : XfC X.K C) (ha : PySem.W.findIn X.K (.ref C) "__class__" = some (some (.builtin "object.__class__"))) (hm : PySem.W.mroIn X.K C (.type "object") = some true)
    (hn : PySem.W.specialIn X.K (.builtin "object.__class__") "__get__" = some (some (.builtin "getset_descriptor.__get__"))) (ht : PySem.W.takesIn X.K (.builtin "object.__class__") = some true) {H0 : Hp} {fs : List (Str × V)}
    (hz : Zc (.ref C) (some dd) oe) (hf : ∃ vs, oe.data = .fields vs) : CallR (X.suite a ((a, oe) :: pn)) (.builtin "isinstance") (fun xs H Q => (∃ fs, H dd = some (.xd fs)) ∧ rIsX X.K C a xs H Q) := by
  intro pins s σ H xs us Q I r h
  obtain ⟨⟨fs, hdd⟩, t, b, rfl, q, h⟩ := h
  obtain ⟨u1, u2, rfl, r1, r2⟩ := vals2 r
  cases (show u1 = Value.ref a from r1)
  obtain ⟨hget, _⟩ := I.pin (a, oe) (List.mem_append.mpr (.inl List.mem_cons_self))
  obtain ⟨vs, hv⟩ := hf
  have hx : ObjOk X.prog X.w H s.heap dd (.xd fs) := I.hok dd _ hdd
  obtain ⟨mA, hns, hr⟩ := hx
  obtain ⟨od, ho, hl⟩ := lookIn_ns hns
  have J : PySem.W.InstAt s.heap a oe C (some od) := ⟨hget, hz.1, by unfold PySem.W.notCls; rw [hv] <;> rfl, by rw [hz.2]; exact ho⟩
  have hcl : (PySem.W.clsIn X.K C).isSome = true := by
    obtain ⟨cd, hc, _⟩ := PySem.W.any_some x.hdC
    rw [hc]
    rfl
  have Z := PySem.W.kitx_exc (K := X.K) (x := a) (ox := oe) (od := some od) (C := C) hcl x.ga x.gg x.exC ha hn ht hm
  rcases h with ⟨u, k, e⟩ | ⟨tp, ws, us, rfl, hT, k, e⟩
  · have e2 := k.eq r2
    subst e2
    exact PySem.W.kia_one Z I.kIn J e (fun z => nomatch z) fun tk => ⟨.bl b, H, I.tok tk, rfl, q⟩
  · cases (show u2 = Value.ref tp from r2)
    rcases hT with hT | ⟨o, its, n, h1, h2, h3, h4, h5⟩
    · obtain ⟨_, its, rv, o, h1, h2, n, h3⟩ := (show ObjOk X.prog X.w H s.heap tp (.tup ws) from I.hok tp _ hT)
      have e3 := ClsV.all k rv
      subst e3
      obtain ⟨oc, od, dt, sl⟩ := o
      simp only at h2 h3
      subst h2 h3
      exact PySem.W.kia_tup Z I.kIn J h1 e (fun z => nomatch z) fun tk => ⟨.bl b, H, I.tok tk, rfl, q⟩
    · have e3 := ClsV.all k h5
      have g1 := I.kIn _ _ h1
      obtain ⟨oc, od, dt, sl⟩ := o
      simp only at h2 h3
      subst h2 h3
      exact PySem.W.kia_tup (its := its.toList) Z I.kIn J (by simpa using g1) (by rw [e3]; exact e) (fun z => nomatch z) fun tk => ⟨.bl b, H, I.tok tk, rfl, q⟩
theorem isaDs_of {K : PySem.W.Frag} {C : Addr} (hk : ∀ x ∈ cl, PySem.W.kitOne K (.ref C) (.ref (T.ca x)) = some (isa c x)) {φ : List Addr} {H : Hp} : ∀ {ds : List D} {vs : List V} {b : Bool}, RVs T φ H ds vs → (∀ d ∈ ds, ∀ x, d = .cls x → x ∈ cl) → isaDs isa c ds = some b →
    ∃ us, Paired ClsV vs us ∧ PySem.W.kitAny K (.ref C) us = some b
  | [], vs, b, r, _, h => by
    have e := r.inv_nil
    subst e
    cases h
    exact ⟨[], .nil, kitAny_nil⟩
  | d :: ds, vs, b, r, hm, h => by
    obtain ⟨v, us, rfl, r1, r2⟩ := r.inv_cons
    cases r1 with
    | cls x =>
      have h' : (match (some (isa c x)), isaDs isa c ds with
        | some a, some b => some (a || b)
        | _, _ => none) = some b := h
      split at h'
      · rename_i a' b' e1 e2
        cases e1
        cases h'
        obtain ⟨ws, p, q⟩ := isaDs_of hk r2 (fun d hd => hm d (List.mem_cons_of_mem _ hd)) e2
        refine ⟨.ref (T.ca x) :: ws, .cons (.own _) p, kitAny_cons (hk x (hm _ List.mem_cons_self x rfl)) (fun z => ?_) fun z => ?_⟩
        · rw [z]
          exact q
        · rw [z]
          rfl
      · cases h'
    | _ => cases h
/-- the classes asked for are known -/
def inCl (cl : List Str) : D → Bool
  | .cls x => decide (x ∈ cl)
  | .tup xs => xs.all fun | .cls x => decide (x ∈ cl) | _ => true
  | _ => true
def mIsX (isa : Isa) (cl : List Str) (i : Nat) (m : Ex) : Ex := fun env S => match env[i]? with
  | some (some (.exc c _)) => (m env S).bind fun d S1 => if inCl cl d then (match d with
    | .cls x => .ok (.bl (isa c x)) S1
    | .tup xs => match isaDs isa c xs with
      | some b => .ok (.bl b) S1
      | none => .bad
    | _ => .bad) else .bad
  | _ => .bad
theorem r_isX {e : Expr} {m : Ex} (F : ErrK X.K T.ca isa kn cl) (hK : T.K = X.K) (hc : c ∈ kn) (hz : Zc (.ref (T.ca c)) (some dd) oe) (hf : ∃ vs, oe.data = .fields vs) (hN : X.N[i]? = some n) (hv : Vis X.env.scope n) (hns : ∀ e ∈ T.sx, e.1 ≠ i) (hm : X.mg "isinstance" = none)
    (he : PE (X.suite a ((a, oe) :: pn)) e (tE (T.plus (i, a, c, dd)) W m)) (hg : Gl X "isinstance" := by rfl) (hd : (n == ("__debug__" : Str)) = false := by decide) (hcd : (n == ("__classdict__" : Str)) = false := by decide)
    (hs1 : starEach [.Name n np, e] X.env = (false, eval (.Name n np) X.env) :: starEach [e] X.env := by rfl) (hs2 : starEach [e] X.env = (false, eval e X.env) :: starEach [] X.env := by rfl) (hpl : (backTo pos (starEach [e] X.env)).any (·.1) = false := by rfl) :
    PE (X.suite a ((a, oe) :: pn)) (.Call (.Name "isinstance" p) [.Name n np, e] [] pos) (tE (T.plus (i, a, c, dd)) W (mIsX isa cl i m)) := by
  have hcall := call_isX (X := X) (a := a) (dd := dd) (oe := oe) (pn := pn) (F.xf c hc) (F.ha c hc) (F.hm c hc) F.hn F.ht (H0 := fun _ => none) (fs := []) hz hf
  refine weakE (pe_callB (X := X.suite a ((a, oe) :: pn)) hcall hg hm (by decide +kernel) (pa_cons (pe_var (X := X.suite a ((a, oe) :: pn)) hN hv hd hcd) (pa_cons he pa_nil hs2) hs1) (by decide) (by decide) hs1 hpl) fun σ H Q ⟨φ, env, S, R, E, P⟩ => ?_
  unfold mIsX at P
  split at P
  · rename_i c' d0 hen
    obtain ⟨v, hv', r⟩ := E.2 i _ hen
    obtain ⟨rfl, rfl, u, hdd, ru⟩ := r.suite hns
    refine ⟨_, hv', tE_bind R E P fun d S1 φ1 H1 w u1 R1 r1 E1 P1 => ?_⟩
    split at P1
    · rename_i hin
      have hdd1 : H1 dd = some (.xd (fV u)) := R.stay u1 hdd rfl
      cases d with
      | cls x =>
        have hx : x ∈ cl := of_decide_eq_true hin
        cases r1
        exact ⟨⟨_, hdd1⟩, _, _, rfl, P1 φ1 H1 _ u1 R1 (.bl _), .inl ⟨_, .own _, F.ki _ hc x hx⟩⟩
      | tup xs =>
        simp only at P1
        split at P1
        · rename_i b hb
          cases r1 with
          | @tup ds tp us h l r' =>
            have hx : ∀ d ∈ xs, ∀ x, d = .cls x → x ∈ cl := fun d hd x e => by
              have z := List.all_eq_true.mp hin d hd
              subst e
              exact of_decide_eq_true z
            obtain ⟨ws, p, k⟩ := isaDs_of (K := X.K) (C := T.ca c') (isa := isa) (c := c') (T := T.plus (i, a, c', dd)) (cl := cl) (fun x hx => F.ki c' hc x hx) ⟨l, r'⟩ hx hb
            exact ⟨⟨_, hdd1⟩, _, _, rfl, P1 φ1 H1 _ u1 R1 (.bl _), .inr ⟨tp, us, ws, rfl, by rw [← hK]; exact h, p, k⟩⟩
        · exact False.elim P1
      | _ => exact False.elim P1
    · exact False.elim P1
  · exact False.elim P
end
end MR

/-! M12: small words for the printed walks; what may be said of a def instead of its own mirror. -/
namespace MR
open PySem PySem.Spec L2 PyProof.Rows
theorem spM_bad {T : Ct} {vs : List V} {H : Hp} {Q : VK} {E : XK} (h : spM T (fun _ _ => .bad) vs H Q E) : False := by
  obtain ⟨φ, S, ds, R, r, P⟩ := h
  exact P
theorem kb_of {K : PySem.W.Frag} {x qual : Str} {params : Arguments} {body : List Stmt} {scope : Scope} {kws : List (Str × V)} {f : Addr} {fd : FuncData} {ps ks : List Str} {n : Nat} {ix : List Nat} (F : FunD K x qual params body scope [] kws f fd)
    (h : ∀ (kV doc pm : Value) (an : Option Addr) (cdv ct : Value) (us ws : List Value), us.length = n → ws.length = ks.length → bindArgs (PySem.W.fnOf x qual params body scope .none kV doc pm an cdv ct) ⟨us, ks.zip ws⟩ = pure (ps.zip (pick ix (us ++ ws)))) : KB K fd ps n ks ix := by
  obtain ⟨oc, od, dV, kV, doc, pm, an, cdv, ct, osl, rfl, lk, hcd, hD, hK⟩ := F.ex
  rcases hD with ⟨_, rfl⟩ | ⟨e, _⟩
  · exact ⟨fun s us ws X h1 h2 => BindsTo.of_eq (h kV doc pm an cdv ct us ws h1 h2)⟩
  · exact absurd rfl e
end MR

/-! M13: a def whose arguments hold no cells answers as it does over no cells at all. -/
namespace MR
open PySem PySem.Spec L2 PyProof.Rows
mutual
/-- no cell in it -/
def free : D → Bool
  | .non => true
  | .bl _ => true
  | .int _ => true
  | .str _ => true
  | .tup xs => frees xs
  | .fz xs => frees xs
  | _ => false
def frees : List D → Bool
  | [] => true
  | x :: xs => free x && frees xs
end
theorem frees_get : ∀ {xs : List D} {i : Nat} {d : D}, frees xs = true → xs[i]? = some d → free d = true
  | [], i, d, _, h => by simp at h
  | x :: xs, 0, d, h, e => by
    simp at e
    subst e
    exact (Bool.and_eq_true_iff.mp h).1
  | x :: xs, i + 1, d, h, e => frees_get (Bool.and_eq_true_iff.mp h).2 (by simpa using e)
section
variable {T : Ct} {φ φ' : List Addr} {S : Hs} {H : Hp}
theorem RV.free {d : D} {v : V} (r : RV T φ H d v) (h : MR.free d = true) : RV T φ' H d v := by
  induction r with
  | non => exact .non
  | bl b => exact .bl b
  | int i => exact .int i
  | str s => exact .str s
  | tup q l r ih => exact .tup q l fun i d v a b => ih i d v a b (frees_get h a)
  | ref q => cases h
  | ty n => cases h
  | cls c => cases h
  | fz q l r ih => exact .fz q l fun i d v a b => ih i d v a b (frees_get h a)
  | er q hd r ih => cases h
  | key q => cases h
  | eb q => cases h
theorem RVs.free {ds : List D} {vs : List V} (r : RVs T φ H ds vs) (h : frees ds = true) : RVs T φ' H ds vs := ⟨r.1, fun i d v a b => (r.2 i d v a b).free (frees_get h a)⟩
/-- what was there stands as it did -/
theorem RS.stays {φ1 : List Addr} {H1 : Hp} (R : RS T φ S H) (u : Up [] H φ1 H1) : RS T φ S H1 ∧ Up φ H φ H1 := by
  have U : Up φ H φ H1 := ⟨⟨[], by simp, by simp⟩, fun a o h _ => u.fr a o h (by simp), u.dom, u.frz⟩
  refine ⟨⟨R.wf, R.len, R.nd, fun n c a h1 h2 => ?_⟩, U⟩
  cases R.cell n c a h1 h2 with
  | lst h r => exact .lst (u.fr _ _ h (by simp)) (r.up R U)
  | fro h r => exact .fro (u.fr _ _ h (by simp)) (r.up R U)
  | dic h r => exact .dic (u.fr _ _ h (by simp)) (r.up R U)
  | dt h r => exact .dt (u.fr _ _ h (by simp)) (r.up R U)
  | dtf h r => exact .dtf (u.fr _ _ h (by simp)) (r.up R U)
  | odd hs h q r => exact .odd hs (u.fr _ _ h (by simp)) (q.up R U) (r.up R U)
  | dk h r => exact .dk (u.fr _ _ h (by simp)) (r.up R U)
  | set h => exact .set (u.fr _ _ h (by simp))
end
abbrev S0 : Hs := ⟨0, []⟩
/-- F, run over no cells -/
def pur (F : Fn) : Fn := fun ds S => if frees ds then (match F ds S0 with
  | .ok (.ref n) S1 => (match S1.get n with
    | some (.lst xs) => if frees xs then .ok (.ref S.n) (S.new (.lst xs)) else F ds S
    | _ => F ds S)
  | .ok d _ => if free d then .ok d S else F ds S
  | .err c d _ => if free d then .err c d S else F ds S
  | .bad => F ds S) else F ds S
theorem spM_pur {T : Ct} {F : Fn} {vs : List V} {H : Hp} {Q : VK} {E : XK} (h : spM T (pur F) vs H Q E) : spM T F vs H Q E := by
  obtain ⟨φ, S, ds, R, r, P⟩ := h
  have fall : Post (okE T φ H Q) (erF T φ H E) (F ds S) → spM T F vs H Q E := fun P => ⟨φ, S, ds, R, r, P⟩
  unfold pur at P
  split at P
  · rename_i hf
    have R0 : RS T [] S0 H := RS.start
    have r0 : RVs T [] H ds vs := r.free hf
    split at P
    · rename_i n S1 e
      split at P
      · rename_i xs hx
        split at P
        · rename_i hxs
          refine ⟨[], S0, ds, R0, r0, ?_⟩
          rw [e]
          intro φ1 H1 v u R1 r1
          cases r1 with
          | @ref _ a q =>
            obtain ⟨us, hl, rl⟩ := R1.lst q hx
            obtain ⟨Rk, Uk⟩ := R.stays u
            have ha : H a = none := by
              obtain ⟨ext, e1, e2⟩ := u.pre
              rw [List.nil_append] at e1
              subst e1
              exact e2 a (List.mem_of_getElem? q)
            have na : a ∉ φ := fun hm => by
              obtain ⟨o, ho⟩ := R.some_ hm
              rw [ha] at ho
              cases ho
            have Ua : Up φ H (φ ++ [a]) H1 := ⟨⟨[a], rfl, fun b hb => by simp at hb; subst hb; exact ha⟩, fun b o h _ => u.fr b o h (by simp), u.dom, u.frz⟩
            refine P (φ ++ [a]) H1 (.ref a) Ua ⟨Rk.wf.new _, by simp [Rk.len, Hs.new], ?_, fun m c b h1 h2 => ?_⟩ (.ref (by rw [List.getElem?_append_right (by rw [R.len]; exact Nat.le_refl _), R.len]; simp))
            · exact List.nodup_append.mpr ⟨R.nd, by simp, fun b hb c hc => by simp at hc; subst hc; exact fun e => na (e ▸ hb)⟩
            · rcases Hs.get_new_inv h1 with ⟨rfl, rfl⟩ | h1
              · have eb : b = a := by
                  rw [List.getElem?_append_right (by rw [R.len]; exact Nat.le_refl _), R.len] at h2
                  simp at h2
                  exact h2.symm
                subst eb
                exact .lst hl (rl.free hxs)
              · have hlt : m < φ.length := by rw [R.len]; exact Hs.get_lt h1
                rw [List.getElem?_append_left hlt] at h2
                have Up1 : Up φ H1 (φ ++ [a]) H1 → True := fun _ => trivial
                cases R.cell m c b h1 h2 with
                | lst h r => exact .lst (u.fr _ _ h (by simp)) (r.up R Ua)
                | fro h r => exact .fro (u.fr _ _ h (by simp)) (r.up R Ua)
                | dic h r => exact .dic (u.fr _ _ h (by simp)) (r.up R Ua)
                | dt h r => exact .dt (u.fr _ _ h (by simp)) (r.up R Ua)
                | dtf h r => exact .dtf (u.fr _ _ h (by simp)) (r.up R Ua)
                | odd hs h q r => exact .odd hs (u.fr _ _ h (by simp)) (q.up R Ua) (r.up R Ua)
                | dk h r => exact .dk (u.fr _ _ h (by simp)) (r.up R Ua)
                | set h => exact .set (u.fr _ _ h (by simp))
        · exact fall P
      · exact fall P
    · rename_i d S1 hd e
      split at P
      · rename_i hdf
        refine ⟨[], S0, ds, R0, r0, ?_⟩
        rw [e]
        intro φ1 H1 v u R1 r1
        obtain ⟨Rk, Uk⟩ := R.stays u
        exact P φ H1 v Uk Rk (r1.free hdf)
      · exact fall P
    · rename_i c d S1 e
      split at P
      · rename_i hdf
        refine ⟨[], S0, ds, R0, r0, ?_⟩
        rw [e]
        intro φ1 H1 dd v u R1 r1 x
        obtain ⟨Rk, Uk⟩ := R.stays u
        exact P φ H1 dd v Uk Rk (r1.free hdf) x
      · exact fall P
    · exact fall P
  · exact fall P
theorem pur_def {P : Program} {w : World} {K : PySem.W.Frag} {mg : Str → Option Value} {base : Heap} {T : Ct} {k : Nat} {x : Str} {f : Addr} {fd : FuncData} {ps : List Str} {F : Fn} (G : Def P w K mg base T k x f fd ps F) : Def P w K mg base T k x f fd ps (pur F) :=
  ⟨G.ok.imp fun vs H Q E h => spM_pur h, G.gl, G.kp⟩
end MR

/-! M14: more rules: constants that are tuples, i += n, sep.join, list(text), `in` a tuple of data, xs[::-1]. -/
namespace MR
open PySem PySem.Spec L2 PyProof.Rows
section
variable {X : Cx} {T : Ct} {W : WX} {pos p : Pos} {a b e : Expr} {ma mb m : Ex} {ms : Exs}
/-- a constant of the module that is a tuple of texts -/
theorem r_gTup {x : Str} {q : Addr} {o : Obj} {its : Array Value} {n : Nat} {zs : List Str} (hg : Gl X x) (hm : X.mg x = some (.ref q)) (ho : X.K.lookup q = some o) (hc : o.cls = .type "tuple") (hd : o.data = .seq its n) (hz : its.size ≤ sizeLine) (hv : Vals (zs.map V.str) its.toList) (hK : T.K = X.K := by rfl) (hdb : (x == ("__debug__" : Str)) = false := by decide) :
    PE X (.Name x pos) (tE T W (mC (.tup (zs.map D.str)))) :=
  weakE (pe_glob (v := .ref q) hg hm rfl hdb) fun _ _ _ h => tC_of (fun φ H => .tup (vs := zs.map V.str) (.inr ⟨o, its, n, by rw [hK]; exact ho, hc, hd, hz, hv⟩) (by rw [List.length_map, List.length_map]) fun i d v h1 h2 => by
    rw [List.getElem?_map] at h1 h2
    cases e : zs[i]? with
    | none => rw [e] at h1; cases h1
    | some z =>
      rw [e] at h1 h2
      cases h1
      cases h2
      exact .str z) h
/-- name += an int -/
def mAugI (i : Nat) (m : Ex) : SM := fun env S => match env[i]? with
  | some (some (.int x)) => (m env S).toS env fun d S1 => match d with
    | .int y => .nx (env.set i (some (.int (x + y)))) S1
    | _ => .bad
  | _ => .bad
theorem s_augI (i : Nat) {x : Str} {pos' : Pos} (hN : X.N.Nodup) (he : PE X e (tE T W m)) (hi : X.N[i]? = some x := by rfl) (hx : Loc X.env.scope x := by first | exact Or.inl rfl | exact Or.inr rfl) (hf : X.fn x = true ∨ X.env.scope.names.lookup x = some .local := by first | exact .inl rfl | exact .inr rfl) :
    PS X (.AugAssign (.Name x pos') .Add e pos) (tS T W (mAugI i m)) := weakS (ps_aug hN hi hx he ip_add hf) fun E σ H ⟨φ, env, S, R, Ev, P⟩ => by
  unfold mAugI at P
  split at P
  · rename_i n hn
    obtain ⟨v, hv, r⟩ := Ev.2 i _ hn
    cases r with
    | rv r =>
      cases r
      refine ⟨_, hv, tE_st R Ev P fun d S1 φ1 H1 w u R1 r1 E1 P1 => ?_⟩
      cases d with
      | int y =>
        cases r1
        exact ⟨n, y, rfl, rfl, P1 φ1 H1 _ (Up.refl _ _) R1 (E1.set (.int _) i)⟩
      | _ => exact False.elim P1
  · exact False.elim P
/-! ### sep.join -/
def strOf : D → Option Str
  | .str x => some x
  | _ => none
def joinG (x : D) (ds : List D) (S : Hs) : Res D := match x, ds with
  | .str a, [d] => match (match d with | .ref n => listOf S n | .tup xs => some xs | _ => none) with
    | some xs => match mapO strOf xs with
      | some ys => if (ys.map (·.length)).sum + ys.length * a.length ≤ line then .ok (.str (Txt.join a ys)) S else .bad
      | none => .bad
    | none => .bad
  | _, _ => .bad
theorem join_no : NoErM joinG := fun x ds S c d S' h => by
  unfold joinG at h
  repeat' (first | cases h | split at h)
theorem mapO_str {φ : List Addr} {H : Hp} : ∀ {xs : List D} {vs : List V} {ys : List Str}, RVs T φ H xs vs → mapO strOf xs = some ys → vs = ys.map V.str
  | [], vs, ys, r, h => by
    have e := r.inv_nil
    subst e
    cases h
    rfl
  | x :: xs, vs, ys, r, h => by
    obtain ⟨v, us, rfl, r1, r2⟩ := r.inv_cons
    unfold mapO at h
    cases r1 with
    | str z =>
      simp only [strOf] at h
      split at h
      · rename_i zs hzs
        cases h
        rw [List.map_cons, mapO_str r2 hzs]
      · cases h
    | _ => simp only [strOf] at h; cases h
theorem join_M : MethM T (fun x xs H Q => ∃ a p, ∃ ys : List Str, x = .str a ∧ xs = [.ref p] ∧ (SqL T.K H p (ys.map V.str) ∨ SqT T.K H p (ys.map V.str)) ∧ (ys.map (·.length)).sum + ys.length * a.length ≤ 16777216 ∧ Q (.str (Txt.join a ys)) H) joinG := by
  intro φ S H x v ds vs Q R rx r P
  unfold joinG at P
  split at P
  · rename_i a d
    cases rx
    obtain ⟨w, rfl, rw'⟩ := r.one
    split at P
    · rename_i xs hxs
      split at P
      · rename_i ys hys
        split at P
        · rename_i hl
          have q := P.now R (.str (Txt.join a ys))
          cases rw' with
          | @ref n p h =>
            obtain ⟨us, sq, ru⟩ := R.listOf h hxs
            have e := mapO_str ru hys
            subst e
            exact ⟨a, p, ys, rfl, rfl, .inl sq, hl, q⟩
          | @tup zs p us h l' r' =>
            cases hxs
            have e := mapO_str ⟨l', r'⟩ hys
            subst e
            exact ⟨a, p, ys, rfl, rfl, .inr h.sq, hl, q⟩
          | _ => cases hxs
        · exact False.elim P
      · exact False.elim P
    · exact False.elim P
  · exact False.elim P
end
/-! ### `in` a tuple of data -/
def inTB (x y : D) (S : Hs) : Option Bool := match toP S deep x, toP S deep y with
  | some d, some (.tuple ds) => if SeqAt.shaped d && SeqAt.shaped (.tuple ds) then some (ds.any fun z => PyData.eqv z d) else none
  | _, _ => none
def inTD (x y : D) (S : Hs) : Res D := match inTB x y S with
  | some b => .ok (.bl b) S
  | none => .bad
def notinTD (x y : D) (S : Hs) : Res D := match inTB x y S with
  | some b => .ok (.bl (!b)) S
  | none => .bad
theorem inT_no : NoEr inTD := fun x y S c d S' h => by
  unfold inTD at h
  split at h <;> cases h
theorem notinT_no : NoEr notinTD := fun x y S c d S' h => by
  unfold notinTD at h
  split at h <;> cases h
def rInT (f : Bool → Bool) (K : PySem.W.Frag) : R2 := fun x y H Q => ∃ d ds, Dp K H x d ∧ Dp K H y (.tuple ds) ∧ SeqAt.shaped d = true ∧ SeqAt.shaped (.tuple ds) = true ∧ Q (.bl (f (ds.any fun z => PyData.eqv z d))) H
section
variable {X : Cx}
theorem tup_lay {ds : List PyData} (h : SeqAt.shaped (.tuple ds) = true) : PyData.canLayAll0 ds = true := by
  have q := SeqAt.canLay_of_shaped h
  simpa [PyData.canLay0] using q
theorem room_tup {A : Around} {d : PyData} {ds : List PyData} (h : SeqAt.shaped d = true) (hu : A.units + 65 < cLine) : A.units + 1 + min (PyData.depthAll ds) d.depth < cLine := by
  have h1 := SeqAt.depth_of_shaped h
  have h2 : min (PyData.depthAll ds) d.depth ≤ d.depth := Nat.min_le_right _ _
  omega
theorem op_inT (hu : Deepy X) : OpR X (compareOp .In) (rInT id X.K) := by
  intro ps t st hp x y v u Q I rx ry h
  obtain ⟨d, ds, hd, he, sd, se, q⟩ := h
  have ⟨as, r1⟩ := Dp.reads I d x v hd rx
  have ⟨bs, r2⟩ := Dp.reads I (.tuple ds) y u he ry
  exact SeqAt.in_tuple_reads r2 r1 (tup_lay se) (SeqAt.canLay_of_shaped sd) (room_tup sd hu) ⟨.bl _, hp, I, rfl, q⟩
theorem op_notInT (hu : Deepy X) : OpR X (compareOp .NotIn) (rInT not X.K) := by
  intro ps t st hp x y v u Q I rx ry h
  obtain ⟨d, ds, hd, he, sd, se, q⟩ := h
  have ⟨as, r1⟩ := Dp.reads I d x v hd rx
  have ⟨bs, r2⟩ := Dp.reads I (.tuple ds) y u he ry
  exact SeqAt.notIn_tuple_reads r2 r1 (tup_lay se) (SeqAt.canLay_of_shaped sd) (room_tup sd hu) ⟨.bl _, hp, I, rfl, q⟩
end
section
variable {T : Ct}
theorem inTB_of {φ : List Addr} {H : Hp} {S : Hs} (R : RS T φ S H) {x y : D} {v u : V} (rx : RV T φ H x v) (ry : RV T φ H y u) {b : Bool} (h : inTB x y S = some b) : ∃ d ds, Dp T.K H v d ∧ Dp T.K H u (.tuple ds) ∧ SeqAt.shaped d = true ∧ SeqAt.shaped (.tuple ds) = true ∧ b = ds.any fun z => PyData.eqv z d := by
  unfold inTB at h
  split at h
  · rename_i d ds h1 h2
    split at h
    · rename_i hs
      cases h
      have hs := Bool.and_eq_true_iff.mp hs
      exact ⟨d, ds, toP_dp R _ _ _ _ rx h1, toP_dp R _ _ _ _ ry h2, hs.1, hs.2, rfl⟩
    · cases h
  · cases h
theorem inT_M : OpM T (rInT id T.K) inTD := by
  intro φ S H x y v u Q er R vx vy ne P
  unfold inTD at P
  split at P
  · rename_i b hb
    obtain ⟨d, ds, h1, h2, h3, h4, rfl⟩ := inTB_of R vx vy hb
    exact ⟨d, ds, h1, h2, h3, h4, P.now R (.bl _)⟩
  · exact False.elim P
theorem notinT_M : OpM T (rInT not T.K) notinTD := by
  intro φ S H x y v u Q er R vx vy ne P
  unfold notinTD at P
  split at P
  · rename_i b hb
    obtain ⟨d, ds, h1, h2, h3, h4, rfl⟩ := inTB_of R vx vy hb
    exact ⟨d, ds, h1, h2, h3, h4, P.now R (.bl _)⟩
  · exact False.elim P
end
section
variable {X : Cx} {T : Ct} {W : WX} {pos p : Pos} {a b e o : Expr} {ma mb m : Ex} {ms : Exs}
theorem r_inT (hu : Deepy X) (ha : PE X a (tE T W ma)) (hb : PE X b (tE T W mb)) (hm : behindInMarks .In b = false := by rfl) (hK : T.K = X.K := by rfl) : PE X (.Compare a [.In] [b] pos) (tE T W (mOp2 inTD ma mb)) := r_cmp (r := rInT id T.K) (by rw [hK]; exact op_inT hu) inT_M inT_no ha hb hm
theorem t_inT (hu : Deepy X) (ha : PE X a (tE T W ma)) (hb : PE X b (tE T W mb)) (hm : behindInMarks .In b = false := by rfl) (hK : T.K = X.K := by rfl) : PT X (.Compare a [.In] [b] pos) (tT T W (mOp2 inTD ma mb)) := t_cmp (r := rInT id T.K) (by rw [hK]; exact op_inT hu) inT_M inT_no ha hb hm
theorem r_notinT (hu : Deepy X) (ha : PE X a (tE T W ma)) (hb : PE X b (tE T W mb)) (hm : behindInMarks .NotIn b = false := by rfl) (hK : T.K = X.K := by rfl) : PE X (.Compare a [.NotIn] [b] pos) (tE T W (mOp2 notinTD ma mb)) := r_cmp (r := rInT not T.K) (by rw [hK]; exact op_notInT hu) notinT_M notinT_no ha hb hm
theorem t_notinT (hu : Deepy X) (ha : PE X a (tE T W ma)) (hb : PE X b (tE T W mb)) (hm : behindInMarks .NotIn b = false := by rfl) (hK : T.K = X.K := by rfl) : PT X (.Compare a [.NotIn] [b] pos) (tT T W (mOp2 notinTD ma mb)) := t_cmp (r := rInT not T.K) (by rw [hK]; exact op_notInT hu) notinT_M notinT_no ha hb hm
/-! ### xs[::-1] -/
def mRev (m : Ex) : Ex := fun env S => (m env S).bind fun d S1 => match d with
  | .ref n => match listOf S1 n with
    | some xs => .ok (.ref S1.n) (S1.new (.lst xs.reverse))
    | none => .bad
  | _ => .bad
theorem RVs.reverse {φ : List Addr} {H : Hp} {ds : List D} {vs : List V} (r : RVs T φ H ds vs) : RVs T φ H ds.reverse vs.reverse := by
  refine ⟨by simp [r.1], fun i d v h1 h2 => ?_⟩
  by_cases hi : i < ds.length
  · rw [List.getElem?_reverse hi] at h1
    rw [List.getElem?_reverse (by rw [← r.1]; exact hi), ← r.1] at h2
    exact r.2 _ d v h1 h2
  · rw [List.getElem?_eq_none (by simpa using hi)] at h1
    cases h1
theorem r_rev {k : Nat} {p1 p2 p3 : Pos} (he : PE X e (tE T W m)) (hK : T.K = X.K := by rfl) : PE X (.Subscript e (.Slice none none (some (.UnaryOp .USub (.Constant (.int 1) k p1) p2)) p3) pos) (tE T W (mRev m)) :=
  weakE (pe_revL he) fun σ H Q ⟨φ, env, S, R, E, P⟩ => tE_bind R E P fun d S1 φ1 H1 v u R1 r1 E1 P1 => by
    cases r1 with
    | @ref n a h =>
      simp only at P1
      split at P1
      · rename_i xs hx
        obtain ⟨vs, sq, r⟩ := R1.listOf h hx
        exact ⟨a, vs, rfl, by rw [← hK]; exact sq, okE.newLst R1 r.reverse (okE.up u P1)⟩
      · exact False.elim P1
    | _ => exact False.elim P1
/-- sep.join(xs) -/
theorem r_join {apos cpos : Pos} (ho : PE X o (tE T W m)) (ha : PA X [e] (tA T W ms)) (hK : T.K = X.K := by rfl) (hbase : attributeBase o "join" X.env (eval o X.env) = eval o X.env := by rfl)
    (hfew : ((backTo cpos (starEach [e] X.env)).all (fun x => !x.1) && (backToKw cpos (keywordEach [] X.env)).all (fun x => x.1.isSome) && decide ([e].length + ([] : List Keyword).length + (if ([] : List Keyword).isEmpty then 0 else 1) < 30)) = true := by rfl)
    (hline : (apos.endLine == cpos.line) = true := by rfl) (hs : starEach [e] X.env = (false, eval e X.env) :: starEach [] X.env := by rfl) (hpl : (backTo cpos (starEach [] X.env)).any (·.1) = false := by rfl) :
    PE X (.Call (.Attribute o "join" apos) [e] [] cpos) (tE T W (mMeth "str" joinG m ms)) :=
  r_bm (r := fun x xs H Q => ∃ a p, ∃ ys : List Str, x = .str a ∧ xs = [.ref p] ∧ (SqL T.K H p (ys.map V.str) ∨ SqT T.K H p (ys.map V.str)) ∧ (ys.map (·.length)).sum + ys.length * a.length ≤ 16777216 ∧ Q (.str (Txt.join a ys)) H)
    PySem.F.plainAttrs_str PySem.F.slot_str_join PySem.F.type_str_join (by rw [hK]; exact mt_join) join_M join_no ho ha hK hbase hfew hline hs hpl
end
end MR

/-! M15: list(text); an error that is kept beyond its suite. -/
namespace MR
open PySem PySem.Spec L2 PyProof.Rows
/-! ### list(text) -/
def rListS : List V → Hp → VK → Prop := fun xs H Q => ∃ z : Str, xs = [.str z] ∧ z.cps.size ≤ sizeLine ∧ ∀ q, H q = none → Q (.ref q) (upd H q (.lst (z.cps.toList.map fun c => .str ⟨#[c]⟩)))
theorem call_listS {X : Cx} (hc : X.calm = true) : CallR X (.type "list") rListS := by
  intro ps t st hp args us Q I rel ⟨z, is, fits, q⟩
  subst is
  have ⟨u, one, r1⟩ := vals1 rel
  subst one
  have ⟨tk0, e0⟩ := r1
  subst e0
  refine call_list_str (I.ok.hd hc) z tk0 (hn := fits) fun g tk made cap keep listed each => ?_
  have vals : Vals (z.cps.toList.map fun c => V.str ⟨#[c]⟩) made.toList := by
    apply vals_of_at
    · rw [List.length_map, Array.length_toList, Array.length_toList]
      exact each.1.symm
    · intro j x w hx hw
      rw [Array.getElem?_toList] at hw
      have ⟨c, u, hcj, is⟩ := each.2 j w hw
      rw [List.getElem?_map, Array.getElem?_toList, hcj] at hx
      injection hx with hx
      exact hx ▸ ⟨u, is⟩
  have stands : ObjOk X.prog X.w (upd hp t.heap.objs.size (.lst (z.cps.toList.map fun c => V.str ⟨#[c]⟩))) g t.heap.objs.size (.lst (z.cps.toList.map fun c => V.str ⟨#[c]⟩)) :=
    ⟨by rw [List.length_map, Array.length_toList]; exact fits, made.toList, cap, vals, by rw [Array.toArray_toList]; exact listed⟩
  exact ⟨.ref t.heap.objs.size, _, I.laid keep (Nat.le_refl _) stands, rfl, q _ (I.hok.fresh (Nat.le_refl _))⟩
def listSF (ds : List D) (S : Hs) : Res D := match ds with
  | [.str z] => if z.cps.size ≤ line then .ok (.ref S.n) (S.new (.lst (z.cps.toList.map fun c => .str ⟨#[c]⟩))) else .bad
  | _ => .bad
theorem listS_no : NoErL listSF := fun ds S c d S' h => by
  unfold listSF at h
  repeat' (first | cases h | split at h)
theorem RVs.signs {T : Ct} {φ : List Addr} {H : Hp} : ∀ cs : List Nat, RVs T φ H (cs.map fun c => D.str ⟨#[c]⟩) (cs.map fun c => V.str ⟨#[c]⟩)
  | [] => .nil
  | c :: cs => .cons (.str _) (RVs.signs cs)
theorem listS_M {T : Ct} : CallM T rListS listSF := by
  intro φ S H ds vs Q R r P
  unfold listSF at P
  split at P
  · rename_i z
    obtain ⟨v, rfl, r1⟩ := r.one
    cases r1
    split at P
    · rename_i hl
      exact ⟨z, rfl, by rw [← line_eq]; exact hl, okE.newLst R (RVs.signs _) P⟩
    · exact False.elim P
  · exact False.elim P
theorem r_listS {X : Cx} {T : Ct} {W : WX} {pos p : Pos} {e : Expr} {ms : Exs} (hc : X.calm = true) (hm : X.mg "list" = none) (ha : PA X [e] (tA T W ms)) (hg : Gl X "list" := by rfl) (he : starEach [e] X.env = (false, eval e X.env) :: starEach [] X.env := by rfl) (hpl : (backTo pos (starEach [] X.env)).any (·.1) = false := by rfl) : PE X (.Call (.Name "list" p) [e] [] pos) (tE T W (mCall listSF ms)) :=
  r_callTy (call_listS hc) listS_M listS_no hg hm (by decide +kernel) ha (by decide) (by decide) he hpl
/-! ### an error's object, tracked from now on -/
theorem adoptO {X : Cx} {od : Option Addr} {pins : List (Addr × Obj)} {st : L2.St} {hp : Hp} {s : Shared} {a C : Addr} {oe : Obj} {vs : Array Value} (I : Inv X pins st hp s) (at_ : s.heap.get? a = some oe) (hc : oe.cls = .ref C) (hd : oe.dict = od) (hf : oe.data = .fields vs)
    (na : hp a = none) (nL : a ≠ X.env.locals) (nP : ∀ p ∈ X.pn ++ pins, p.1 ≠ a) (nE : ∀ o, X.s_0.heap.get? a ≠ some o) : Inv X pins st (upd hp a (.ext fun h => ∃ oe vs, h.get? a = some oe ∧ oe.cls = .ref C ∧ oe.dict = od ∧ oe.data = .fields vs)) s := by
  have ne : ∀ {b : Addr} {o : HO}, hp b = some o → b ≠ a := fun q e => by rw [e, na] at q; cases q
  refine { ok := I.ok, os := I.os, bare := I.bare, loc := I.loc, cell := I.cell, len := I.len, base := ⟨I.base.keep, I.base.slot, ?_, I.base.there, ?_, ?_, ?_⟩, free := ?_, freeC := ?_, pin := ?_, hok := ?_ }
  · intro b o e n x
    have hb : b ≠ a := fun q => nE o (q ▸ e)
    exact (upd_ne hb).trans (I.base.free b o e n x)
  · intro b xs e
    have q := I.base.tups b xs e
    exact (upd_ne (ne q)).trans q
  · intro b o u e
    have q := I.base.frzs b o u e
    exact (upd_ne (ne q)).trans q
  · intro b ps e
    have ⟨more, q⟩ := I.base.tbls b ps e
    exact ⟨more, (upd_ne (ne q)).trans q⟩
  · exact (upd_ne nL.symm).trans I.free
  · intro x c e
    have hcn : c ≠ a := fun q => by
      have ⟨v, hv⟩ := I.cell x c e
      subst q
      obtain ⟨o, ho, hdat⟩ := hv
      rw [at_] at ho
      cases ho
      rw [hf] at hdat
      cases hdat
    exact (upd_ne hcn).trans (I.freeC x c e)
  · intro p hp'
    have ⟨e, n, r⟩ := I.pin p hp'
    exact ⟨e, (upd_ne (nP p hp')).trans n, r⟩
  · intro b ob e
    by_cases hb : b = a
    · subst hb
      rw [upd_same] at e
      cases e
      exact ⟨⟨oe, vs, at_, hc, hd, hf⟩, ⟨oe, at_⟩, fun h1 h2 ⟨o1, w1, e1, e2⟩ k => ⟨o1, w1, k _ e1, e2⟩⟩
    · rw [upd_ne hb] at e
      exact (I.hok b ob e).stay (fun c u _ q => q) (fun c q => (upd_ne (ne q)).trans q) fun c xs q => (upd_ne (ne q)).trans q
theorem adopt {X : Cx} {pins : List (Addr × Obj)} {st : L2.St} {hp : Hp} {s : Shared} {a C dd : Addr} {oe : Obj} {vs : Array Value} (I : Inv X pins st hp s) (at_ : s.heap.get? a = some oe) (hc : oe.cls = .ref C) (hd : oe.dict = some dd) (hf : oe.data = .fields vs)
    (na : hp a = none) (nL : a ≠ X.env.locals) (nP : ∀ p ∈ X.pn ++ pins, p.1 ≠ a) (nE : ∀ o, X.s_0.heap.get? a ≠ some o) : Inv X pins st (upd hp a (ExcT a C dd)) s := adoptO I at_ hc hd hf na nL nP nE
end MR

/-! M16: try: .. except X as e: kept = e; kept.value behind it. -/
namespace MR
open PySem PySem.Spec L2 PyProof.Rows
/-- the clause's wish: the error e (of the class at C, its dict dd) is tracked from now on, the name at j holds it, that at i is gone -/
def wKeep (K : PySem.W.Frag) (kx : Value) (i j : Nat) (Wout : WX) (D : Ends) : WX := fun kl dc st hp => ∃ b, PySem.W.exmOne K kl kx = some b ∧
  (b = true → ∃ C dd, kl = .ref C ∧ dc = some dd ∧ ∀ a, hp a = none → D.nx (((st.set i (some (.ref a))).set j (some (.ref a))).set i none) (upd hp a (ExcT a C dd))) ∧ (b = false → Wout kl dc st hp)
section
variable {X : Cx} {Wout : WX} {D : Ends} {ps0 : List (Addr × Obj)} {st : L2.St} {hp : Hp} {kl : Value} {dc : Option Addr} {e : Addr} {B : Heap} {t0 t1 : Shared}
theorem Caught.new_ (c : Caught X ps0 st hp kl dc e B t0 t1) : ∀ o, t0.heap.get? e ≠ some o := fun o at_ => by
  have inB := c.kept e o at_ c.apart
  rw [c.fly.2.1] at inB
  cases inB
theorem Caught.keeps (c : Caught X ps0 st hp kl dc e B t0 t1) (hs : X.stack = X.env :: X.outer) (hf : X.env.frame = some X.env.locals) (hN : X.N.Nodup) (hex : X.ex = []) (tk : Takes X Wout) {x n y : Str} {kx : Value} {i j : Nat} {np py p2 p3 pc : Pos} (nm : Names X x kx) (hi : X.N[i]? = some n) (hln : X.env.kindOf n = some .local)
    (hj : X.N[j]? = some y) (hly : Loc X.env.scope y) (hfy : X.fn y = true ∨ X.env.scope.names.lookup y = some .local) (hil : i < st.length) (hd1 : (n == ("__debug__" : Str)) = false) (hd2 : (n == ("__classdict__" : Str)) = false)
    (hsw : swapsWith (.Name n p2) (some (.Name y py)) p3.line X.env = pure false) (w : wKeep X.K kx i j Wout D kl dc st hp) :
    wpAny (model X.prog X.w) X.A (handleBy (.ref e) X.env [.ExceptHandler (some (.Name x np)) (some n) [.Assign [.Name y py] (.Name n p2) p3] pc]) (SP X ps0 D) X.xe t1 := by
  have ⟨yes, asked, ifYes, ifNo⟩ := w
  have ⟨ne1, ne2⟩ := c.off hs hf
  have ⟨o1, v1, at1, z1, d1⟩ := c.fly.there
  have I1 := c.now.suite at1 d1 c.none_ ne1 ne2
  have kind : PySem.W.Looks (model X.prog X.w) t1.heap (typeOf (.ref e)) kl := fun _ _ _ _ same q => wpAny_typeOf_ref (same _ _ at1) (z1.1.symm ▸ q)
  have matched := PySem.W.exm_one (M := model X.prog X.w) c.now.kIn kind asked
  refine wpAny_handleBy_cons (codeAny_handlers_test ?_) (fun q => nomatch q)
  have named : ∀ {R : Value → Shared → Prop} {N : Value → Shared → Prop}, R kx t1 → wpAny (model X.prog X.w) (X.A.mark (some (.ref e))) (eval (.Name x np) X.env) R N t1 := by
    intro R N r
    have ⟨g1, g2, g3⟩ := nm
    rcases g3 with g3 | ⟨g3, g4, g5⟩
    · exact ld_glob (X := X.suite e ((e, o1) :: (X.pn ++ ps0))) I1 g1 g3 r g2
    · exact ld_blt (X := X.suite e ((e, o1) :: (X.pn ++ ps0))) I1 g1 g3 g4 r g5 g2
  apply named
  apply matched.here
  cases yes
  · exact c.pass hf tk (ifNo rfl)
  · apply codeAny_handlers_suite_as
    apply HandSPX.lands_againZ c.fly
    intro g fl up
    have c2 := c.again fl up
    have ⟨o2, v2, at2, z2, d2⟩ := fl.there
    have I2 := c2.now.suite at2 d2 c.none_ ne1 ne2
    refine store_ok (X := X.suite e ((e, o2) :: (X.pn ++ ps0))) (v := .ref e) I2 hN hi (.inl hln) rfl (fun t3 I3 => ?_) (.inr hln)
    have ⟨C, dd, isC, isD, on⟩ := ifYes rfl
    have body : PSs (X.suite e ((e, o2) :: (X.pn ++ ps0))) [.Assign [.Name y py] (.Name n p2) p3] _ := pss_one (ps_set (X := X.suite e ((e, o2) :: (X.pn ++ ps0))) (i := j) hN hj hly (pe_var (X := X.suite e ((e, o2) :: (X.pn ++ ps0))) (i := i) hi (.inl hln) hd1 hd2) hsw hfy)
    have ran := body.run [] t3 (st.set i (some (.ref e))) hp { nx := fun st4 hp4 => st4 = (st.set i (some (.ref e))).set j (some (.ref e)) ∧ hp4 = hp, rt := fun _ _ => False, bk := fun _ _ => False, ct := fun _ _ => False } I3 ⟨.ref e, List.getElem?_set_self hil, rfl, rfl⟩
    refine wpAny_mono ran (fun f t4 ended => ?_) fun _ _ none_ => none_.elim
    cases f with
    | next =>
      have ⟨st4, hp4, I4, q1, q2⟩ := ended
      subst q1 q2
      refine gone_ok (X := X.suite e ((e, o2) :: (X.pn ++ ps0))) I4 hN hi hln fun t5 I5 => ?_
      have ⟨at5, _, _, _, _⟩ := I5.pin (e, o2) (List.mem_append_left _ List.mem_cons_self)
      have J : Inv X ps0 _ hp4 t5 := I5.unsuite c.inv.ok
      have nP : ∀ p ∈ X.pn ++ ps0, p.1 ≠ e := fun p hp' q => by
        have ⟨at0, _⟩ := c.inv.pin p hp'
        rw [q] at at0
        exact c.new_ _ at0
      have nE : ∀ o, X.s_0.heap.get? e ≠ some o := fun o at0 => by
        have ⟨o', q⟩ := c.inv.base.there e o at0 (by rw [hex]; exact List.not_mem_nil)
        exact c.new_ _ q
      exact ⟨_, _, adopt J at5 (z2.1.trans isC) (z2.2.trans isD) d2 c.none_ ne1 nP nE, on e c.none_⟩
    | ret u => have ⟨_, _, _, _, _, q⟩ := ended; exact q.elim
    | brk => have ⟨_, _, _, q⟩ := ended; exact q.elim
    | cont => have ⟨_, _, _, q⟩ := ended; exact q.elim
theorem ps_try_keep {body : List Stmt} {x n y : Str} {kx : Value} {i j : Nat} {np py p2 p3 pc pos : Pos} {tb : WX → TS} (hs : X.stack = X.env :: X.outer) (hf : X.env.frame = some X.env.locals) (hN : X.N.Nodup) (hex : X.ex = []) (tk : Takes X Wout)
    (hb : ∀ (W : WX) (pn : List (Addr × Obj)) (xe : Value → Shared → Prop), Takes (X.tr pn xe) W → PassesOwn (model X.prog X.w) X.A X.env xe → PSs (X.tr pn xe) body (tb W)) (nm : Names X x kx) (hi : X.N[i]? = some n) (hln : X.env.kindOf n = some .local)
    (hj : X.N[j]? = some y) (hly : Loc X.env.scope y) (hfy : X.fn y = true ∨ X.env.scope.names.lookup y = some .local) (hd1 : (n == ("__debug__" : Str)) = false) (hd2 : (n == ("__classdict__" : Str)) = false) (hsw : swapsWith (.Name n p2) (some (.Name y py)) p3.line X.env = pure false) :
    PS X (.Try body [.ExceptHandler (some (.Name x np)) (some n) [.Assign [.Name y py] (.Name n p2) p3] pc] [] [] pos) (fun D st hp => tb (wKeep X.K kx i j Wout D) D st hp) := by
  constructor
  intro ps0 t st hp D I h
  have frames : X.A.frames = some (X.env :: X.outer) := I.ok.frames.trans (congrArg some hs)
  let hds : List ExceptHandler := [.ExceptHandler (some (.Name x np)) (some n) [.Assign [.Name y py] (.Name n p2) p3] pc]
  let onError : Value → Shared → Prop := fun v t1 => wpAny (model X.prog X.w) X.A (noteFrame v X.env) (fun _ t2 => wpAny (model X.prog X.w) X.A (setFlight v none) (fun _ t3 => wpAny (model X.prog X.w) X.A (handleBy v X.env hds) (SP X ps0 D) X.xe t3) X.xe t2) X.xe t1
  have caught : Takes (X.tr (X.pn ++ ps0) onError) (wKeep X.K kx i j Wout D) := by
    intro u t1 air
    have ⟨e, B, t0, ps1, st1, hp1, kl, dc, is, J, kept, slots, sky, none_, os, bare, w⟩ := air
    subst is
    have J0 : Inv X ps0 st1 hp1 t0 := J.ofTry I.ok
    have sky0 : Sky B (X.env :: X.outer) e (Zc kl dc) X.env.locals t1.heap := hs ▸ sky
    have hil : i < st1.length := by
      rw [J0.len]
      exact (List.getElem?_eq_some_iff.mp hi).1
    show wpAny (model X.prog X.w) X.A (noteFrame (.ref e) X.env) _ _ _
    apply Sky.land Zc.steady frames hf sky0
    intro g fl up
    exact Caught.keeps (D := D) (t1 := { t1 with heap := g }) ⟨J0, kept, slots.trans up, hs ▸ fl, none_, os, bare⟩ hs hf hN hex tk nm hi hln hj hly hfy hil hd1 hd2 hsw w
  apply wpAny_Try_except
  refine wpAny_mono ((hb _ (X.pn ++ ps0) onError caught PassesOwn.looking).run [] t st hp D (I.toTry _) h) (fun f t1 ended => ?_) fun _ _ is => is
  cases f with
  | ret u => have ⟨v, st1, hp1, J, rel, q⟩ := ended; exact ⟨v, st1, hp1, J.ofTry I.ok, rel, q⟩
  | next => have ⟨st1, hp1, J, q⟩ := ended; exact wpAny_execs_nil ⟨st1, hp1, J.ofTry I.ok, q⟩
  | brk => have ⟨st1, hp1, J, q⟩ := ended; exact ⟨st1, hp1, J.ofTry I.ok, q⟩
  | cont => have ⟨st1, hp1, J, q⟩ := ended; exact ⟨st1, hp1, J.ofTry I.ok, q⟩
end
/-! ### the mirror -/
def mTryK (isa : Isa) (kn : List Str) (b : SM) (x : Str) (i j : Nat) : SM := fun env S => match b env S with
  | .err c d env1 S1 => if c ∈ kn then (if isa c x then .nx ((env1.set j (some (.er c d))).set i none) S1 else .err c d env1 S1) else .bad
  | r => r
section
variable {T : Ct} {φ : List Addr} {H : Hp} {S : Hs}
/-- the names behind such a clause -/
theorem RE.kept {env : EnvD} {st : L2.St} {c : Str} {d : D} {v : V} {a dd : Addr} {i j : Nat} (R : RS T φ S H) (E : RE T φ H env st) (hij : i ≠ j) (na : H a = none) (hd : H dd = some (.xd (fV v))) (r : RV T φ H d v) :
    RS T φ S (upd H a (ExcT a (T.ca c) dd)) ∧ Up φ H φ (upd H a (ExcT a (T.ca c) dd)) ∧ RE T φ (upd H a (ExcT a (T.ca c) dd)) ((env.set j (some (.er c d))).set i none) (((st.set i (some (.ref a))).set j (some (.ref a))).set i none) := by
  obtain ⟨R1, u1⟩ := R.laid (o := ExcT a (T.ca c) dd) na
  have rer : RV T φ (upd H a (ExcT a (T.ca c) dd)) (.er c d) (.ref a) := .er upd_same (R.stay u1 hd rfl) (r.up R u1)
  have E1 := E.up R u1
  refine ⟨R1, u1, by simp [E1.1], fun k e h => ?_⟩
  by_cases hk : i = k
  · subst hk
    by_cases hl : i < (env.set j (some (.er c d))).length
    · rw [List.getElem?_set_self hl] at h; cases h
    · rw [List.getElem?_eq_none (by simpa using hl)] at h; cases h
  · rw [List.getElem?_set_ne hk] at h ⊢
    by_cases hkj : j = k
    · subst hkj
      by_cases hl : j < env.length
      · rw [List.getElem?_set_self hl] at h
        cases h
        exact ⟨_, List.getElem?_set_self (by rw [List.length_set, ← E1.1]; exact hl), .rv rer⟩
      · rw [List.getElem?_eq_none (by simpa using hl)] at h; cases h
    · rw [List.getElem?_set_ne hkj] at h
      obtain ⟨w, h1, h2⟩ := E1.2 k e h
      exact ⟨w, by rw [List.getElem?_set_ne hkj, List.getElem?_set_ne hk]; exact h1, h2⟩
end
theorem s_tryK {X : Cx} {T : Ct} {W : WX} {isa : Isa} {kn : List Str} {body : List Stmt} {x n y : Str} (i j : Nat) {np py p2 p3 pc pos : Pos} {mb : SM} (hs : X.stack = X.env :: X.outer) (hf : X.env.frame = some X.env.locals) (hN : X.N.Nodup) (hex : X.ex = []) (tk : Takes X W)
    (hb : ∀ (W : WX) (pn : List (Addr × Obj)) (xe : Value → Shared → Prop), Takes (X.tr pn xe) W → PassesOwn (model X.prog X.w) X.A X.env xe → PSs (X.tr pn xe) body (tS T W mb))
    (hg : Gl X x) (hm : X.mg x = some (.ref (T.ca x))) (hx : ∀ c ∈ kn, PySem.W.exmOne X.K (.ref (T.ca c)) (.ref (T.ca x)) = some (isa c x)) (hi : X.N[i]? = some n := by rfl) (hln : X.env.kindOf n = some .local := by rfl) (hj : X.N[j]? = some y := by rfl) (hij : i ≠ j := by decide)
    (hly : Loc X.env.scope y := by first | exact Or.inl rfl | exact Or.inr rfl) (hfy : X.fn y = true ∨ X.env.scope.names.lookup y = some .local := by first | exact .inl rfl | exact .inr rfl) (hd0 : (x == ("__debug__" : Str)) = false := by decide +kernel) (hd1 : (n == ("__debug__" : Str)) = false := by decide +kernel) (hd2 : (n == ("__classdict__" : Str)) = false := by decide +kernel)
    (hsw : swapsWith (.Name n p2) (some (.Name y py)) p3.line X.env = pure false := by rfl) :
    PS X (.Try body [.ExceptHandler (some (.Name x np)) (some n) [.Assign [.Name y py] (.Name n p2) p3] pc] [] [] pos) (tS T W (mTryK isa kn mb x i j)) :=
  weakS (ps_try_keep (tb := fun W => tS T W mb) hs hf hN hex tk hb ⟨hg, hd0, .inl hm⟩ hi hln hj hly hfy hd1 hd2 hsw) fun D0 st H ⟨φ, env, S, R, E, P⟩ => by
  refine ⟨φ, env, S, R, E, ?_⟩
  unfold mTryK at P
  cases e : mb env S with
  | err c d env1 S1 =>
    rw [e] at P
    by_cases hc : c ∈ kn
    · have P' : PostS T W φ H D0 (if c ∈ kn then (if isa c x then .nx ((env1.set j (some (.er c d))).set i none) S1 else .err c d env1 S1) else .bad) := P
      rw [if_pos hc] at P'
      intro φ1 H1 st1 dd v u R1 E1 r1 xd
      refine ⟨isa c x, hx c hc, fun yes => ?_, fun no => ?_⟩
      · rw [if_pos yes] at P'
        refine ⟨T.ca c, dd, rfl, rfl, fun a na => ?_⟩
        obtain ⟨R2, u2, E2⟩ := RE.kept (c := c) R1 E1 hij na xd r1
        exact P' φ1 _ _ (u.trans u2) R2 E2
      · rw [no, if_neg Bool.false_ne_true] at P'
        exact P' φ1 H1 st1 dd v u R1 E1 r1 xd
    · have P' : PostS T W φ H D0 (if c ∈ kn then (if isa c x then .nx ((env1.set j (some (.er c d))).set i none) S1 else .err c d env1 S1) else .bad) := P
      rw [if_neg hc] at P'
      exact False.elim P'
  | _ =>
    rw [e] at P
    exact P
/-! ### kept.value -/
def mVal (kn : List Str) (m : Ex) : Ex := fun env S => (m env S).bind fun d S1 => match d with
  | .er c d => if c ∈ kn then .ok d S1 else .bad
  | _ => .bad
/-- the reading of a kept error's field -/
def tXv (kn : List Str) (ca : Str → Addr) (te : TE) : TE := fun σ H Q => te σ H fun x H1 => ∃ a c dd v, x = .ref a ∧ c ∈ kn ∧ H1 a = some (ExcT a (ca c) dd) ∧ H1 dd = some (.xd (fV v)) ∧ Q v H1
theorem pe_xv {X : Cx} {kn : List Str} {ca : Str → Addr} {e : Expr} {te : TE} {pos : Pos} (F : ∀ c ∈ kn, XfC X.K (ca c)) (no : ∀ c ∈ kn, PySem.W.findIn X.K (.ref (ca c)) "value" = some none) (he : PE X e te) (hb : attributeBase e "value" X.env (eval e X.env) = eval e X.env := by rfl) :
    PE X (.Attribute e "value" pos) (tXv kn ca te) := by
  constructor
  intro ps t st hp Q I h
  refine attr_of hb (thn (he.run ps t st hp _ I h) fun u t1 got => ?_)
  have ⟨x, hp1, J, rel, a, c, dd, v, is, hc, tracked, own, q⟩ := got
  subst is
  cases (show u = Value.ref a from rel)
  have ⟨⟨oe, vs, at_, kl, di, fl⟩, _⟩ := J.hok a _ tracked
  have ⟨mA, ns, each⟩ := J.hok dd _ own
  have ⟨od, ho, look⟩ := lookIn_ns ns
  have has : List.lookup ("value" : Str) (fV v) = some v := by simp [fV, List.lookup]
  have ⟨u, hu, ru⟩ := RelO.some_of (v := v) (o := mA "value") (by rw [← has]; exact each "value")
  have inst : PySem.W.InstAt t1.heap a oe (ca c) (some od) := ⟨at_, kl, by unfold PySem.W.notCls; rw [fl] <;> rfl, by rw [di]; exact ho⟩
  exact HandSPX.exc_get J.kIn inst (F c hc).ga (F c hc).gg (F c hc).exC (PySem.W.findObj_own (F c hc).hdC (no c hc) rfl (by rw [look, hu])) (handed_of ru) ⟨v, hp1, J.tok _, ru, q⟩
theorem r_val {X : Cx} {T : Ct} {W : WX} {isa : Isa} {kn cl : List Str} {e : Expr} {m : Ex} {pos : Pos} (F : ErrK X.K T.ca isa kn cl) (he : PE X e (tE T W m)) (hb : attributeBase e "value" X.env (eval e X.env) = eval e X.env := by rfl) : PE X (.Attribute e "value" pos) (tE T W (mVal kn m)) :=
  weakE (pe_xv (kn := kn) (ca := T.ca) F.xf F.no he hb) fun σ H Q ⟨φ, env, S, R, E, P⟩ => tE_bind R E P fun d S1 φ1 H1 v u R1 r1 E1 P1 => by
    cases r1 with
    | @er c d a dd w h hd r =>
      simp only at P1
      split at P1
      · rename_i hc
        exact ⟨a, c, dd, w, rfl, hc, h, hd, P1 φ1 H1 _ u R1 r⟩
      · exact False.elim P1
    | _ => exact False.elim P1
end MR

/-! M17: a text as a key beside one tuple. -/
namespace MR
open PySem PySem.Spec L2 PyProof.Rows
section
variable {prog : Program} {w : World} {A : Around} {E : Value → Shared → Prop} {s : Shared} {d b : Addr} {o : Obj} {ep : Nat} {h0 ht : Int} {v0 v1 : Value} {x : Str} {t t1 : Tok} {ks : List NestedKey}
theorem tell_no {key : Value} {st : List Value} {Q : Bool → Shared → Prop} (hk : QuietAt prog w 8 s key) (hs : ∀ v ∈ st, QuietAt prog w 8 s v) (h : Q false s) : wpAny (model prog w) A (tableMayTell key st) Q E s := by
  unfold tableMayTell
  split
  · exact wpAny_pure h
  · refine wpAny_bind (hk _ _ _ ?_)
    simp only [if_false, Bool.not_true, Bool.false_eq_true]
    refine wpAny_bind (wpAny_forIn_list _ (fun rest r s' => s' = s ∧ r = (none, ()) ∧ ∀ v ∈ rest, v ∈ st) _ ?_ ?_ _ _ ⟨rfl, rfl, fun v hv => hv⟩)
    · intro y rest r s' ⟨e1, e2, hr⟩
      subst e1
      subst e2
      refine wpAny_bind (hs y (hr y (by simp)) _ _ _ ?_)
      simp only [if_false, Bool.not_true, Bool.false_eq_true]
      exact wpAny_pure ⟨rfl, rfl, fun v hv => hr v (by simp [hv])⟩
    · intro r s' ⟨e1, e2, _⟩
      subst e1
      subst e2
      exact wpAny_pure h
/-- the two entries -/
abbrev enT (h0 : Int) (b : Addr) (v0 : Value) : DictEntry := ⟨h0, .ref b, v0⟩
abbrev enS (ht : Int) (x : Str) (t : Tok) (v1 : Value) : DictEntry := ⟨ht, .str x t, v1⟩
theorem eq_ts (hk : NestedIs s.heap (.tup ks) (.ref b)) (hu : A.units < cLine) : SeqAt.EqAt A s (.ref b) (.str x t) false :=
  eqAt_key (.tup ks) (.text x) A s _ _ hk (.text x t) (by simp [NestedKey.depth]; omega)
theorem eq_st (hk : NestedIs s.heap (.tup ks) (.ref b)) (hu : A.units < cLine) : SeqAt.EqAt A s (.str x t) (.ref b) false :=
  eqAt_key (.text x) (.tup ks) A s _ _ (.text x t) hk (by simp [NestedKey.depth]; omega)
/-- beside one tuple, the text is not there -/
theorem find_no {Q : Option Nat → Shared → Prop} (hk : NestedIs s.heap (.tup ks) (.ref b)) (dk : (NestedKey.tup ks).depth ≤ 8) (hu : A.units < cLine)
    (ho : s.heap.get? d = some o) (hd : o.data = .dict #[enT h0 b v0] ep) (h : Q none s) : wpAny (model prog w) A (dictFind d (.str x t) ht) Q E s := by
  unfold dictFind
  refine wpAny_holding (wpAny_bind (wpAny_dictEntries ho hd ?_))
  dsimp only
  rw [if_neg (by simp [isExactStrKey])]
  by_cases hh : h0 = ht
  · subst hh
    have pl : placesWithHash (#[enT h0 b v0]).size (fun i => (#[enT h0 b v0])[i]?.map (·.hash)) h0 = [0] := by simp [placesWithHash, List.range_succ]
    have st : ([0] : List Nat).filterMap (fun i => (#[enT h0 b v0])[i]?.map (·.key)) = [.ref b] := by simp
    rw [pl, st]
    rw [if_neg (by simp [carriedByValue]), if_neg (by simp)]
    refine wpAny_bind (tell_no (.byValue rfl) (fun v hv => ?_) ?_)
    · simp at hv
      subst hv
      exact quiet_key _ _ _ _ hk dk
    · simp only [if_false, Bool.false_and, Bool.false_eq_true]
      refine wpAny_bind (wpAny_forIn_list _ (fun rest r s' => s' = s ∧ r = (none, none) ∧ (rest = [0] ∨ rest = [])) _ ?_ ?_ _ _ ⟨rfl, rfl, .inl rfl⟩)
      · intro y rest r s' ⟨e1, e2, hr⟩
        subst e1
        subst e2
        rcases hr with hr | hr
        · cases hr
          simp only [List.getElem?_toArray, List.getElem?_cons_zero]
          rw [if_pos (by simp)]
          refine wpAny_bind (wpAny_dictEpoch ho hd (wpAny_bind (eq_ts hk hu _ _ _ _ (wpAny_bind (wpAny_dictEpoch ho hd ?_)))))
          simp only [if_false, bne_self_eq_false, Bool.false_eq_true]
          exact wpAny_bind (wpAny_rule (wpAny_pure ⟨rfl, rfl, by simp⟩))
        · cases hr
      · intro r s' ⟨e1, e2, _⟩
        subst e1
        subst e2
        exact wpAny_pure h
  · have pl : placesWithHash (#[enT h0 b v0]).size (fun i => (#[enT h0 b v0])[i]?.map (·.hash)) ht = [] := by simp [placesWithHash, List.range_succ, hh]
    rw [pl]
    rw [if_pos (by simp [carriedByValue])]
    unfold dictWalkPlain
    refine wpAny_bind (wpAny_forIn_list _ (fun rest r s' => s' = s ∧ r = (none, ()) ∧ rest = []) _ ?_ ?_ _ _ ⟨rfl, rfl, rfl⟩)
    · intro y rest r s' ⟨_, _, hr⟩
      cases hr
    · intro r s' ⟨e1, e2, _⟩
      subst e1
      subst e2
      exact wpAny_pure h
/-- beside one tuple, the text stands second -/
theorem find_yes {Q : Option Nat → Shared → Prop} (hk : NestedIs s.heap (.tup ks) (.ref b)) (dk : (NestedKey.tup ks).depth ≤ 8) (hu : A.units < cLine)
    (ho : s.heap.get? d = some o) (hd : o.data = .dict #[enT h0 b v0, enS ht x t1 v1] ep) (h : Q (some 1) s) : wpAny (model prog w) A (dictFind d (.str x t) ht) Q E s := by
  unfold dictFind
  refine wpAny_holding (wpAny_bind (wpAny_dictEntries ho hd ?_))
  dsimp only
  rw [if_neg (by simp [isExactStrKey])]
  have e1 : SeqAt.EqAt A s (.str x t1) (.str x t) true := by
    have q := SeqAt.EqAt.str_str (A := A) (s := s) x t1 x t
    rw [beq_self_eq_true] at q
    exact q
  by_cases hh : h0 = ht
  · subst hh
    have pl : placesWithHash (#[enT h0 b v0, enS h0 x t1 v1]).size (fun i => (#[enT h0 b v0, enS h0 x t1 v1])[i]?.map (·.hash)) h0 = [0, 1] := by simp [placesWithHash, List.range_succ]
    have st : ([0, 1] : List Nat).filterMap (fun i => (#[enT h0 b v0, enS h0 x t1 v1])[i]?.map (·.key)) = [.ref b, .str x t1] := by simp
    rw [pl, st]
    rw [if_neg (by simp [carriedByValue]), if_neg (by simp)]
    refine wpAny_bind (tell_no (.byValue rfl) (fun v hv => ?_) ?_)
    · simp at hv
      rcases hv with hv | hv
      · subst hv
        exact quiet_key _ _ _ _ hk dk
      · subst hv
        exact .byValue rfl
    · simp only [if_false, Bool.false_and, Bool.false_eq_true]
      refine wpAny_bind (wpAny_forIn_list _ (fun rest r s' => s' = s ∧ ((r = (none, none) ∧ (rest = [0, 1] ∨ rest = [1])) ∨ (r = (none, some 1) ∧ rest = []))) _ ?_ ?_ _ _ ⟨rfl, .inl ⟨rfl, .inl rfl⟩⟩)
      · intro y rest r s' ⟨e2, hr⟩
        subst e2
        rcases hr with ⟨rfl, hr | hr⟩ | ⟨rfl, hr⟩
        · cases hr
          simp only [List.getElem?_toArray, List.getElem?_cons_zero]
          rw [if_pos (by simp)]
          refine wpAny_bind (wpAny_dictEpoch ho hd (wpAny_bind (eq_ts hk hu _ _ _ _ (wpAny_bind (wpAny_dictEpoch ho hd ?_)))))
          simp only [if_false, bne_self_eq_false, Bool.false_eq_true]
          exact wpAny_bind (wpAny_rule (wpAny_pure ⟨rfl, .inl ⟨rfl, by simp⟩⟩))
        · cases hr
          simp only [List.getElem?_toArray, List.getElem?_cons_succ, List.getElem?_cons_zero]
          rw [if_pos (by simp)]
          refine wpAny_bind (wpAny_dictEpoch ho hd (wpAny_bind (e1 _ _ _ _ (wpAny_bind (wpAny_dictEpoch ho hd ?_)))))
          simp only [bne_self_eq_false, Bool.false_eq_true, if_false, if_true, Option.isSome_none]
          refine wpAny_bind (wpAny_rule ?_); rw [if_neg (by simp)]
          exact wpAny_pure ⟨rfl, .inr ⟨rfl, by simp⟩⟩
        · cases hr
      · intro r s' ⟨e2, hr⟩
        subst e2
        rcases hr with ⟨_, hr | hr⟩ | ⟨rfl, _⟩
        · cases hr
        · cases hr
        · exact wpAny_pure h
  · have pl : placesWithHash (#[enT h0 b v0, enS ht x t1 v1]).size (fun i => (#[enT h0 b v0, enS ht x t1 v1])[i]?.map (·.hash)) ht = [1] := by simp [placesWithHash, List.range_succ, hh]
    have st : ([1] : List Nat).filterMap (fun i => (#[enT h0 b v0, enS ht x t1 v1])[i]?.map (·.key)) = [.str x t1] := by simp
    rw [pl, st]
    rw [if_pos (by simp [carriedByValue])]
    unfold dictWalkPlain
    refine wpAny_bind (wpAny_forIn_list _ (fun rest r s' => s' = s ∧ r = (none, ()) ∧ rest = [1]) _ ?_ ?_ _ _ ⟨rfl, rfl, rfl⟩)
    · intro y rest r s' ⟨e2, e3, hr⟩
      subst e2
      subst e3
      cases hr
      simp only [List.getElem?_toArray, List.getElem?_cons_succ, List.getElem?_cons_zero]
      rw [if_pos (by simp)]
      refine wpAny_bind (wpAny_dictEpoch ho hd (wpAny_bind (e1 _ _ _ _ (wpAny_bind (wpAny_dictEpoch ho hd ?_)))))
      simp only [bne_self_eq_false, Bool.false_eq_true, if_false, if_true]
      refine wpAny_bind (wpAny_rule (wpAny_pure ?_)); exact wpAny_pure h
    · intro r s' ⟨_, _, hr⟩
      cases hr
/-- the tuple's own place beside a text -/
theorem find_own {Q : Option Nat → Shared → Prop} (hk : NestedIs s.heap (.tup ks) (.ref b)) (dk : (NestedKey.tup ks).depth ≤ 8) (hu : A.units + 8 < cLine)
    (ho : s.heap.get? d = some o) (hd : o.data = .dict #[enT h0 b v0, enS ht x t1 v1] ep) (h : Q (some 0) s) : wpAny (model prog w) A (dictFind d (.ref b) h0) Q E s := by
  unfold dictFind
  refine wpAny_holding (wpAny_bind (wpAny_dictEntries ho hd ?_))
  dsimp only
  rw [if_neg (by simp [carriedByValue]), if_neg (by simp)]
  have e1 : SeqAt.EqAt A s (.ref b) (.ref b) true := SeqAt.EqAt.same _
  by_cases hh : h0 = ht
  · subst hh
    have pl : placesWithHash (#[enT h0 b v0, enS h0 x t1 v1]).size (fun i => (#[enT h0 b v0, enS h0 x t1 v1])[i]?.map (·.hash)) h0 = [0, 1] := by simp [placesWithHash, List.range_succ]
    have st : ([0, 1] : List Nat).filterMap (fun i => (#[enT h0 b v0, enS h0 x t1 v1])[i]?.map (·.key)) = [.ref b, .str x t1] := by simp
    rw [pl, st]
    rw [if_neg (by simp)]
    refine wpAny_bind (tell_no (quiet_key _ _ _ _ hk dk) (fun v hv => ?_) ?_)
    · simp at hv
      rcases hv with hv | hv
      · subst hv
        exact quiet_key _ _ _ _ hk dk
      · subst hv
        exact .byValue rfl
    · simp only [if_false, Bool.false_and, Bool.false_eq_true]
      refine wpAny_bind (wpAny_forIn_list _ (fun rest r s' => s' = s ∧ ((r = (none, none) ∧ rest = [0, 1]) ∨ (r = (none, some 0) ∧ (rest = [1] ∨ rest = [])))) _ ?_ ?_ _ _ ⟨rfl, .inl ⟨rfl, rfl⟩⟩)
      · intro y rest r s' ⟨e2, hr⟩
        subst e2
        rcases hr with ⟨rfl, hr⟩ | ⟨rfl, hr | hr⟩
        · cases hr
          simp only [List.getElem?_toArray, List.getElem?_cons_zero]
          rw [if_pos (by simp)]
          refine wpAny_bind (wpAny_dictEpoch ho hd (wpAny_bind (e1 _ _ _ _ (wpAny_bind (wpAny_dictEpoch ho hd ?_)))))
          simp only [bne_self_eq_false, Bool.false_eq_true, if_false, if_true, Option.isSome_none]
          refine wpAny_bind (wpAny_rule ?_); rw [if_neg (by simp)]
          exact wpAny_pure ⟨rfl, .inr ⟨rfl, by simp⟩⟩
        · cases hr
          simp only [List.getElem?_toArray, List.getElem?_cons_succ, List.getElem?_cons_zero]
          rw [if_pos (by simp)]
          refine wpAny_bind (wpAny_dictEpoch ho hd (wpAny_bind (eq_st hk (by omega) _ _ _ _ (wpAny_bind (wpAny_dictEpoch ho hd ?_)))))
          simp only [if_false, bne_self_eq_false, Bool.false_eq_true]
          exact wpAny_bind (wpAny_rule (wpAny_pure ⟨rfl, .inr ⟨rfl, by simp⟩⟩))
        · cases hr
      · intro r s' ⟨e2, hr⟩
        subst e2
        rcases hr with ⟨_, hr⟩ | ⟨rfl, _⟩
        · cases hr
        · exact wpAny_pure h
  · have hh' : ¬ ht = h0 := fun e => hh e.symm
    have pl : placesWithHash (#[enT h0 b v0, enS ht x t1 v1]).size (fun i => (#[enT h0 b v0, enS ht x t1 v1])[i]?.map (·.hash)) h0 = [0] := by simp [placesWithHash, List.range_succ, hh']
    have st : ([0] : List Nat).filterMap (fun i => (#[enT h0 b v0, enS ht x t1 v1])[i]?.map (·.key)) = [.ref b] := by simp
    rw [pl, st]
    rw [if_pos (by simp)]
    refine wpAny_bind (wpAny_pure ?_); simp only [if_false, Bool.false_and, Bool.false_eq_true]
    refine wpAny_bind (wpAny_forIn_list _ (fun rest r s' => s' = s ∧ r = (none, none) ∧ rest = [0]) _ ?_ ?_ _ _ ⟨rfl, rfl, rfl⟩)
    · intro y rest r s' ⟨e2, e3, hr⟩
      subst e2
      subst e3
      cases hr
      simp only [List.getElem?_toArray, List.getElem?_cons_zero]
      rw [if_pos (by simp)]
      refine wpAny_bind (wpAny_dictEpoch ho hd (wpAny_bind (e1 _ _ _ _ (wpAny_bind (wpAny_dictEpoch ho hd ?_)))))
      simp only [bne_self_eq_false, Bool.false_eq_true, if_false, if_true, Option.isSome_none]
      refine wpAny_bind (wpAny_rule ?_); rw [if_pos (by simp)]
      apply wpAny_pure; exact wpAny_pure h
    · intro r s' ⟨_, _, hr⟩
      cases hr
end
end MR

/-! M18: d[text] = v, d.pop(text) and d == d where d has at most one tuple key beside the text. -/
namespace MR
open PySem PySem.Spec L2 PyProof.Rows
section
variable {prog : Program} {w : World} {A : Around} {E : Value → Shared → Prop} {s : Shared} {d b : Addr} {o : Obj} {ep : Nat} {h0 : Int} {v0 v1 : Value} {x : Str} {t t1 : Tok} {ks : List NestedKey}
/-- the dict's entries, as they lie -/
def MixAt (h : Heap) (d : Addr) (es : Array DictEntry) : Prop := ∃ o ep, h.get? d = some o ∧ o.ExactDict ∧ o.data = .dict es ep
theorem MixAt.typeIs {es : Array DictEntry} (m : MixAt s.heap d es) : s.TypeIs (.ref d) "dict" := let ⟨o, _, ho, hc, _⟩ := m; ⟨o, ho, hc.1⟩
/-- no key, or one tuple -/
def OneT (h : Heap) (es : Array DictEntry) : Prop := es = #[] ∨ ∃ (ks : List NestedKey) (h0 : Int) (b : Addr) (v0 : Value), NestedIs h (.tup ks) (.ref b) ∧ (NestedKey.tup ks).depth ≤ 8 ∧ es = #[enT h0 b v0]
section
variable {es : Array DictEntry} {ht : Int}
theorem OneT.none {Q : Option Nat → Shared → Prop} (q : OneT s.heap es) (hu : A.units < cLine) (ho : s.heap.get? d = some o) (hd : o.data = .dict es ep) (h : Q none s) : wpAny (model prog w) A (dictFind d (.str x t) ht) Q E s := by
  rcases q with rfl | ⟨ks, h0, b, v0, hk, dk, rfl⟩
  · exact KTD.kt_dictFind_strs ho hd (by simp) (by simpa using h)
  · exact find_no hk dk hu ho hd h
theorem OneT.text {Q : Option Nat → Shared → Prop} (q : OneT s.heap es) (hu : A.units < cLine) (ho : s.heap.get? d = some o) (hd : o.data = .dict (es.push (enS ht x t1 v1)) ep) (h : Q (some es.size) s) : wpAny (model prog w) A (dictFind d (.str x t) ht) Q E s := by
  rcases q with rfl | ⟨ks, h0, b, v0, hk, dk, rfl⟩
  · exact KTD.kt_dictFind_strs ho hd (by simp [isExactStrKey]) (by simpa [Value.isStr] using h)
  · exact find_yes hk dk hu ho hd h
theorem OneT.each (q : OneT s.heap es) (hu : A.units + 8 < cLine) (ho : s.heap.get? d = some o) (hd : o.data = .dict (es.push (enS ht x t1 v1)) ep) (i : Nat) (e : DictEntry) (he : (es.push (enS ht x t1 v1))[i]? = some e)
    (E' : Value → Shared → Prop) (Q' : Option Nat → Shared → Prop) (h : Q' (some i) s) : wpAny (model prog w) A (dictFind d e.key e.hash) Q' E' s := by
  rcases q with rfl | ⟨ks, h0, b, v0, hk, dk, rfl⟩
  · match i, he with
    | 0, he =>
      cases he
      exact KTD.kt_dictFind_strs ho hd (by simp [isExactStrKey]) (by simpa [Value.isStr] using h)
    | i + 1, he => cases he
  · match i, he with
    | 0, he =>
      cases he
      exact find_own hk dk hu ho hd h
    | 1, he =>
      cases he
      exact find_yes hk dk (by omega) ho hd h
    | i + 2, he => cases he
theorem set_told {Q : Unit → Shared → Prop} (q : OneT s.heap es) (hu : A.units + 1 < cLine) (m : MixAt s.heap d es)
    (h : ∀ h' tk, MixAt h' d (es.push (enS (hashStr w x) x t v1)) → Heap.SameBut d s.heap h' → Q () { s with heap := h', toks := tk }) :
    wpAny (model prog w) A (setItem (.ref d) (.str x t) v1) Q E s := by
  have ty := m.typeIs
  obtain ⟨o, ep, ho, hc, hd⟩ := m
  have hz : es.size ≤ sizeLine := by
    rw [sizeLine_eq]
    rcases q with rfl | ⟨ks, h0, b, v0, hk, dk, rfl⟩
    · exact Nat.zero_le _
    · exact (by decide : 1 ≤ 16777216)
  unfold setItem
  refine wpAny_holding (wpAny_bind (wpAny_sequenceKey ty (by decide) ?_))
  refine wpAny_bind (wpAny_callSpecial?_slot (name := Str.ofString "__setitem__") ty slot_dict_setitem (wpAny_call_entry slot_dict_setitem ty entry_dict_setitem ?_ (args_dict_setitem _ _ _)))
  show wpAny _ _ (Builtin.Dict.notOrdered "__setitem__" ⟨[.ref d, .str x t, v1], []⟩ >>= _) _ _ s
  refine wpAny_bind (wpAny_notOrdered_dict ty ?_)
  show wpAny _ _ (dictSet d (.str x t) v1 >>= _) _ _ s
  unfold dictSet dictSetHashed
  refine wpAny_bind (wpAny_holding (wpAny_bind (wpAny_pyHash_str (wpAny_holding (wpAny_bind (OneT.none (s := { s with toks := s.toks + 1 }) q hu ho hd ?_))))))
  refine wpAny_bind (wpAny_rule (wpAny_updateDictKeys (hz := hz) (s := { s with toks := s.toks + 1 }) ho hd ?_))
  refine wpAny_pure ⟨.none, rfl, wpAny_pure (h _ _ ⟨_, ep + 1, Heap.get?_update_self _ ho (Obj.isFreed_of_dict (Obj.data_mapDictKeys hd _)), hc.mapDictKeys _, ?_⟩ (Heap.SameBut.update ..))⟩
  rw [Obj.data_mapDictKeys hd]
theorem pop_told : MeetsIn prog w (Builtin.«dict.pop» ⟨[.ref d, .str x t], []⟩) (fun A R s => ∃ es v1 t1, OneT s.heap es ∧ A.units + 1 < cLine ∧ MixAt s.heap d (es.push (enS (hashStr w x) x t1 v1)) ∧
      ∀ h' tk, MixAt h' d es → Heap.SameBut d s.heap h' → R (.ok (.ret v1)) { s with heap := h', toks := tk }) :=
  .of_wp fun A R s ⟨es, v1, t1, q, hu, m, h⟩ => by
    have ty := m.typeIs
    obtain ⟨o, ep, ho, hc, hdt⟩ := m
    have er : (es.push (enS (hashStr w x) x t1 v1)).eraseIdxIfInBounds es.size = es := by
      rcases q with rfl | ⟨ks, h0, b, v0, hk, dk, rfl⟩ <;> (apply Array.ext'; simp [Array.eraseIdxIfInBounds])
    have hz : (es.push (enS (hashStr w x) x t1 v1)).size ≤ sizeLine := by
      rw [sizeLine_eq]
      rcases q with rfl | ⟨ks, h0, b, v0, hk, dk, rfl⟩
      · exact (by decide : 1 ≤ 16777216)
      · exact (by decide : 2 ≤ 16777216)
    have ge : (es.push (enS (hashStr w x) x t1 v1))[es.size]? = some (enS (hashStr w x) x t1 v1) := by simp
    unfold Builtin.«dict.pop»
    refine wpAny_bind ?_
    unfold Builtin.Dict.keyAndDefault; refine wpAny_bind (wpAny_notOrdered_dict ty ?_)
    show wpAny _ _ (pure (d, Value.str x t, none)) _ _ s
    apply wpAny_pure
    have key : (keyPart (Value.str x t)).isSome = true := rfl
    simp only [key, if_true]
    refine wpAny_bind (wpAny_pure ?_); rw [if_neg (by simp)]
    unfold Builtin.Dict.takeOut
    refine wpAny_bind (wpAny_holding (wpAny_bind (wpAny_pyHash_str (wpAny_bind (OneT.text (s := { s with toks := s.toks + 1 }) q (by show A.units + 1 < cLine; exact hu) ho hdt ?_)))))
    refine wpAny_bind (wpAny_dictEntries (s := { s with toks := s.toks + 1 }) ho hdt ?_)
    rw [ge]
    refine wpAny_bind (wpAny_updateDictKeys (hz := hz) (hf := ?hf) (s := { s with toks := s.toks + 1 }) ho hdt (wpAny_pure ?_))
    case hf =>
      rw [er, Array.size_push]
      omega
    simp only [Option.isNone_some, if_false, Bool.false_eq_true]
    refine wpAny_bind (wpAny_letGo (wpAny_pure ⟨v1, rfl, h _ _ ⟨_, ep + 1, Heap.get?_update_self _ ho (Obj.isFreed_of_dict (Obj.data_mapDictKeys hdt _)), hc.mapDictKeys _, ?_⟩ (Heap.SameBut.update ..)⟩))
    rw [Obj.data_mapDictKeys hdt, er]
end
/-- the same dict on both sides: each entry is found where it lies -/
theorem pairs_self {nm : String} {es : Array DictEntry} {Q : Bool → Shared → Prop} (hs : (d == sysModules) = false) (m : MixAt s.heap d es)
    (hf : ∀ (i : Nat) (e : DictEntry), es[i]? = some e → ∀ (E' : Value → Shared → Prop) (Q' : Option Nat → Shared → Prop), Q' (some i) s → wpAny (model prog w) A (dictFind d e.key e.hash) Q' E' s)
    (hv : ∀ (i : Nat) (e : DictEntry), es[i]? = some e → SeqAt.EqAt A s e.val e.val true) (h : Q true s) : wpAny (model prog w) A (Builtin.Dict.samePairs nm d d) Q E s := by
  obtain ⟨o, ep, ho, hc, hd⟩ := m
  unfold Builtin.Dict.samePairs; unfold Builtin.Dict.showsAll; rw [if_neg (show ¬ (d == sysModules) = true by rw [hs]; exact Bool.false_ne_true)]
  refine wpAny_bind (wpAny_pure (wpAny_bind (wpAny_pure (wpAny_bind (wpAny_dictEntries ho hd ?_)))))
  dsimp only
  refine wpAny_bind (wpAny_dictEntries ho hd ?_); rw [if_neg (by simp)]
  refine wpAny_bind (wpAny_dictEpoch ho hd (wpAny_bind ?_))
  rw [Std.Legacy.Range.forIn_eq_forIn_range']; refine wpAny_forIn_list _ (fun rest q s' => s' = s ∧ q = (none, ()) ∧ ∀ i ∈ rest, i < es.size) _ ?_ ?_ _ _ ⟨rfl, rfl, fun i hi => by simp [Std.Legacy.Range.size] at hi; exact hi⟩
  · intro i rest q s' ⟨e1, e2, hr⟩
    subst e1
    subst e2
    have hl := hr i (by simp)
    have hi : es[i]? = some es[i] := Array.getElem?_eq_getElem hl
    refine wpAny_bind (wpAny_dictEntries ho hd ?_); rw [hi]
    refine wpAny_bind (wpAny_holding (wpAny_bind (hf i _ hi _ _ (wpAny_bind (wpAny_dictEntries ho hd ?_)))))
    rw [hi]
    refine wpAny_holding (hv i _ hi _ _ _ _ ?_)
    rw [if_neg (by decide)]
    refine wpAny_bind (wpAny_dictEpoch ho hd ?_)
    rw [if_neg (by simp)]
    exact wpAny_pure ⟨rfl, rfl, fun j hj => hr j (by simp [hj])⟩
  · intro q s' ⟨e1, e2, _⟩
    subst e1
    subst e2
    exact wpAny_pure h
/-- d == d, d != d -/
theorem eq_self {es : Array DictEntry} {Q : Value → Shared → Prop} (hs : (d == sysModules) = false) (m : MixAt s.heap d es) (hu : A.units < cLine)
    (hf : ∀ (i : Nat) (e : DictEntry), es[i]? = some e → ∀ (E' : Value → Shared → Prop) (Q' : Option Nat → Shared → Prop), Q' (some i) s → wpAny (model prog w) A.in1 (dictFind d e.key e.hash) Q' E' s)
    (hv : ∀ (i : Nat) (e : DictEntry), es[i]? = some e → SeqAt.EqAt A.in1 s e.val e.val true) (h : Q (.bool true) s) : wpAny (model prog w) A (compareOp .Eq (.ref d) (.ref d)) Q E s := by
  have ty := m.typeIs
  refine wpAny_richCompare_same_room (op := .Eq) ty ty PySem.F.slot_dict_eq (wpAny_call_entry PySem.F.slot_dict_eq ty PySem.F.entry_dict_eq ?_ (PySem.F.args_dict_eq_2 _ _)) hu
  show wpAny _ _ (Builtin.Dict.dictSlotArgs "__eq__" ⟨[.ref d, .ref d], []⟩ >>= _) _ _ s
  refine wpAny_bind ?_
  unfold Builtin.Dict.dictSlotArgs; refine wpAny_bind (wpAny_notOrdered_dict ty ?_)
  show wpAny _ _ (pure (Value.ref d, Value.ref d)) _ _ s
  apply wpAny_pure
  refine wpAny_bind (wpAny_isInstance (T := "dict") ty PySem.F.sub_dict_dict ?_); simp only [if_false, Bool.not_true, Bool.false_eq_true]
  refine wpAny_bind (wpAny_pure (wpAny_bind (wpAny_pure (wpAny_bind (pairs_self hs m hf hv (wpAny_pure ⟨_, rfl, (fun z => nomatch z), ?_⟩))))))
  exact h
theorem ne_self {es : Array DictEntry} {Q : Value → Shared → Prop} (hs : (d == sysModules) = false) (m : MixAt s.heap d es) (hu : A.units < cLine)
    (hf : ∀ (i : Nat) (e : DictEntry), es[i]? = some e → ∀ (E' : Value → Shared → Prop) (Q' : Option Nat → Shared → Prop), Q' (some i) s → wpAny (model prog w) A.in1 (dictFind d e.key e.hash) Q' E' s)
    (hv : ∀ (i : Nat) (e : DictEntry), es[i]? = some e → SeqAt.EqAt A.in1 s e.val e.val true) (h : Q (.bool false) s) : wpAny (model prog w) A (compareOp .NotEq (.ref d) (.ref d)) Q E s := by
  have ty := m.typeIs
  refine wpAny_richCompare_same_room (op := .NotEq) ty ty PySem.F.slot_dict_ne (wpAny_call_entry PySem.F.slot_dict_ne ty PySem.F.entry_dict_ne ?_ (PySem.F.args_dict_ne_2 _ _)) hu
  show wpAny _ _ (Builtin.Dict.dictSlotArgs "__ne__" ⟨[.ref d, .ref d], []⟩ >>= _) _ _ s
  refine wpAny_bind ?_
  unfold Builtin.Dict.dictSlotArgs; refine wpAny_bind (wpAny_notOrdered_dict ty ?_)
  show wpAny _ _ (pure (Value.ref d, Value.ref d)) _ _ s
  apply wpAny_pure
  refine wpAny_bind (wpAny_isInstance (T := "dict") ty PySem.F.sub_dict_dict ?_); simp only [if_false, Bool.not_true, Bool.false_eq_true]
  refine wpAny_bind (wpAny_pure (wpAny_bind (wpAny_pure (wpAny_bind (pairs_self hs m hf hv (wpAny_pure ⟨_, rfl, (fun z => nomatch z), ?_⟩))))))
  exact h
end
end MR

/-! M19: dicts with at most one tuple key: displays, walks, places, == of itself, the text 'told' put in and taken out. -/
namespace MR
open PySem PySem.Spec L2 PyProof.Rows
/-! ### a key as a nested one -/
def nkey : Key → NestedKey
  | .inl i => .num i
  | .inr x => .text x
theorem nall_of {h : Heap} : ∀ {ks : List Key} {us : List Value}, Vals (ks.map kV) us → NestedAll h (ks.map nkey) us
  | [], us, r => by
    cases r
    exact .nil
  | .inl i :: ks, us, r => by
    cases r with
    | cons a t =>
      obtain ⟨tk, rfl⟩ := a
      exact .cons (.int i tk) (nall_of t)
  | .inr x :: ks, us, r => by
    cases r with
    | cons a t =>
      obtain ⟨tk, rfl⟩ := a
      exact .cons (.text x tk) (nall_of t)
theorem flat_depth : ∀ ks : List Key, NestedKey.depthAll (ks.map nkey) = 0
  | [] => by simp [NestedKey.depthAll]
  | .inl i :: ks => by simp [NestedKey.depthAll, nkey, NestedKey.depth, flat_depth ks]
  | .inr x :: ks => by simp [NestedKey.depthAll, nkey, NestedKey.depth, flat_depth ks]
section
variable {T : Ct} {P : Program} {w : World} {H H' : Hp} {h : Heap} {a b : Addr} {vs : List (List Key × V)} {es : Array DictEntry}
theorem nested_of {k : List Key} (ok : HOk P w H h) (e : H b = some (.tup (k.map kV))) : NestedIs h (.tup (k.map nkey)) (.ref b) := by
  obtain ⟨_, its, r, o, h1, h2, n, h3⟩ := (show ObjOk P w H h b (.tup (k.map kV)) from ok b _ e)
  exact .tup h1 h2 h3 (by simpa using nall_of r)
theorem OddE.one (ok : HOk P w H h) (q : OddE T H vs es) : OneT h es := by
  rcases q with ⟨_, rfl⟩ | ⟨k, v, b, u, P', rfl, _, hb, rfl⟩
  · exact .inl rfl
  · exact .inr ⟨k.map nkey, _, b, u, nested_of ok hb, by simp [NestedKey.depth, flat_depth], rfl⟩
/-- a dict of at most one tuple key, as it lies -/
theorem odd_of (ok : HOk P w H h) (hw : T.w = w) (e : H a = some (.dT vs)) (hl : vs.length ≤ 1) : (a == sysModules) = false ∧ ∃ es, MixAt h a es ∧ OddE T H vs es := by
  obtain ⟨z, hs, xs, r, o, es, ep, ho, hx, hdt, he, his, hn⟩ := dt_of ok e
  refine ⟨hs, es, ⟨o, ep, ho, hx, hdt⟩, ?_⟩
  cases r with
  | nil => exact .inl ⟨rfl, Array.ext' he⟩
  | @cons p q ps qs r t =>
    cases t with
    | nil =>
      obtain ⟨k, v⟩ := p
      obtain ⟨k', b, u⟩ := q
      obtain ⟨e1, hb, ru⟩ := r
      have e2 : k = k' := e1
      subst e2
      exact .inr ⟨k, v, b, u, P, rfl, ru, hb, by subst hw; exact Array.ext' he⟩
    | cons r' t' => simp at hl
/-- and back -/
theorem dT_of (hw : T.w = w) (hs : (a == sysModules) = false) (m : MixAt h a es) (q : OddE T H vs es) (ne : ∀ b ys, H b = some (.tup ys) → H' b = some (.tup ys)) : ObjOk P w H' h a (.dT vs) := by
  obtain ⟨o, ep, ho, hx, hd⟩ := m
  rcases q with ⟨rfl, rfl⟩ | ⟨k, v, b, u, P', rfl, ru, hb, rfl⟩
  · exact ⟨Nat.zero_le _, hs, [], .nil, o, #[], ep, ho, hx, hd, rfl, List.nodup_nil⟩
  · refine ⟨by rw [sizeLine_eq]; exact (by decide : 1 ≤ 16777216), hs, [(k, b, u)], .cons ⟨rfl, ne b _ hb, ru⟩ .nil, o, _, ep, ho, hx, hd, ?_, by simp⟩
    subst hw
    rfl
end
/-! ### d['told'] = None -/
def rPutT (T : Ct) : TSet := fun o i v H Q => ∃ p vs, o = .ref p ∧ i = .str told ∧ v = .non ∧ H p = some (.dT vs) ∧ vs.length ≤ 1 ∧
  ∀ es t, (p == sysModules) = false → OddE T H vs es → Q (upd H p (OddO p (es.push ⟨hashStr T.w told, .str told t, .none⟩)))
theorem odd_ok {P : Program} {w : World} {H : Hp} {h : Heap} {p : Addr} {es : Array DictEntry} (m : MixAt h p es) : ObjOk P w H h p (OddO p es) := by
  obtain ⟨o, ep, ho, hx, hd⟩ := m
  exact ⟨⟨o, ep, ho, hx, hd⟩, ⟨o, ho⟩, fun h1 h2 ⟨o, ep, x, r⟩ k => ⟨o, ep, k o x, r⟩⟩
theorem set_putT {X : Cx} {T : Ct} (hw : T.w = X.w) (hu : Deepy X) : PSet X (rPutT T) := by
  intro pins s σ H o i v ov iv u Q I ro ri rv h
  obtain ⟨p, vs, rfl, rfl, rfl, hp, hl, q⟩ := h
  cases ro
  obtain ⟨t, rfl⟩ := ri
  cases rv
  obtain ⟨hs, es, m, qe⟩ := odd_of (T := T) I.hok hw hp hl
  unfold Deepy at hu
  refine set_told (qe.one I.hok) (by omega) m fun h' tk m' sb => ?_
  rw [← hw] at m'
  have there : ∃ q, h'.get? p = some q := let ⟨q, _, hq, _⟩ := m'; ⟨q, hq⟩
  exact ⟨_, d_write I (by rw [hp]; exact True.intro) sb there (odd_ok m'), q es t hs qe⟩
def putTD (o i v : D) (S : Hs) : Option Hs := match o, i, v with
  | .ref n, .str z, .non => if z = told then (match S.get n with
    | some (.dt kvs) => if kvs.length ≤ 1 then some (S.put n (.odd kvs)) else none
    | _ => none) else none
  | _, _, _ => none
def mPutT (mo mi mv : Ex) : SM := fun env S => (mv env S).toS env fun v S1 => (mo env S1).toS env fun o S2 => (mi env S2).toS env fun i S3 => match putTD o i v S3 with
  | some S4 => .nx env S4
  | none => .bad
section
variable {X : Cx} {T : Ct} {W : WX} {pos : Pos}
theorem s_putT {o i v : Expr} {mo mi mv : Ex} {tpos : Pos} (hu : Deepy X) (ho : PE X o (tE T W mo)) (hi : PE X i (tE T W mi)) (hv : PE X v (tE T W mv)) (hw : T.w = X.w := by rfl)
    (ha : ∀ v, assign (.Subscript o i tpos) X.env v = (do
      let ov ← holding [v] (eval o X.env)
      let iv ← holding [v, ov] (eval i X.env)
      standAt tpos
      holding [v, ov, iv] (setItem ov iv v)
      release [v, ov, iv] []) := by intro _; rfl) (hs : swapsWithSole [.Subscript o i tpos] v pos.line X.env = pure false := by rfl) (hw2 : swappedStores [.Subscript o i tpos] v X.env = pure none := by rfl)
    (h1 : (assignEach [.Subscript o i tpos] X.env).map (·.2) = [assign (.Subscript o i tpos) X.env] := by rfl) : PS X (.Assign [.Subscript o i tpos] v pos) (tS T W (mPutT mo mi mv)) :=
  weakS (ps_asg hv (pg_sub ho hi (set_putT (T := T) hw hu) ha) hs hw2 h1) fun E σ H ⟨φ, env, S, R, Ev, P⟩ =>
    tE_st R Ev P fun dv S1 φ1 H1 vv u1 R1 r1 E1 P1 => tE_st R1 E1 P1 fun od S2 φ2 H2 ov u2 R2 r2 E2 P2 => tE_st R2 E2 P2 fun id S3 φ3 H3 iv u3 R3 r3 E3 P3 => by
      have rv := (r1.up R1 u2).up R2 u3
      have ro := r2.up R2 u3
      unfold putTD at P3
      split at P3
      · rename_i S4 h4
        split at h4
        · rename_i n z
          split at h4
          · rename_i hz
            subst hz
            split at h4
            · rename_i kvs hx
              split at h4
              · rename_i hl
                cases h4
                cases ro with
                | @ref _ a q =>
                  cases r3
                  cases rv
                  cases R3.cell n _ a hx q with
                  | @dt _ vs _ h r =>
                    refine ⟨a, vs, rfl, rfl, rfl, h, by rw [← r.1]; exact hl, fun es t hs qe => ?_⟩
                    obtain ⟨R4, U4⟩ := R3.put (o := OddO a (es.push ⟨hashStr T.w told, .str told t, .none⟩)) (c := .odd kvs) hx q (fun o' u' _ e => by rw [h] at e; cases e) fun φ' H' u y => .odd hs y (qe.up R3 u) (r.up R3 u)
                    exact P3 _ _ _ U4 R4 (E3.up R3 U4)
              · cases h4
            · cases h4
          · cases h4
        · cases h4
      · exact False.elim P3
end
/-! ### d.pop('told') -/
def tPopT (T : Ct) (to : TE) (t : TA) : TE := fun σ H Q => to σ H fun x H1 => ∃ (p : Addr) (es : Array DictEntry) (tk : Tok), x = .ref p ∧ H1 p = some (OddO p (es.push ⟨hashStr T.w told, .str told tk, .none⟩)) ∧
  t σ H1 fun xs H2 => xs = [.str told] ∧ ∃ (vs : List (List Key × V)) (es : Array DictEntry) (t2 : Tok), H2 p = some (OddO p (es.push ⟨hashStr T.w told, .str told t2, .none⟩)) ∧ (p == sysModules) = false ∧ OddE T H2 vs es ∧ Q .non (upd H2 p (.dT vs))
def popTG (x : D) (ds : List D) (S : Hs) : Res D := match x, ds with
  | .ref n, [.str z] => if z = told then (match S.get n with
    | some (.odd kvs) => .ok .non (S.put n (.dt kvs))
    | _ => .bad) else .bad
  | _, _ => .bad
def isOdd (x : D) (S : Hs) : Bool := match x with
  | .ref n => match S.get n with
    | some (.odd _) => true
    | _ => false
  | _ => false
def mPopT (m : Ex) (ms : Exs) : Ex := fun env S => (m env S).bind fun x S1 => if isOdd x S1 then (ms env S1).bind fun xs S2 => popTG x xs S2 else .bad
section
variable {X : Cx} {T : Ct} {W : WX} {o e : Expr} {to : TE} {t : TA} {apos cpos : Pos} {m : Ex} {ms : Exs}
theorem pe_popT (hw : T.w = X.w) (hu : Deepy X) (ho : PE X o to) (ha : PA X [e] t)
    (hbase : attributeBase o "pop" X.env (eval o X.env) = eval o X.env)
    (hfew : ((backTo cpos (starEach [e] X.env)).all (fun x => !x.1) && (backToKw cpos (keywordEach [] X.env)).all (fun x => x.1.isSome)
      && decide ([e].length + ([] : List Keyword).length + (if ([] : List Keyword).isEmpty then 0 else 1) < 30)) = true)
    (hline : (apos.endLine == cpos.line) = true) (hs : starEach [e] X.env = (false, eval e X.env) :: starEach [] X.env) (hpl : (backTo cpos (starEach [] X.env)).any (·.1) = false) :
    PE X (.Call (.Attribute o "pop" apos) [e] [] cpos) (tPopT T to t) := by
  refine ⟨fun pins s σ H Q I h => ?_⟩
  refine wpAny_Call_method_late hbase hfew hline rfl (thn (ho.run pins s σ H _ I h) fun v s1 ⟨x, H1, I1, r1, p, es, tk, ex, hp, q1⟩ => ?_)
  subst ex
  cases r1
  obtain ⟨⟨od, ep, hod, hx, hd⟩, _, _⟩ := (show ObjOk X.prog X.w H1 s1.heap p (OddO p _) from I1.hok p _ hp)
  refine ⟨"dict", "dict.pop", PySem.F.plainAttrs_dict, PySem.F.slot_dict_pop, PySem.F.type_dict_pop, ⟨od, hod, hx.1⟩, fun a e => ?_, ?_⟩
  · cases e
    exact ⟨od, hod, hx.2.1⟩
  · have run := ha.run cpos pins s1 σ H1 _ I1 q1
    rw [hs] at run ⊢
    refine Calls.callWith_builtin (by show (false || (backTo cpos (starEach [] X.env)).any (·.1)) = false; rw [hpl] <;> rfl) (Calls.evalArgs_plain ?_)
    refine thn run fun us s2 ⟨xs, H2, I2, r2, ex, vs, es2, t2, hp2, hsys, qe, q2⟩ => ?_
    subst ex
    obtain ⟨u1, rfl, ru⟩ := vals1 r2
    obtain ⟨t3, rfl⟩ := ru
    have mx : MixAt s2.heap p _ := (show ObjOk X.prog X.w H2 s2.heap p (OddO p _) from I2.hok p _ hp2).1
    unfold Deepy at hu
    rw [hw] at mx
    refine call_meetsIn PySem.F.slot_dict_pop mx.typeIs PySem.F.entry_dict_pop (PySem.F.args_dict_pop_2 _ _) pop_told ⟨es2, .none, t2, qe.one I2.hok, by first | omega | (show X.A.units + 1 + 1 < cLine; omega), mx, fun h' tk m' sb => ?_⟩
    have there : ∃ q, h'.get? p = some q := let ⟨q, _, hq, _⟩ := m'; ⟨q, hq⟩
    exact ⟨.non, _, d_write I2 (by rw [hp2]; exact True.intro) sb there (dT_of hw hsys m' qe fun b ys hb => by rw [upd_ne (fun e => by rw [e, hp2] at hb; cases hb)]; exact hb), rfl, q2⟩
theorem r_popT (hu : Deepy X) (ho : PE X o (tE T W m)) (ha : PA X [e] (tA T W ms)) (hw : T.w = X.w := by rfl)
    (hbase : attributeBase o "pop" X.env (eval o X.env) = eval o X.env := by rfl)
    (hfew : ((backTo cpos (starEach [e] X.env)).all (fun x => !x.1) && (backToKw cpos (keywordEach [] X.env)).all (fun x => x.1.isSome)
      && decide ([e].length + ([] : List Keyword).length + (if ([] : List Keyword).isEmpty then 0 else 1) < 30)) = true := by rfl)
    (hline : (apos.endLine == cpos.line) = true := by rfl) (hs : starEach [e] X.env = (false, eval e X.env) :: starEach [] X.env := by rfl) (hpl : (backTo cpos (starEach [] X.env)).any (·.1) = false := by rfl) :
    PE X (.Call (.Attribute o "pop" apos) [e] [] cpos) (tE T W (mPopT m ms)) :=
  weakE (pe_popT (T := T) hw hu ho ha hbase hfew hline hs hpl) fun σ H Q ⟨φ, env, S, R, E, P⟩ => tE_bind R E P fun x S1 φ1 H1 v u1 R1 r1 E1 P1 => by
    split at P1
    · rename_i hi
      unfold isOdd at hi
      split at hi
      · rename_i n
        split at hi
        · rename_i kvs hx
          cases r1 with
          | @ref _ a q =>
            cases R1.cell n _ a hx q with
            | odd hs h qe r =>
              refine ⟨a, _, _, rfl, h, tA_bind R1 E1 P1 fun ds S2 φ2 H2 ws u2 R2 r2 E2 P2 => ?_⟩
              unfold popTG at P2
              split at P2
              · rename_i n' z en
                cases en
                split at P2
                · rename_i hz
                  subst hz
                  split at P2
                  · rename_i kvs2 hx2
                    obtain ⟨u, rfl, ru⟩ := r2.one
                    cases ru
                    have q2 := u2.at_ q
                    cases R2.cell n _ a hx2 q2 with
                    | odd hs2 h2 qe2 r2' =>
                      obtain ⟨R3, U3⟩ := R2.put (o := .dT _) (c := .dt kvs2) hx2 q2 (fun o' u' f e => by rw [h2] at e; cases e) fun φ' H' u y => .dt y (r2'.up R2 u)
                      exact ⟨rfl, _, _, _, h2, hs2, qe2, P2 _ _ _ ((u1.trans u2).trans U3) R3 .non⟩
                  · exact False.elim P2
                · exact False.elim P2
              · exact False.elim P2
        · cases hi
      · cases hi
    · exact False.elim P1
end
end MR

/-! M20: dicts with tuple keys: walks under a lock, places, keys as a list, made of pairs, displays, == of itself. -/
namespace MR
open PySem PySem.Spec L2 PyProof.Rows
/-! ### given back -/
section
variable {T : Ct} {φ : List Addr} {S : Hs} {H : Hp} {p : Addr} {od : Obj} {ws : List (List Key × V)}
theorem RV.unl (hp : H p = some (.frz od (.dT ws))) {d : D} {v : V} (r : RV T φ H d v) : RV T φ (upd H p (.dT ws)) d v := by
  have ne : ∀ {a : Addr} {o : HO}, H a = some o → (∀ od ws, o ≠ .frz od (.dT ws)) → upd H p (.dT ws) a = some o := fun {a o} h n => by
    rw [upd_ne (fun e => by rw [e, hp] at h; exact n _ _ (Option.some.inj h).symm)]
    exact h
  induction r with
  | non => exact .non
  | bl b => exact .bl b
  | int i => exact .int i
  | str s => exact .str s
  | tup h l r ih =>
    refine .tup ?_ l ih
    rcases h with h | h
    · exact .inl (ne h fun _ _ e => nomatch e)
    · exact .inr h
  | ref h => exact .ref h
  | ty n => exact .ty n
  | cls c => exact .cls c
  | fz h l r ih =>
    refine .fz ?_ l ih
    rcases h with ⟨o, h⟩ | h
    · exact .inl ⟨o, ne h fun _ _ e => by cases e⟩
    · exact .inr h
  | er h hd r ih => exact .er (ne h fun _ _ e => by unfold ExcT at e; cases e) (ne hd fun _ _ e => nomatch e) ih
  | key h => exact .key (ne h fun _ _ e => nomatch e)
  | eb h => exact .eb (ne h fun _ _ e => by unfold ExcB at e; cases e)
theorem RVs.unl (hp : H p = some (.frz od (.dT ws))) {ds : List D} {vs : List V} (r : RVs T φ H ds vs) : RVs T φ (upd H p (.dT ws)) ds vs := ⟨r.1, fun i d v a b => (r.2 i d v a b).unl hp⟩
theorem RKs.unl (hp : H p = some (.frz od (.dT ws))) {ds : List (Key × D)} {vs : List (Key × V)} (r : RKs T φ H ds vs) : RKs T φ (upd H p (.dT ws)) ds vs := ⟨r.1, fun i d v a b => ⟨(r.2 i d v a b).1, (r.2 i d v a b).2.unl hp⟩⟩
theorem RTs.unl (hp : H p = some (.frz od (.dT ws))) {ds : List (List Key × D)} {vs : List (List Key × V)} (r : RTs T φ H ds vs) : RTs T φ (upd H p (.dT ws)) ds vs := ⟨r.1, fun i d v a b => ⟨(r.2 i d v a b).1, (r.2 i d v a b).2.unl hp⟩⟩
theorem OddE.unl (hp : H p = some (.frz od (.dT ws))) {vs : List (List Key × V)} {es : Array DictEntry} (q : OddE T H vs es) : OddE T (upd H p (.dT ws)) vs es := by
  rcases q with q | ⟨k, v, b, u, P, h1, h2, h3, h4⟩
  · exact .inl q
  · exact .inr ⟨k, v, b, u, P, h1, h2, by rw [upd_ne (fun e => by rw [e, hp] at h3; cases h3)]; exact h3, h4⟩
theorem RS.unl (R : RS T φ S H) {n : Nat} {kvs : List (List Key × D)} (h0 : S.get n = some (.dtf kvs)) (hn : φ[n]? = some p) (hp : H p = some (.frz od (.dT ws))) : RS T φ (S.put n (.dt kvs)) (upd H p (.dT ws)) := by
  refine ⟨R.wf.put n _, R.len, R.nd, fun m c a h1 h2 => ?_⟩
  by_cases hm : m = n
  · subst hm
    rw [Hs.get_put h0] at h1
    cases h1
    rw [hn] at h2
    cases h2
    cases R.cell m _ p h0 hn with
    | dtf h r =>
      rw [hp] at h
      cases h
      exact .dt upd_same (r.unl hp)
  · rw [Hs.get_put_ne (Hs.get_lt h0) hm] at h1
    have na : a ≠ p := fun e => by
      subst e
      obtain ⟨l1, e1⟩ := List.getElem?_eq_some_iff.mp h2
      obtain ⟨l2, e2⟩ := List.getElem?_eq_some_iff.mp hn
      exact hm ((List.getElem_inj R.nd).mp (e1.trans e2.symm))
    cases R.cell m c a h1 h2 with
    | lst h r => exact .lst (by rw [upd_ne na]; exact h) (r.unl hp)
    | fro h r => exact .fro (by rw [upd_ne na]; exact h) (r.unl hp)
    | dic h r => exact .dic (by rw [upd_ne na]; exact h) (r.unl hp)
    | dt h r => exact .dt (by rw [upd_ne na]; exact h) (r.unl hp)
    | dtf h r => exact .dtf (by rw [upd_ne na]; exact h) (r.unl hp)
    | odd hs h q r => exact .odd hs (by rw [upd_ne na]; exact h) (q.unl hp) (r.unl hp)
    | dk h r => exact .dk (by rw [upd_ne na]; exact h) (r.unl hp)
    | set h => exact .set (by rw [upd_ne na]; exact h)
end
/-- the dict at i is locked while m runs -/
def mLock (i : Nat) (m : Ex) : Ex := fun env S => match env[i]? with
  | some (some (.ref n)) => (match S.get n with
    | some (.dt kvs) => (match m env (S.put n (.dtf kvs)) with
      | .ok d S1 => (match S1.get n with
        | some (.dtf kvs1) => .ok d (S1.put n (.dt kvs1))
        | _ => .bad)
      | _ => .bad)
    | _ => .bad)
  | _ => .bad
theorem r_lock {X : Cx} {T : Ct} {W : WX} {e : Expr} {m : Ex} (i : Nat) (he : PE X e (tE T W m)) : PE X e (tE T W (mLock i m)) :=
  weakE (pe_lock he) fun σ H Q ⟨φ, env, S, R, E, P⟩ => by
    unfold mLock at P
    split at P
    · rename_i n hn
      obtain ⟨v, hv, rx⟩ := E.2 i _ hn
      cases rx with
      | rv r =>
        cases r with
        | @ref _ p hp =>
          split at P
          · rename_i kvs hk
            split at P
            · rename_i d S1 hm
              split at P
              · rename_i kvs1 hk1
                cases R.cell n _ p hk hp with
                | @dt _ vs _ h r =>
                  refine ⟨p, .dT vs, h, trivial, fun od => ?_⟩
                  obtain ⟨R1, U1⟩ := R.put (o := .frz od (.dT vs)) (c := .dtf kvs) hk hp (fun o' u' _ e => by rw [h] at e; cases e) fun φ' H' u z => .dtf z (r.up R u)
                  refine ⟨φ, env, _, R1, E.up R U1, ?_⟩
                  rw [hm]
                  intro φ2 H2 w u2 R2 r2
                  have hp2 := u2.at_ hp
                  have hf : H2 p = some (.frz od (.dT vs)) := u2.frz _ _ _ rfl upd_same
                  have U : Up φ H φ2 (upd H2 p (.dT vs)) := by
                    obtain ⟨ext, e1, e2⟩ := u2.pre
                    refine ⟨⟨ext, e1, fun a ha => ?_⟩, fun a o ha hn => ?_, fun a o ha => ?_, fun a o u f ha => ?_⟩
                    · have q := e2 a ha
                      by_cases e : a = p
                      · rw [e, upd_same] at q
                        cases q
                      · rw [upd_ne e] at q
                        exact q
                    · have ne : a ≠ p := fun e => hn (e ▸ List.mem_of_getElem? hp)
                      rw [upd_ne ne]
                      exact u2.fr a o (by rw [upd_ne ne]; exact ha) hn
                    · by_cases e : a = p
                      · exact ⟨_, by rw [e]; exact upd_same⟩
                      · obtain ⟨o', h'⟩ := u2.dom a o (by rw [upd_ne e]; exact ha)
                        exact ⟨o', by rw [upd_ne e]; exact h'⟩
                    · have ne : a ≠ p := fun e => by rw [e, h] at ha; cases ha
                      rw [upd_ne ne]
                      exact u2.frz a o u f (by rw [upd_ne ne]; exact ha)
                  exact ⟨hf, P φ2 _ w U (R2.unl hk1 hp2 hf) (r2.unl hf)⟩
              · exact False.elim P
            · exact False.elim P
          · exact False.elim P
    · exact False.elim P
/-! ### the keys, one by one -/
def mKeysT (m : Ex) : ExI := fun env S => (m env S).bind fun d S1 => match d with
  | .ref n => match S1.get n with
    | some (.dtf kvs) => .ok (.keysT (kvs.map (·.1))) S1
    | _ => .bad
  | _ => .bad
theorem RTs.keys {T : Ct} {φ : List Addr} {H : Hp} {ds : List (List Key × D)} {vs : List (List Key × V)} (r : RTs T φ H ds vs) : vs.map (·.1) = ds.map (·.1) := by
  apply List.ext_getElem?
  intro i
  rw [List.getElem?_map, List.getElem?_map]
  cases e1 : ds[i]? with
  | none =>
    have e2 : vs[i]? = none := List.getElem?_eq_none (r.1 ▸ List.getElem?_eq_none_iff.mp e1)
    rw [e2] <;> rfl
  | some p =>
    have hl : i < vs.length := r.1 ▸ (List.getElem?_eq_some_iff.mp e1).1
    have e2 := List.getElem?_eq_getElem hl
    rw [e2]
    exact congrArg some (r.2 i p _ e1 e2).1.symm
section
variable {X : Cx} {T : Ct} {W : WX} {tg e a b o i : Expr} {m ma mb : Ex} {ms : Exs} {p pos : Pos}
theorem i_keysT (h : PE X e (tE T W m)) : PI X tg e (tI T W (mKeysT m)) := weakI (pi_keys h) fun σ H Q ⟨φ, env, S, R, E, P⟩ =>
  tE_bind R E P fun d S1 φ1 H1 v u R1 r1 E1 P1 => by
    cases r1 with
    | @ref n c q =>
      simp only at P1
      split at P1
      · rename_i kvs hx
        cases R1.cell n _ c hx q with
        | @dtf _ vs _ o hk r => exact ⟨c, o, rfl, .inr ⟨vs, hk, P1 φ1 H1 _ u R1 (.keysT hk r.keys)⟩⟩
      · exact False.elim P1
    | _ => exact False.elim P1
/-! ### d[k], list(d) -/
def kvT (S : Hs) (n : Nat) : Option (List (List Key × D)) := match S.get n with
  | some (.dt kvs) => some kvs
  | some (.dtf kvs) => some kvs
  | _ => none
theorem RS.kvT {φ : List Addr} {S : Hs} {H : Hp} (R : RS T φ S H) {n : Nat} {c : Addr} {kvs : List (List Key × D)} (h : φ[n]? = some c) (e : MR.kvT S n = some kvs) : ∃ vs, Rd H c (.dT vs) ∧ RTs T φ H kvs vs := by
  unfold MR.kvT at e
  split at e
  · rename_i ks hx
    cases e
    cases R.cell n _ c hx h with
    | dt q r => exact ⟨_, .inl q, r⟩
  · rename_i ks hx
    cases e
    cases R.cell n _ c hx h with
    | dtf q r => exact ⟨_, .inr ⟨_, q⟩, r⟩
  · cases e
def valT (kvs : List (List Key × D)) (k : List Key) : Option D := (kvs.find? fun kv => decide (kv.1 = k)).map (·.2)
theorem valT_of {φ : List Addr} {H : Hp} {k : List Key} {d : D} : ∀ {kvs : List (List Key × D)} {vs : List (List Key × V)}, RTs T φ H kvs vs → valT kvs k = some d → ∃ v, valV vs k = some v ∧ RV T φ H d v
  | [], vs, r, h => by cases h
  | p :: kvs, [], r, h => nomatch r.1
  | p :: kvs, q :: vs, r, h => by
    obtain ⟨e, r0⟩ := r.2 0 p q rfl rfl
    unfold valT at h
    rw [List.find?_cons] at h
    by_cases hk : p.1 = k
    · rw [decide_eq_true hk] at h
      cases h
      exact ⟨q.2, by unfold valV; simp [List.find?_cons, e.symm.trans hk], r0⟩
    · rw [decide_eq_false hk] at h
      obtain ⟨v, h1, h2⟩ := valT_of (kvs := kvs) (vs := vs) ⟨Nat.succ.inj r.1, fun i x y a b => r.2 (i + 1) x y a b⟩ h
      have nk : ¬ q.1 = k := fun z => hk (e.trans z)
      exact ⟨v, by unfold valV at h1 ⊢; simpa [List.find?_cons, nk] using h1, h2⟩
def dgetTD (x y : D) (S : Hs) : Res D := match x, y with
  | .ref n, .key k => match kvT S n with
    | some kvs => match valT kvs k with
      | some d => .ok d S
      | none => .bad
    | none => .bad
  | _, _ => .bad
theorem r_dgetT (hu : Deepy X) (ha : PE X a (tE T W ma)) (hb : PE X b (tE T W mb)) (hs : NoSl b := by exact fun _ _ => rfl) : PE X (.Subscript a b pos) (tE T W (mOp2 dgetTD ma mb)) :=
  weakE (pe_dget (by unfold Deepy at hu; omega) ha hb hs) fun σ H Q ⟨φ, env, S, R, E, P⟩ => tE_bind R E P fun x S1 φ1 H1 v u1 R1 r1 E1 P1 => tE_bind R1 E1 P1 fun y S2 φ2 H2 w u2 R2 r2 E2 P2 => by
    unfold dgetTD at P2
    split at P2
    · rename_i n k
      split at P2
      · rename_i kvs hx
        split at P2
        · rename_i d hd
          cases r1.up R1 u2 with
          | @ref _ c q =>
            cases r2 with
            | @key _ b hb =>
              obtain ⟨vs, hr, rt⟩ := R2.kvT q hx
              obtain ⟨vv, hv, rv⟩ := valT_of rt hd
              exact ⟨c, vv, rfl, .inr ⟨vs, k, b, hr, rfl, hb, hv.symm⟩, P2 φ2 H2 _ (u1.trans u2) R2 rv⟩
        · exact False.elim P2
      · exact False.elim P2
    · exact False.elim P2
def listTF (ds : List D) (S : Hs) : Res D := match ds with
  | [.ref n] => match kvT S n with
    | some kvs => .ok (.ref S.n) (S.new (.lst (kvs.map fun kv => .tup (kv.1.map kD))))
    | none => .bad
  | _ => .bad
theorem listT_no : NoErL listTF := fun ds S c d S' h => by
  unfold listTF at h
  repeat' (first | cases h | split at h)
theorem isKeys_rv {φ : List Addr} {H : Hp} : ∀ {kvs : List (List Key × D)} {vs : List (List Key × V)} {bs : List Addr}, vs.map (·.1) = kvs.map (·.1) → IsKeys H vs bs → RVs T φ H (kvs.map fun kv => D.tup (kv.1.map kD)) (bs.map V.ref)
  | [], [], _, _, q => by
    cases q
    exact .nil
  | [], _ :: _, _, e, _ => nomatch e
  | _ :: _, [], _, e, _ => nomatch e
  | p :: kvs, q :: vs, _, e, hq => by
    injection e with e1 e2
    cases hq with
    | @cons _ b _ bs h t =>
      have r := kDs_rv (T := T) (φ := φ) (H := H) p.1
      have e3 : q.1 = p.1 := e1
      exact .cons (.tup (.inl (by rw [← e3]; exact h)) r.1 r.2) (isKeys_rv e2 t)
theorem listT_M : CallM T (fun xs H Q => ∃ d kvs, xs = [V.ref d] ∧ Rd H d (.dT kvs) ∧ ∀ p bs, H p = none → IsKeys H kvs bs → Q (.ref p) (upd H p (.lst (bs.map V.ref)))) listTF := by
  intro φ S H ds vs Q R r P
  unfold listTF at P
  split at P
  · rename_i n
    obtain ⟨v, rfl, r1⟩ := r.one
    cases r1 with
    | @ref _ c q =>
      split at P
      · rename_i kvs hx
        obtain ⟨ws, hk, rk⟩ := R.kvT q hx
        exact ⟨c, ws, rfl, hk, fun p bs hp hb => okE.newLst R (isKeys_rv rk.keys hb) P p hp⟩
      · exact False.elim P
  · exact False.elim P
theorem r_listT (hc : X.calm = true) (hm : X.mg "list" = none) (ha : PA X [e] (tA T W ms)) (hg : Gl X "list" := by rfl) (he : starEach [e] X.env = (false, eval e X.env) :: starEach [] X.env := by rfl) (hpl : (backTo pos (starEach [] X.env)).any (·.1) = false := by rfl) : PE X (.Call (.Name "list" p) [e] [] pos) (tE T W (mCall listTF ms)) :=
  r_callTy (call_list_dT hc) listT_M listT_no hg hm (by decide +kernel) ha (by decide) (by decide) he hpl
end
/-! ### dict([pair]) -/
def PairsT (K : PySem.W.Frag) (H : Hp) (us : List V) (kvs : List (List Key × V)) : Prop := (us = [] ∧ kvs = []) ∨ ∃ p b k v, us = [.ref p] ∧ SqT K H p [.ref b, v] ∧ H b = some (.tup (k.map kV)) ∧ kvs = [(k, v)]
def rDictT (K : PySem.W.Frag) : List V → Hp → VK → Prop := fun xs H Q => ∃ a us kvs, xs = [.ref a] ∧ H a = some (.lst us) ∧ PairsT K H us kvs ∧ ∀ q, H q = none → Q (.ref q) (upd H q (.dT kvs))
theorem call_dictT {X : Cx} (hc : X.calm = true) (hu : Deepy X) : CallR X (.type "dict") (rDictT X.K) := by
  intro ps0 s σ H xs us Q I rel ⟨a, ws, kvs, e1, ha, hk, q⟩
  subst e1
  obtain ⟨u, e2, r1⟩ := vals1 rel
  subst e2
  cases r1
  unfold Deepy at hu
  have big := I.big
  have sys : (s.heap.objs.size == sysModules) = false := beq_eq_false_iff_ne.mpr (Nat.ne_of_gt big)
  obtain ⟨_, its, n, rv, hg⟩ := (show ObjOk X.prog X.w H s.heap a (.lst ws) from I.hok a _ ha)
  rcases hk with ⟨rfl, rfl⟩ | ⟨p, b, k, v, rfl, hp, hb, rfl⟩
  · cases rv
    refine call_dict_pairsH (knd := tupleKind (mixKind X.prog X.w)) (ps := []) (PairArg.list a #[] (fun _ => 0) []) (I.ok.hd hc) (by show X.A.units + 1 + 1 < cLine; omega) ⟨⟨_, n, hg, rfl, rfl, rfl⟩, rfl, fun j k v e => by simp at e⟩ ⟨rfl, fun i key v e => by simp [PairRel] at e⟩ (fun h' _ x hx => nomatch hx) (Nat.zero_le _) fun h' tk dd keep => ?_
    obtain ⟨o, es, ep, ho, hx, hdt, he, his, hn⟩ := dd
    exact ⟨.ref s.heap.objs.size, _, I.laid (t' := tk) (o := .dT []) (fun b o e => keep b o (by simp) e) (Nat.le_refl _) ⟨Nat.zero_le _, sys, _, .nil, o, es, ep, ho, hx, hdt, he, hn⟩, rfl, q _ (I.hok.fresh (Nat.le_refl _))⟩
  · obtain ⟨u, rfl, ru⟩ := Vals.one rv
    cases ru
    obtain ⟨it2, rv2, at2, _⟩ := I.tuple hp
    cases rv2 with
    | cons x1 y1 =>
      cases x1
      obtain ⟨u2, rfl, ru2⟩ := Vals.one y1
      have hkey := key_of I.hok hb
      refine call_dict_pairsH (knd := tupleKind (mixKind X.prog X.w)) (ps := [(k, b, u2)]) (PairArg.list a #[.ref p] (fun _ => p) [(.ref b, u2)]) (I.ok.hd hc) (by show X.A.units + 1 + 1 < cLine; omega)
        ⟨⟨_, n, hg, rfl, rfl, rfl⟩, rfl, fun j k v e => ?_⟩ ⟨rfl, fun i key v e => ?_⟩ (fun h' kp x hx => ?_) (by rw [sizeLine_eq]; exact (by decide : 1 ≤ 16777216)) fun h' tk dd keep => ?_
      · match j, e with
        | 0, e =>
          cases e
          exact ⟨rfl, .inl at2⟩
        | j + 1, e => simp at e
      · match i, e with
        | 0, e =>
          cases e
          exact ⟨k, b, rfl, rfl⟩
        | i + 1, e => simp [PairRel] at e
      · cases List.mem_singleton.mp hx
        exact tupleKind_stays.stays (fun c o vs m e _ => kp c o (Nat.ne_of_lt (Heap.lt_size e)) (by simp) e) hkey
      · obtain ⟨o, es, ep, ho, hx, hdt, he, his, hn⟩ := dd
        have nb : b ≠ s.heap.objs.size := fun e => by rw [e, I.hok.fresh (Nat.le_refl _)] at hb; cases hb
        exact ⟨.ref s.heap.objs.size, _, I.laid (t' := tk) (o := .dT [(k, v)]) (fun b o e => keep b o (by simp) e) (Nat.le_refl _) ⟨by rw [sizeLine_eq]; exact (by decide : 1 ≤ 16777216), sys, _, .cons ⟨rfl, by rw [upd_ne nb]; exact hb, ru2⟩ .nil, o, es, ep, ho, hx, hdt, he, hn⟩, rfl, q _ (I.hok.fresh (Nat.le_refl _))⟩
section
variable {T : Ct} {φ : List Addr} {H : Hp} {S : Hs} {Q : VK}
theorem okE.newDT {ds : List (List Key × D)} {vs : List (List Key × V)} (R : RS T φ S H) (r : RTs T φ H ds vs) (P : okE T φ H Q (.ref S.n) (S.new (.dt ds))) : ∀ p, H p = none → Q (.ref p) (upd H p (.dT vs)) := fun p hp => by
  obtain ⟨R', U⟩ := R.new (o := .dT vs) (c := .dt ds) hp fun φ' H' u h => .dt h (r.up R u)
  exact P _ _ _ U R' (.ref (by rw [List.getElem?_append_right (by rw [R.len]; exact Nat.le_refl _), R.len]; simp))
theorem RTs.nil : RTs T φ H [] [] := ⟨rfl, fun i d v a _ => by simp at a⟩
theorem RTs.one {k : List Key} {d : D} {v : V} (r : RV T φ H d v) : RTs T φ H [(k, d)] [(k, v)] := ⟨rfl, fun i x y a b => by
  cases i with
  | zero =>
    simp at a b
    subst a b
    exact ⟨rfl, r⟩
  | succ i => simp at a⟩
end
def dictTF (ds : List D) (S : Hs) : Res D := match ds with
  | [.ref n] => match S.get n with
    | some (.lst []) => .ok (.ref S.n) (S.new (.dt []))
    | some (.lst [.tup [.key k, d]]) => .ok (.ref S.n) (S.new (.dt [(k, d)]))
    | _ => .bad
  | _ => .bad
theorem dictT_no : NoErL dictTF := fun ds S c d S' h => by
  unfold dictTF at h
  repeat' (first | cases h | split at h)
theorem dictT_M {T : Ct} : CallM T (rDictT T.K) dictTF := by
  intro φ S H ds vs Q R r P
  unfold dictTF at P
  split at P
  · rename_i n
    obtain ⟨v, rfl, r1⟩ := r.one
    cases r1 with
    | @ref _ a q =>
      split at P
      · rename_i hx
        obtain ⟨us, h, r'⟩ := R.lst q hx
        have e := r'.inv_nil
        subst e
        exact ⟨a, [], [], rfl, h, .inl ⟨rfl, rfl⟩, okE.newDT R .nil P⟩
      · rename_i k d hx
        obtain ⟨us, h, r'⟩ := R.lst q hx
        obtain ⟨u, rfl, ru⟩ := r'.one
        cases ru with
        | @tup _ p ws ht l rr =>
          obtain ⟨x, y, rfl, rx, ry⟩ := (show RVs T φ H _ _ from ⟨l, rr⟩).two
          cases rx with
          | @key _ b hb => exact ⟨a, _, _, rfl, h, .inr ⟨p, b, k, y, rfl, ht.sq, hb, rfl⟩, okE.newDT R (.one ry) P⟩
      · exact False.elim P
  · exact False.elim P
section
variable {X : Cx} {T : Ct} {W : WX} {pos p : Pos} {e a b : Expr} {ma mb : Ex} {ms : Exs}
theorem r_dictT (hc : X.calm = true) (hu : Deepy X) (hm : X.mg "dict" = none) (ha : PA X [e] (tA T W ms)) (hK : T.K = X.K := by rfl) (hg : Gl X "dict" := by rfl) (he : starEach [e] X.env = (false, eval e X.env) :: starEach [] X.env := by rfl) (hpl : (backTo pos (starEach [] X.env)).any (·.1) = false := by rfl) : PE X (.Call (.Name "dict" p) [e] [] pos) (tE T W (mCall dictTF ms)) :=
  r_callTy (r := rDictT T.K) (by rw [hK]; exact call_dictT hc hu) dictT_M dictT_no hg hm (by decide +kernel) ha (by decide) (by decide) he hpl
/-! ### displays -/
def mDT0 : Ex := fun _ S => .ok (.ref S.n) (S.new (.dt []))
theorem r_dictT0 : PE X (.Dict [] [] pos) (tE T W mDT0) := weakE pe_dnewT fun σ H Q ⟨φ, env, S, R, E, P⟩ => okE.newDT R .nil P
def tDispT (te tv : TE) : TE := fun σ H Q => ∀ p, H p = none → te σ (upd H p (.dT [])) fun x H1 => tv σ H1 fun y H2 => H2 p = some (.dT []) ∧ ∃ b k, x = .ref b ∧ H2 b = some (.tup (k.map kV)) ∧ Q (.ref p) (upd H2 p (.dT [(k, y)]))
theorem pe_dispT {ke ve : Expr} {te tv : TE} (hu : Deepy X) (hk : PE X ke te) (hv : PE X ve tv) : PE X (.Dict [some ke] [ve] pos) (tDispT te tv) := by
  refine ⟨fun pins s σ H Q I q => ?_⟩
  have fresh := I.hok.fresh (Nat.le_refl s.heap.objs.size)
  have I1 := I.laid (t' := s.toks) (a := s.heap.objs.size) (o := .dT []) (h' := s.heap.push { cls := .type "dict", data := .dict #[] }) (fun _ _ z => Heap.get?_push_of_some _ z) (Nat.le_refl _) (dt_empty s.heap I.big)
  have room : (tupleKind (mixKind X.prog X.w)).room X.A := by
    show X.A.units < cLine
    unfold Deepy at hu
    omega
  rw [arm_eval_Dict, zip_pairTrees [some ke] [ve] X.env pos rfl rfl, dictDisplay_pairs (pairTrees [some ke] [ve] X.env pos) (by intro z; have := congrArg List.length z; rw [pairTrees_length _ _ _ _ rfl rfl] at this; cases this) (by rw [pairTrees_length _ _ _ _ rfl rfl]; exact (by decide : 1 < 17))]
  refine wpAny_bind (wpAny_standAt (wpAny_bind (wpAny_subDictH (knd := tupleKind (mixKind X.prog X.w)) room (by rw [pairTrees_length _ _ _ _ rfl rfl]; exact (by decide : 1 ≤ 15)) ?_)))
  refine pairTrees_cons_walk (thn (hk.run pins _ σ _ _ I1 (q _ fresh)) fun u s1 ⟨x, H1, I2, rx, q1⟩ => thn (hv.run pins s1 σ H1 _ I2 q1) fun u2 s2 ⟨y, H2, I3, ry, hp, b, k, ex, hb, q2⟩ => pairTrees_nil_walk ?_)
  subst ex
  cases rx
  obtain ⟨z, hs, xs, r, dd⟩ := dt_of I3.hok hp
  cases r
  refine ⟨[(k, b, u2)], ⟨rfl, rfl, key_of I3.hok hb, trivial⟩, dd, fun h' tk d2 sb => wpAny_pure ⟨.ref s.heap.objs.size, _, ?_, rfl, q2⟩⟩
  obtain ⟨o, es, ep, ho, hx, hdt, he, his, hn⟩ := d2
  have nb : b ≠ s.heap.objs.size := fun e => by rw [e, hp] at hb; cases hb
  exact d_write I3 (by rw [hp]; exact True.intro) sb ⟨o, ho⟩ ⟨by rw [sizeLine_eq]; exact (by decide : 1 ≤ 16777216), hs, _, .cons ⟨rfl, by rw [upd_ne nb]; exact hb, ry⟩ .nil, o, es, ep, ho, hx, hdt, he, hn⟩
def mDT1 (z : Str) : Ex := fun _ S => .ok (.ref S.n) (S.new (.dt [([.inr z], .non)]))
theorem r_dictT1 {ke ve : Expr} {tp : Pos} {x1} {z : Str} (hu : Deepy X) (hk : PE X ke (tC (.str z))) (hv : PE X ve (tC .non)) (hs : starEach [ke] X.env = (false, eval ke X.env) :: starEach [] X.env := by rfl) : PE X (.Dict [some (.Tuple [ke] x1 tp)] [ve] pos) (tE T W (mDT1 z)) :=
  weakE (pe_dispT hu (pe_tup (pa_cons hk pa_nil hs)) hv) fun σ H Q ⟨φ, env, S, R, E, P⟩ => fun p hp => by
    refine ⟨by rw [sizeLine_eq]; exact (by decide : 1 ≤ 16777216), fun b hb => ?_⟩
    have nb : b ≠ p := fun e => by rw [e, upd_same] at hb; cases hb
    rw [upd_ne nb] at hb
    refine ⟨by rw [upd_ne nb.symm]; exact upd_same, b, [.inr z], rfl, upd_same, ?_⟩
    obtain ⟨R1, U1⟩ := R.laid (o := .tup [.str z]) hb
    have hp1 : upd H b (.tup [.str z]) p = none := by rw [upd_ne nb.symm]; exact hp
    have q := okE.newDT (ds := [([.inr z], .non)]) R1 (.one .non) (okE.up U1 P) p hp1
    have e : upd (upd (upd H p (.dT [])) b (.tup [.str z])) p (.dT [([.inr z], .non)]) = upd (upd H b (.tup [.str z])) p (.dT [([.inr z], .non)]) := by
      funext c
      by_cases h1 : c = p
      · rw [h1, upd_same, upd_same]
      · by_cases h2 : c = b
        · rw [upd_ne h1, upd_ne h1, h2, upd_same, upd_same]
        · rw [upd_ne h1, upd_ne h1, upd_ne h2, upd_ne h2, upd_ne h1]
    rw [e]
    exact q
end
/-! ### == of a dict with itself -/
def SelfH (T : Ct) (H : Hp) (a : Addr) : Prop := (∃ vs, H a = some (.dT vs)) ∨ ∃ (es : Array DictEntry) (vs : List (List Key × V)) (t : Tok), (a == sysModules) = false ∧ H a = some (OddO a (es.push ⟨hashStr T.w told, .str told t, .none⟩)) ∧ OddE T H vs es
theorem self_of {X : Cx} {T : Ct} {pins : List (Addr × Obj)} {σ : L2.St} {H : Hp} {s : Shared} {a : Addr} (hu : Deepy X) (I : Inv X pins σ H s) (h : SelfH T H a) : (a == sysModules) = false ∧ ∃ es, MixAt s.heap a es ∧
    ∀ (i : Nat) (e : DictEntry), es[i]? = some e → ∀ (E' : Value → Shared → Prop) (Q' : Option Nat → Shared → Prop), Q' (some i) s → wpAny (model X.prog X.w) X.A.in1 (dictFind a e.key e.hash) Q' E' s := by
  unfold Deepy at hu
  rcases h with ⟨vs, h⟩ | ⟨es, vs, t, hs, h, qe⟩
  · obtain ⟨z, hs, xs, r, o, es, ep, ho, hx, hdt, he, his, hn⟩ := dt_of I.hok h
    refine ⟨hs, es, ⟨o, ep, ho, hx, hdt⟩, fun i e hi E' Q' hq => ?_⟩
    rw [entry_at he i] at hi
    obtain ⟨x, hxi, rfl⟩ := Option.map_eq_some_iff.mp hi
    refine wpAny_dictFind_heap (knd := tupleKind (mixKind X.prog X.w)) (k := x.1) (a := x.2.1) (by show X.A.units + 1 < cLine; omega) (his x (List.mem_of_getElem? hxi)) ho hdt he his hn (fun no => (no i x.2 hxi).elim) fun j p hj => ?_
    have e1 : (xs.map (·.1))[i]? = some x.1 := by rw [List.getElem?_map, hxi]; rfl
    have e2 : (xs.map (·.1))[j]? = some x.1 := by rw [List.getElem?_map, hj]; rfl
    obtain ⟨l1, f1⟩ := List.getElem?_eq_some_iff.mp e1
    obtain ⟨l2, f2⟩ := List.getElem?_eq_some_iff.mp e2
    have ij : j = i := (List.getElem_inj hn).mp (f2.trans f1.symm)
    rw [ij]
    exact hq
  · obtain ⟨⟨o, ep, ho, hx, hd⟩, _, _⟩ := (show ObjOk X.prog X.w H s.heap a (OddO a _) from I.hok a _ h)
    exact ⟨hs, _, ⟨o, ep, ho, hx, hd⟩, fun i e hi E' Q' hq => OneT.each (qe.one I.hok) (by show X.A.units + 1 + 8 < cLine; omega) ho hd i e hi E' Q' hq⟩
def rEqS (T : Ct) : R2 := fun x y H Q => ∃ a, x = .ref a ∧ y = .ref a ∧ SelfH T H a ∧ Q (.bl true) H
def rNeS (T : Ct) : R2 := fun x y H Q => ∃ a, x = .ref a ∧ y = .ref a ∧ SelfH T H a ∧ Q (.bl false) H
theorem op_eqS {X : Cx} {T : Ct} (hu : Deepy X) : OpR X (compareOp .Eq) (rEqS T) := by
  intro pins s σ H x y v u Q I rx ry ⟨a, e1, e2, h, q⟩
  subst e1 e2
  cases rx
  cases ry
  obtain ⟨hs, es, m, f⟩ := self_of hu I h
  unfold Deepy at hu
  exact eq_self hs m (by omega) f (fun i e _ => SeqAt.EqAt.same _) ⟨.bl true, H, I, rfl, q⟩
theorem op_neS {X : Cx} {T : Ct} (hu : Deepy X) : OpR X (compareOp .NotEq) (rNeS T) := by
  intro pins s σ H x y v u Q I rx ry ⟨a, e1, e2, h, q⟩
  subst e1 e2
  cases rx
  cases ry
  obtain ⟨hs, es, m, f⟩ := self_of hu I h
  unfold Deepy at hu
  exact ne_self hs m (by omega) f (fun i e _ => SeqAt.EqAt.same _) ⟨.bl false, H, I, rfl, q⟩
def selfD (x y : D) (S : Hs) : Bool := match x, y with
  | .ref n, .ref m => n == m && (match S.get n with
    | some (.dt _) => true
    | some (.odd _) => true
    | _ => false)
  | _, _ => false
def eqX (x y : D) (S : Hs) : Res D := if selfD x y S then .ok (.bl true) S else eqD x y S
def neX (x y : D) (S : Hs) : Res D := if selfD x y S then .ok (.bl false) S else neD x y S
theorem eqX_no : NoEr eqX := fun x y S c d S' h => by
  unfold eqX at h
  split at h
  · cases h
  · exact eq_no x y S c d S' h
theorem neX_no : NoEr neX := fun x y S c d S' h => by
  unfold neX at h
  split at h
  · cases h
  · exact ne_no x y S c d S' h
theorem selfD_of {T : Ct} {φ : List Addr} {S : Hs} {H : Hp} {x y : D} {v u : V} (R : RS T φ S H) (vx : RV T φ H x v) (vy : RV T φ H y u) (h : selfD x y S = true) : ∃ a, v = .ref a ∧ u = .ref a ∧ SelfH T H a := by
  unfold selfD at h
  split at h
  · rename_i n m
    obtain ⟨e, h⟩ := Bool.and_eq_true_iff.mp h
    have e := eq_of_beq e
    subst e
    cases vx with
    | @ref _ a q =>
      cases vy with
      | @ref _ b q2 =>
        rw [q] at q2
        cases q2
        refine ⟨a, rfl, rfl, ?_⟩
        split at h
        · rename_i kvs hx
          cases R.cell n _ a hx q with
          | dt h r => exact .inl ⟨_, h⟩
        · rename_i kvs hx
          cases R.cell n _ a hx q with
          | odd hs h qe r => exact .inr ⟨_, _, _, hs, h, qe⟩
        · simp at h
  · cases h
theorem eqX_M {T : Ct} : OpM T (fun x y H Q => rEqS T x y H Q ∨ rEqD T.K x y H Q) eqX := by
  intro φ S H x y v u Q er R vx vy ne P
  unfold eqX at P
  split at P
  · rename_i h
    obtain ⟨a, e1, e2, q⟩ := selfD_of R vx vy h
    exact .inl ⟨a, e1, e2, q, P.now R (.bl _)⟩
  · exact .inr (eq_M R vx vy ne P)
theorem neX_M {T : Ct} : OpM T (fun x y H Q => rNeS T x y H Q ∨ rNeD T.K x y H Q) neX := by
  intro φ S H x y v u Q er R vx vy ne P
  unfold neX at P
  split at P
  · rename_i h
    obtain ⟨a, e1, e2, q⟩ := selfD_of R vx vy h
    exact .inl ⟨a, e1, e2, q, P.now R (.bl _)⟩
  · exact .inr (ne_M R vx vy ne P)
section
variable {X : Cx} {T : Ct} {W : WX} {pos : Pos} {a b : Expr} {ma mb : Ex}
theorem eqX_op (hu : Deepy X) (hK : T.K = X.K) : OpR X (compareOp .Eq) (fun x y H Q => rEqS T x y H Q ∨ rEqD T.K x y H Q) := by
  rw [hK]
  exact (op_eqS hu).or (op_eqD (by unfold Deepy at hu; omega))
theorem neX_op (hu : Deepy X) (hK : T.K = X.K) : OpR X (compareOp .NotEq) (fun x y H Q => rNeS T x y H Q ∨ rNeD T.K x y H Q) := by
  rw [hK]
  exact (op_neS hu).or (op_neD (by unfold Deepy at hu; omega))
theorem r_eqX (hu : Deepy X) (ha : PE X a (tE T W ma)) (hb : PE X b (tE T W mb)) (hK : T.K = X.K := by rfl) : PE X (.Compare a [.Eq] [b] pos) (tE T W (mOp2 eqX ma mb)) := r_cmp (eqX_op hu hK) eqX_M eqX_no ha hb (nomark _)
theorem t_eqX (hu : Deepy X) (ha : PE X a (tE T W ma)) (hb : PE X b (tE T W mb)) (hK : T.K = X.K := by rfl) : PT X (.Compare a [.Eq] [b] pos) (tT T W (mOp2 eqX ma mb)) := t_cmp (eqX_op hu hK) eqX_M eqX_no ha hb (nomark _)
theorem r_neX (hu : Deepy X) (ha : PE X a (tE T W ma)) (hb : PE X b (tE T W mb)) (hK : T.K = X.K := by rfl) : PE X (.Compare a [.NotEq] [b] pos) (tE T W (mOp2 neX ma mb)) := r_cmp (neX_op hu hK) neX_M neX_no ha hb (nomark _)
theorem t_neX (hu : Deepy X) (ha : PE X a (tE T W ma)) (hb : PE X b (tE T W mb)) (hK : T.K = X.K := by rfl) : PT X (.Compare a [.NotEq] [b] pos) (tT T W (mOp2 neX ma mb)) := t_cmp (neX_op hu hK) neX_M neX_no ha hb (nomark _)
end
end MR

/-! M21: own errors made as values: by place, by a keyword, of nothing. -/
namespace PySem
namespace ErY
open PySem.W PySem.Calls PyProof.Rows PySem.HandSPX
section
variable {M : Model} {A : Around} {E : Value → Shared → Prop} {h : Heap} {g : Array GenState} {dr : Drawn} {t : Nat} {os : OsState}
variable {nm q : Str} {C N : Addr} {bs up upB : List Value} {hd : Bool} {sn : List Str} {sub : List Value} {ab : Bool} {col : Option Bool} {dd : Option Addr} {k0 k1 k2 k3 k5 : Option Value} {B nI iI : String}
/-- what stands above such a class -/
structure Above (upB up : List Value) : Prop where
  ty : ∀ X : String, up.contains (.type X) = upB.contains (.type X)
theorem Above.with_ (a : Above upB up) {X : String} {b : Bool} (y : upB.contains (.type X) = b) : (Value.ref C :: up).contains (.type X) = b := by
  have e : (Value.ref C :: up).contains (.type X) = (((Value.type X) == (Value.ref C)) || up.contains (.type X)) := List.contains_cons
  rw [e, a.ty, y]
  cases b <;> rfl
theorem new_asked (F : ExcBaseFacts B nI iI upB) (a : Above upB up) {rest : List Value} {kw : List (Str × Value)} {Q : Unit → Shared → Prop}
    (cl : h.get? C = some (excClassObj nm q C N bs up hd sn sub ab col dd k0 k1 k2 k3 k5 nI)) (z : Q () ⟨h, g, dr, t, os⟩) : wpAny M A (checkBuiltinCall nI ⟨.ref C :: rest, kw⟩) Q E ⟨h, g, dr, t, os⟩ := by
  have yes : (Value.ref C :: up).contains (.type B) = true := a.with_ F.hasB
  have star := F.noStar
  simp only [checkBuiltinCall, F.newRow, F.newSplit, F.newKind]
  repeat (first | refine wpAny_staticBase_exc cl ?_ | refine wpAny_madeBy_exc cl ?_ | (refine wpAny_isSubtype_exc cl ?_; rw [yes]) | refine wpAny_loadPart_at cl ?_ | simp only [if_false, bne_self_eq_false, Bool.false_eq_true] | wp_step)
  all_goals exact z
end
section
variable {prog : Program} {w : World} {A : Around} {E : Value → Shared → Prop} {R : Result → Shared → Prop} {h : Heap} {g : Array GenState} {dr : Drawn} {t : Nat} {os : OsState}
variable {nm q : Str} {C N : Addr} {bs up upB : List Value} {hd : Bool} {sn : List Str} {sub : List Value} {ab : Bool} {col : Option Bool} {dd : Option Addr} {k0 k1 k2 k3 k5 : Option Value} {B nI iI : String}
/-- the two objects that __new__ lays -/
abbrev bare2 (h : Heap) (C : Addr) (rest : List Value) : Heap := (h.push (kdv_tup rest)).push (excO C h.objs.size)
theorem bare2_keep {rest : List Value} : ∀ b o, h.get? b = some o → (bare2 h C rest).get? b = some o := fun b o z => Heap.get?_push_of_some _ (Heap.get?_push_of_some _ z)
theorem bare2_at {rest : List Value} : (bare2 h C rest).get? (h.objs.size + 1) = some (excO C h.objs.size) := by heap_get
theorem new_made (F : ExcBaseFacts B nI iI upB) (a : Above upB up) {rest : List Value} {kw : List (Str × Value)} (cl : h.get? C = some (excClassObj nm q C N bs up hd sn sub ab col dd k0 k1 k2 k3 k5 nI)) (few : rest.length ≤ sizeLine)
    (z : R (.ok (.ret (.ref (h.objs.size + 1)))) ⟨bare2 h C rest, g, dr, t, os⟩) : codeAny (model prog w) A (.builtin nI ⟨.ref C :: rest, kw⟩) R ⟨h, g, dr, t, os⟩ := by
  have e1 := F.ends
  have yes : (Value.ref C :: up).contains (.type B) = true := a.with_ F.hasB
  have no1 : (Value.ref C :: up).contains (.type "AttributeError") = false := a.with_ F.noAttr
  have no2 : (Value.ref C :: up).contains (.type "NameError") = false := a.with_ F.noName
  apply codeAny_builtinAt F.entry
  unfold Builtin.«BaseException.__new__»
  apply wpAt_bind
  show wpAt _ _ _ (stack >>= _) _ _ _
  apply wpAt_bind
  apply wpAt_stack
  intro p below
  apply wpAt_of_wpAny
  wp_walk
  apply wpAt_of_wpAny
  rw [F.owner]
  repeat (first | (with_reducible refine wpAny_isSubtype_exc cl ?_; first | rw [no1] | rw [no2] | rw [yes]) | with_reducible refine wpAny_loadPart_at cl ?_ | with_reducible refine wpAny_madeHere_exc F.canon cl ?_ | wp_step)
  show R _ _
  rw [Heap.size_push]
  exact z
/-- type.__call__: __new__, then what the class says __init__ is -/
theorem type_made (F : ExcBaseFacts B nI iI upB) (a : Above upB up) {rest : List Value} {kw : List (Str × Value)} {iv : Value} {Q : Fin → Shared → Prop} (cl : h.get? C = some (excClassObj nm q C N bs up hd sn sub ab col dd k0 k1 k2 k3 k5 nI))
    (li : W.Looks (model prog w) h (typeLookup (.ref C) "__init__") (some iv)) (lb : ∀ self, W.Looks (model prog w) h (bindSpecial iv self) (iv, [self])) (few : rest.length ≤ sizeLine)
    (z : wpAny (model prog w) A (call iv (.ref (h.objs.size + 1) :: rest) kw) (fun v s' => v = .none ∧ Q (.done (.ret (.ref (h.objs.size + 1)))) s') E ⟨bare2 h C rest, g, dr, t, os⟩) :
    wpAny (model prog w) A (Builtin.«type.__call__» ⟨.ref C :: rest, kw⟩) Q E ⟨h, g, dr, t, os⟩ := by
  repeat (first | with_reducible refine wpAny_madeBy_exc cl ?_ | with_reducible refine wpAny_loadPart_at cl ?_ | wp_step)
  apply codeAny_call_builtin_code (Code.quiet_builtin _ F.quiet)
  apply new_asked F a cl
  apply new_made F a cl few
  show wpAny _ _ _ _ _ _
  have cl2 := bare2_keep (C := C) (rest := rest) _ _ cl
  have at2 : (bare2 h C rest).get? (h.objs.size + 1) = some (excO C h.objs.size) := bare2_at
  have self_ : (Value.ref C :: up).contains (.ref C) = true := by simp
  unfold isInstance
  repeat (first | (with_reducible refine wpAny_isSubtype_exc cl2 ?_; rw [self_]) | with_reducible refine wpAny_loadPart_at at2 ?_ | wp_step)
  show wpAny _ _ (typeLookup (.ref C) _) _ _ _
  refine (li.keeps bare2_keep).at ?_
  apply wpAny_holding
  apply wpAny_bind
  refine ((lb _).keeps bare2_keep).at ?_
  apply wpAny_bind
  refine wpAny_mono z (fun v s' y => ?_) fun _ _ y => y
  have ⟨y1, y2⟩ := y
  subst y1
  first
    | exact wpAny_pure (wpAny_pure y2)
    | (wp_walk; exact y2)
/-- a call of such a class -/
theorem call_made (F : ExcBaseFacts B nI iI upB) (a : Above upB up) {rest : List Value} {kw : List (Str × Value)} {iv : Value} (cl : h.get? C = some (excClassObj nm q C N bs up hd sn sub ab col dd k0 k1 k2 k3 k5 nI))
    (li : W.Looks (model prog w) h (typeLookup (.ref C) "__init__") (some iv)) (lb : ∀ self, W.Looks (model prog w) h (bindSpecial iv self) (iv, [self])) (few : rest.length ≤ sizeLine)
    (z : wpAny (model prog w) (A.under (.builtin "type.__call__" ⟨.ref C :: rest, kw⟩)) (call iv (.ref (h.objs.size + 1) :: rest) kw) (fun v s' => v = .none ∧ R (.ok (.ret (.ref (h.objs.size + 1)))) s') (fun e s' => R (.error e) s') ⟨bare2 h C rest, g, dr, t, os⟩) :
    codeAny (model prog w) A (.call (.ref C) ⟨rest, kw⟩) R ⟨h, g, dr, t, os⟩ := by
  have e1 := tc_lookup
  have e2 := tc_bind (.ref C)
  have ty : (⟨h, g, dr, t, os⟩ : Shared).TypeIs (.ref C) "type" := ⟨_, cl, rfl⟩
  have e3 := tc_sub
  have asked : ∀ {Q : Unit → Shared → Prop} {E : Value → Shared → Prop} {A : Around}, Q () ⟨h, g, dr, t, os⟩ → wpAny (model prog w) A (checkBuiltinCall "type.__call__" ⟨.ref C :: rest, kw⟩) Q E ⟨h, g, dr, t, os⟩ := by
    intro Q E A y
    simp only [checkBuiltinCall, tc_split, tc_kind]
    repeat (any_goals (first | assumption | with_reducible refine wpAny_map ?_ | with_reducible refine wpAny_onRaise ?_ | with_reducible refine wpAny_loadPart_at cl ?_ | wp_step))
  apply codeAny_of_tree
  show wpAny _ _ (callAny (.ref C) _) _ _ _
  repeat (any_goals (first | assumption | with_reducible refine wpAny_loadPart_at cl ?_ | wp_step))
  refine ⟨rfl, ?_⟩
  apply codeAny_call_builtin_at (Code.quiet_builtin _ (by decide +kernel)) entry_typeCall
  apply asked
  exact type_made F a cl li lb few z
end
section
variable {prog : Program} {w : World} {A : Around} {E : Value → Shared → Prop} {R : Result → Shared → Prop} {s : Shared} {K : Frag} {mg mb : Str → Option Value} {x : Str} {C fI : Addr}
/-- x(..) of an own error with a field: it holds v -/
theorem own_made (T : ErX.ErrTxt prog K mg x C fI) {v : Value} {rest : List Value} {kw : List (Str × Value)} (few : rest.length ≤ sizeLine) (bd : ∀ (e : Addr) (s : Shared), K.In s.heap → ErX.Bnds K s ⟨.ref e :: rest, kw⟩ [("self", .ref e), ("value", v)])
    (X : K.In s.heap) (G : s.heap.Ns mainGlobals mg) (B : s.heap.Ns builtinsNs mb) (hB : mb "super" = some (.type "super")) (lim : s.heap.NoLimit) (room : A.depth + 1 < recursionLimit)
    (z : ∀ h' tk e d, ErX.OwnMade s.heap h' e C d v → R (.ok (.ret (.ref e))) { s with heap := h', toks := tk }) : codeAny (model prog w) A (.call (.ref C) ⟨rest, kw⟩) R s := by
  obtain ⟨nm, q, N, bs, up, sn, sub, ab, col, dd, k0, k1, k2, k3, k5, cl, ve, al⟩ := T.cls
  obtain ⟨hp, g, dr, tk, os⟩ := s
  have kp := bare2_keep (h := hp) (C := C) (rest := rest)
  have at2 : (bare2 hp C rest).get? (hp.objs.size + 1) = some (excO C hp.objs.size) := bare2_at
  have notK : K.lookup (hp.objs.size + 1) = none := by
    cases y : K.lookup (hp.objs.size + 1) with
    | none => rfl
    | some o =>
      have y2 := Heap.lt_size (X _ _ y)
      have y3 : hp.objs.size + 1 < hp.objs.size := y2
      omega
  apply call_made F.excBase_ValueError ⟨fun Y => refsVE_contains Y up ve⟩ (X _ _ cl) (looks_findIn X T.iC) (fun self => bind_fn X self T.tC) few
  apply wpAny_call
  refine ErX.err_initA (s := ⟨bare2 hp C rest, g, dr, tk, os⟩) T (bd _ _ (X.keeps kp)) (X.keeps kp) (G.keeps kp) (B.keeps kp) hB (lim.keeps kp) at2 notK ?_ fun h' tk' dx IE => ?_
  · show A.depth + 1 < recursionLimit
    exact room
  · have ⟨k', ⟨t1, hx⟩, dn, dne, hns⟩ := IE
    have y : hp.objs.size + 1 + 1 ≤ dx := by
      first
        | (simpa only [Heap.size_push] using dn)
        | exact dn
        | (have y := dn; rw [Heap.size_push, Heap.size_push] at y; exact y)
    refine ⟨rfl, z h' tk' _ dx ⟨fun b o y => k' b o (Nat.ne_of_lt (Nat.lt_succ_of_lt (Heap.lt_size y))) (kp b o y), Nat.le_succ _, ⟨_, _, hx, rfl, rfl, rfl, rfl⟩, Nat.le_trans (Nat.le_trans (Nat.le_succ _) (Nat.le_succ _)) y, dne, hns⟩⟩
/-- what the written part says of an own class without __init__ -/
structure BareTxt (K : Frag) (mg : Str → Option Value) (x : Str) (C : Addr) : Prop where
  gC : mg x = some (.ref C)
  cls : ∃ nm q N bs up sn sub ab col dd k0 k1 k2 k3 k5, K.lookup C = some (excClassObj nm q C N bs up true sn sub ab col dd k0 k1 k2 k3 k5 "ValueError.__new__") ∧ refsVE up = true
  iC : findIn K (.ref C) "__init__" = some (some (.builtin "ValueError.__init__"))
  kC : keepIn K (.ref C) = true
structure BareMade (h h' : Heap) (e C : Addr) : Prop where
  keep : ∀ b o, h.get? b = some o → h'.get? b = some o
  new : h.objs.size ≤ e
  obj : ∃ t, h'.get? e = some (excO C t)
theorem bare_made (T : BareTxt K mg x C) (X : K.In s.heap) (z : ∀ h' tk e, BareMade s.heap h' e C → R (.ok (.ret (.ref e))) { s with heap := h', toks := tk }) : codeAny (model prog w) A (.call (.ref C) ⟨[], []⟩) R s := by
  obtain ⟨nm, q, N, bs, up, sn, sub, ab, col, dd, k0, k1, k2, k3, k5, cl, ve⟩ := T.cls
  obtain ⟨hp, g, dr, tk, os⟩ := s
  have kp := bare2_keep (h := hp) (C := C) (rest := [])
  have at2 : (bare2 hp C []).get? (hp.objs.size + 1) = some (excO C hp.objs.size) := bare2_at
  have few : ([] : List Value).length ≤ sizeLine := Nat.zero_le _
  apply call_made F.excBase_ValueError ⟨fun Y => refsVE_contains Y up ve⟩ (X _ _ cl) (looks_findIn X T.iC) (fun self => .of_pure (F.excBase_ValueError.init.bind self)) few
  apply wpAny_call
  refine init_base F.excBase_ValueError (fun Y => refsVE_contains Y up ve) (kp _ _ (X _ _ cl)) at2 few fun h' t1 k' at3 => ?_
  exact ⟨rfl, z h' tk _ ⟨fun b o y => k' b o (Nat.ne_of_lt (Nat.lt_succ_of_lt (Heap.lt_size y))) (kp b o y), Nat.le_succ _, ⟨t1, at3⟩⟩⟩
end
end ErY
end PySem

/-! M22: the mirror's own errors as values; isinstance of them. -/
namespace MR
open PySem PySem.Spec L2 PyProof.Rows
section
variable {X : Cx} {pins : List (Addr × Obj)} {σ : L2.St} {H : Hp} {s : Shared} {C fI : Addr} {x : Str}
theorem Inv.off {e : Addr} (I : Inv X pins σ H s) (new : s.heap.objs.size ≤ e) : H e = none ∧ e ≠ X.env.locals ∧ (∀ p ∈ X.pn ++ pins, p.1 ≠ e) ∧ ∀ o, X.s_0.heap.get? e ≠ some o := by
  refine ⟨I.hok.fresh new, fun z => ?_, fun p hp z => ?_, fun o z => ?_⟩
  · have ⟨m, hm, _⟩ := I.loc
    have ⟨o, es, ep, at_, _⟩ := hm
    exact Nat.lt_irrefl _ (Nat.lt_of_lt_of_le (Heap.lt_size at_) (z ▸ new))
  · have ⟨at_, _⟩ := I.pin p hp
    exact Nat.lt_irrefl _ (Nat.lt_of_lt_of_le (Heap.lt_size at_) (z ▸ new))
  · exact Nat.lt_irrefl _ (Nat.lt_of_lt_of_le (Heap.lt_size z) (Nat.le_trans I.sz new))
/-- behind the making of an own error -/
theorem run_own {v : V} {v' : Value} {us : List Value} {kw : List (Str × Value)} {Q : VK} {k : Nat} (T : PySem.ErX.ErrTxt X.prog X.K X.mg x C fI) (hr : Room k X.A) (I : Inv X pins σ H s) (r : RelV v v') (few : us.length ≤ sizeLine)
    (bd : ∀ (e : Addr) (s : Shared), X.K.In s.heap → PySem.ErX.Bnds X.K s ⟨.ref e :: us, kw⟩ [("self", .ref e), ("value", v')])
    (q : ∀ e d, H e = none → H d = none → e ≠ d → Q (.ref e) (upd (upd H d (.xd (fV v))) e (ExcT e C d))) : wpAny (model X.prog X.w) X.A (call (.ref C) us kw) (EP X pins σ Q) X.xe s := by
  have ⟨mb, b1, b2⟩ := I.mod.blt
  have gS : mb "super" = some (.type "super") := (b2 "super" (by decide)).trans (by decide +kernel)
  apply wpAny_call
  refine PySem.ErY.own_made T few bd I.kIn (I.mod.glob.keeps I.bk) (b1.keeps I.bk) gS I.nolimit (by have := hr.dp; omega) fun h' tk' e d M => ?_
  show EP X pins σ Q (.ref e) _
  have ⟨oe, fv, at_, hc, hd, hf, _⟩ := M.obj
  have ⟨z1, z2, z3, z4⟩ := MR.Inv.off I M.new
  have stands : ObjOk X.prog X.w (upd H d (.xd (fV v))) h' d (.xd (fV v)) := ⟨_, M.ns, fun f => relO_fV r f⟩
  have J := I.laid (t' := tk') M.keep M.dbig stands
  exact ⟨.ref e, _, adopt J at_ hc hd hf (by rw [upd_ne (Ne.symm M.dne)]; exact z1) z2 z3 z4, rfl, q e d z1 (I.hok.fresh M.dbig) (Ne.symm M.dne)⟩
theorem run_bare {Q : VK} (T : PySem.ErY.BareTxt X.K X.mg x C) (I : Inv X pins σ H s) (q : ∀ e, H e = none → Q (.ref e) (upd H e (ExcB e C))) : wpAny (model X.prog X.w) X.A (call (.ref C) []) (EP X pins σ Q) X.xe s := by
  apply wpAny_call
  refine PySem.ErY.bare_made T I.kIn fun h' tk' e M => ?_
  show EP X pins σ Q (.ref e) _
  have ⟨t, at_⟩ := M.obj
  have ⟨z1, z2, z3, z4⟩ := MR.Inv.off I M.new
  have stands : ObjOk X.prog X.w (upd H e (ExcB e C)) h' e (ExcB e C) := ⟨⟨_, _, at_, rfl, rfl, rfl⟩, ⟨_, at_⟩, fun h1 h2 ⟨o1, w1, e1, e2⟩ k => ⟨o1, w1, k _ e1, e2⟩⟩
  exact ⟨.ref e, _, I.laid (t' := tk') M.keep M.new stands, rfl, q e z1⟩
end
/-! ### the mirror -/
def mEr (c : Str) (m : Ex) : Ex := fun env S => (m env S).bind fun d S1 => .ok (.er c d) S1
section
variable {X : Cx} {T : Ct} {W : WX} {C fI : Addr} {c x : Str} {p pos : Pos} {a : Expr} {m : Ex} {k : Nat} {φ : List Addr} {S : Hs} {H : Hp} {Q : VK}
theorem okE.err {d : D} {v : V} {e dd : Addr} (R : RS T φ S H) (r : RV T φ H d v) (h1 : H e = none) (h2 : H dd = none) (ne : e ≠ dd) (P : okE T φ H Q (.er c d) S) : Q (.ref e) (upd (upd H dd (.xd (fV v))) e (ExcT e (T.ca c) dd)) := by
  obtain ⟨R1, u1⟩ := R.laid (o := .xd (fV v)) h2
  have h1' : upd H dd (.xd (fV v)) e = none := by rw [upd_ne ne]; exact h1
  obtain ⟨R2, u2⟩ := R1.laid (o := ExcT e (T.ca c) dd) h1'
  exact P φ _ _ (u1.trans u2) R2 (.er upd_same (by rw [upd_ne (Ne.symm ne)]; exact upd_same) ((r.up R u1).up R1 u2))
theorem r_er (G : PySem.ErX.ErrTxt X.prog X.K X.mg x C fI) (hca : T.ca x = C) (hr : Room k X.A) (ha : PE X a (tE T W m)) (hg : Gl X x := by rfl) (hdb : (x == ("__debug__" : Str)) = false := by decide)
    (he : starEach (a :: []) X.env = (false, eval a X.env) :: starEach [] X.env := by rfl) (hpl : (backTo pos (starEach [] X.env)).any (·.1) = false := by rfl) : PE X (.Call (.Name x p) [a] [] pos) (tE T W (mEr x m)) := by
  refine ⟨fun pins s σ H Q I ⟨φ, env, S, R, E, P⟩ => ?_⟩
  refine wpAny_Call_Name_kw (ld_glob I hg G.gC ?_ hdb)
  have q : tA T W (mCons m mNil) σ H fun vs H1 => ∃ v, vs = [v] ∧ ∀ e d, H1 e = none → H1 d = none → e ≠ d → Q (.ref e) (upd (upd H1 d (.xd (fV v))) e (ExcT e C d)) := by
    refine ⟨φ, env, S, R, E, ?_⟩
    unfold mEr at P
    show Post _ _ ((m env S).bind fun d S1 => .ok [d] S1)
    cases hm : m env S with
    | ok d S1 =>
      rw [hm] at P
      have P' : okE T φ H Q (.er x d) S1 := P
      intro φ1 H1 vs u R1 r
      obtain ⟨v, rfl, r1⟩ := r.one
      refine ⟨v, rfl, fun e dd h1 h2 ne => ?_⟩
      rw [← hca]
      exact (P'.up u).err R1 r1 h1 h2 ne
    | err c d S1 => rw [hm] at P; exact P
    | bad => rw [hm] at P; exact P
  refine PySem.W.callWith_K (h₀ := X.base) I.ok.mod.kin G.kC (thn ((a_cons ha a_nil he).run pos pins s σ H _ I q) fun us s1 hh => ?_) he hpl
  obtain ⟨vs, H1, I1, r1, v, ev, q1⟩ := hh
  subst ev
  refine ⟨I1.kIn, ?_⟩
  cases r1 with
  | cons rv rn =>
    cases rn
    exact run_own G hr I1 rv (PySem.ErX.one_size _) (fun e s Y => PySem.ErX.bnds_at Y) q1
/-- x(value = e) -/
theorem r_erK {kpos : Pos} (G : PySem.ErX.ErrTxt X.prog X.K X.mg x C fI) (hca : T.ca x = C) (hr : Room k X.A) (ha : PE X a (tE T W m)) (hg : Gl X x := by rfl) (hdb : (x == ("__debug__" : Str)) = false := by decide)
    (hall : (backToKw pos (keywordEach [⟨some "value", a, kpos⟩] X.env)).all (·.1.isSome) = true := by rfl) (hks : (backToKw pos (keywordEach [⟨some "value", a, kpos⟩] X.env)).filterMap (·.1) = [("value" : Str)] := by rfl)
    (hpl : ((backTo pos (starEach [] X.env)).any (·.1) || (backToKw pos (keywordEach [⟨some "value", a, kpos⟩] X.env)).any (·.1.isNone)) = false := by rfl) : PE X (.Call (.Name x p) [] [⟨some "value", a, kpos⟩] pos) (tE T W (mEr x m)) := by
  refine ⟨fun pins s σ H Q I ⟨φ, env, S, R, E, P⟩ => ?_⟩
  refine wpAny_Call_Name_kw (ld_glob I hg G.gC ?_ hdb)
  have q : tA T W (mCons m mNil) σ H fun vs H1 => ∃ v, vs = [v] ∧ ∀ e d, H1 e = none → H1 d = none → e ≠ d → Q (.ref e) (upd (upd H1 d (.xd (fV v))) e (ExcT e C d)) := by
    refine ⟨φ, env, S, R, E, ?_⟩
    unfold mEr at P
    show Post _ _ ((m env S).bind fun d S1 => .ok [d] S1)
    cases hm : m env S with
    | ok d S1 =>
      rw [hm] at P
      have P' : okE T φ H Q (.er x d) S1 := P
      intro φ1 H1 vs u R1 r
      obtain ⟨v, rfl, r1⟩ := r.one
      refine ⟨v, rfl, fun e dd h1 h2 ne => ?_⟩
      rw [← hca]
      exact (P'.up u).err R1 r1 h1 h2 ne
    | err c d S1 => rw [hm] at P; exact P
    | bad => rw [hm] at P; exact P
  refine PySem.W.callWith_KW0 (h₀ := X.base) I.ok.mod.kin G.kC hall (thn ((k_cons ha k_nil).run pos pins s σ H _ I q) fun ws s1 hh => ?_) hpl
  obtain ⟨vs, H1, I1, r1, v, ev, q1⟩ := hh
  subst ev
  refine ⟨I1.kIn, ?_⟩
  rw [hks]
  cases r1 with
  | @cons _ v' _ _ rv rn =>
    cases rn
    exact run_own (us := []) (kw := [("value", v')]) G hr I1 rv (Nat.zero_le _) (fun e s Y => PySem.ErX.bnds_kw Y) q1
/-- x() -/
theorem r_er0 (G : PySem.ErX.ErrTxt X.prog X.K X.mg x C fI) (hca : T.ca x = C) (hr : Room k X.A) (hg : Gl X x := by rfl) (hdb : (x == ("__debug__" : Str)) = false := by decide) : PE X (.Call (.Name x p) [] [] pos) (tE T W (mC (.er x .non))) := by
  refine ⟨fun pins s σ H Q I ⟨φ, env, S, R, E, P⟩ => ?_⟩
  refine wpAny_Call_Name_kw (ld_glob I hg G.gC ?_ hdb)
  refine PySem.W.callWith_K0 I.kIn G.kC ?_
  have P' : okE T φ H Q (.er x .non) S := P
  exact run_own (us := []) (kw := []) (v := .non) (v' := .none) G hr I rfl (Nat.zero_le _) (fun e s Y => PySem.ErX.bnds_no Y) fun e d h1 h2 ne => by
    rw [← hca]
    exact P'.err R .non h1 h2 ne
/-- x() of a class without a field -/
theorem r_eb0 (G : PySem.ErY.BareTxt X.K X.mg x C) (hca : T.ca x = C) (hg : Gl X x := by rfl) (hdb : (x == ("__debug__" : Str)) = false := by decide) : PE X (.Call (.Name x p) [] [] pos) (tE T W (mC (.eb x))) := by
  refine ⟨fun pins s σ H Q I ⟨φ, env, S, R, E, P⟩ => ?_⟩
  refine wpAny_Call_Name_kw (ld_glob I hg G.gC ?_ hdb)
  refine PySem.W.callWith_K0 I.kIn G.kC ?_
  have P' : okE T φ H Q (.eb x) S := P
  refine run_bare G I fun e h1 => ?_
  obtain ⟨R1, u1⟩ := R.laid (o := ExcB e C) h1
  rw [← hca] at R1 u1 ⊢
  exact P' φ _ _ u1 R1 (.eb upd_same)
end
/-! ### isinstance of an error -/
/-- it is an error of the class at C: with its dict tracked, or with none -/
def IsErr (H : Hp) (C a : Addr) : Prop := (∃ dd fs, H a = some (ExcT a C dd) ∧ H dd = some (.xd fs)) ∨ H a = some (ExcB a C)
def rIsV (K : PySem.W.Frag) (ca : Str → Addr) (kn : List Str) : List V → Hp → VK → Prop := fun xs H Q => ∃ (a : Addr) (c : Str) (t : V) (u : Value) (b : Bool), xs = [.ref a, t] ∧ c ∈ kn ∧ IsErr H (ca c) a ∧ ClsV t u ∧ PySem.W.kitOne K (.ref (ca c)) u = some b ∧ Q (.bl b) H
theorem call_isV {X : Cx} {ca : Str → Addr} {isa : Isa} {kn cl : List Str} (F : ErrK X.K ca isa kn cl) : CallR X (.builtin "isinstance") (rIsV X.K ca kn) := by
  intro pins s σ H xs us Q I r h
  obtain ⟨a, c, t, u, b, rfl, hc, ie, k, e, q⟩ := h
  obtain ⟨u1, u2, rfl, r1, r2⟩ := vals2 r
  cases (show u1 = Value.ref a from r1)
  have x := F.xf c hc
  have hcl : (PySem.W.clsIn X.K (ca c)).isSome = true := by
    obtain ⟨cd, hc, _⟩ := PySem.W.any_some x.hdC
    rw [hc]
    rfl
  have fin : ∀ (oe : Obj) (od : Option Obj), PySem.W.InstAt s.heap a oe (ca c) od → wpAny (model X.prog X.w) X.A (call (.builtin "isinstance") [.ref a, u2]) (EP X pins σ Q) X.xe s := fun oe od J => by
    have Z := PySem.W.kitx_exc (K := X.K) (x := a) (ox := oe) (od := od) (C := ca c) hcl x.ga x.gg x.exC (F.ha c hc) F.hn F.ht (F.hm c hc)
    have e2 := k.eq r2
    subst e2
    exact PySem.W.kia_one Z I.kIn J e (fun z => nomatch z) fun tk => ⟨.bl b, H, I.tok tk, rfl, q⟩
  rcases ie with ⟨dd, fs, ha, hdd⟩ | ha
  · have ⟨⟨oe, vs, at_, kl, di, fl⟩, _⟩ := I.hok a _ ha
    have ⟨mA, ns, _⟩ := I.hok dd _ hdd
    have ⟨od, ho, _⟩ := lookIn_ns ns
    exact fin oe (some od) ⟨at_, kl, by unfold PySem.W.notCls; rw [fl] <;> rfl, by rw [di]; exact ho⟩
  · have ⟨⟨oe, vs, at_, kl, di, fl⟩, _⟩ := I.hok a _ ha
    exact fin oe none ⟨at_, kl, by unfold PySem.W.notCls; rw [fl] <;> rfl, by rw [di]; trivial⟩
/-- tys: the built-in classes that every own error is of -/
def isVF (isa : Isa) (kn cl : List Str) (tys : List String) (ds : List D) (S : Hs) : Res D := match ds with
  | [.er c _, .cls x] => if c ∈ kn ∧ x ∈ cl then .ok (.bl (isa c x)) S else .bad
  | [.eb c, .cls x] => if c ∈ kn ∧ x ∈ cl then .ok (.bl (isa c x)) S else .bad
  | [.er c _, .ty n] => if c ∈ kn ∧ n ∈ tys then .ok (.bl true) S else .bad
  | [.eb c, .ty n] => if c ∈ kn ∧ n ∈ tys then .ok (.bl true) S else .bad
  | _ => .bad
section
variable {X : Cx} {T : Ct} {W : WX} {isa : Isa} {kn cl : List Str} {tys : List String}
theorem isV_no : NoErL (isVF isa kn cl tys) := fun ds S c d S' h => by
  unfold isVF at h
  repeat' (first | cases h | split at h)
theorem isV_M (F : ErrK T.K T.ca isa kn cl) (F2 : ∀ c ∈ kn, ∀ n ∈ tys, PySem.W.kitOne T.K (.ref (T.ca c)) (.type n) = some true) : CallM T (rIsV T.K T.ca kn) (isVF isa kn cl tys) := by
  intro φ S H ds vs Q R r P
  unfold isVF at P
  split at P
  all_goals first | exact False.elim P | skip
  all_goals
    rename_i c _
    obtain ⟨v, u, rfl, r1, r2⟩ := r.two
    split at P
    all_goals first | exact False.elim P | skip
    rename_i hk
    obtain ⟨h1, h2⟩ := hk
    cases r2
  · cases r1 with
    | er h hd _ => exact ⟨_, _, _, _, _, rfl, h1, .inl ⟨_, _, h, hd⟩, .own _, F.ki _ h1 _ h2, P.now R (.bl _)⟩
  · cases r1 with
    | eb h => exact ⟨_, _, _, _, _, rfl, h1, .inr h, .own _, F.ki _ h1 _ h2, P.now R (.bl _)⟩
  · cases r1 with
    | er h hd _ => exact ⟨_, _, _, _, _, rfl, h1, .inl ⟨_, _, h, hd⟩, .ty _, F2 _ h1 _ h2, P.now R (.bl _)⟩
  · cases r1 with
    | eb h => exact ⟨_, _, _, _, _, rfl, h1, .inr h, .ty _, F2 _ h1 _ h2, P.now R (.bl _)⟩
theorem r_isV {p pos : Pos} {e e2 : Expr} {ms : Exs} (F : ErrK X.K T.ca isa kn cl) (F2 : ∀ c ∈ kn, ∀ n ∈ tys, PySem.W.kitOne X.K (.ref (T.ca c)) (.type n) = some true) (hm : X.mg "isinstance" = none) (ha : PA X [e, e2] (tA T W ms)) (hg : Gl X "isinstance" := by rfl) (hK : T.K = X.K := by rfl)
    (he : starEach [e, e2] X.env = (false, eval e X.env) :: starEach [e2] X.env := by rfl) (hpl : (backTo pos (starEach [e2] X.env)).any (·.1) = false := by rfl) : PE X (.Call (.Name "isinstance" p) [e, e2] [] pos) (tE T W (mCall (isVF isa kn cl tys) ms)) :=
  r_callB (r := rIsV T.K T.ca kn) (by rw [hK]; exact call_isV F) (isV_M (by rw [hK]; exact F) (by rw [hK]; exact F2)) isV_no hg hm (by decide +kernel) ha (by decide) (by decide) he hpl
end
end MR

/-! M23: dicts of texts that are written: {k: v}, d[k], d[k] = v; repr of data. -/
namespace MR
open PySem PySem.Spec L2 PyProof.Rows
/-! ### {k: v} -/
section
variable {T : Ct} {φ : List Addr} {S : Hs} {H : Hp} {p : Addr} {ws : List (Key × V)}
theorem RV.fill (hp : H p = some (.dK [])) {d : D} {v : V} (r : RV T φ H d v) : RV T (φ ++ [p]) (upd H p (.dK ws)) d v := by
  have ne : ∀ {a : Addr} {o : HO}, H a = some o → o ≠ .dK [] → upd H p (.dK ws) a = some o := fun {a o} h n => by
    rw [upd_ne (fun e => by rw [e, hp] at h; exact n (Option.some.inj h).symm)]
    exact h
  induction r with
  | non => exact .non
  | bl b => exact .bl b
  | int i => exact .int i
  | str s => exact .str s
  | tup h l r ih =>
    refine .tup ?_ l ih
    rcases h with h | h
    · exact .inl (ne h fun e => nomatch e)
    · exact .inr h
  | ref h => exact .ref ((List.getElem?_append_left (List.getElem?_eq_some_iff.mp h).1).trans h)
  | ty n => exact .ty n
  | cls c => exact .cls c
  | fz h l r ih =>
    refine .fz ?_ l ih
    rcases h with ⟨o, h⟩ | h
    · exact .inl ⟨o, ne h fun e => by cases e⟩
    · exact .inr h
  | er h hd r ih => exact .er (ne h fun e => by unfold ExcT at e; cases e) (ne hd fun e => nomatch e) ih
  | key h => exact .key (ne h fun e => nomatch e)
  | eb h => exact .eb (ne h fun e => by unfold ExcB at e; cases e)
theorem RVs.fill (hp : H p = some (.dK [])) {ds : List D} {vs : List V} (r : RVs T φ H ds vs) : RVs T (φ ++ [p]) (upd H p (.dK ws)) ds vs := ⟨r.1, fun i d v a b => (r.2 i d v a b).fill hp⟩
theorem RKs.fill (hp : H p = some (.dK [])) {ds : List (Key × D)} {vs : List (Key × V)} (r : RKs T φ H ds vs) : RKs T (φ ++ [p]) (upd H p (.dK ws)) ds vs := ⟨r.1, fun i d v a b => ⟨(r.2 i d v a b).1, (r.2 i d v a b).2.fill hp⟩⟩
theorem RTs.fill (hp : H p = some (.dK [])) {ds : List (List Key × D)} {vs : List (List Key × V)} (r : RTs T φ H ds vs) : RTs T (φ ++ [p]) (upd H p (.dK ws)) ds vs := ⟨r.1, fun i d v a b => ⟨(r.2 i d v a b).1, (r.2 i d v a b).2.fill hp⟩⟩
theorem OddE.fill (hp : H p = some (.dK [])) {vs : List (List Key × V)} {es : Array DictEntry} (q : OddE T H vs es) : OddE T (upd H p (.dK ws)) vs es := by
  rcases q with q | ⟨k, v, b, u, P, h1, h2, h3, h4⟩
  · exact .inl q
  · exact .inr ⟨k, v, b, u, P, h1, h2, by rw [upd_ne (fun e => by rw [e, hp] at h3; cases h3)]; exact h3, h4⟩
/-- what was laid at p is a cell from now on -/
theorem RS.fill (R : RS T φ S H) (hp : H p = some (.dK [])) (np : p ∉ φ) {ds : List (Key × D)} (r : RKs T φ H ds ws) : RS T (φ ++ [p]) (S.new (.dk ds)) (upd H p (.dK ws)) := by
  refine ⟨R.wf.new _, by simp [R.len, Hs.new], ?_, fun n c a h1 h2 => ?_⟩
  · exact List.nodup_append.mpr ⟨R.nd, by simp, fun a ha b hb => by simp at hb; subst hb; exact fun e => np (e ▸ ha)⟩
  · rcases Hs.get_new_inv h1 with ⟨rfl, rfl⟩ | h1
    · have e : a = p := by
        rw [List.getElem?_append_right (by rw [R.len]; exact Nat.le_refl _), R.len] at h2
        simp at h2
        exact h2.symm
      subst e
      exact .dk upd_same (r.fill hp)
    · have hl : n < φ.length := by rw [R.len]; exact Hs.get_lt h1
      rw [List.getElem?_append_left hl] at h2
      have na : a ≠ p := fun e => np (e ▸ List.mem_of_getElem? h2)
      cases R.cell n c a h1 h2 with
      | lst h r => exact .lst (by rw [upd_ne na]; exact h) (r.fill hp)
      | fro h r => exact .fro (by rw [upd_ne na]; exact h) (r.fill hp)
      | dic h r => exact .dic (by rw [upd_ne na]; exact h) (r.fill hp)
      | dt h r => exact .dt (by rw [upd_ne na]; exact h) (r.fill hp)
      | dtf h r => exact .dtf (by rw [upd_ne na]; exact h) (r.fill hp)
      | odd hs h q r => exact .odd hs (by rw [upd_ne na]; exact h) (q.fill hp) (r.fill hp)
      | dk h r => exact .dk (by rw [upd_ne na]; exact h) (r.fill hp)
      | set h => exact .set (by rw [upd_ne na]; exact h)
theorem RKs.one {k : Key} {d : D} {v : V} (r : RV T φ H d v) : RKs T φ H [(k, d)] [(k, v)] := ⟨rfl, fun i x y a b => by
  cases i with
  | zero =>
    simp at a b
    subst a b
    exact ⟨rfl, r⟩
  | succ i => simp at a⟩
end
def dk1 (k v : D) (S : Hs) : Res D := match keyD k with
  | some x => .ok (.ref S.n) (S.new (.dk [(x, v)]))
  | none => .bad
def mDk1 (mk mv : Ex) : Ex := fun env S => (mk env S).bind fun k S1 => (mv env S1).bind fun v S2 => dk1 k v S2
theorem r_dictK1 {X : Cx} {T : Ct} {W : WX} {pos : Pos} {ke ve : Expr} {mk mv : Ex} (hk : PE X ke (tE T W mk)) (hv : PE X ve (tE T W mv)) : PE X (.Dict [some ke] [ve] pos) (tE T W (mDk1 mk mv)) :=
  weakE (pe_disp (pps_cons hk hv pps_nil) rfl rfl (by simp) (by simp)) fun σ H Q ⟨φ, env, S, R, E, P⟩ => fun p hp => by
    obtain ⟨R0, u0⟩ := R.laid (o := .dK []) hp
    have np : p ∉ φ := R.notin_none hp
    refine tE_bind R0 (E.up R u0) (ok := okE T φ H Q) (k := fun k S1 => (mv env S1).bind fun v S2 => dk1 k v S2) (Post.mono (m := (mk env S).bind fun k S1 => (mv env S1).bind fun v S2 => dk1 k v S2) P (fun _ _ x => x) fun _ _ _ x => x.up u0) fun k S1 φ1 H1 kv u1 R1 r1 E1 P1 => tE_bind R1 E1 P1 fun v S2 φ2 H2 vv u2 R2 r2 E2 P2 => ?_
    show (H2 p = some (.dK []) ∧ _)
    have at0 : upd H p (.dK []) p = some (.dK []) := upd_same
    have u02 := u1.trans u2
    have at2 : H2 p = some (.dK []) := u02.fr p _ at0 np
    have np2 : p ∉ φ2 := fun hm => by
      obtain ⟨ext, e, n⟩ := u02.pre
      subst e
      rcases List.mem_append.mp hm with hm | hm
      · exact np hm
      · rw [n p hm] at at0
        cases at0
    unfold dk1 at P2
    split at P2
    · rename_i x hx
      have ek := keyD_of r1 hx
      subst ek
      refine ⟨at2, [(x, vv)], rfl, by simp, ?_⟩
      have R3 := R2.fill at2 np2 (ws := [(x, vv)]) (RKs.one (k := x) r2)
      refine P2 (φ2 ++ [p]) _ _ ?_ R3 (.ref (by rw [List.getElem?_append_right (by rw [R2.len]; exact Nat.le_refl _), R2.len]; simp))
      obtain ⟨ext, e, n⟩ := u02.pre
      have old : ∀ a o, H a = some o → a ≠ p := fun a o h z => by rw [z, hp] at h; cases h
      refine ⟨⟨ext ++ [p], by rw [e, List.append_assoc], fun a ha => ?_⟩, fun a o h hn => ?_, fun a o h => ?_, fun a o w f h => ?_⟩
      · rcases List.mem_append.mp ha with ha | ha
        · have z := n a ha
          by_cases za : a = p
          · rw [za]; exact hp
          · rw [upd_ne za] at z; exact z
        · simp at ha; rw [ha]; exact hp
      · rw [upd_ne (old a o h)]
        exact u02.fr a o (by rw [upd_ne (old a o h)]; exact h) hn
      · rw [upd_ne (old a o h)]
        exact u02.dom a o (by rw [upd_ne (old a o h)]; exact h)
      · rw [upd_ne (old a _ h)]
        exact u02.frz a o w f (by rw [upd_ne (old a _ h)]; exact h)
    · exact False.elim P2
/-! ### d[k], d[k] = v -/
def dgetkD (x y : D) (S : Hs) : Res D := match x with
  | .ref n => match S.get n, keyD y with
    | some (.dk kvs), some k => match valD kvs k with
      | some d => .ok d S
      | none => .bad
    | _, _ => .bad
  | _ => .bad
def putkD (kvs : List (Key × D)) (k : Key) (d : D) : List (Key × D) := if (kvs.any fun kv => decide (kv.1 = k)) = true then kvs.map (fun kv => if kv.1 = k then (kv.1, d) else kv) else kvs ++ [(k, d)]
def mPutk (mo mi mv : Ex) : SM := fun env S => (mv env S).toS env fun v S1 => (mo env S1).toS env fun o S2 => (mi env S2).toS env fun i S3 => match o, keyD i with
  | .ref n, some k => match S3.get n with
    | some (.dk kvs) => if kvs.length < line then .nx env (S3.put n (.dk (putkD kvs k v))) else .bad
    | _ => .bad
  | _, _ => .bad
section
variable {T : Ct} {φ : List Addr} {S : Hs} {H : Hp}
theorem RKs.keys_any {k : Key} {ds : List (Key × D)} {vs : List (Key × V)} (r : RKs T φ H ds vs) : (ds.any fun kv => decide (kv.1 = k)) = vs.any fun kv => decide (kv.1 = k) := by
  have e1 : (ds.any fun kv => decide (kv.1 = k)) = (ds.map (·.1)).any fun x => decide (x = k) := by rw [List.any_map]; rfl
  have e2 : (vs.any fun kv => decide (kv.1 = k)) = (vs.map (·.1)).any fun x => decide (x = k) := by rw [List.any_map]; rfl
  rw [e1, e2, r.keys]
theorem RKs.put {k : Key} {d : D} {v : V} {ds : List (Key × D)} {vs : List (Key × V)} (r : RKs T φ H ds vs) (rv : RV T φ H d v) : RKs T φ H (putkD ds k d) (putK vs k v) := by
  unfold putkD putK
  rw [r.keys_any]
  split
  · refine ⟨by simp [r.1], fun i x y a b => ?_⟩
    rw [List.getElem?_map] at a b
    obtain ⟨x', hx, rfl⟩ := Option.map_eq_some_iff.mp a
    obtain ⟨y', hy, rfl⟩ := Option.map_eq_some_iff.mp b
    obtain ⟨e, r0⟩ := r.2 i x' y' hx hy
    by_cases hk : x'.1 = k
    · rw [if_pos hk, if_pos (e ▸ hk)]
      exact ⟨e, rv⟩
    · rw [if_neg hk, if_neg (e ▸ hk)]
      exact ⟨e, r0⟩
  · refine ⟨by simp [r.1], fun i x y a b => ?_⟩
    by_cases hi : i < ds.length
    · rw [List.getElem?_append_left hi] at a
      rw [List.getElem?_append_left (r.1 ▸ hi)] at b
      exact r.2 i x y a b
    · rw [List.getElem?_append_right (by omega)] at a
      rw [List.getElem?_append_right (by rw [← r.1]; omega)] at b
      rw [← r.1] at b
      cases hz : i - ds.length with
      | zero =>
        rw [hz] at a b
        simp at a b
        subst a b
        exact ⟨rfl, rv⟩
      | succ n => rw [hz] at a; simp at a
end
section
variable {X : Cx} {T : Ct} {W : WX} {pos : Pos} {a b : Expr} {ma mb : Ex}
theorem r_dgetk (hu : Deepy X) (ha : PE X a (tE T W ma)) (hb : PE X b (tE T W mb)) (hs : NoSl b := by exact fun _ _ => rfl) : PE X (.Subscript a b pos) (tE T W (mOp2 dgetkD ma mb)) :=
  weakE (pe_dget (by have : X.A.units + 65 < cLine := hu; omega) ha hb hs) fun σ H Q ⟨φ, env, S, R, E, P⟩ => tE_bind R E P fun x S1 φ1 H1 v u1 R1 r1 E1 P1 => tE_bind R1 E1 P1 fun y S2 φ2 H2 w u2 R2 r2 E2 P2 => by
    unfold dgetkD at P2
    split at P2
    · rename_i n
      split at P2
      · rename_i kvs k hx hk
        split at P2
        · rename_i d hd
          have r1' := r1.up R1 u2
          cases r1' with
          | @ref n a q =>
            cases R2.cell n _ a hx q with
            | dk hh rk =>
              obtain ⟨vv, hv, rv⟩ := valD_of rk hd
              exact ⟨a, vv, rfl, .inl ⟨_, k, .inl hh, keyD_of r2 hk, hv.symm⟩, P2 φ2 H2 _ (u1.trans u2) R2 rv⟩
        · exact False.elim P2
      · exact False.elim P2
    · exact False.elim P2
theorem s_putk {o i v : Expr} {mo mi mv : Ex} {tpos : Pos} (hu : Deepy X) (ho : PE X o (tE T W mo)) (hi : PE X i (tE T W mi)) (hv : PE X v (tE T W mv)) (hs : swapsWith v (some (.Subscript o i tpos)) pos.line X.env = pure false := by rfl) : PS X (.Assign [.Subscript o i tpos] v pos) (tS T W (mPutk mo mi mv)) :=
  weakS (ps_dput (by have : X.A.units + 65 < cLine := hu; omega) ho hi hv hs) fun D0 σ H ⟨φ, env, S, R, Ev, P⟩ =>
    tE_st R Ev P fun dv S1 φ1 H1 vv u1 R1 r1 E1 P1 => tE_st R1 E1 P1 fun od S2 φ2 H2 ov u2 R2 r2 E2 P2 => tE_st R2 E2 P2 fun id S3 φ3 H3 iv u3 R3 r3 E3 P3 => by
      have rv := (r1.up R1 u2).up R2 u3
      have ro := r2.up R2 u3
      split at P3
      · rename_i n k hk
        split at P3
        · rename_i kvs hx
          split at P3
          · rename_i hl
            cases ro with
            | @ref _ a q =>
              cases R3.cell n _ a hx q with
              | @dk _ vs _ hh rk =>
                refine ⟨a, _, rfl, .inl ⟨vs, k, hh, keyD_of r3 hk, by rw [← rk.1, ← line_eq]; exact hl, rfl⟩, ?_⟩
                obtain ⟨R4, U4⟩ := R3.put (o := .dK (putK vs k vv)) (c := .dk (putkD kvs k dv)) hx q (fun o' u' _ e => by rw [hh] at e; cases e) fun φ' H' u y => .dk y ((rk.put rv).up R3 u)
                exact P3 _ _ _ U4 R4 (E3.up R3 U4)
          · exact False.elim P3
        · exact False.elim P3
      · exact False.elim P3
end
end MR

/-! M24: repr of data, where nothing is being shown around it; defs that know that. -/
namespace MR
open PySem PySem.Spec L2 PyProof.Rows
def keyP : Key → PyData
  | .inl i => .int i
  | .inr x => .str x
/-- a value as data, dicts of texts and ints among it -/
def toS (S : Hs) : Nat → D → Option PyData
  | 0, d => match d with
    | .non => some .none
    | .bl b => some (.bool b)
    | .int i => some (.int i)
    | .str s => some (.str s)
    | _ => none
  | k + 1, d => match d with
    | .non => some .none
    | .bl b => some (.bool b)
    | .int i => some (.int i)
    | .str s => some (.str s)
    | .tup xs => (mapO (toS S k) xs).map .tuple
    | .ref n => match S.get n with
      | some (.lst xs) => (mapO (toS S k) xs).map .list
      | some (.dk kvs) => (mapO (toS S k) (kvs.map (·.2))).map fun ps => .dict ((kvs.map fun kv => keyP kv.1).zip ps)
      | _ => none
    | _ => none
theorem mapO_len {α β : Type} {f : α → Option β} : ∀ {xs : List α} {ys : List β}, mapO f xs = some ys → ys.length = xs.length
  | [], ys, h => by cases h; rfl
  | x :: xs, ys, h => by
    unfold mapO at h
    split at h
    · split at h
      · rename_i zs hz
        cases h
        simp [mapO_len hz]
      · cases h
    · cases h
theorem zip_fst {α β : Type} : ∀ {xs : List α} {ys : List β}, ys.length = xs.length → (xs.zip ys).map (·.1) = xs
  | [], [], _ => rfl
  | x :: xs, y :: ys, h => by
    show x :: (xs.zip ys).map (·.1) = _
    rw [zip_fst (by simpa using h)]
  | x :: xs, [], h => by simp at h
  | [], y :: ys, h => by simp at h
theorem zip_snd {α β : Type} : ∀ {xs : List α} {ys : List β}, ys.length = xs.length → (xs.zip ys).map (·.2) = ys
  | [], [], _ => rfl
  | x :: xs, y :: ys, h => by
    show y :: (xs.zip ys).map (·.2) = _
    rw [zip_snd (by simpa using h)]
  | x :: xs, [], h => by simp at h
  | [], y :: ys, h => by simp at h
section
variable {X : Cx} {T : Ct} {φ : List Addr} {S : Hs} {H : Hp} {pins : List (Addr × Obj)} {σ : L2.St} {s : Shared}
/-- u reads as p, sys.modules not among it -/
def ShowsAs (h : Heap) (u : Value) (p : PyData) : Prop := ∃ as, Reads h u p as ∧ sysModules ∉ as
def ShowAll (h : Heap) (us : List Value) (ps : List PyData) : Prop := ∃ as, ReadsAll h us ps as ∧ sysModules ∉ as
theorem ShowAll.cons {h : Heap} {u : Value} {us : List Value} {p : PyData} {ps : List PyData} (a : ShowsAs h u p) (b : ShowAll h us ps) : ShowAll h (u :: us) (p :: ps) := by
  obtain ⟨as, a1, a2⟩ := a
  obtain ⟨bs, b1, b2⟩ := b
  exact ⟨_, .cons a1 b1, fun m => by rcases List.mem_append.mp m with m | m; exact a2 m; exact b2 m⟩
theorem shows_all {h : Heap} {f : D → Option PyData} (one : ∀ d v u p, RV T φ H d v → RelV v u → f d = some p → ShowsAs h u p) : ∀ (ds : List D) (vs : List V) (us : List Value) (ps : List PyData), RVs T φ H ds vs → Vals vs us → mapO f ds = some ps → ShowAll h us ps
  | [], vs, us, ps, r, ru, e => by
    have q := r.inv_nil
    subst q
    cases ru
    cases e
    exact ⟨[], .nil, by simp⟩
  | d :: ds, vs, us, ps, r, ru, e => by
    obtain ⟨v, vs', rfl, r1, r2⟩ := r.inv_cons
    cases ru with
    | cons a b =>
      unfold mapO at e
      split at e
      · rename_i y hy
        split at e
        · rename_i ys hys
          cases e
          exact .cons (one d v _ y r1 a hy) (shows_all one ds vs' _ ys r2 b hys)
        · cases e
      · cases e
theorem keys_show {P : Program} {w : World} {h : Heap} {ks : List Key} : ∀ {es : List DictEntry} {ws : List (Key × Value)}, Pairs (mixKind P w) es ws → ws.map (·.1) = ks → ShowAll h (es.map (·.key)) (ks.map keyP)
  | _, _, .nil, e => by
    subst e
    exact ⟨[], .nil, by simp⟩
  | _, _, .cons (e := e) (kv := kv) k _ r, q => by
    cases ks with
    | nil => simp at q
    | cons k' ks =>
      have q1 : kv.1 = k' := by simpa using (List.cons.inj q).1
      have q2 := (List.cons.inj q).2
      refine .cons ?_ (keys_show r q2)
      rcases keyIs_shape (show keyIs kv.1 e.key = true from k) with ⟨i, t, e1, e2⟩ | ⟨x, t, e1, e2⟩
      · show ShowsAs h e.key (keyP k')
        rw [e2, ← q1, e1]
        exact ⟨[], .int i t, by simp⟩
      · show ShowsAs h e.key (keyP k')
        rw [e2, ← q1, e1]
        exact ⟨[], .str x t, by simp⟩
theorem pairs_vals {P : Program} {w : World} : ∀ {es : List DictEntry} {ws : List (Key × Value)} {vs : List (Key × V)}, Pairs (mixKind P w) es ws → KV vs ws → Vals (vs.map (·.2)) (es.map (·.val)) ∧ vs.map (·.1) = ws.map (·.1)
  | _, _, _, .nil, .nil => ⟨.nil, rfl⟩
  | _, _, _, .cons (kv := kv) k e r, .cons a b => by
    obtain ⟨q1, q2⟩ := pairs_vals r b
    exact ⟨.cons (by have z := a.2; rw [← e] at z; exact z) q1, by simp only [List.map_cons]; rw [q2, a.1]⟩
theorem RKs.vals {ds : List (Key × D)} {vs : List (Key × V)} (r : RKs T φ H ds vs) : RVs T φ H (ds.map (·.2)) (vs.map (·.2)) := ⟨by simp [r.1], fun i d v a b => by
  rw [List.getElem?_map] at a b
  obtain ⟨x, hx, rfl⟩ := Option.map_eq_some_iff.mp a
  obtain ⟨y, hy, rfl⟩ := Option.map_eq_some_iff.mp b
  exact (r.2 i x y hx hy).2⟩
theorem toS_reads (I : Inv X pins σ H s) (R : RS T φ S H) (hK : T.K = X.K) (hs : H sysModules = none) : ∀ (k : Nat) (d : D) (v : V) (u : Value) (p : PyData), RV T φ H d v → RelV v u → toS S k d = some p → ShowsAs s.heap u p
  | 0, d, v, u, p, r, ru, e => by
    cases r <;> first
      | (cases e; done)
      | (cases e; cases ru; first | exact ⟨[], .none, by simp⟩ | exact ⟨[], .bool _, by simp⟩)
      | (cases e; obtain ⟨t, rfl⟩ := ru; first | exact ⟨[], .int _ t, by simp⟩ | exact ⟨[], .str _ t, by simp⟩)
  | k + 1, d, v, u, p, r, ru, e => by
    cases r with
    | non => cases e; cases ru; exact ⟨[], .none, by simp⟩
    | bl b => cases e; cases ru; exact ⟨[], .bool _, by simp⟩
    | int i => cases e; obtain ⟨t, rfl⟩ := ru; exact ⟨[], .int _ t, by simp⟩
    | str x => cases e; obtain ⟨t, rfl⟩ := ru; exact ⟨[], .str _ t, by simp⟩
    | @tup ds a vs h l r =>
      have e' : (mapO (toS S k) ds).map PyData.tuple = some p := e
      obtain ⟨ps, h1, h2⟩ := Option.map_eq_some_iff.mp e'
      subst h2
      cases ru
      obtain ⟨its, rv, ⟨o, ho, hc, n, hd⟩, _⟩ := I.tuple (by rw [← hK]; exact h.sq)
      obtain ⟨as, a1, a2⟩ := shows_all (fun d v u p => toS_reads I R hK hs k d v u p) ds vs its ps ⟨l, r⟩ rv h1
      exact ⟨as, .tuple ho hc hd a1, a2⟩
    | @ref n a h =>
      have e' : (match S.get n with
        | some (.lst xs) => (mapO (toS S k) xs).map PyData.list
        | some (.dk kvs) => (mapO (toS S k) (kvs.map (·.2))).map fun ps => PyData.dict ((kvs.map fun kv => keyP kv.1).zip ps)
        | _ => none) = some p := e
      cases ru
      have ns : ∀ {o : HO}, H a = some o → a ≠ sysModules := fun q z => by rw [z, hs] at q; cases q
      split at e'
      · rename_i xs hx
        obtain ⟨ps, h1, h2⟩ := Option.map_eq_some_iff.mp e'
        subst h2
        obtain ⟨vs, q, r⟩ := R.lst h hx
        obtain ⟨its, rv, ⟨o, n, ho, hc, _, hd⟩, _⟩ := I.list (SqL.of q)
        obtain ⟨as, a1, a2⟩ := shows_all (fun d v u p => toS_reads I R hK hs k d v u p) xs vs its ps r rv h1
        exact ⟨a :: as, .list ho hc hd a1, fun m => by rcases List.mem_cons.mp m with m | m; exact ns q m.symm; exact a2 m⟩
      · rename_i kvs hx
        obtain ⟨ps, h1, h2⟩ := Option.map_eq_some_iff.mp e'
        subst h2
        cases R.cell n _ a hx h with
        | @dk _ vs _ hh rk =>
          obtain ⟨_, _, ws, kv, o, es, ep, ho, hc, hd, _, pr, _⟩ := dk_of I.hok hh
          obtain ⟨v1, v2⟩ := pairs_vals pr kv
          have hl : ps.length = (kvs.map fun kv => keyP kv.1).length := by rw [mapO_len h1]; simp
          have ke : (kvs.map fun kv => keyP kv.1) = (kvs.map (·.1)).map keyP := by rw [List.map_map]; rfl
          obtain ⟨as, a1, a2⟩ := keys_show (h := s.heap) pr (ks := kvs.map (·.1)) (by rw [← v2, rk.keys])
          obtain ⟨bs, b1, b2⟩ := shows_all (fun d v u p => toS_reads I R hK hs k d v u p) (kvs.map (·.2)) (vs.map (·.2)) _ ps rk.vals v1 h1
          refine ⟨a :: as ++ bs, .dict ho hc.1 hd (by rw [zip_fst hl, ke]; exact a1) (by rw [zip_snd hl]; exact b1), fun m => ?_⟩
          rcases List.mem_append.mp m with m | m
          · rcases List.mem_cons.mp m with m | m
            · exact ns hh m.symm
            · exact a2 m
          · exact b2 m
      · cases e'
    | _ => cases e
end
/-! ### repr -/
def reprF (ds : List D) (S : Hs) : Res D := match ds with
  | [d] => match toS S deep d with
    | some p => if PyData.showable p && decide (p.shown.length ≤ line) && decide (p.depth ≤ 60) then .ok (.str p.shown) S else .bad
    | none => .bad
  | _ => .bad
theorem repr_no : NoErL reprF := fun ds S c d S' h => by
  unfold reprF at h
  repeat' (first | cases h | split at h)
def rReprM (K : PySem.W.Frag) : List V → Hp → VK → Prop := fun xs H Q => ∃ (T : Ct) (φ : List Addr) (S : Hs) (d : D) (v : V) (p : PyData), T.K = K ∧ RS T φ S H ∧ RV T φ H d v ∧ xs = [v] ∧ toS S deep d = some p ∧ p.showable = true ∧ p.shown.length ≤ sizeLine ∧ p.depth ≤ 60 ∧ Q (.str p.shown) H
theorem call_reprM {X : Cx} (hg : X.A.guards = some []) (hu : Deepy X) (hs : ∃ o, X.K.lookup sysModules = some o) : CallR X (.builtin "repr") (rReprM X.K) := by
  intro pins s σ H xs us Q I r h
  obtain ⟨T, φ, S, d, v, p, hK, R, rd, rfl, hp, h1, h2, h3, q⟩ := h
  obtain ⟨u, rfl, ru⟩ := vals1 r
  obtain ⟨o, ho⟩ := hs
  have hsys : H sysModules = none := (I.bs _ _ (I.mod.kin _ _ ho)).2
  obtain ⟨as, rd2, hn⟩ := toS_reads I R hK hsys deep d v u p rd ru hp
  unfold Deepy at hu
  have fin : ∀ h' (k : ∀ b o, s.heap.get? b = some o → h'.get? b = some o) tk u, EP X pins σ Q (.str p.shown u) { s with heap := h', toks := tk } := fun h' k tk u => ⟨.str p.shown, H, I.kept k, ⟨u, rfl⟩, q⟩
  cases rd2 with
  | none => exact P.repr_of_none (fin s.heap (fun _ _ e => e) _ _)
  | bool b => exact P.repr_of_bool (fin s.heap (fun _ _ e => e) _ _)
  | int i t => exact P.repr_of_int (by simpa [PyData.showable] using h1) (fin s.heap (fun _ _ e => e) _ _)
  | str x t => exact P.repr_of_str (fin s.heap (fun _ _ e => e) _ _) (hsz := by simpa only [PyData.shown] using h2)
  | list a b c d => exact repr_of_reads' (.list a b c d) h1 (fun _ => hn) hg (by omega) (fun _ _ e => e) (fun h' u tk k => fin h' k tk u) h2
  | tuple a b c d => exact repr_of_reads' (.tuple a b c d) h1 (fun _ => hn) hg (by omega) (fun _ _ e => e) (fun h' u tk k => fin h' k tk u) h2
  | dict a b c d e => exact repr_of_reads' (.dict a b c d e) h1 (fun _ => hn) hg (by omega) (fun _ _ e => e) (fun h' u tk k => fin h' k tk u) h2
theorem repr_M {T : Ct} : CallM T (rReprM T.K) reprF := by
  intro φ S H ds vs Q R r P
  unfold reprF at P
  split at P
  · rename_i d
    obtain ⟨v, rfl, r1⟩ := r.one
    split at P
    · rename_i p hp
      split at P
      · rename_i hc
        simp only [Bool.and_eq_true, decide_eq_true_eq] at hc
        exact ⟨T, φ, S, d, v, p, rfl, R, r1, rfl, hp, hc.1.1, by rw [← line_eq]; exact hc.1.2, hc.2, P.now R (.str _)⟩
      · exact False.elim P
    · exact False.elim P
  · exact False.elim P
theorem r_repr {X : Cx} {T : Ct} {W : WX} {p pos : Pos} {e : Expr} {ms : Exs} (hgd : X.A.guards = some []) (hu : Deepy X) (hs : ∃ o, X.K.lookup sysModules = some o) (hm : X.mg "repr" = none) (ha : PA X [e] (tA T W ms)) (hg : Gl X "repr" := by rfl) (hK : T.K = X.K := by rfl)
    (he : starEach [e] X.env = (false, eval e X.env) :: starEach [] X.env := by rfl) (hpl : (backTo pos (starEach [] X.env)).any (·.1) = false := by rfl) : PE X (.Call (.Name "repr" p) [e] [] pos) (tE T W (mCall reprF ms)) :=
  r_callB (r := rReprM T.K) (by rw [hK]; exact call_reprM hgd hu hs) repr_M repr_no hg hm (by decide +kernel) ha (by decide) (by decide) he hpl
end MR

/-! M25: defs that are called where nothing is being shown: what they promise, their calls, the end. -/
namespace MR
open PySem PySem.Spec L2 PyProof.Rows
structure FnG (P : Program) (w : World) (K : PySem.W.Frag) (mg : Str → Option Value) (base : Heap) (k : Nat) (f : Addr) (fd : FuncData) (ps : List Str) (sp : Sp) : Prop where
  len : ∀ vs H Q E, sp vs H Q E → vs.length = ps.length
  run : ∀ (A : Around) (outer : List Env) (s : Shared) (H : Hp) (args : Args) (us : List Value) (vs : List V) (Q : VK) (E : XK), A.guards = some [] → Room k A → Env0 P w K mg base A outer s H → BindsTo s fd args (ps.zip us) → Vals vs us → sp vs H Q E →
    codeAny (model P w) A (.call (.ref f) args) (CR (L2.CX P w) outer P w H s Q E) s
section
variable {P : Program} {w : World} {K : PySem.W.Frag} {mg : Str → Option Value} {base : Heap}
theorem FnG.imp {k : Nat} {f : Addr} {fd : FuncData} {ps : List Str} {sp sp' : Sp} (F : FnG P w K mg base k f fd ps sp) (h : ∀ vs H Q E, sp' vs H Q E → sp vs H Q E) : FnG P w K mg base k f fd ps sp' :=
  ⟨fun vs H Q E q => F.len vs H Q E (h _ _ _ _ q), fun A outer s H args us vs Q E g hr he hb hv hs => F.run A outer s H args us vs Q E g hr he hb hv (h _ _ _ _ hs)⟩
/-- a def's body, walked where nothing is being shown -/
theorem fnG_ok {x qual : Str} {params : Arguments} {st : List Stmt} {scope : Scope} {dvs : List V} {kws : List (Str × V)} {f : Addr} {fd : FuncData} {N ps : List Str} {k : Nat} (T : Ct) {body : SM} (F0 : FunD K x qual params st scope dvs kws f fd) (S : FnScope N ps scope)
    (hb : ∀ (cdv : Value) (A : Around) (outer : List Env) (s : Shared) (H : Hp) (E : XK), (cxD P w K mg base N qual scope f cdv A outer s H E).A.guards = some [] → Room k (A.deeper (envOfC qual scope s.heap.objs.size f cdv)) →
      Takes (cxD P w K mg base N qual scope f cdv A outer s H E) (WD E) → PassesOwn (model P w) (cxD P w K mg base N qual scope f cdv A outer s H E).A (cxD P w K mg base N qual scope f cdv A outer s H E).env (cxD P w K mg base N qual scope f cdv A outer s H E).xe →
      PSs (cxD P w K mg base N qual scope f cdv A outer s H E) st (tS T (WD E) body)) :
    FnG P w K mg base (k + 1) f fd ps (spM T (runB ps.length N.length body)) := by
  have len : ∀ vs H Q E, spM T (runB ps.length N.length body) vs H Q E → vs.length = ps.length := fun vs H Q E h => by
    obtain ⟨φ, S, ds, R, r, P0⟩ := h
    unfold runB at P0
    split at P0
    · rename_i hl
      rw [← r.1]
      exact hl
    · exact False.elim P0
  obtain ⟨oc, od, dV, kV, doc, pm, an, cdv, ct, osl, rfl, lk, hcd, _, _⟩ := F0.ex
  refine ⟨len, fun A outer s H args us vs Q E g hr e0 hbd r hsp => ?_⟩
  have old : ∀ b o, base.get? b = some o → s.heap.get? b = some o := fun b o e => (e0.bs b o e).1
  have KX : K.In s.heap := e0.mod.kin.keeps old
  have nl : s.heap.NoLimit := e0.mod.nolimit.keeps old
  have kinds : ∀ y ∈ ps.zip us, scope.names.lookup y.1 = some .local ∨ (scope.names.lookup y.1 = some .cell ∧ ((cellsFrom (s.heap.objs.size + 1) scope.names []).lookup y.1).isSome = true) := by
    intro y hy
    obtain ⟨n, v⟩ := y
    cases S.par n (List.of_mem_zip hy).1 with
    | inl q => exact .inl q
    | inr q => exact .inr ⟨q, PySem.W.cellsFrom_some _ _ _ (.inl q)⟩
  refine codeAny_call_function hr.depth (KX _ _ lk) rfl S.co S.gen rfl (PySem.W.codeRec_of KX hcd) (hbd _ _ _ _ (wpAny_newFunctionEnv_cells S.kind kinds fun env he s1 x => ?_))
  subst he
  refine ⟨nl.keeps x.toInCall.keep, codeAny_func ?_⟩
  have walk := hb cdv A outer s H E g (hr.deeper _) (takes_of rfl rfl rfl rfl) (passes_of rfl)
  have I : Inv (cxD P w K mg base N qual scope f cdv A outer s H E) [] (start N vs) H s1 := inv_start S hr.hd e0 (len _ _ _ _ hsp) r x
  have want : tS T (WD E) body { nx := fun _ H' => Q .non H', rt := Q } (start N vs) H := by
    obtain ⟨φ, S1, ds, R, r, P0⟩ := hsp
    refine ⟨φ, startD N.length ds, S1, R, RE.start r N, ?_⟩
    unfold runB at P0
    split at P0
    · cases e : body (startD N.length ds) S1 with
      | nx env S2 => rw [e] at P0; exact fun φ' H' σ' u R' E' => P0 φ' H' _ u R' .non
      | rt d S2 => rw [e] at P0; exact fun φ' H' v u R' r' => P0 φ' H' v u R' r'
      | err c d env S2 => rw [e] at P0; exact fun φ' H' σ' dd v u R' E' r' x' => P0 φ' H' dd v u R' r' x'
      | bk env S2 => rw [e] at P0; exact False.elim P0
      | ct env S2 => rw [e] at P0; exact False.elim P0
      | bad => rw [e] at P0; exact False.elim P0
    · exact False.elim P0
  refine wpAny_mono (walk.run [] s1 (start N vs) H _ I want) (fun fl s' hs => ?_) fun e s' hs => hs
  cases fl with
  | ret u => have ⟨v, _, H', J, rv, q⟩ := hs; exact ⟨v, H', J.os, J.bare, J.base, J.hok, rv, q⟩
  | next => have ⟨_, H', J, q⟩ := hs; exact ⟨.non, H', J.os, J.bare, J.base, J.hok, rfl, q⟩
  | brk => have ⟨_, _, _, q⟩ := hs; exact False.elim q
  | cont => have ⟨_, _, _, q⟩ := hs; exact False.elim q
structure DefG (P : Program) (w : World) (K : PySem.W.Frag) (mg : Str → Option Value) (base : Heap) (T : Ct) (k : Nat) (x : Str) (f : Addr) (fd : FuncData) (ps : List Str) (F : Fn) : Prop where
  ok : FnG P w K mg base k f fd ps (spM T F)
  gl : mg x = some (.ref f)
  kp : PySem.W.keepIn K (.ref f) = true
end
section
variable {X : Cx} {T : Ct} {W : WX} {k : Nat} {f : Addr} {fd : FuncData} {ps : List Str} {F : Fn} {x : Str} {p pos : Pos} {e : Expr} {es : List Expr} {ms : Exs}
theorem r_callG (G : DefG X.prog X.w X.K X.mg X.base T k x f fd ps F) (gd : X.A.guards = some []) (hr : Room k X.A) (hb : Binds X.K fd ps []) (tk : Takes X W) (ha : PA X (e :: es) (tA T W ms)) (hg : Gl X x := by rfl) (hdb : (x == ("__debug__" : Str)) = false := by decide)
    (he : starEach (e :: es) X.env = (false, eval e X.env) :: starEach es X.env := by rfl) (hpl : (backTo pos (starEach es X.env)).any (·.1) = false := by rfl) : PE X (.Call (.Name x p) (e :: es) [] pos) (tE T W (mOwn F [] ms)) := by
  refine ⟨fun pins s σ H Q I h => ?_⟩
  refine wpAny_Call_Name_kw (ld_glob I hg G.gl ?_ hdb)
  obtain ⟨φ, env, S, R, E, P⟩ := h
  have q : tA T W ms σ H fun vs H1 => spM T F vs H1 Q (WE W σ) := tA_bind R E P fun ds S1 φ1 H1 vs u R1 r1 E1 P1 => ⟨φ1, S1, ds ++ [], R1, by rw [List.append_nil]; exact r1, P1.mono (fun _ _ x => x.up u) fun _ _ _ x => x⟩
  refine PySem.W.callWith_K (h₀ := X.base) I.ok.mod.kin G.kp (thn (ha.run pos pins s σ H _ I q) fun us s1 ⟨vs, H1, I1, r, q1⟩ => ⟨I1.kIn, ?_⟩) he hpl
  have hl := G.ok.len _ _ _ _ q1
  have hbd := hb s1 us I1.kIn (by rw [List.append_nil, ← r.length]; exact hl)
  rw [List.append_nil] at hbd
  refine wpAny_call (codeAny_mono (G.ok.run X.A X.stack s1 H1 ⟨us, []⟩ us vs Q (WE W σ) gd hr I1.env0 hbd r q1) fun r s' hq => ?_)
  cases r with
  | error e => exact passAt tk σ pins H1 s1 e s' I1 hq
  | ok fl =>
    cases fl with
    | ret u => exact I1.after hq
    | next => exact False.elim hq
    | brk => exact False.elim hq
    | cont => exact False.elim hq
end
/-! ### the end -/
section
variable {P : Program} {w : World} {K : PySem.W.Frag} {mg mb : Str → Option Value} {k : Nat} {fa a : Addr} {fd : FuncData} {x : Str} {sp : Sp} {s₁ : Shared} {vs : List Value} {ns : List Int}
/-- what the law's call is to end as -/
abbrev Ended (s₁ : Shared) : Result → Shared → Prop := fun r s' => r = .ok (.ret (.bool true)) ∧ OldK s₁.heap s'.heap ∧ s'.os = s₁.os ∧ AllBare s'.gens
/-- over a heap H of which nothing but the script is tracked -/
theorem law_overG {H : Hp} (KX : K.In s₁.heap) (nsG : s₁.heap.Ns mainGlobals mg) (nsB : s₁.heap.Ns builtinsNs mb) (blt : ∀ x : Str, x ≠ "__name__" → mb x = bootBuiltins x) (lim : s₁.heap.NoLimit) (g0 : s₁.gens = #[])
    (at_ : s₁.heap.get? a = some { cls := .type "list", data := .seq vs.toArray }) (hr : Room k callerA) (F : ∀ base : Heap, K.In base → base.Ns mainGlobals mg → FnG P w K mg base k fa fd [x] sp) (bd : ∀ (s : Shared) (u : Value), BindsTo s fd ⟨[u], []⟩ [(x, u)])
    (want : sp [.ref a] H (fun v _ => v = .bl true) fun _ _ _ => False) (noErr : ∀ H e s', L2.CX P w [] H s₁ (fun _ _ _ => False) e s' → False) (only : Only H) (hok : HOk P w H s₁.heap) (alone : ∀ b, H b ≠ none → b = a) (notK : H a ≠ none → K.lookup a = none) :
    codeAny (model P w) callerA (.call (.ref fa) ⟨[.ref a], []⟩) (Ended s₁) s₁ := by
  have seen : ∀ {b : Addr} {o : Obj}, s₁.heap.get? b = some o → H b = none → (hidT s₁.heap H).get? b = some o := fun e n => hidT_get e n
  have isA : ∀ {b : Addr} {u : HO}, H b = some u → b = a := fun {b u} e => alone b (by rw [e]; exact fun z => nomatch z)
  have nsOf : ∀ {b : Addr} {m : Str → Option Value}, s₁.heap.Ns b m → (hidT s₁.heap H).Ns b m := fun {b m} ⟨o, es, ep, e, d, r⟩ => by
    refine ⟨o, es, ep, seen e ?_, d, r⟩
    cases q : H b with
    | none => rfl
    | some u =>
      have z := isA q
      subst z
      rw [at_] at e
      cases e
      cases d
  have KB : K.In (hidT s₁.heap H) := fun b o e => seen (KX b o e) (by
    cases q : H b with
    | none => rfl
    | some u =>
      have z := isA q
      subst z
      rw [notK (by rw [q]; exact fun z => nomatch z)] at e
      cases e)
  have md : Mod K mg (hidT s₁.heap H) := ⟨KB, nsOf nsG, ⟨mb, nsOf nsB, blt⟩, let ⟨mc, h1, h2⟩ := lim; ⟨mc, nsOf h1, h2⟩⟩
  have e0 : Env0 P w K mg (hidT s₁.heap H) callerA [] s₁ H := ⟨rfl, md, fun b o e => of_hidT e, Nat.le_of_eq (hidT_size _ _), trivial, fun b hb => (nomatch (show b ∈ ([] : List Addr) from hb)), hok, AllBare.of_eq g0⟩
  refine codeAny_mono ((F _ KB (nsOf nsG)).run callerA [] s₁ H ⟨[.ref a], []⟩ [.ref a] [.ref a] _ _ rfl hr e0 (bd s₁ (.ref a)) (.cons rfl .nil) want) fun r s' h => ?_
  cases r with
  | error e => exact (noErr H e s' h).elim
  | ok fl =>
    cases fl with
    | next => exact False.elim h
    | brk => exact False.elim h
    | cont => exact False.elim h
    | ret u =>
      have ⟨v, H', os, bare, un, hok', rv, q⟩ := h
      have q' : v = .bl true := q
      subst q'
      cases (show u = Value.bool true from rv)
      refine ⟨rfl, OldK.of_keep fun b o e => ?_, os, bare⟩
      cases q : H b with
      | none => exact un.keep b o e q (fun z => nomatch (show b ∈ ([] : List Addr) from z)) (by simp)
      | some u =>
        rcases only b with z | ⟨ob, xs, z⟩
        · rw [q] at z; cases z
        · have ⟨e1, _⟩ := hok b _ z
          have ⟨e2, _⟩ := hok' b _ (un.frzs b ob _ z)
          rw [e] at e1
          cases e1
          exact e2
theorem law_callG (KX : K.In s₁.heap) (nsG : s₁.heap.Ns mainGlobals mg) (nsB : s₁.heap.Ns builtinsNs mb) (blt : ∀ x : Str, x ≠ "__name__" → mb x = bootBuiltins x) (lim : s₁.heap.NoLimit) (g0 : s₁.gens = #[])
    (at_ : s₁.heap.get? a = some { cls := .type "list", data := .seq vs.toArray }) (hi : IntsAre vs ns) (fits : ns.length ≤ sizeLine) (hr : Room k callerA) (F : ∀ base : Heap, K.In base → base.Ns mainGlobals mg → FnG P w K mg base k fa fd [x] sp) (bd : ∀ (s : Shared) (u : Value), BindsTo s fd ⟨[u], []⟩ [(x, u)])
    (want : ∀ H : Hp, Only H → SqL K H a (ns.map V.int) → sp [.ref a] H (fun v _ => v = .bl true) fun _ _ _ => False) (noErr : ∀ H e s', L2.CX P w [] H s₁ (fun _ _ _ => False) e s' → False) :
    codeAny (model P w) callerA (.call (.ref fa) ⟨[.ref a], []⟩) (Ended s₁) s₁ := by
  have rv := vals_ints hi
  let scr : Obj := { cls := .type "list", data := .seq vs.toArray }
  cases hk : K.lookup a with
  | some o =>
    have e := KX a o hk
    rw [at_] at e
    cases e
    have o1 : Only fun _ => none := fun _ => .inl rfl
    exact law_overG KX nsG nsB blt lim g0 at_ hr F bd (want _ o1 (.inr ⟨_, vs.toArray, _, hk, rfl, rfl, rfl, by rw [List.size_toArray, hi.length]; exact fits, by simpa using rv⟩)) noErr o1 (fun b u z => by cases (show (none : Option HO) = some u from z)) (fun b z => absurd rfl z) fun z => absurd rfl z
  | none =>
    let H1 : Hp := fun b => if b = a then some (.frz scr (.lst (ns.map V.int))) else none
    have here_ : H1 a = some (.frz scr (.lst (ns.map V.int))) := if_pos rfl
    have off : ∀ {b : Addr}, b ≠ a → H1 b = none := fun n => if_neg n
    have o1 : Only H1 := fun b => by
      by_cases hb : b = a
      · subst hb; exact .inr ⟨_, _, here_⟩
      · exact .inl (off hb)
    refine law_overG KX nsG nsB blt lim g0 at_ hr F bd (want H1 o1 (.inl (.inr ⟨scr, here_⟩))) noErr o1 (fun b u z => ?_) (fun b z => ?_) fun _ => hk
    · by_cases hb : b = a
      · subst hb
        have z' := here_.symm.trans z
        cases z'
        exact ⟨at_, by rw [List.length_map]; exact fits, vs, _, rv, at_⟩
      · rw [off hb] at z; cases z
    · by_cases hb : b = a
      · exact hb
      · exact absurd (off hb) z
end
theorem walk_G {l : PySem.W.OpenLaw} {n k : Nat} {q : Program} {loose : List Str} {XP : (Str → Option Value) → Heap → Prop} {YP : World → Heap → Prop} {d : DefRec} {x : Str}
    (hn : l.most = some n) (hn2 : n ≤ sizeLine) (hdf : d.params.defaults = []) (hr : Room k callerA)
    (F : ∀ (w : World) (mg : Str → Option Value) (fa : Addr) (h : Heap), YP w h → h.Ns mainGlobals mg → mg d.name = some (.ref fa) →
      ∃ (K : PySem.W.Frag) (fd : FuncData) (sp : Sp), K.In h ∧ (∀ (s : Shared) (u : Value), BindsTo s fd ⟨[u], []⟩ [(x, u)]) ∧
        (∀ (H : Hp) (a : Addr) (ns : List Int), ns.length ≤ n → Only H → SqL K H a (ns.map V.int) → sp [.ref a] H (fun v _ => v = .bl true) fun _ _ _ => False) ∧
        ∀ base : Heap, K.In base → base.Ns mainGlobals mg → FnG l.prog w K mg base k fa fd [x] sp) :
    PySem.W.WalkO q loose XP YP l.row.toRowW d [] (fun f vs => PySem.call f vs) := by
  refine Att.attach_call hn hdf fun w s₀ s₁ mg mb fa o pm cd doc a vs ns G Y ho hd hcd hmg hobj hints hlen hg => ?_
  obtain ⟨K, fd, sp, KX, hb, hsp, hF⟩ := F w mg fa _ Y G.T.g hmg
  exact law_callG KX G.T.g G.T.b G.T.builtins G.T.nolimit hg hobj hints (Nat.le_trans hlen hn2) hr hF hb (fun H hO hS => hsp H a ns hlen hO hS) fun H e s' z => by
    obtain ⟨_, _, _, _, _, _, _, _, _, _, _, _, z⟩ := z
    exact z
end MR

/-! M26: what the head looks at: names, defs, own error classes; all of it by one Bool over a part of the heap. -/
namespace MR
open PySem PySem.Spec L2 PyProof.Rows He PySem.HandSPX
/-! ### the part of the heap -/
def nsAs (g : Addr → Option Obj) (ns : Addr) (x : Str) : List Addr := match g ns with
  | some ⟨_, _, .dict es _, _⟩ => (match es.toList.find? (·.key.isStr x) with
    | some e => refV e.val
    | none => [])
  | _ => []
def fnAs (g : Addr → Option Obj) (f : Addr) : List Addr := f :: (match g f with
  | some ⟨_, _, .func fd, _⟩ => refV fd.code ++ (refV fd.defaults ++ (refV fd.kwdefaults ++ fd.closure.map (·.2)))
  | _ => [])
def obAs (g : Addr → Option Obj) (a : Addr) : List Addr := match g a with
  | some ⟨_, _, .cls cd, _⟩ => a :: cd.ns :: (nsAs g cd.ns "__init__").flatMap (fnAs g)
  | some ⟨_, _, .func _, _⟩ => fnAs g a
  | _ => [a]
def asX (g : Addr → Option Obj) (xs : List Str) : List Addr := sysModules :: cStatics :: mainGlobals :: xs.flatMap fun x => (nsAs g mainGlobals x).flatMap (obAs g)
/-! ### what is asked -/
/-- where the pieces of an own error's __init__ stand -/
structure IP where
  p1 : Pos
  p2 : Pos
  p3 : Pos
  q1 : Pos
  q2 : Pos
  q3 : Pos
  q4 : Pos
  q5 : Pos
  r1 : Pos
  r2 : Pos
  r3 : Pos
  r4 : Pos
abbrev FnI : Type := Option (Arguments × FuncBody × Scope)
def initV (l : IP) : FnI := some (PySem.ErX.iA l.p1 l.p2 l.p3, .stmts (PySem.ErX.iB l.q1 l.q2 l.q3 l.q4 l.q5 l.r1 l.r2 l.r3 l.r4), PySem.ErX.iS)
/-- file: the program's; top: the base of the own errors; fr: names that are free; gl: names that stand for objects; cs, ci, ct: names that stand for a text, an int, a tuple of texts; er: errors with a field; br: errors without one -/
structure HdQ where
  file : Str
  top : Str
  fr : List Str
  gl : List Str
  er : List (Str × IP)
  br : List Str
  cs : List (Str × Str) := []
  ci : List (Str × Int) := []
  ct : List (Str × List Str) := []
def HdQ.kn (q : HdQ) : List Str := q.top :: (q.er.map (·.1) ++ q.br)
section
variable (K : PySem.W.Frag)
def newB (sl : Array (Option Value)) : Bool := match sl.toList with
  | [_, _, _, _, some (.builtin n), _] => decide (n = "ValueError.__new__")
  | _ => false
def clsB (x : Str) (up : List Value) : Bool := match K.lookup (ga K x) with
  | some ⟨.type t, _, .cls cd, sl⟩ => decide (t = "type") && (decide (cd.mro = .ref (ga K x) :: up) && (cd.hasDict && (!cd.hasDel && newB sl)))
  | _ => false
def initI (x : Str) : FnI := match K.lookup (ma K (ga K x) "__init__") with
  | some ⟨_, _, .func fd, _⟩ => some (fd.params, fd.body, fd.scope)
  | _ => none
def cellB (l : List (Str × Addr)) (C : Addr) : Bool := match l with
  | [(n, cc)] => decide (n = "__class__") && (match K.lookup cc with
    | some ⟨_, _, .cell (some (.ref D)), _⟩ => decide (D = C)
    | _ => false)
  | _ => false
def dfltB (v : Value) : Bool := match v with
  | .ref a => (match K.lookup a with
    | some ⟨_, _, .seq its _, _⟩ => (match its.toList with
      | [.none] => true
      | _ => false)
    | _ => false)
  | _ => false
def fileB (file : Str) (v : Value) : Bool := match v with
  | .ref a => (match K.lookup a with
    | some ⟨_, _, .fields vs, _⟩ => (match (vs[2]? : Option Value) with
      | some (Value.str f _) => decide (f = file)
      | _ => false)
    | _ => false)
  | _ => false
def initB (file x : Str) : Bool := match K.lookup (ma K (ga K x) "__init__") with
  | some ⟨.type t, _, .func fd, _⟩ => decide (t = "function") && (decide (fd.name = "__init__") && (decide (fd.globals = mainGlobals) && (decide (fd.builtins = builtinsNs) && (PySem.W.codeIn K fd.code fd.qualname && (cellB K fd.closure (ga K x) && (dfltB K fd.defaults && fileB K file fd.code))))))
  | _ => false
def knB (x : Str) : Bool := eqO (PySem.W.findIn K (.ref (ga K x)) "__getattribute__") (some (some (.builtin "BaseException.__getattribute__"))) && (eqO (PySem.W.findIn K (.ref (ga K x)) "__getattr__") (some none) && (eqO (PySem.W.findIn K (.ref (ga K x)) "value") (some none) &&
  (eqO (PySem.W.findIn K (.ref (ga K x)) "__class__") (some (some (.builtin "object.__class__"))) && PySem.W.keepIn K (.ref (ga K x)))))
def errB (file top x : Str) : Bool := clsB K x (.ref (ga K top) :: veTail) && (initB K file x && (eqO (PySem.W.findIn K (.ref (ga K x)) "__setattr__") (some (some (.builtin "object.__setattr__"))) && eqO (PySem.W.findIn K (.ref (ga K x)) "__init__") (some (some (.ref (ma K (ga K x) "__init__"))))))
def barB (x : Str) (up : List Value) : Bool := clsB K x up && eqO (PySem.W.findIn K (.ref (ga K x)) "__init__") (some (some (.builtin "ValueError.__init__")))
def nodB : List Addr → Bool
  | [] => true
  | a :: r => !(r.contains a) && nodB r
def txtsB : List Value → List Str → Bool
  | [], [] => true
  | .str y _ :: vs, z :: zs => decide (y = z) && txtsB vs zs
  | _, _ => false
def tupB (x : Str) (zs : List Str) : Bool := match K.lookup (ga K x) with
  | some ⟨.type t, _, .seq its _, _⟩ => decide (t = "tuple") && (decide (its.size ≤ 1000) && txtsB its.toList zs)
  | _ => false
def conB (q : HdQ) : Bool := (q.cs.all fun p => Fa.ok K (.str p.1 p.2)) && ((q.ci.all fun p => Fa.ok K (.int p.1 p.2)) && q.ct.all fun p => Fa.ok K (.glo p.1) && tupB K p.1 p.2)
def hdB (q : HdQ) : Bool := conB K q && ( (q.fr.all fun x => Fa.ok K (.free x)) && ((q.gl.all fun x => Fa.ok K (.glo x)) && (barB K q.top veTail && ((q.er.all fun p => errB K q.file q.top p.1) && ((q.br.all fun x => barB K x (.ref (ga K q.top) :: veTail)) && (q.kn.all (knB K) && (nodB (q.kn.map (ga K)) &&
  (Fa.ok K (.free "super") && (eqO (PySem.W.nsIn K cStatics "thirdparty.any") (some none) && (eqO (PySem.W.specialIn K (.builtin "object.__class__") "__get__") (some (some (.builtin "getset_descriptor.__get__"))) && (decide (PySem.W.takesIn K (.builtin "object.__class__") = some true) && (K.lookup sysModules).isSome)))))))))))
end
abbrev AlX : Type := Bool × List FnW × List FnI
def obsX (q : HdQ) (fn : List DefD) (K : PySem.W.Frag) : AlX := (hdB K q && fn.all fun d => d.ok K, fn.map fun d => fnW K d.at_, q.er.map fun p => initI K p.1)
def valX (q : HdQ) (fn : List DefD) : AlX := (true, fn.map DefD.val, q.er.map fun p => initV p.2)
def SaysX (q : HdQ) (fn : List DefD) (K : PySem.W.Frag) : Prop := obsX q fn K = valX q fn
def obsXG (q : HdQ) (fn : List DefD) (g : Addr → Option Obj) : AlX := obsX q fn (frG g (asX g (q.gl ++ (q.fr ++ q.ct.map (·.1)))))
def hookX (q : HdQ) (fn : List DefD) : PySem.W.Hook where
  α := AlX
  obs := fun s => obsXG q fn s.heap.get?
  val := fun _ => valX q fn
  says := fun _ h => ∃ K : PySem.W.Frag, K.In h ∧ SaysX q fn K
  of := fun _ _ e => ⟨_, frG_in, e⟩
  keeps := fun _ _ _ ⟨K, hK, c⟩ k => ⟨K, PySem.W.Frag.In.keeps hK k, c⟩
theorem obsXG_eq {q : HdQ} {fn : List DefD} {g : Addr → Option Obj} {s : Shared} (h : ∀ a, g a = s.heap.get? a) : obsXG q fn g = (hookX q fn).obs s := by
  have e : g = s.heap.get? := funext h
  rw [e] <;> rfl
end MR

/-! M27: what the head's Bool says. -/
namespace MR
open PySem PySem.Spec L2 PyProof.Rows He PySem.HandSPX
theorem b2 {a b : Bool} (h : (a && b) = true) : a = true ∧ b = true := Bool.and_eq_true_iff.mp h
section
variable {K : PySem.W.Frag} {x : Str} {up : List Value}
/-- such a class, as it lies -/
def ClsAt (K : PySem.W.Frag) (C : Addr) (up : List Value) : Prop := ∃ nm q N bs sn sub ab col dd k0 k1 k2 k3 k5, K.lookup C = some (excClassObj nm q C N bs up true sn sub ab col dd k0 k1 k2 k3 k5 "ValueError.__new__")
theorem clsB_ok (h : clsB K x up = true) : ClsAt K (ga K x) up := by
  unfold clsB at h
  split at h
  · rename_i t dd cd sl hk
    obtain ⟨h1, g1⟩ := b2 h
    obtain ⟨h2, g2⟩ := b2 g1
    obtain ⟨h3, g3⟩ := b2 g2
    obtain ⟨h4, g4⟩ := b2 g3
    clear h g1 g2 g3
    have e1 := of_decide_eq_true h1
    have e2 := of_decide_eq_true h2
    subst e1
    unfold newB at g4
    split at g4
    · rename_i k0 k1 k2 k3 n k5 hs
      have e3 := of_decide_eq_true g4
      subst e3
      obtain ⟨nm, bs, mro, ns, qn, hd, sn, sub, ab, col, del⟩ := cd
      dsimp only at e2 h3 h4
      subst e2 h3
      have e5 : del = false := by simpa using h4
      subst e5
      have hsl : sl = #[k0, k1, k2, k3, some (.builtin "ValueError.__new__"), k5] := by
        obtain ⟨l⟩ := sl
        simp only at hs
        rw [hs]
      subst hsl
      exact ⟨nm, qn, ns, bs, sn, sub, ab, col, dd, k0, k1, k2, k3, k5, hk⟩
    · cases g4
  · cases h
section
variable {C : Addr}
theorem ClsAt.mro (c : ClsAt K C up) (b : Value) : PySem.W.mroIn K C b = some ((Value.ref C :: up).contains b) := by
  obtain ⟨_, _, _, _, _, _, _, _, _, _, _, _, _, _, hk⟩ := c
  unfold PySem.W.mroIn PySem.W.clsIn
  rw [hk]
  rfl
theorem ClsAt.sub (c : ClsAt K C up) (b : Value) : PySem.W.subIn K (.ref C) b = some ((Value.ref C :: up).contains b) := c.mro b
theorem ClsAt.is (c : ClsAt K C up) : PySem.W.isClsIn K C = true := by
  obtain ⟨_, _, _, _, _, _, _, _, _, _, _, _, _, _, hk⟩ := c
  unfold PySem.W.isClsIn PySem.W.clsIn
  rw [hk]
  rfl
theorem ClsAt.ty (c : ClsAt K C up) : PySem.W.typeIn K (.ref C) = some (.type "type") := by
  obtain ⟨_, _, _, _, _, _, _, _, _, _, _, _, _, _, hk⟩ := c
  unfold PySem.W.typeIn
  simp only []
  rw [hk]
  rfl
theorem ClsAt.dict (c : ClsAt K C up) : PySem.W.hasDictIn K C = true := by
  obtain ⟨_, _, _, _, _, _, _, _, _, _, _, _, _, _, hk⟩ := c
  unfold PySem.W.hasDictIn PySem.W.clsIn
  rw [hk]
  rfl
theorem ClsAt.self (c : ClsAt K C up) : PySem.W.mroIn K C (.ref C) = some true := by rw [c.mro]; simp
theorem ClsAt.along {D : Addr} {v : Option Value} (c : ClsAt K D up) (h : PySem.W.findIn K (.ref D) "__init__" = some v) : PySem.W.alongIn K "__init__" (((Value.ref C :: .ref D :: up).dropWhile (· != .ref C)).drop 1) = some v := by
  obtain ⟨_, _, _, _, _, _, _, _, _, _, _, _, _, _, hk⟩ := c
  have e : ((Value.ref C :: .ref D :: up).dropWhile (· != .ref C)).drop 1 = .ref D :: up := by
    rw [List.dropWhile_cons_of_neg (by simp)]
    rfl
  rw [e]
  unfold PySem.W.findIn at h
  simp only [hk] at h
  exact h
/-- an error of its own class is caught by it -/
theorem ClsAt.exm (c : ClsAt K C up) (be : PySem.W.subIn K (.ref C) (.type "BaseException") = some true) : PySem.W.exmOne K (.ref C) (.ref C) = some true := by
  unfold PySem.W.exmOne PySem.W.kitCls
  have e1 : (PySem.W.clsIn K C).isSome = true := c.is
  rw [if_pos (by rw [be] <;> rfl)]
  simp only []
  rw [if_pos (by rw [e1, c.ty] <;> rfl)]
  exact c.self
theorem ClsAt.kit {D : Addr} {up2 : List Value} (c : ClsAt K C up) (d : ClsAt K D up2) : PySem.W.kitOne K (.ref C) (.ref D) = some ((Value.ref C :: up).contains (.ref D)) := by
  unfold PySem.W.kitOne
  by_cases h : C = D
  · subst h
    rw [if_pos (by simp)]
    simp
  · rw [if_neg (fun q => h (Value.ref.inj (beq_iff_eq.mp q)))]
    unfold PySem.W.kitCls
    have e1 : (PySem.W.clsIn K D).isSome = true := d.is
    simp only []
    rw [if_pos (by rw [e1, d.ty] <;> rfl)]
    exact c.sub _
theorem ClsAt.kitT {n : String} (c : ClsAt K C up) (hm : PySem.W.kitMeta n = true) : PySem.W.kitOne K (.ref C) (.type n) = some ((Value.ref C :: up).contains (.type n)) := by
  unfold PySem.W.kitOne
  rw [if_neg (show ¬ ((Value.ref C == Value.type n) = true) from fun q => by have z := beq_iff_eq.mp q; cases z)]
  unfold PySem.W.kitCls
  simp only []
  rw [if_pos hm]
  exact c.sub _
end
theorem inj_of {α : Type} {f : α → Addr} : ∀ {l : List α}, nodB (l.map f) = true → ∀ a ∈ l, ∀ b ∈ l, f a = f b → a = b
  | [], _, a, ha, _, _, _ => by cases ha
  | c :: l, h, a, ha, b, hb, e => by
    obtain ⟨h1, h2⟩ := b2 (show (!((l.map f).contains (f c)) && nodB (l.map f)) = true from h)
    have no : ∀ d ∈ l, f d ≠ f c := fun d hd z => by
      have y : (l.map f).contains (f c) = true := by
        rw [List.contains_iff_mem, ← z]
        exact List.mem_map_of_mem hd
      rw [y] at h1
      cases h1
    rcases List.mem_cons.mp ha with ra | ra
    · rcases List.mem_cons.mp hb with rb | rb
      · rw [ra, rb]
      · subst ra
        exact absurd e.symm (no b rb)
    · rcases List.mem_cons.mp hb with rb | rb
      · subst rb
        exact absurd e (no a ra)
      · exact inj_of h2 a ra b rb e
end
/-! ### the facts -/
section
variable {q : HdQ} {fn : List DefD} {K : PySem.W.Frag} {h : Heap} {mg : Str → Option Value} {P : Program}
theorem all_of {α : Type} {l : List α} {f : α → Bool} (h : l.all f = true) {a : α} (ha : a ∈ l) : f a = true := List.all_eq_true.mp h a ha
structure HdOk (q : HdQ) (K : PySem.W.Frag) : Prop where
  con : conB K q = true
  fr : (q.fr.all fun x => Fa.ok K (.free x)) = true
  gl : (q.gl.all fun x => Fa.ok K (.glo x)) = true
  top : barB K q.top veTail = true
  er : (q.er.all fun p => errB K q.file q.top p.1) = true
  br : (q.br.all fun x => barB K x (.ref (ga K q.top) :: veTail)) = true
  kn : q.kn.all (knB K) = true
  nod : nodB (q.kn.map (ga K)) = true
  sup : Fa.ok K (.free "super") = true
  opq : PySem.W.nsIn K cStatics "thirdparty.any" = some none
  hn : PySem.W.specialIn K (.builtin "object.__class__") "__get__" = some (some (.builtin "getset_descriptor.__get__"))
  ht : PySem.W.takesIn K (.builtin "object.__class__") = some true
  sm : ∃ o, K.lookup sysModules = some o
theorem hdB_ok (h : hdB K q = true) : HdOk q K := by
  unfold hdB at h
  obtain ⟨a0, h⟩ := b2 h
  obtain ⟨a1, h⟩ := b2 h
  obtain ⟨a2, h⟩ := b2 h
  obtain ⟨a3, h⟩ := b2 h
  obtain ⟨a4, h⟩ := b2 h
  obtain ⟨a5, h⟩ := b2 h
  obtain ⟨a6, h⟩ := b2 h
  obtain ⟨a7, h⟩ := b2 h
  obtain ⟨a8, h⟩ := b2 h
  obtain ⟨a9, h⟩ := b2 h
  obtain ⟨a10, h⟩ := b2 h
  obtain ⟨a11, h⟩ := b2 h
  exact ⟨a0, a1, a2, a3, a4, a5, a6, a7, a8, eqO_ok a9, eqO_ok a10, of_decide_eq_true a11, Option.isSome_iff_exists.mp h⟩
theorem SaysX.head (c : SaysX q fn K) : HdOk q K := hdB_ok (b2 (show (hdB K q && fn.all fun d => d.ok K) = true from congrArg (fun z : AlX => z.1) c)).1
theorem SaysX.def_ (c : SaysX q fn K) (i : Nat) {d : DefD} (h : fn[i]? = some d := by rfl) : ∃ fd, FunD K d.name d.qual d.params d.body d.scope (d.dvs K) (d.kws K) (fAd K d.at_) fd := by
  have c2 := (b2 (show (hdB K q && fn.all fun d => d.ok K) = true from congrArg (fun z : AlX => z.1) c)).2
  have e : fn.map (fun d => fnW K d.at_) = fn.map DefD.val := congrArg (fun z : AlX => z.2.1) c
  have e2 : (fn.map fun d => fnW K d.at_)[i]? = (fn.map DefD.val)[i]? := by rw [e]
  rw [List.getElem?_map, List.getElem?_map, h] at e2
  exact DefD.funD (Option.some.inj e2) (all_of c2 (List.mem_of_getElem? h))
theorem SaysX.init (c : SaysX q fn K) {p : Str × IP} (hp : p ∈ q.er) : initI K p.1 = initV p.2 := by
  have e : q.er.map (fun p => initI K p.1) = q.er.map (fun p => initV p.2) := congrArg (fun z : AlX => z.2.2) c
  obtain ⟨i, hi⟩ := List.getElem?_of_mem hp
  have e2 : (q.er.map fun p => initI K p.1)[i]? = (q.er.map fun p => initV p.2)[i]? := by rw [e]
  rw [List.getElem?_map, List.getElem?_map, hi] at e2
  exact Option.some.inj e2
theorem HdOk.free (c : HdOk q K) (X : K.In h) (G : h.Ns mainGlobals mg) {x : Str} (hx : x ∈ q.fr) : mg x = none := free_ok X G (all_of c.fr hx)
theorem HdOk.glo (c : HdOk q K) (X : K.In h) (G : h.Ns mainGlobals mg) {x : Str} (hx : x ∈ q.gl) : mg x = some (.ref (ga K x)) := glo_ok X G (all_of c.gl hx)
theorem txtsB_ok : ∀ {vs : List Value} {zs : List Str}, txtsB vs zs = true → Vals (zs.map V.str) vs
  | [], [], _ => .nil
  | [], _ :: _, h => by cases h
  | v :: vs, [], h => by cases v <;> cases h
  | v :: vs, z :: zs, h => by
    cases v with
    | str y t =>
      obtain ⟨h1, h2⟩ := b2 (show (decide (y = z) && txtsB vs zs) = true from h)
      have e := of_decide_eq_true h1
      subst e
      exact .cons ⟨t, rfl⟩ (txtsB_ok h2)
    | _ => cases h
theorem HdOk.str (c : HdOk q K) (X : K.In h) (G : h.Ns mainGlobals mg) {x z : Str} (hx : (x, z) ∈ q.cs) : ∃ t, mg x = some (.str z t) := str_ok X G (all_of (b2 c.con).1 hx)
theorem HdOk.int (c : HdOk q K) (X : K.In h) (G : h.Ns mainGlobals mg) {x : Str} {z : Int} (hx : (x, z) ∈ q.ci) : ∃ t, mg x = some (.int z t) := int_ok X G (all_of (b2 (b2 c.con).2).1 hx)
theorem HdOk.tup (c : HdOk q K) (X : K.In h) (G : h.Ns mainGlobals mg) {x : Str} {zs : List Str} (hx : (x, zs) ∈ q.ct) : ∃ (a : Addr) (o : Obj) (its : Array Value) (n : Nat), mg x = some (.ref a) ∧ K.lookup a = some o ∧ o.cls = .type "tuple" ∧ o.data = .seq its n ∧ its.size ≤ sizeLine ∧ Vals (zs.map V.str) its.toList := by
  obtain ⟨h1, h2⟩ := b2 (all_of (b2 (b2 c.con).2).2 hx)
  unfold tupB at h2
  split at h2
  · rename_i t od its n sl hk
    obtain ⟨e1, h3⟩ := b2 h2
    obtain ⟨e2, h4⟩ := b2 h3
    have e5 := of_decide_eq_true e1
    have e6 := of_decide_eq_true e2
    clear h2 h3 e1 e2
    dsimp only at e5 e6 h4
    subst e5
    exact ⟨_, _, its, n, glo_ok X G h1, hk, rfl, rfl, by rw [sizeLine_eq]; omega, txtsB_ok h4⟩
  · cases h2
/-- the line above the class x -/
def upOf (q : HdQ) (K : PySem.W.Frag) (x : Str) : List Value := if x = q.top then veTail else .ref (ga K q.top) :: veTail
theorem HdOk.cls (c : HdOk q K) {x : Str} (hx : x ∈ q.kn) : ClsAt K (ga K x) (upOf q K x) := by
  unfold upOf
  by_cases e : x = q.top
  · rw [if_pos e, e]
    exact clsB_ok (b2 c.top).1
  · rw [if_neg e]
    rcases List.mem_cons.mp hx with r | r
    · exact absurd r e
    · rcases List.mem_append.mp r with r | r
      · obtain ⟨p, hp, rfl⟩ := List.mem_map.mp r
        exact clsB_ok (b2 (all_of c.er hp)).1
      · exact clsB_ok (b2 (all_of c.br r)).1
theorem up_has {q : HdQ} {K : PySem.W.Frag} {x : Str} {C : Addr} {n : String} (hn : veTail.contains (.type n) = true) : (Value.ref C :: upOf q K x).contains (.type n) = true := by
  have e : ∀ l : List Value, (Value.ref C :: l).contains (.type n) = (((Value.type n) == (Value.ref C)) || l.contains (.type n)) := fun l => List.contains_cons
  have e2 : ∀ l : List Value, (Value.ref (ga K q.top) :: l).contains (.type n) = (((Value.type n) == (Value.ref (ga K q.top))) || l.contains (.type n)) := fun l => List.contains_cons
  rw [e]
  unfold upOf
  split
  · rw [hn, Bool.or_true]
  · rw [e2, hn, Bool.or_true, Bool.or_true]
structure KnF (K : PySem.W.Frag) (C : Addr) : Prop where
  ga : PySem.W.findIn K (.ref C) "__getattribute__" = some (some (.builtin "BaseException.__getattribute__"))
  gg : PySem.W.findIn K (.ref C) "__getattr__" = some none
  nv : PySem.W.findIn K (.ref C) "value" = some none
  cl : PySem.W.findIn K (.ref C) "__class__" = some (some (.builtin "object.__class__"))
  kp : PySem.W.keepIn K (.ref C) = true
theorem HdOk.knf (c : HdOk q K) {x : Str} (hx : x ∈ q.kn) : KnF K (He.ga K x) := by
  have y := all_of c.kn hx
  unfold knB at y
  obtain ⟨a1, y⟩ := b2 y
  obtain ⟨a2, y⟩ := b2 y
  obtain ⟨a3, y⟩ := b2 y
  obtain ⟨a4, y⟩ := b2 y
  exact ⟨eqO_ok a1, eqO_ok a2, eqO_ok a3, eqO_ok a4, y⟩
def isaT (top : Str) : Isa := fun c x => decide (c = x) || decide (x = top)
theorem HdOk.kit (c : HdOk q K) {a b : Str} (ha : a ∈ q.kn) (hb : b ∈ q.kn) : PySem.W.kitOne K (.ref (ga K a)) (.ref (ga K b)) = some (isaT q.top a b) := by
  rw [(c.cls ha).kit (c.cls hb)]
  have inj := inj_of c.nod
  have topIn : q.top ∈ q.kn := List.mem_cons_self
  have ab : ((Value.ref (ga K b)) == (Value.ref (ga K a))) = decide (a = b) := by
    by_cases e : a = b
    · subst e; simp
    · rw [decide_eq_false e]
      exact beq_eq_false_iff_ne.mpr fun z => e (inj a ha b hb (Value.ref.inj z).symm)
  have bt : ((Value.ref (ga K b)) == (Value.ref (ga K q.top))) = decide (b = q.top) := by
    by_cases e : b = q.top
    · rw [e]; simp
    · rw [decide_eq_false e]
      exact beq_eq_false_iff_ne.mpr fun z => e (inj b hb q.top topIn (Value.ref.inj z))
  have vt : veTail.contains (Value.ref (ga K b)) = false := rfl
  have e : ∀ (d : Addr) (l : List Value), (Value.ref d :: l).contains (.ref (ga K b)) = (((Value.ref (ga K b)) == (Value.ref d)) || l.contains (.ref (ga K b))) := fun d l => List.contains_cons
  unfold isaT upOf
  rw [e, ab]
  by_cases ht : a = q.top
  · rw [if_pos ht, vt, ht]
    by_cases hb2 : b = q.top
    · rw [hb2]; simp
    · rw [decide_eq_false hb2, decide_eq_false (fun z => hb2 z.symm)]
  · rw [if_neg ht, e, bt, vt, Bool.or_false]
theorem HdOk.ek (c : HdOk q K) : ErrK K (ga K) (isaT q.top) q.kn q.kn where
  xf := fun x hx => ⟨(c.knf hx).ga, (c.knf hx).gg, (c.cls hx).sub (.type "BaseException") ▸ congrArg some (up_has (by decide +kernel)), (c.cls hx).dict⟩
  no := fun x hx => (c.knf hx).nv
  ha := fun x hx => (c.knf hx).cl
  hm := fun x hx => by rw [(c.cls hx).mro]; exact congrArg some (up_has (by decide +kernel))
  hn := c.hn
  ht := c.ht
  ki := fun a ha b hb => c.kit ha hb
theorem HdOk.ve (c : HdOk q K) {x : Str} (hx : x ∈ q.kn) : PySem.W.kitOne K (.ref (ga K x)) (.type "ValueError") = some true := by
  rw [(c.cls hx).kitT (by decide +kernel)]
  exact congrArg some (up_has (by decide +kernel))
theorem HdOk.bare (c : HdOk q K) (X : K.In h) (G : h.Ns mainGlobals mg) {x : Str} (hx : x ∈ q.top :: q.br) (hg : x ∈ q.gl) : PySem.ErY.BareTxt K mg x (ga K x) := by
  have hk : x ∈ q.kn := by
    rcases List.mem_cons.mp hx with r | r
    · exact r ▸ List.mem_cons_self
    · exact List.mem_cons_of_mem _ (List.mem_append.mpr (.inr r))
  have y : ∃ up, barB K x up = true := by
    rcases List.mem_cons.mp hx with r | r
    · exact ⟨_, r ▸ c.top⟩
    · exact ⟨_, all_of c.br r⟩
  obtain ⟨up, y⟩ := y
  obtain ⟨nm, qn, N, bs, sn, sub, ab, col, dd, k0, k1, k2, k3, k5, e⟩ := c.cls hk
  refine ⟨c.glo X G hg, ⟨nm, qn, N, bs, _, sn, sub, ab, col, dd, k0, k1, k2, k3, k5, e, ?_⟩, eqO_ok (b2 y).2, (c.knf hk).kp⟩
  unfold upOf
  split <;> rfl
/-- the text of an own error -/
theorem err_txt {x : Str} {l : IP} (c : HdOk q K) (i : initI K x = initV l) (X : K.In h) (G : h.Ns mainGlobals mg) (hk : x ∈ q.kn) (ht : x ≠ q.top) (hg : x ∈ q.gl) (e : errB K q.file q.top x = true) (hf : (P.main.file : Str) = q.file)
    (hln : (l.q3.endLine == l.q4.line) = true) (htop : (P.main.scope.names.lookup ("super" : Str)).isSome = false) : PySem.ErX.ErrTxt P K mg x (ga K x) (ma K (ga K x) "__init__") := by
  obtain ⟨_, e⟩ := b2 e
  obtain ⟨ib, e⟩ := b2 e
  obtain ⟨sa, iC⟩ := b2 e
  have ce := c.cls hk
  have kf := c.knf hk
  have u : upOf q K x = .ref (ga K q.top) :: veTail := if_neg ht
  have be : PySem.W.subIn K (.ref (ga K x)) (.type "BaseException") = some true := by rw [ce.sub]; exact congrArg some (up_has (by decide +kernel))
  have ve : PySem.W.subIn K (.ref (ga K x)) (.type "ValueError") = some true := by rw [ce.sub]; exact congrArg some (up_has (by decide +kernel))
  unfold initB at ib
  unfold initI initV at i
  split at ib
  · rename_i t od fd osl lk
    obtain ⟨a1, ib⟩ := b2 ib
    obtain ⟨a2, ib⟩ := b2 ib
    obtain ⟨a3, ib⟩ := b2 ib
    obtain ⟨a4, ib⟩ := b2 ib
    obtain ⟨a5, ib⟩ := b2 ib
    obtain ⟨a6, ib⟩ := b2 ib
    obtain ⟨a7, a8⟩ := b2 ib
    have e1 := of_decide_eq_true a1
    have e2 := of_decide_eq_true a2
    have e3 := of_decide_eq_true a3
    have e4 := of_decide_eq_true a4
    rw [lk] at i
    obtain ⟨n1, n2, n3, n4, n5, n6, n7, n8, n9, n10, n11, n12, n13, n14, n15⟩ := fd
    simp only [Option.some.injEq, Prod.mk.injEq] at i
    obtain ⟨i1, i2, i3⟩ := i
    simp only at e2 e3 e4 a5 a6 a7 a8
    subst i1 i2 i3 e1 e2 e3 e4
    unfold cellB at a6
    split at a6
    · rename_i n cc
      obtain ⟨c1, c2⟩ := b2 a6
      have ec := of_decide_eq_true c1
      subst ec
      split at c2
      · rename_i ccl ccd D ccs lcc
        have eD := of_decide_eq_true c2
        subst eD
        unfold dfltB at a7
        split at a7
        · rename_i DV
          split at a7
          · rename_i oc2 od2 its nn sl2 lD
            split at a7
            · rename_i hits
              have eits : its = #[.none] := by
                obtain ⟨li⟩ := its
                simp only at hits
                rw [hits]
              subst eits
              unfold fileB at a8
              split at a8
              · rename_i cda
                split at a8
                · rename_i o3 d3 vs s3 lcd
                  split at a8
                  · rename_i f tf hvs
                    have ef := of_decide_eq_true a8
                    subst ef
                    obtain ⟨nm, qn, N, bs, sn, sub, ab, col, dd, k0, k1, k2, k3, k5, ec⟩ := ce
                    rw [u] at ec
                    exact {
                      gC := c.glo X G hg, cls := ⟨nm, qn, N, bs, _, sn, sub, ab, col, dd, k0, k1, k2, k3, k5, ec, rfl, (clsB_ok (b2 c.top).1).along (eqO_ok (b2 c.top).2)⟩, sa := eqO_ok sa, ga := kf.ga, gg := kf.gg, noN := kf.nv, iC := eqO_ok iC,
                      tC := by unfold PySem.W.typeIn; simp only []; rw [lk] <;> rfl, kC := kf.kp, exC := be, veC := ve, meC := (c.cls hk).self, tyC := (c.cls hk).ty, hdC := (c.cls hk).dict, te := (c.cls hk).exm be, opq := c.opq, sup := free_ok X G c.sup, htop := htop,
                      fn := ⟨_, _, _, _, _, _, _, _, _, _, _, _, _, _, _, _, _, _, _, _, _, _, _, _, lk, a5, ⟨_, _, lD, rfl⟩, ⟨_, _, _, lcc⟩, ⟨_, _, _, _, _, _, lcd, hvs, by rw [hf]; simp⟩, hln⟩ }
                  · cases a8
                · cases a8
              · cases a8
            · cases a7
          · cases a7
        · cases a7
      · cases c2
    · cases a6
  · cases ib
theorem HdOk.inKn {p : Str × IP} (hp : p ∈ q.er) : p.1 ∈ q.kn := List.mem_cons_of_mem _ (List.mem_append.mpr (.inl (List.mem_map_of_mem hp)))
theorem SaysX.err (s : SaysX q fn K) (X : K.In h) (G : h.Ns mainGlobals mg) {x : Str} {l : IP} (hp : (x, l) ∈ q.er) (ht : x ≠ q.top) (hg : x ∈ q.gl) (hf : (P.main.file : Str) = q.file)
    (hln : (l.q3.endLine == l.q4.line) = true) (htop : (P.main.scope.names.lookup ("super" : Str)).isSome = false) : PySem.ErX.ErrTxt P K mg x (ga K x) (ma K (ga K x) "__init__") :=
  err_txt s.head (s.init hp) X G (HdOk.inKn hp) ht hg (all_of s.head.er hp) hf hln htop
end
end MR

/-! M28: != and == of two texts. -/
namespace MR
open PySem PySem.Spec L2
def eqSD (x y : D) (S : Hs) : Res D := match x, y with
  | .str a, .str b => .ok (.bl (decide (a = b))) S
  | _, _ => .bad
def neSD (x y : D) (S : Hs) : Res D := match x, y with
  | .str a, .str b => .ok (.bl (!decide (a = b))) S
  | _, _ => .bad
theorem eqS_no : NoEr eqSD := fun x y S c d S' h => by
  unfold eqSD at h
  split at h <;> cases h
theorem neS_no : NoEr neSD := fun x y S c d S' h => by
  unfold neSD at h
  split at h <;> cases h
theorem strV {a b : Str} : decide (V.str a = V.str b) = decide (a = b) := by
  by_cases h : a = b
  · subst h; simp
  · rw [decide_eq_false h, decide_eq_false fun z => h (V.str.inj z)]
theorem eqS_M {T : Ct} : OpM T rEq eqSD := by
  intro φ S H x y v u Q er R vx vy ne P
  unfold eqSD at P
  split at P
  · cases vx
    cases vy
    refine ⟨rfl, ?_⟩
    rw [strV]
    exact P.now R (.bl _)
  · exact False.elim P
theorem neS_M {T : Ct} : OpM T rNe neSD := by
  intro φ S H x y v u Q er R vx vy ne P
  unfold neSD at P
  split at P
  · cases vx
    cases vy
    refine ⟨rfl, ?_⟩
    rw [strV]
    exact P.now R (.bl _)
  · exact False.elim P
section
variable {X : Cx} {T : Ct} {W : WX} {pos : Pos} {a b : Expr} {ma mb : Ex}
theorem r_eqS (ha : PE X a (tE T W ma)) (hb : PE X b (tE T W mb)) : PE X (.Compare a [.Eq] [b] pos) (tE T W (mOp2 eqSD ma mb)) := r_cmp (r := rEq) op_eq eqS_M eqS_no ha hb (nomark _)
theorem t_eqS (ha : PE X a (tE T W ma)) (hb : PE X b (tE T W mb)) : PT X (.Compare a [.Eq] [b] pos) (tT T W (mOp2 eqSD ma mb)) := t_cmp (r := rEq) op_eq eqS_M eqS_no ha hb (nomark _)
theorem r_neS (ha : PE X a (tE T W ma)) (hb : PE X b (tE T W mb)) : PE X (.Compare a [.NotEq] [b] pos) (tE T W (mOp2 neSD ma mb)) := r_cmp (r := rNe) op_ne neS_M neS_no ha hb (nomark _)
theorem t_neS (ha : PE X a (tE T W ma)) (hb : PE X b (tE T W mb)) : PT X (.Compare a [.NotEq] [b] pos) (tT T W (mOp2 neSD ma mb)) := t_cmp (r := rNe) op_ne neS_M neS_no ha hb (nomark _)
end
end MR

/-! M29: how long the text of data is at most. -/
namespace MR
open PySem
theorem len_app (a b : Str) : (a ++ b).length = a.length + b.length := Str.length_append a b
theorem piled_le {B : Nat} : ∀ {ts : List Str}, (∀ t ∈ ts, t.length ≤ B) → piled ts ≤ ts.length * (B + 2)
  | [], _ => Nat.zero_le _
  | t :: ts, h => by
    have h1 := h t (List.mem_cons_self ..)
    have h2 := piled_le (ts := ts) fun x hx => h x (List.mem_cons_of_mem _ hx)
    rw [piled_cons, List.length_cons, Nat.succ_mul]
    omega
theorem join_le (ts : List Str) : (Str.join ", " ts).length ≤ piled ts := by
  by_cases h : ts = []
  · subst h
    exact Nat.zero_le _
  · have := join_length_add ts h
    omega
theorem list_le (ts : List Str) : (listText ts).length ≤ piled ts + 2 := by
  rw [listText_eq_join, len_app, len_app]
  have e1 : (("[" : String) : Str).length = 1 := rfl
  have e2 : (("]" : String) : Str).length = 1 := rfl
  have := join_le ts
  omega
theorem tuple_le (ts : List Str) : (tupleText ts).length ≤ piled ts + 3 := by
  unfold tupleText
  rw [len_app, len_app]
  have e1 : (("(" : String) : Str).length = 1 := rfl
  have e2 : (((if ts.length == 1 then ",)" else ")" : String) : Str)).length ≤ 2 := by split <;> decide
  have := join_le ts
  omega
theorem dict_le (ts : List Str) : (dictText ts).length ≤ piled ts + 2 := by
  unfold dictText
  rw [len_app, len_app]
  have e1 : (("{" : String) : Str).length = 1 := rfl
  have e2 : (("}" : String) : Str).length = 1 := rfl
  have := join_le ts
  omega
theorem ofS_len (x : String) : (x : Str).length = x.length := ofString_length x
theorem nat_le {n k : Nat} (hk : 0 < k) (h : n < 10 ^ k) : (n.repr).length ≤ k := (Nat.length_repr_le_iff hk).mpr h
theorem int_le {i : Int} {k : Nat} (hk : 0 < k) (h : i.natAbs < 10 ^ k) : ((toString i : String) : Str).length ≤ k + 1 := by
  rw [ofS_len]
  show (Int.repr i).length ≤ _
  rw [Int.repr_eq_if]
  split
  · have := nat_le (n := i.toNat) hk (by omega)
    omega
  · have := nat_le (n := (-i).toNat) hk (by omega)
    rw [String.length_append]
    have e1 : ("-" : String).length = 1 := rfl
    omega
theorem str_le {x : Str} (hx : ∀ c ∈ x.cps.toList, c < 16 ^ 8) : (reprText x).length ≤ 10 * x.length + 2 := StrLaws.reprText_len x hx
mutual
/-- no more signs than this -/
def szP : PyData → Nat
  | .none => 4
  | .bool _ => 5
  | .int _ => 1001
  | .str x => 10 * x.length + 2
  | .list xs => szA xs + 2
  | .tuple xs => szA xs + 3
  | .dict kvs => szK kvs + 2
def szA : List PyData → Nat
  | [] => 0
  | x :: xs => szP x + 2 + szA xs
def szK : List (PyData × PyData) → Nat
  | [] => 0
  | (k, v) :: r => szP k + szP v + 4 + szK r
end
def sgB (x : Str) : Bool := x.cps.toList.all fun c => decide (c < 16 ^ 8)
mutual
/-- the texts in it are of real signs, the ints are not too long -/
def siP : PyData → Bool
  | .none => true
  | .bool _ => true
  | .int i => decide (i.natAbs < 10 ^ 500)
  | .str x => sgB x
  | .list xs => siA xs
  | .tuple xs => siA xs
  | .dict kvs => siK kvs
def siA : List PyData → Bool
  | [] => true
  | x :: xs => siP x && siA xs
def siK : List (PyData × PyData) → Bool
  | [] => true
  | (k, v) :: r => siP k && siP v && siK r
end
theorem sgB_ok {x : Str} (h : sgB x = true) : ∀ c ∈ x.cps.toList, c < 16 ^ 8 := fun c hc => by
  have := List.all_eq_true.mp h c hc
  exact of_decide_eq_true this
mutual
theorem shown_le : ∀ p : PyData, siP p = true → p.shown.length ≤ szP p
  | .none, _ => by simp only [PyData.shown, szP]; decide
  | .bool b, _ => by simp only [PyData.shown, szP]; cases b <;> decide
  | .int i, h => by
    simp only [siP, decide_eq_true_eq] at h
    simp only [PyData.shown, szP]
    have := int_le (i := i) (k := 500) (by decide) h
    omega
  | .str x, h => by
    simp only [siP] at h
    simp only [PyData.shown, szP]
    exact str_le (sgB_ok h)
  | .list xs, h => by
    simp only [siP] at h
    simp only [PyData.shown, szP]
    have := list_le (PyData.shownAll xs)
    have := shownA_le xs h
    omega
  | .tuple xs, h => by
    simp only [siP] at h
    simp only [PyData.shown, szP]
    have := tuple_le (PyData.shownAll xs)
    have := shownA_le xs h
    omega
  | .dict kvs, h => by
    simp only [siP] at h
    simp only [PyData.shown, szP]
    have := dict_le (PyData.shownKv kvs)
    have := shownK_le kvs h
    omega
theorem shownA_le : ∀ xs : List PyData, siA xs = true → piled (PyData.shownAll xs) ≤ szA xs
  | [], _ => by simp only [PyData.shownAll, szA, piled_nil]; omega
  | x :: xs, h => by
    simp only [siA, Bool.and_eq_true] at h
    simp only [PyData.shownAll, szA, piled_cons]
    have := shown_le x h.1
    have := shownA_le xs h.2
    omega
theorem shownK_le : ∀ kvs : List (PyData × PyData), siK kvs = true → piled (PyData.shownKv kvs) ≤ szK kvs
  | [], _ => by simp only [PyData.shownKv, szK, piled_nil]; omega
  | (k, v) :: r, h => by
    simp only [siK, Bool.and_eq_true] at h
    simp only [PyData.shownKv, szK, piled_cons]
    rw [len_app, len_app]
    have e1 : ((": " : String) : Str).length = 2 := rfl
    have := shown_le k h.1.1
    have := shown_le v h.1.2
    have := shownK_le r h.2
    omega
end
end MR

/-! M30: the loops of a comprehension of any kind, clause within clause: what the innermost piece does is told by a reading of its own. -/
namespace MR
open PySem PySem.Spec L2 PyProof.Rows
abbrev NoErrs : Value → Shared → Prop := fun _ _ => False
/-- it ends, and then F; no error leaves -/
def EndsIn (F : Shared → Prop) : Result → Shared → Prop := fun r s => match r with
  | .ok _ => F s
  | .error _ => False
section
variable {P : Program} {w : World} {A : Around} {s : Shared} {e : Expr} {d : Nat} {p : Pos} {tg : Expr} {ifs : List Expr} {it acc : Value} {env : Env} {k : Sem Fin → Sem Fin} {F : Shared → Prop}
/-- such an expression's loops stand in the frame that they are met in -/
def Walked (P : Program) (w : World) (e : Expr) : Prop := ∀ (A : Around) (d : Nat) (it acc : Value) (env : Env),
  (A.under (.compLoop e d it acc env) = A ∧ (model P w).den (.compLoop e d it acc env) = (compTurn e d it acc env).onRaise (fun x => noteFrame x env >>= fun _ => theTreesLotGoes x) ∧ (Code.compLoop e d it acc env).quiet = true) ∧
  (A.under (.compStart e d it acc env) = A ∧ (model P w).den (.compStart e d it acc env) = (compStart e d it acc env).onRaise (fun x => noteFrame x env >>= fun _ => standAt theWindowsPlace))
/-- a clause's turn: the item, the tests, then k (it is told what comes behind it) -/
def clauseTurn (p : Pos) (tg : Expr) (ifs : List Expr) (k : Sem Fin → Sem Fin) (e : Expr) (d : Nat) (it acc : Value) (env : Env) : Sem Fin :=
  standAt p >>= fun _ => pyNext it >>= fun r => match r with
    | none => pure (.done .next)
    | some v => letOwnedTupleGo tg it v >>= fun _ => assign tg env v >>= fun _ => testsOf ifs env >>= fun ok => if ok = true then k (again (.compLoop e d it acc env)) else again (.compLoop e d it acc env)
theorem clause_loop (hw : Walked P w e) (he : compTurn e d it acc env = clauseTurn p tg ifs k e d it acc env) (I : Nat → Shared → Prop)
    (turn : ∀ n s, I n s → wpAny (model P w) A (pyNext it) (fun r s1 => match r with
      | none => F s1
      | some v => wpAny (model P w) A (letOwnedTupleGo tg it v) (fun _ s2 => wpAny (model P w) A (assign tg env v) (fun _ s3 => wpAny (model P w) A (testsOf ifs env) (fun ok s4 =>
          if ok = true then wpAny (model P w) A (k (again (.compLoop e d it acc env))) (fun fin s5 => fin = .again (.compLoop e d it acc env) ∧ ∃ m, m < n ∧ I m s5) NoErrs s4 else ∃ m, m < n ∧ I m s4) NoErrs s3) NoErrs s2) NoErrs s1) NoErrs s)
    (n : Nat) (h : I n s) : codeAny (model P w) A (.compLoop e d it acc env) (EndsIn F) s := by
  obtain ⟨⟨w1, w2, w3⟩, _⟩ := hw A d it acc env
  refine codeAny_loop w3 I (fun n s hI => ?_) n h
  rw [w1, w2]
  refine wpAny_noted ?_
  rw [he]
  unfold clauseTurn
  refine wpAny_bind (wpAny_standAt (wpAny_bind (thnF (turn n s hI) fun r s1 h1 => ?_)))
  cases r with
  | none => exact wpAny_pure h1
  | some v =>
    refine wpAny_bind (thnF h1 fun _ s2 h2 => wpAny_bind (thnF h2 fun _ s3 h3 => wpAny_bind (thnF h3 fun ok s4 h4 => ?_)))
    cases ok with
    | false =>
      rw [if_neg Bool.false_ne_true] at h4 ⊢
      exact wpAny_pure ⟨rfl, h4⟩
    | true =>
      rw [if_pos rfl] at h4 ⊢
      exact thnF h4 fun fin s5 h5 => by
        obtain ⟨rfl, h5⟩ := h5
        exact ⟨rfl, h5⟩
/-- a clause's start, its iterator made -/
theorem clause_start (hw : Walked P w e) {R : Result → Shared → Prop} {iter : Expr} (hg : (clausesOf e)[d]? = some ⟨tg, iter, ifs, 0⟩) (h0 : codeAny (model P w) A (.compLoop e d it acc env) R s)
    (h : wpAny (model P w) A (pyIter it) (fun it' s' => codeAny (model P w) A (.compLoop e d it' acc env) R s') (notedBy (model P w) A env fun x s' => R (.error x) s') s) :
    codeAny (model P w) A (.compStart e d it acc env) R s := by
  obtain ⟨⟨_, _, w3⟩, w4, w5⟩ := hw A d it acc env
  refine codeAny_of_tree ?_
  rw [w4, w5]
  refine wpAny_notedAt ?_
  unfold compStart
  rw [hg]
  show wpAny _ A (ask >>= fun _ => _) _ _ s
  refine wpAny_bind (wpAny_askSetting (wpAny_ite ?_))
  split
  · exact wpAny_bind (wpAny_pure (wpAny_pure ⟨w3, h0⟩))
  · refine wpAny_bind (wpAny_rule ?_)
    refine wpAny_bind (wpAny_standAt (wpAny_bind (thn h fun it' s' h' => wpAny_pure ⟨(hw A d it' acc env).1.2.2, h'⟩)))
end
/-! ### over the layer -/
/-- what a piece without a value is to reach -/
abbrev KK := L2.St → Hp → (Hp → Prop) → Prop
/-- k does what kk reads, and forgets the slots vs; then what comes behind it -/
def PK (X : Cx) (k : Sem Fin → Sem Fin) (vs : List Nat) (kk : KK) : Prop :=
  ∀ (pins : List (Addr × Obj)) (s : Shared) (σ : L2.St) (H : Hp) (N : Hp → Prop) (r : Sem Fin) (Q : Fin → Shared → Prop), Inv X pins σ H s → kk σ H N → (∀ H' s', Inv X pins (wipe σ vs) H' s' → N H' → wpAny (model X.prog X.w) X.A r Q NoErrs s') → wpAny (model X.prog X.w) X.A (k r) Q NoErrs s
/-- the turns of a clause: W by the turn and a measure; behind the last one F -/
def Turns (J : It) (g : TG) (tt : TT) (kk : KK) (vs : List Nat) (σ0 : L2.St) (W : Nat → Nat → Hp → Prop) (F : Hp → Prop) : Prop :=
  ∀ i m H, W i m H → (J.stop i H ∧ F H) ∨ (J.go i H ∧ ∃ N : Hp → Prop, (∀ H', N H' → ∃ m', m' < m ∧ W (i + 1) m' H') ∧ ∀ x H', J.yld i H x H' → g x σ0 H' fun σ2 H2 => wipe σ2 vs = σ0 ∧ tt σ2 H2 fun b H3 => if b = true then kk σ2 H3 N else N H3)
section
variable {Y : Cx} {pins : List (Addr × Obj)} {σ0 : L2.St} {e : Expr} {d : Nat} {p : Pos} {tg : Expr} {ifs : List Expr} {it : Addr} {acc : Value} {k : Sem Fin → Sem Fin} {fp : List Addr} {tn : Nat → Heap → Prop} {J : It} {g : TG} {tt : TT} {kk : KK} {vs vk : List Nat} {W : Nat → Nat → Hp → Prop} {F : Hp → Prop} {s : Shared} {H : Hp} {m : Nat}
theorem turns_run (wk : Walked Y.prog Y.w e) (hx : Y.xe = NoErrs) (hc : Y.calm = true) (he : compTurn e d (.ref it) acc Y.env = clauseTurn p tg ifs k e d (.ref it) acc Y.env) (T : Turn Y.prog Y.w Y.K tg J fp it tn) (pg : PG Y tg g) (pt : PTs Y ifs tt) (pk : PK Y k vk kk) (hv : ∀ i ∈ vk, i ∈ vs)
    (hf : ∀ {H' : Hp}, (∀ b ∈ fp, H' b = none) → ∀ b ∈ fp, FpOk Y pins H' b) (turn : Turns J g tt kk vs σ0 W F) (I : Inv Y pins σ0 H s) (st : tn 0 s.heap) (n0 : ∀ b ∈ fp, H b = none) (w0 : W 0 m H) :
    codeAny (model Y.prog Y.w) Y.A (.compLoop e d (.ref it) acc Y.env) (EndsIn fun s' => ∃ H', Inv Y pins σ0 H' s' ∧ F H') s := by
  refine clause_loop wk he (fun n s' => ∃ i H', Inv Y pins σ0 H' s' ∧ tn i s'.heap ∧ (∀ b ∈ fp, H' b = none) ∧ W i n H') ?_ m ⟨0, H, I, st, n0, w0⟩
  rintro n t0 ⟨i, H0, J0, st0, f0, w⟩
  rcases turn i n H0 w with ⟨stop, fin⟩ | ⟨go, N, hN, step⟩
  · refine thnF (T.done Y rfl rfl rfl hc i pins t0 σ0 H0 NoErrs J0 (hf f0) st0 stop) fun r t1 ⟨hr, J1⟩ => ?_
    subst hr
    exact ⟨H0, J1, fin⟩
  · refine thnF (T.item Y rfl rfl rfl hc i pins t0 σ0 H0 NoErrs J0 (hf f0) st0 go) fun r t1 ⟨u, hr, h1⟩ => ?_
    subst hr
    refine thnF h1 fun _ t2 ⟨x, H2, J2, rx, yl, st2, f2⟩ => ?_
    have K2 := J2.pinned (hf f2) (T.obj _ _ st2)
    have a1 := pg.run _ t2 σ0 H2 x u _ K2 rx (step x H2 yl)
    rw [hx] at a1
    refine thnF a1 fun _ t3 ⟨σ3, H3, J3, hw, q3⟩ => ?_
    have a2 := pt.run _ t3 σ3 H3 _ J3 q3
    rw [hx] at a2
    refine thnF a2 fun b t4 ⟨H4, J4, q4⟩ => ?_
    have back : ∀ {σ' : L2.St} {H' : Hp} {t : Shared}, Inv Y (pins ++ pinsAt fp t2.heap) σ' H' t → σ0.length = σ'.length → (∀ (j : Nat) v, σ0[j]? = some (some v) → σ'[j]? = some (some v)) → N H' →
        ∃ m, m < n ∧ ∃ i H', Inv Y pins σ0 H' t ∧ tn i t.heap ∧ (∀ b ∈ fp, H' b = none) ∧ W i m H' := fun {σ' H' t} J' hl hk nx => by
      obtain ⟨m', hm, w'⟩ := hN H' nx
      have still : ∀ b ∈ fp, ∀ o, t2.heap.get? b = some o → t.heap.get? b = some o ∧ H' b = none := fun b hb o eo =>
        let z := J'.pin (b, o) (List.mem_append_right _ (List.mem_append_right _ (mem_pinsAt hb eo)))
        ⟨z.1, z.2.1⟩
      refine ⟨m', hm, i + 1, H', J'.unpinned.weak hl hk, T.keep _ _ _ st2 fun b hb o eo => (still b hb o eo).1, fun b hb => ?_, w'⟩
      obtain ⟨o, eo, _⟩ := T.obj _ _ st2 b hb
      exact (still b hb o eo).2
    have len3 : σ0.length = σ3.length := by rw [← hw, wipe_length]
    cases b with
    | false =>
      rw [if_neg Bool.false_ne_true] at q4 ⊢
      exact back J4 len3 (fun j v ej => by rw [← hw] at ej; exact (wipe_some ej).1) q4
    | true =>
      rw [if_pos rfl] at q4 ⊢
      refine pk _ t4 σ3 H4 N _ _ J4 q4 fun H5 t5 J5 nx => wpAny_pure ⟨rfl, back J5 (by rw [wipe_length]; exact len3) (fun j v ej => ?_) nx⟩
      rw [← hw] at ej
      obtain ⟨e1, e2⟩ := wipe_some ej
      rw [wipe_out fun z => e2 (hv j z)]
      exact e1
end
/-! ### a clause within a clause -/
/-- the piece that runs the clause d from its iterable on -/
def innerK (e : Expr) (d : Nat) (iter : Expr) (acc : Value) (env : Env) (r : Sem Fin) : Sem Fin :=
  eval iter env >>= fun x => standAt iter.pos >>= fun _ => foldedSetIterable iter env x >>= fun y => holding [y] (pyIter y) >>= fun z => runOwn (.compStart e d z acc env) env >>= fun _ => r
def tInner (wi : TI) (g : TG) (tt : TT) (kk : KK) (vs : List Nat) : KK := fun σ H N => wi σ H fun J H1 => ∃ W : Nat → Nat → Hp → Prop, (∃ m, W 0 m H1) ∧ Turns J g tt kk vs (wipe σ vs) W N
theorem inner_run {Y : Cx} {e : Expr} {d : Nat} {p : Pos} {tg iter : Expr} {ifs : List Expr} {acc : Value} {k : Sem Fin → Sem Fin} {wi : TI} {g : TG} {tt : TT} {kk : KK} {vs vk : List Nat} (wk : Walked Y.prog Y.w e) (hx : Y.xe = NoErrs) (hc : Y.calm = true) (hcl : (clausesOf e)[d]? = some ⟨tg, iter, ifs, 0⟩)
    (hs : ∀ x, foldedSetIterable iter Y.env x = pure x) (he : ∀ it, compTurn e d it acc Y.env = clauseTurn p tg ifs k e d it acc Y.env) (hi : PI Y tg iter wi) (pg : PG Y tg g) (pt : PTs Y ifs tt) (pk : PK Y k vk kk) (hv : ∀ i ∈ vk, i ∈ vs) :
    PK Y (innerK e d iter acc Y.env) vs (tInner wi g tt kk vs) := by
  intro pins s σ H N r Qr I h hr
  unfold innerK
  have a1 := hi.run pins s σ H _ I h
  rw [hx] at a1
  refine wpAny_bind (thnF a1 fun x s1 h1 => wpAny_bind (wpAny_standAt (wpAny_bind (wpAny_of_eq (hs x) (wpAny_bind (wpAny_holding (thnF h1 fun z s2 h2 => ?_)))))))
  obtain ⟨it, fp, tn, J, H2, ez, I2, T, st2, f2, W, ⟨m, w0⟩, turn⟩ := h2
  subst ez
  have loop := turns_run (acc := acc) (e := e) (d := d) wk hx hc (he (.ref it)) T pg pt pk hv (fun hn b hb => ⟨hn b hb, (f2 b hb).2⟩) turn (I2.weak (wipe_length _ _) fun j v ej => (wipe_some ej).1) st2 (fun b hb => (f2 b hb).1) w0
  refine wpAny_bind (wpAny_runOwn ?_)
  rw [Around.mark_none]
  refine codeAny_mono (clause_start (R := EndsIn fun s' => ∃ H', Inv Y pins (wipe σ vs) H' s' ∧ N H') wk hcl loop (T.self Y.A 0 _ _ _ st2 loop)) fun r3 s3 h3 => ?_
  cases r3 with
  | ok f =>
    obtain ⟨H3, I3, n3⟩ := h3
    exact hr H3 s3 I3 n3
  | error x => exact False.elim h3
/-! ### the whole -/
/-- the reading: o0 what is laid as the new thing at D -/
def tComp (o0 : Addr → HO) (wi : TI) (g : TG) (tt : TT) (kk : Addr → KK) (vs : List Nat) : TE := fun σ H Q => wi σ H fun J H1 => ∀ D, H1 D = none → ∃ W : Nat → Nat → Hp → Prop, (∃ m, W 0 m (upd H1 D (o0 D))) ∧ Turns J g tt (kk D) vs (wipe σ vs) W fun H' => Q (.ref D) H'
section
variable {X : Cx}
theorem comp_run {e tg iter : Expr} {ifs : List Expr} {gs : List Comprehension} {scope : Scope} {own : List (Str × Nat)} {vk : List Nat} {pos p : Pos} {wi : TI} {g : TG} {tt : TT} {kk : Addr → KK} {o0 : Addr → HO} {ob : Obj} {newAcc : Sem Value} {k : Value → Env → Sem Fin → Sem Fin}
    (wk : Walked X.prog X.w e) (hcl : clausesOf e = ⟨tg, iter, ifs, 0⟩ :: gs) (hc : X.calm = true) (hN : X.N.Nodup) (hi : PI X tg iter wi) (ok : BlkOk X.N X.env.scope scope own) (hv : ∀ i ∈ vk, i ∈ own.map (·.2))
    (hnew : ∀ {s : Shared} {Q : Value → Shared → Prop}, Q (.ref s.heap.objs.size) { s with heap := s.heap.push ob } → wpAny (model X.prog X.w) X.A newAcc Q X.xe s) (alive : ∀ h : Heap, (h.push ob).get? h.objs.size = some ob) (hob : ∀ (H : Hp) (h : Heap) (a : Addr), h.get? a = some ob → (a == sysModules) = false → ObjOk X.prog X.w H h a (o0 a))
    (he : ∀ it acc env, compTurn e 0 it acc env = clauseTurn p tg ifs (k acc env) e 0 it acc env)
    (hg : ∀ (s : Shared) (H : Hp) (C : Addr) (cl : List (Str × Addr)) (fp : List Addr), PG (X.blk s H scope (compEnvC scope cl C X.env) fp) tg g) (ht : ∀ (s : Shared) (H : Hp) (C : Addr) (cl : List (Str × Addr)) (fp : List Addr), PTs (X.blk s H scope (compEnvC scope cl C X.env) fp) ifs tt)
    (hk : ∀ (s : Shared) (H : Hp) (C : Addr) (cl : List (Str × Addr)) (fp : List Addr) (D : Addr), PK (X.blk s H scope (compEnvC scope cl C X.env) fp) (k (.ref D) (compEnvC scope cl C X.env)) vk (kk D)) (hs : ∀ x, foldedSetIterable iter X.env x = pure x)
    {pins : List (Addr × Obj)} {s : Shared} {σ : L2.St} {H : Hp} {Q : VK} (I : Inv X pins σ H s) (h : tComp o0 wi g tt kk (own.map (·.2)) σ H Q) :
    wpAny (model X.prog X.w) X.A (comprehension e scope X.env pos newAcc false (eval iter X.env)) (EP X pins σ Q) X.xe s := by
  have hfree : ∀ y ∈ scope.names, y.2 = .free → ∃ c, X.env.cells.lookup y.1 = some c := fun y hy ey => by
    rcases ok.free y hy ey with z | z
    · exact I.ok.has _ (.inl z)
    · exact I.ok.has _ (.inr z)
  refine wpAny_comprehension_free (use := none) hcl hs (closure_ok hfree) ok.kind (fun y hy ey => by rw [ok.uniq y hy, ey]) (thn (hi.run pins s σ H _ I h) fun xv s1 h1 => thn h1 fun itv s2 h2 => ?_)
  obtain ⟨it, fp, tn, J, H2, ez, I2, T, st2, f2, q⟩ := h2
  subst ez
  refine hnew (newEnv_comp ?_)
  generalize hD : s2.heap.objs.size = D
  have fresh : H2 D = none := I2.hok.fresh (Nat.le_of_eq hD)
  obtain ⟨W, ⟨m0, w0⟩, turn⟩ := q D fresh
  have notSys : (D == sysModules) = false := beq_eq_false_iff_ne.mpr fun ee => by
    have z := I2.big
    rw [hD, ee] at z
    exact Nat.lt_irrefl _ z
  -- the new thing
  generalize h3 : ({ s2 with heap := s2.heap.push ob } : Shared) = s3
  have e3 : s3.heap = s2.heap.push ob := by rw [← h3]
  have at3 : s3.heap.get? D = some ob := by rw [e3, ← hD]; exact alive _
  have I3 : Inv X pins σ (upd H2 D (o0 D)) s3 := by
    rw [← h3]
    exact I2.laid (t' := s2.toks) (fun b o eo => Heap.get?_push_of_some _ eo) (Nat.le_of_eq hD) (hob _ _ _ (by rw [← e3]; exact at3) notSys)
  have small : ∀ b ∈ fp, b < s2.heap.objs.size := fun b hb => by
    obtain ⟨o, eo, _⟩ := T.obj _ _ st2 b hb
    exact Heap.lt_size eo
  have f3 : ∀ b ∈ fp, FpOk X pins (upd H2 D (o0 D)) b ∧ b < s3.heap.objs.size := fun b hb => by
    have lt := small b hb
    refine ⟨⟨?_, (f2 b hb).2⟩, by rw [e3, Heap.size_push]; exact Nat.lt_succ_of_lt lt⟩
    rw [upd_ne (by rw [← hD]; exact Nat.ne_of_lt lt)]
    exact (f2 b hb).1
  have st3 : tn 0 s3.heap := T.keep _ _ _ st2 fun b _ o eo => by rw [e3]; exact Heap.get?_push_of_some _ eo
  -- the block
  have I4 := block_start I3 ok hN f3
  generalize hH3 : upd H2 D (o0 D) = H3 at I3 f3 I4 w0
  have cl := cellsFrom (s3.heap.objs.size + 1) scope.names (cloFrom X.env.cells scope.names [])
  have pg := hg s3 H3 s3.heap.objs.size (cellsFrom (s3.heap.objs.size + 1) scope.names (cloFrom X.env.cells scope.names [])) fp
  have pt := ht s3 H3 s3.heap.objs.size (cellsFrom (s3.heap.objs.size + 1) scope.names (cloFrom X.env.cells scope.names [])) fp
  have pk := hk s3 H3 s3.heap.objs.size (cellsFrom (s3.heap.objs.size + 1) scope.names (cloFrom X.env.cells scope.names [])) fp D
  show codeAny _ _ (.compStart e 0 (.ref it) (.ref D) (compEnvC scope (cellsFrom (s3.heap.objs.size + 1) scope.names (cloFrom X.env.cells scope.names [])) s3.heap.objs.size X.env)) (compPost (model X.prog X.w) X.A X.xe none (EP X pins σ Q) (.ref D) s3.heap.objs.size) { s3 with heap := pushCells (s3.heap.push { cls := .type "dict", data := .dict #[] }) scope.names }
  generalize hce : compEnvC scope (cellsFrom (s3.heap.objs.size + 1) scope.names (cloFrom X.env.cells scope.names [])) s3.heap.objs.size X.env = ce at I4 pg pt pk ⊢
  have cL : ce.locals = s3.heap.objs.size := by subst hce; rfl
  generalize h4 : ({ s3 with heap := pushCells (s3.heap.push { cls := .type "dict", data := .dict #[] }) scope.names } : Shared) = s4 at I4 ⊢
  have st4 : tn 0 s4.heap := T.keep _ _ _ st3 fun b _ o eo => by rw [← h4]; exact pushCells_keeps _ _ _ _ (Heap.get?_push_of_some _ eo)
  have hf : ∀ {H' : Hp}, (∀ b ∈ fp, H' b = none) → ∀ b ∈ fp, FpOk (X.blk s3 H3 scope ce fp) [] H' b := fun {H'} hn b hb =>
    ⟨hn b hb, (I4.ok.exf b hb).1, I4.ok.exfs b hb, .inl hb, fun x c ec => (I4.ok.exf b hb).2 x c ec, fun q hq => absurd (show q ∈ ([] : List (Addr × Obj)) ++ [] from hq) (by simp)⟩
  have loop := turns_run (Y := X.blk s3 H3 scope ce fp) (acc := .ref D) (e := e) (d := 0) (pins := []) wk rfl hc (he (.ref it) (.ref D) ce) T pg pt pk hv hf turn I4 st4 (fun b hb => (f3 b hb).1.1) w0
  have back : codeAny (model X.prog X.w) X.A (.compLoop e 0 (.ref it) (.ref D) ce) (compPost (model X.prog X.w) X.A X.xe none (EP X pins σ Q) (.ref D) s3.heap.objs.size) s4 := by
    refine codeAny_mono loop fun r s5 h5 => ?_
    cases r with
    | error x => exact False.elim h5
    | ok f =>
      obtain ⟨H5, I5, q5⟩ := h5
      have I7 : Inv X pins σ H5 s5 := I3.call' (ch := fp) I5.os I5.base I5.hok I5.bare fun b hb => ⟨(f3 b hb).1.2.2.2.1, (f3 b hb).1.2.1, (f3 b hb).1.2.2.2.2.1, (f3 b hb).1.2.2.2.2.2⟩
      have nC : H5 s3.heap.objs.size = none := by
        have z : H5 ce.locals = none := I5.free
        rw [cL] at z
        exact z
      obtain ⟨m, hn, _⟩ := I5.loc
      have hn' : s5.heap.Ns ce.locals m := hn
      rw [cL] at hn'
      obtain ⟨g0, g1, g2, g3, g4, g5⟩ := I3.fpOk (H' := H5) (Nat.le_refl _) nC
      exact ⟨m, hn', fun h6 sb => ⟨.ref D, H5, I7.turned (t' := s5.toks) (fun b o hb eo => (sb.2 b hb).trans eo) g0 g1 g3 g4 g5, rfl, q5⟩⟩
  exact clause_start wk (by rw [hcl]; rfl) back (T.self X.A 0 _ _ _ st4 back)
end
end MR

/-! M31: the mirrors of comprehensions of any kind: lists by two clauses, sets of texts. -/
namespace MR
open PySem PySem.Spec L2 PyProof.Rows
/-! ### the mirror -/
def mTurn (di : DI) (b : Bnd) (mt mk : Ex) (env : EnvD) : Nat → Nat → Hs → Res D
  | 0, _, _ => .bad
  | k + 1, i, S => match di.next i S with
    | none => .bad
    | some none => .ok .non S
    | some (some d) => match b d with
      | none => .bad
      | some us => match mt (apD env us) S with
        | .ok (.bl true) S3 => match mk (apD env us) S3 with
          | .ok _ S4 => mTurn di b mt mk env k (i + 1) S4
          | _ => .bad
        | .ok (.bl false) S3 => mTurn di b mt mk env k (i + 1) S3
        | _ => .bad
/-- a clause within a clause -/
def mIn (mi : ExI) (b : Bnd) (mt : Ex) (mk : Nat → Ex) (vs : List Nat) : Nat → Ex := fun a env S => (mi env S).bind fun di S1 => mTurn di b mt (mk a) (wipeD env vs) (di.size S1 + 1) 0 S1
def mComp (c0 : Cell) (mi : ExI) (b : Bnd) (mt : Ex) (mk : Nat → Ex) (vs : List Nat) : Ex := fun env S => (mi env S).bind fun di S1 => (mTurn di b mt (mk S1.n) (wipeD env vs) (di.size S1 + 1) 0 (S1.new c0)).bind fun _ S2 => .ok (.ref S1.n) S2
/-! ### what it reads as -/
abbrev NoD : Str → D → Hs → Prop := fun _ _ _ => False
def okN (T : Ct) (φ : List Addr) (H : Hp) (N : Hp → Prop) : D → Hs → Prop := fun _ S' => ∀ φ' H', Up φ H φ' H' → RS T φ' S' H' → N H'
theorem okN.up {T : Ct} {φ φ1 : List Addr} {H H1 : Hp} {N : Hp → Prop} {d : D} {S : Hs} (u : Up φ H φ1 H1) (h : okN T φ H N d S) : okN T φ1 H1 N d S := fun φ' H' w R => h φ' H' (u.trans w) R
/-- what is done to the cell that is at D -/
def tKat (T : Ct) (mk : Nat → Ex) (D : Addr) : KK := fun σ H N => ∃ φ env S a, φ[a]? = some D ∧ RS T φ S H ∧ RE T φ H env σ ∧ Post (okN T φ H N) NoD (mk a env S)
section
variable {T : Ct} {φ : List Addr} {S : Hs} {H : Hp} {σ : L2.St} {env : EnvD} {di : DI} {J : It} {g : TG} {b : Bnd} {mt : Ex} {mk : Nat → Ex} {vs : List Nat} {a m : Nat} {D : Addr} {F : Hp → Prop}
theorem mTurn_no {mk : Ex} : ∀ k i S c d S', mTurn di b mt mk env k i S ≠ .err c d S' := by
  intro k
  induction k with
  | zero => intro i S c d S' h; cases h
  | succ k ih =>
    intro i S c d S' h
    unfold mTurn at h
    repeat' (first | exact ih _ _ _ _ _ h | cases h | split at h)
theorem turns_mirror (ho : TgOk T g b) (hin : b.In vs) (R : RS T φ S H) (E : RE T φ H env σ) (Ji : ItR T φ H di J) (at_ : φ[a]? = some D) (P : Post (okN T φ H F) NoD (mTurn di b mt (mk a) (wipeD env vs) m 0 S)) :
    ∃ W : Nat → Nat → Hp → Prop, (∃ m, W 0 m H) ∧ Turns J g (tT T W0 mt) (tKat T mk D) vs (wipe σ vs) W F := by
  refine ⟨fun i m H => ∃ φ S, RS T φ S H ∧ RE T φ H env σ ∧ ItR T φ H di J ∧ φ[a]? = some D ∧ Post (okN T φ H F) NoD (mTurn di b mt (mk a) (wipeD env vs) m i S), ⟨m, φ, S, R, E, Ji, at_, P⟩, ?_⟩
  rintro i m H3 ⟨φ3, S3, R3, E3, J3, at3, P3⟩
  cases m with
  | zero => exact False.elim P3
  | succ k =>
    unfold mTurn at P3
    split at P3
    · exact False.elim P3
    · rename_i hn
      exact .inl ⟨J3.stop R3 hn, P3 φ3 H3 (Up.refl _ _) R3⟩
    · rename_i d hn
      obtain ⟨go, yl⟩ := J3.go R3 hn
      refine .inr ⟨go, fun H' => ∃ φ S, RS T φ S H' ∧ RE T φ H' env σ ∧ ItR T φ H' di J ∧ φ[a]? = some D ∧ Post (okN T φ H' F) NoD (mTurn di b mt (mk a) (wipeD env vs) k (i + 1) S), fun H' h => ⟨k, Nat.lt_succ_self k, h⟩, fun x H' hy => ?_⟩
      obtain ⟨U, R4, rx⟩ := yl x H' hy
      have E4 := E3.up R3 U
      have J4 := J3.up R3 U
      split at P3
      · exact False.elim P3
      · rename_i us hus
        refine ho R4 rx hus fun ws hw => ?_
        have slots : ∀ p ∈ ws, p.1 ∈ vs := fun p hp => by
          have hm : p.1 ∈ us.map (·.1) := by
            rw [hw.1]
            exact List.mem_map_of_mem hp
          obtain ⟨q, hq, e⟩ := List.mem_map.mp hm
          rw [← e]
          exact hin d us hus q hq
        refine ⟨wipe_ap slots, ?_⟩
        have E5 := (E4.wipe vs).ap hw
        refine ⟨φ3, _, S3, R4, E5, ?_⟩
        cases e : mt (apD (wipeD env vs) us) S3 with
        | ok t S5 =>
          rw [e] at P3
          cases t with
          | bl tb =>
            refine ⟨tb, rfl, fun φ5 H5 u5 R5 => ?_⟩
            cases tb with
            | true =>
              rw [if_pos rfl]
              refine ⟨φ5, _, S5, a, (U.trans u5).at_ at3, R5, E5.up R4 u5, ?_⟩
              cases e2 : mk a (apD (wipeD env vs) us) S5 with
              | ok y S6 =>
                simp only [e2] at P3
                exact fun φ6 H6 u6 R6 => ⟨φ6, S6, R6, (E4.up R4 u5).up R5 u6, (J4.up R4 u5).up R5 u6, ((U.trans u5).trans u6).at_ at3, P3.mono (fun _ _ x => x.up ((U.trans u5).trans u6)) fun _ _ _ x => x⟩
              | err c d S6 => simp only [e2] at P3; exact False.elim P3
              | bad => simp only [e2] at P3; exact False.elim P3
            | false =>
              rw [if_neg Bool.false_ne_true]
              exact ⟨φ5, S5, R5, E4.up R4 u5, J4.up R4 u5, (U.trans u5).at_ at3, P3.mono (fun _ _ x => x.up (U.trans u5)) fun _ _ _ x => x⟩
          | _ => exact False.elim P3
        | err c d S5 => rw [e] at P3; exact False.elim P3
        | bad => rw [e] at P3; exact False.elim P3
/-- a clause within a clause, as it reads -/
theorem inner_mirror {mi : ExI} (ho : TgOk T g b) (hin : b.In vs) {N : Hp → Prop} (h : tKat T (mIn mi b mt mk vs) D σ H N) : tInner (tI T W0 mi) g (tT T W0 mt) (tKat T mk D) vs σ H N := by
  obtain ⟨φ, env, S, a, at_, R, E, P⟩ := h
  refine ⟨φ, env, S, R, E, P.bind.mono (fun di S1 P1 φ1 H1 J u1 R1 J1 => ?_) fun _ _ _ x => x.elim⟩
  exact turns_mirror ho hin R1 (E.up R u1) J1 (u1.at_ at_) (P1.mono (fun _ _ x => x.up u1) fun _ _ _ x => x)
/-- the whole, as it reads -/
theorem comp_mirror {mi : ExI} {c0 : Cell} {o0 : Addr → HO} {W : WX} {Q : VK} (ho : TgOk T g b) (hin : b.In vs) (lay : ∀ (φ' : List Addr) (H' : Hp) (p : Addr), H' p = some (o0 p) → RC T φ' H' c0 p) (h : tE T W (mComp c0 mi b mt mk vs) σ H Q) :
    tComp o0 (tI T W mi) g (tT T W0 mt) (tKat T mk) vs σ H Q := by
  obtain ⟨φ, env, S, R, E, P⟩ := h
  refine ⟨φ, env, S, R, E, P.bind.mono (fun di S1 P1 φ1 H1 J u1 R1 J1 Dd hD => ?_) fun _ _ _ x => x⟩
  obtain ⟨R2, U2⟩ := R1.new (o := o0 Dd) (c := c0) hD fun φ' H' u z => lay φ' H' Dd z
  have at2 : (φ1 ++ [Dd])[S1.n]? = some Dd := by
    rw [List.getElem?_append_right (by rw [R1.len]; exact Nat.le_refl _), R1.len]
    simp
  refine turns_mirror ho hin R2 (E.up R (u1.trans U2)) (J1.up R1 U2) at2 ((P1.bind.noEr fun c d S' => mTurn_no _ _ _ c d S').mono (fun y S3 P3 φ3 H3 u3 R3 => ?_) fun _ _ _ x => x)
  exact P3 φ3 H3 (.ref Dd) ((u1.trans U2).trans u3) R3 (.ref (u3.at_ at2))
end
/-! ### what is collected -/
theorem PK.weak {X : Cx} {k : Sem Fin → Sem Fin} {vs : List Nat} {kk kk' : KK} (h : PK X k vs kk) (w : ∀ σ H N, kk' σ H N → kk σ H N) : PK X k vs kk' := fun pins s σ H N r Q I q => h pins s σ H N r Q I (w _ _ _ q)
/-- an item put behind a list -/
def kApp (elt : Expr) (acc : Value) (env : Env) (r : Sem Fin) : Sem Fin := (eval elt env >>= fun v => call (.builtin "list.append") [acc, v] >>= fun _ => pure PUnit.unit) >>= fun _ => r
def mApp (me : Ex) : Nat → Ex := fun a env S => (me env S).bind fun y S4 => match S4.get a with
  | some (.lst xs) => if xs.length < line then .ok .non (S4.put a (.lst (xs ++ [y]))) else .bad
  | _ => .bad
theorem wipe_nil {σ : L2.St} : wipe σ [] = σ := rfl
theorem pk_app {X : Cx} {T : Ct} {elt : Expr} {me : Ex} {D : Addr} (hx : X.xe = NoErrs) (he : PE X elt (tE T W0 me)) : PK X (kApp elt (.ref D) X.env) [] (tKat T (mApp me) D) := by
  intro pins s σ H N r Qr I ⟨φ, env, S, a, at_, R, E, P⟩ hr
  unfold kApp
  have q : tE T W0 me σ H fun v H1 => ∃ xs, H1 D = some (.lst xs) ∧ xs.length < sizeLine ∧ N (upd H1 D (.lst (xs ++ [v]))) := by
    refine ⟨φ, env, S, R, E, P.bind.mono (fun y S4 P4 φ4 H4 v u4 R4 rv => ?_) fun _ _ _ x => x.elim⟩
    split at P4
    · rename_i xs hxs
      split at P4
      · rename_i hl
        obtain ⟨vxs, e, r⟩ := R4.lst (u4.at_ at_) hxs
        have r2 : RVs T φ4 H4 (xs ++ [y]) (vxs ++ [v]) := r.append (.cons rv .nil)
        obtain ⟨R5, U5⟩ := R4.put (o := .lst (vxs ++ [v])) (c := .lst (xs ++ [y])) hxs (u4.at_ at_) (lst_nf e) fun φ' H' u z => .lst z (r2.up R4 u)
        exact ⟨vxs, e, by rw [← r.1, ← line_eq]; exact hl, P4 φ4 _ (u4.trans U5) R5⟩
      · exact False.elim P4
    · exact False.elim P4
  have a1 := he.run pins s σ H _ I q
  rw [hx] at a1
  refine wpAny_bind (wpAny_bind (thnF a1 fun v s1 ⟨y, H1, I1, r1, xs, e, hl, n⟩ => wpAny_bind ?_))
  exact app_ok I1 e hl r1 fun s2 I2 => wpAny_pure (hr _ _ I2 n)
/-- a text put into a set -/
def kAdd (elt : Expr) (acc : Value) (env : Env) (r : Sem Fin) : Sem Fin := (eval elt env >>= fun v => standAt elt.pos >>= fun _ => call (.builtin "set.add") [acc, v] >>= fun _ => pure PUnit.unit) >>= fun _ => r
def mAdd (me : Ex) : Nat → Ex := fun a env S => (me env S).bind fun y S4 => match y, S4.get a with
  | .str x, some (.set ks) => if ks.length < 4000 then .ok .non (S4.put a (.set (addT ks x))) else .bad
  | _, _ => .bad
theorem set_nf {H : Hp} {w : World} {a : Addr} {ks : List Str} (h : H a = some (TSO w a ks)) : ∀ o' u', isFr u' = true → H a ≠ some (.frz o' u') := fun o' u' _ e => by rw [h] at e; cases e
theorem pk_add {X : Cx} {T : Ct} {elt : Expr} {me : Ex} {D : Addr} (hw : T.w = X.w) (hx : X.xe = NoErrs) (he : PE X elt (tE T W0 me)) : PK X (kAdd elt (.ref D) X.env) [] (tKat T (mAdd me) D) := by
  intro pins s σ H N r Qr I ⟨φ, env, S, a, at_, R, E, P⟩ hr
  unfold kAdd
  have q : tE T W0 me σ H fun v H1 => ∃ ks x, v = .str x ∧ H1 D = some (TSO X.w D ks) ∧ ks.length < 4000 ∧ N (upd H1 D (TSO X.w D (addT ks x))) := by
    refine ⟨φ, env, S, R, E, P.bind.mono (fun y S4 P4 φ4 H4 v u4 R4 rv => ?_) fun _ _ _ x => x.elim⟩
    split at P4
    · rename_i x ks hks
      split at P4
      · rename_i hl
        cases rv
        cases R4.cell a _ D hks (u4.at_ at_) with
        | set e =>
          obtain ⟨R5, U5⟩ := R4.put (o := TSO T.w D (addT ks x)) (c := .set (addT ks x)) hks (u4.at_ at_) (set_nf e) fun φ' H' u z => .set z
          rw [hw] at e R5 U5
          exact ⟨ks, x, rfl, e, hl, P4 φ4 _ (u4.trans U5) R5⟩
      · exact False.elim P4
    · exact False.elim P4
  have a1 := he.run pins s σ H _ I q
  rw [hx] at a1
  refine wpAny_bind (wpAny_bind (thnF a1 fun v s1 ⟨y, H1, I1, r1, ks, x, ey, e, hl, n⟩ => wpAny_bind (wpAny_standAt (wpAny_bind ?_))))
  subst ey
  obtain ⟨u, rfl⟩ := r1
  have R1 : TxSet X.w s1.heap D ks := (I1.hok D _ e).1
  refine tset_add R1 (by unfold scanBound; omega) fun h' tk sb R2 => wpAny_pure (hr _ _ (I1.write (t' := tk) (e := D) (by rw [e]; trivial) (.inl rfl) (fun b o hb eo => (sb.2 b hb).trans eo) ?_ (tso_ok R2)) n)
  obtain ⟨o, _, _, _, ho, _⟩ := R2
  exact ⟨o, ho⟩
end MR

/-! M32: comprehensions with two clauses, sets of texts, sorted, max with a default. -/
namespace MR
open PySem PySem.Spec L2 PyProof.Rows
/-! ### {e for .. for ..} -/
section
variable {X : Cx} {T : Ct} {W : WX} {pos : Pos} {elt tg iter tg1 iter1 : Expr} {ifs ifs1 : List Expr} {scope : Scope} {own : List (Str × Nat)} {vs1 : List Nat} {mi mi1 : ExI} {g g1 : TG} {bd b1 : Bnd} {mt mt1 me : Ex}
theorem walked_set {P : Program} {w : World} {e : Expr} {gs : List Comprehension} {sc : Scope} {p : Pos} : Walked P w (.SetComp e gs sc p) := fun A d it acc env => ⟨⟨rfl, rfl, rfl⟩, ⟨rfl, rfl⟩⟩
theorem walked_lst {P : Program} {w : World} {e : Expr} {gs : List Comprehension} {sc : Scope} {p : Pos} : Walked P w (.ListComp e gs sc p) := fun A d it acc env => ⟨⟨rfl, rfl, rfl⟩, ⟨rfl, rfl⟩⟩
theorem r_sc (hc : X.calm = true) (hN : X.N.Nodup) (ok : BlkOk X.N X.env.scope scope own) (hi : PI X tg iter (tI T W mi)) (ho : TgOk T g bd) (hin : bd.In (own.map (·.2)))
    (hg : ∀ (s : Shared) (H : Hp) (C : Addr) (cl : List (Str × Addr)) (fp : List Addr), PG (X.blk s H scope (compEnvC scope cl C X.env) fp) tg g) (ht : ∀ (s : Shared) (H : Hp) (C : Addr) (cl : List (Str × Addr)) (fp : List Addr), PTs (X.blk s H scope (compEnvC scope cl C X.env) fp) ifs (tT T W0 mt))
    (he : ∀ (s : Shared) (H : Hp) (C : Addr) (cl : List (Str × Addr)) (fp : List Addr), PE (X.blk s H scope (compEnvC scope cl C X.env) fp) elt (tE T W0 me)) (hs : ∀ x, foldedSetIterable iter X.env x = pure x := by intro _; rfl) (hw : T.w = X.w := by rfl) :
    PE X (.SetComp elt [⟨tg, iter, ifs, 0⟩] scope pos) (tE T W (mComp (.set []) mi bd mt (mAdd me) (own.map (·.2)))) := by
  refine ⟨fun pins s σ H Q I h => ?_⟩
  rw [arm_eval_SetComp]
  refine comp_run (o0 := fun D => TSO X.w D []) (ob := setOb X.w) (k := kAdd elt) (vk := []) (p := iter.pos) (kk := tKat T (mAdd me)) (tt := tT T W0 mt) walked_set rfl hc hN hi ok (fun i hi => by cases hi) (fun {s Q} q => wpAny_newSet_raw fun led e => by rw [e]; exact q) (fun h => Heap.get?_push_size _ rfl)
    (fun H h a e _ => tso_ok (tset_fresh e)) (fun it acc env => rfl) hg ht (fun s H C cl fp D => pk_add hw rfl (he s H C cl fp)) hs I (comp_mirror ho hin (fun φ' H' p z => .set (by rw [hw]; exact z)) h)
theorem r_sc2 (hc : X.calm = true) (hN : X.N.Nodup) (ok : BlkOk X.N X.env.scope scope own) (hv : ∀ i ∈ vs1, i ∈ own.map (·.2)) (hi : PI X tg iter (tI T W mi)) (ho : TgOk T g bd) (hin : bd.In (own.map (·.2))) (ho1 : TgOk T g1 b1) (hin1 : b1.In vs1)
    (hg : ∀ (s : Shared) (H : Hp) (C : Addr) (cl : List (Str × Addr)) (fp : List Addr), PG (X.blk s H scope (compEnvC scope cl C X.env) fp) tg g) (ht : ∀ (s : Shared) (H : Hp) (C : Addr) (cl : List (Str × Addr)) (fp : List Addr), PTs (X.blk s H scope (compEnvC scope cl C X.env) fp) ifs (tT T W0 mt))
    (hi1 : ∀ (s : Shared) (H : Hp) (C : Addr) (cl : List (Str × Addr)) (fp : List Addr), PI (X.blk s H scope (compEnvC scope cl C X.env) fp) tg1 iter1 (tI T W0 mi1))
    (hg1 : ∀ (s : Shared) (H : Hp) (C : Addr) (cl : List (Str × Addr)) (fp : List Addr), PG (X.blk s H scope (compEnvC scope cl C X.env) fp) tg1 g1) (ht1 : ∀ (s : Shared) (H : Hp) (C : Addr) (cl : List (Str × Addr)) (fp : List Addr), PTs (X.blk s H scope (compEnvC scope cl C X.env) fp) ifs1 (tT T W0 mt1))
    (he : ∀ (s : Shared) (H : Hp) (C : Addr) (cl : List (Str × Addr)) (fp : List Addr), PE (X.blk s H scope (compEnvC scope cl C X.env) fp) elt (tE T W0 me)) (hs : ∀ x, foldedSetIterable iter X.env x = pure x := by intro _; rfl) (hs1 : ∀ env x, foldedSetIterable iter1 env x = pure x := by intro _ _; rfl) (hw : T.w = X.w := by rfl) :
    PE X (.SetComp elt [⟨tg, iter, ifs, 0⟩, ⟨tg1, iter1, ifs1, 0⟩] scope pos) (tE T W (mComp (.set []) mi bd mt (mIn mi1 b1 mt1 (mAdd me) vs1) (own.map (·.2)))) := by
  refine ⟨fun pins s σ H Q I h => ?_⟩
  rw [arm_eval_SetComp]
  refine comp_run (o0 := fun D => TSO X.w D []) (ob := setOb X.w) (k := fun acc env => innerK (.SetComp elt [⟨tg, iter, ifs, 0⟩, ⟨tg1, iter1, ifs1, 0⟩] scope pos) 1 iter1 acc env) (vk := vs1) (p := iter.pos) (kk := tKat T (mIn mi1 b1 mt1 (mAdd me) vs1)) (tt := tT T W0 mt) walked_set rfl hc hN hi ok hv
    (fun {s Q} q => wpAny_newSet_raw fun led e => by rw [e]; exact q) (fun h => Heap.get?_push_size _ rfl) (fun H h a e _ => tso_ok (tset_fresh e)) (fun it acc env => rfl) hg ht (fun s H C cl fp D => ?_) hs I (comp_mirror ho hin (fun φ' H' p z => .set (by rw [hw]; exact z)) h)
  refine PK.weak (inner_run (k := kAdd elt (.ref D) (compEnvC scope cl C X.env)) (p := iter1.pos) (vk := []) walked_set rfl hc rfl (hs1 _) (fun it => rfl) (hi1 s H C cl fp) (hg1 s H C cl fp) (ht1 s H C cl fp) (pk_add hw rfl (he s H C cl fp)) (fun i hi => by cases hi)) fun σ H N q => inner_mirror ho1 hin1 q
theorem r_lc2 (hc : X.calm = true) (hN : X.N.Nodup) (ok : BlkOk X.N X.env.scope scope own) (hv : ∀ i ∈ vs1, i ∈ own.map (·.2)) (hi : PI X tg iter (tI T W mi)) (ho : TgOk T g bd) (hin : bd.In (own.map (·.2))) (ho1 : TgOk T g1 b1) (hin1 : b1.In vs1)
    (hg : ∀ (s : Shared) (H : Hp) (C : Addr) (cl : List (Str × Addr)) (fp : List Addr), PG (X.blk s H scope (compEnvC scope cl C X.env) fp) tg g) (ht : ∀ (s : Shared) (H : Hp) (C : Addr) (cl : List (Str × Addr)) (fp : List Addr), PTs (X.blk s H scope (compEnvC scope cl C X.env) fp) ifs (tT T W0 mt))
    (hi1 : ∀ (s : Shared) (H : Hp) (C : Addr) (cl : List (Str × Addr)) (fp : List Addr), PI (X.blk s H scope (compEnvC scope cl C X.env) fp) tg1 iter1 (tI T W0 mi1))
    (hg1 : ∀ (s : Shared) (H : Hp) (C : Addr) (cl : List (Str × Addr)) (fp : List Addr), PG (X.blk s H scope (compEnvC scope cl C X.env) fp) tg1 g1) (ht1 : ∀ (s : Shared) (H : Hp) (C : Addr) (cl : List (Str × Addr)) (fp : List Addr), PTs (X.blk s H scope (compEnvC scope cl C X.env) fp) ifs1 (tT T W0 mt1))
    (he : ∀ (s : Shared) (H : Hp) (C : Addr) (cl : List (Str × Addr)) (fp : List Addr), PE (X.blk s H scope (compEnvC scope cl C X.env) fp) elt (tE T W0 me)) (hs : ∀ x, foldedSetIterable iter X.env x = pure x := by intro _; rfl) (hs1 : ∀ env x, foldedSetIterable iter1 env x = pure x := by intro _ _; rfl) :
    PE X (.ListComp elt [⟨tg, iter, ifs, 0⟩, ⟨tg1, iter1, ifs1, 0⟩] scope pos) (tE T W (mComp (.lst []) mi bd mt (mIn mi1 b1 mt1 (mApp me) vs1) (own.map (·.2)))) := by
  refine ⟨fun pins s σ H Q I h => ?_⟩
  rw [arm_eval_ListComp]
  refine comp_run (o0 := fun D => .lst []) (ob := { cls := .type "list", data := .seq ([] : List Value).toArray }) (k := fun acc env => innerK (.ListComp elt [⟨tg, iter, ifs, 0⟩, ⟨tg1, iter1, ifs1, 0⟩] scope pos) 1 iter1 acc env) (vk := vs1) (p := iter.pos) (kk := tKat T (mIn mi1 b1 mt1 (mApp me) vs1)) (tt := tT T W0 mt) walked_lst rfl hc hN hi ok hv
    (fun {s Q} q => wpAny_newObj_type q (by show 0 ≤ sizeLine; decide)) (fun h => Heap.get?_push_size _ rfl) (fun H h a e _ => ⟨Nat.zero_le _, [], 0, .nil, e⟩) (fun it acc env => rfl) hg ht (fun s H C cl fp D => ?_) hs I (comp_mirror ho hin (fun φ' H' p z => .lst z .nil) h)
  refine PK.weak (inner_run (k := kApp elt (.ref D) (compEnvC scope cl C X.env)) (p := iter1.pos) (vk := []) walked_lst rfl hc rfl (hs1 _) (fun it => rfl) (hi1 s H C cl fp) (hg1 s H C cl fp) (ht1 s H C cl fp) (pk_app rfl (he s H C cl fp)) (fun i hi => by cases hi)) fun σ H N q => inner_mirror ho1 hin1 q
end
end MR

/-! M33: sorted, set, len of a set, max of a list, with a default, int of a bool. -/
namespace MR
open PySem PySem.Spec L2 PyProof.Rows
/-! ### orders -/
def leTx (a b : Str) : Bool := decide (a.cps.toList ≤ b.cps.toList)
/-- by putting in, one by one -/
def putIn {α : Type} (le : α → α → Bool) (x : α) : List α → List α
  | [] => [x]
  | y :: ys => if le x y = true then x :: y :: ys else y :: putIn le x ys
def iSort {α : Type} (le : α → α → Bool) : List α → List α
  | [] => []
  | x :: xs => putIn le x (iSort le xs)
theorem putIn_at {α : Type} {le : α → α → Bool} {x : α} : ∀ {l1 l2 : List α}, (∀ b ∈ l1, (!le x b) = true) → (∀ b ∈ l2, le x b = true) → putIn le x (l1 ++ l2) = l1 ++ x :: l2
  | [], [], _, _ => rfl
  | [], y :: ys, _, h => by
    rw [List.nil_append, List.nil_append]
    unfold putIn
    rw [if_pos (h y List.mem_cons_self)]
  | y :: ys, l2, g, h => by
    have e := g y List.mem_cons_self
    rw [List.cons_append, List.cons_append]
    unfold putIn
    rw [if_neg (fun z => by rw [z] at e; cases e), putIn_at (fun b hb => g b (List.mem_cons_of_mem _ hb)) h]
theorem iSort_is {α : Type} {le : α → α → Bool} (tr : ∀ a b c, le a b = true → le b c = true → le a c = true) (to : ∀ a b, (le a b || le b a) = true) : ∀ xs : List α, iSort le xs = xs.mergeSort le
  | [] => by
    unfold iSort
    rw [List.mergeSort_nil]
  | x :: xs => by
    obtain ⟨l1, l2, e1, e2, h⟩ := List.mergeSort_cons tr to x xs
    have pw := List.pairwise_mergeSort (le := le) tr to (x :: xs)
    rw [e1] at pw ⊢
    unfold iSort
    rw [iSort_is tr to xs, e2]
    refine putIn_at h fun b hb => ?_
    have p2 := (List.pairwise_append.mp pw).2.1
    exact (List.pairwise_cons.mp p2).1 b hb
def sortTx (ks : List Str) : List Str := iSort leTx ks
theorem leTx_trans {a b c : Str} (h : leTx a b = true) (h' : leTx b c = true) : leTx a c = true := decide_eq_true (List.le_trans (of_decide_eq_true h) (of_decide_eq_true h'))
theorem leTx_total (a b : Str) : (leTx a b || leTx b a) = true := by
  rcases List.le_total a.cps.toList b.cps.toList with h | h
  · unfold leTx; rw [decide_eq_true h]; rfl
  · unfold leTx; rw [decide_eq_true h, Bool.or_true]
theorem leTx_anti {a b : Str} (h : leTx a b = true) (h' : leTx b a = true) : a = b := by
  obtain ⟨⟨x⟩⟩ := a
  obtain ⟨⟨y⟩⟩ := b
  have e : x = y := List.le_antisymm (of_decide_eq_true h) (of_decide_eq_true h')
  rw [e]
theorem leTx_lt {a b : Str} : leTx a b = !ltCps b.cps.toList a.cps.toList := by
  rw [ltCps_eq]
  unfold leTx
  by_cases h : b.cps.toList < a.cps.toList
  · rw [decide_eq_true h, decide_eq_false (show ¬ a.cps.toList ≤ b.cps.toList from fun z => z h)]
    rfl
  · rw [decide_eq_false h, decide_eq_true (show a.cps.toList ≤ b.cps.toList from h)]
    rfl
theorem rising_pair : ∀ (p : Str) (l : List Str), risingS p l = true → (p :: l).Pairwise (fun a b => leTx a b = true)
  | p, [], _ => List.pairwise_singleton _ _
  | p, x :: l, h => by
    unfold risingS at h
    rw [Bool.and_eq_true, ← leTx_lt] at h
    have ih := rising_pair x l h.2
    refine List.pairwise_cons.mpr ⟨fun y hy => ?_, ih⟩
    rcases List.mem_cons.mp hy with e | e
    · rw [e]; exact h.1
    · exact leTx_trans h.1 ((List.pairwise_cons.mp ih).1 y e)
theorem sortTx_is (ks : List Str) : sortTx ks = ks.mergeSort leTx := iSort_is (le := leTx) (fun _ _ _ h h' => leTx_trans h h') leTx_total ks
theorem sorted_is {ys ks : List Str} (p : ys.Perm ks) (h : sortedS ys = true) : ys = sortTx ks := by
  have a : ys.Pairwise fun a b => leTx a b = true := by
    cases ys with
    | nil => exact List.Pairwise.nil
    | cons x l => exact rising_pair x l h
  rw [sortTx_is]
  refine List.Perm.eq_of_pairwise (fun x y _ _ h1 h2 => leTx_anti h1 h2) a ?_ (p.trans (List.mergeSort_perm ks leTx).symm)
  exact List.pairwise_mergeSort (le := leTx) (fun _ _ _ => leTx_trans) leTx_total ks
/-! ### sorted -/
def alikesB (ps : List PyData) : Bool := ps.all fun a => ps.all fun b => PySem.W.alike a b
def headed : PyData → Bool
  | .tuple (_ :: _) => true
  | _ => false
def plainB : PyData → Bool
  | .none => false
  | .tuple _ => false
  | _ => true
def sortableB (ps : List PyData) : Bool := ps.all headed || ps.all plainB
theorem alikesB_ok {ps : List PyData} (h : alikesB ps = true) : PySem.W.AllAlike ps := fun a ha b hb => List.all_eq_true.mp (List.all_eq_true.mp h a ha) b hb
theorem sortableB_ok {ps : List PyData} (h : sortableB ps = true) : PySem.W.Sortable ps := by
  unfold sortableB at h
  rcases Bool.or_eq_true_iff.mp h with h | h
  · refine .inl fun d hd => ?_
    have := List.all_eq_true.mp h d hd
    cases d with
    | tuple xs =>
      cases xs with
      | nil => cases this
      | cons x r => exact ⟨x, r, rfl⟩
    | _ => cases this
  · refine .inr fun d hd => ?_
    have := List.all_eq_true.mp h d hd
    cases d with
    | none => cases this
    | tuple xs => cases this
    | _ => exact ⟨fun z => (nomatch z), fun xs z => (nomatch z)⟩
def leP {α : Type} (f : α → PyData) : α → α → Bool := PySem.W.dataLe false f
theorem leP_no {α : Type} (f : α → PyData) (a b : α) : leP f a b = !PySem.W.dataLt (f b) (f a) := by
  unfold leP
  rw [PySem.W.dataLe_eq]
  rfl
theorem leP_trans {α : Type} (f : α → PyData) (a b c : α) (h : leP f a b = true) (g : leP f b c = true) : leP f a c = true := by
  rw [leP_no] at h g ⊢
  have h' : PySem.W.dataLt (f b) (f a) = false := by simpa using h
  have g' : PySem.W.dataLt (f c) (f b) = false := by simpa using g
  cases e : PySem.W.dataLt (f c) (f a) with
  | false => rfl
  | true =>
    rcases PyProof.Rows.lex_negTrans (O := itemOrd) _ (PySem.W.keyToks (f b)) _ e with z | z
    · exact absurd (g'.symm.trans z) Bool.false_ne_true
    · exact absurd (h'.symm.trans z) Bool.false_ne_true
theorem leP_total {α : Type} (f : α → PyData) (a b : α) : (leP f a b || leP f b a) = true := by
  rw [leP_no, leP_no]
  cases e : PySem.W.dataLt (f b) (f a) with
  | false => rfl
  | true =>
    cases e2 : PySem.W.dataLt (f a) (f b) with
    | false => rfl
    | true =>
      have z := PyProof.Rows.lex_trans (O := itemOrd) _ _ _ e e2
      rw [PyProof.Rows.lex_irrefl] at z
      cases z
theorem leP_map {α β : Type} {f : α → PyData} {g : β → PyData} {h : α → β} (e : ∀ a, g (h a) = f a) (a b : α) : leP f a b = leP g (h a) (h b) := by
  unfold leP
  rw [PySem.W.dataLe_eq, PySem.W.dataLe_eq]
  simp only [cond_false, e]
/-- by what they are as data -/
def sortD (xs : List D) (ps : List PyData) : List D := (iSort (leP (·.2)) (xs.zip ps)).map (·.1)
def sortF (ds : List D) (S : Hs) : Res D := match ds with
  | [.ref n] => match S.get n with
    | some (.set ks) => .ok (.ref S.n) (S.new (.lst ((sortTx ks).map D.str)))
    | _ => match listOf S n with
      | some xs => match mapO (toP S deep) xs with
        | some ps => if alikesB ps && sortableB ps && decide (xs.length ≤ line) && ps.all (fun p => decide (p.depth ≤ 60)) then .ok (.ref S.n) (S.new (.lst (sortD xs ps))) else .bad
        | none => .bad
      | none => .bad
  | _ => .bad
theorem mapO_get {α β : Type} {f : α → Option β} : ∀ {xs : List α} {ys : List β} {i : Nat} {x : α} {y : β}, mapO f xs = some ys → xs[i]? = some x → ys[i]? = some y → f x = some y
  | [], ys, i, x, y, h, hx, hy => by cases hx
  | a :: xs, ys, i, x, y, h, hx, hy => by
    unfold mapO at h
    cases ea : f a with
    | none => rw [ea] at h; cases h
    | some b =>
      rw [ea] at h
      cases er : mapO f xs with
      | none => rw [er] at h; cases h
      | some bs =>
        rw [er] at h
        cases h
        cases i with
        | zero => cases hx; cases hy; exact ea
        | succ i => exact mapO_get er hx hy
theorem sort_no : NoErL sortF := fun ds S c d S' h => by
  unfold sortF at h
  repeat' (first | cases h | split at h)
def rSortD (K : PySem.W.Frag) (w : World) : List V → Hp → VK → Prop := fun vs H Q => (∃ (a : Addr) (ks : List Str), vs = [.ref a] ∧ H a = some (TSO w a ks) ∧ ∀ p, H p = none → Q (.ref p) (upd H p (.lst ((sortTx ks).map V.str)))) ∨
  ∃ (a : Addr) (zs : List (V × PyData)), vs = [.ref a] ∧ SqL K H a (zs.map (·.1)) ∧ (∀ z ∈ zs, Dp K H z.1 z.2 ∧ z.2.depth ≤ 60) ∧ PySem.W.AllAlike (zs.map (·.2)) ∧ PySem.W.Sortable (zs.map (·.2)) ∧ zs.length ≤ sizeLine ∧ ∀ p, H p = none → Q (.ref p) (upd H p (.lst ((zs.mergeSort (leP (·.2))).map (·.1))))
section
variable {X : Cx}
theorem each_of : ∀ {zs : List (V × PyData)} {us : List Value}, Vals (zs.map (·.1)) us → PySem.W.EachIs (fun u (z : V × PyData) => RelV z.1 u) us zs
  | [], _, .nil => .nil
  | z :: zs, _, .cons r t => .cons r (each_of t)
theorem each_vals : ∀ {zs : List (V × PyData)} {us : List Value}, PySem.W.EachIs (fun u (z : V × PyData) => RelV z.1 u) us zs → Vals (zs.map (·.1)) us
  | _, _, .nil => .nil
  | _, _, .cons r t => .cons r (each_vals t)
theorem call_sortD (hc : X.calm = true) (hu : Deepy X) : CallR X (.builtin "sorted") (rSortD X.K X.w) := by
  intro pins s σ H vs us Q I r h
  rcases h with ⟨a, ks, rfl, ha, q⟩ | ⟨a, zs, rfl, hl, hd, al, so, len, q⟩
  · rw [Vals.ref1 r]
    have R : TxSet X.w s.heap a ks := (I.hok a _ ha).1
    refine sorted_txt R (I.ok.hd hc) fun s' p out c ys k g o hp hg hi pm so => ?_
    have ey := sorted_is pm so
    subst ey
    have few : (sortTx ks).length ≤ sizeLine := by
      rw [pm.length_eq]
      obtain ⟨_, es, _, _, _, _, _, RR⟩ := R
      rw [← RR.size]
      exact fits_of_scanBound RR.few
    have hn : H p = none := I.hok.fresh hp
    have J : Inv X pins σ (upd H p (.lst ((sortTx ks).map V.str))) { s with heap := s'.heap, gens := s'.gens, drawn := s'.drawn, toks := s'.toks } :=
      I.call (ch := []) (Un.laid k hp hn) (I.hok.laid k hp ⟨by rw [List.length_map]; exact few, out.toList, c, vals_of_strs hi, hg⟩) (by rw [g]; exact I.bare) (fun _ z => nomatch z)
    have e : s' = { s with heap := s'.heap, gens := s'.gens, drawn := s'.drawn, toks := s'.toks } := by
      cases s'
      cases s
      cases o
      rfl
    rw [e]
    exact ⟨.ref p, _, J, rfl, q p hn⟩
  · rw [Vals.ref1 r]
    obtain ⟨its, rv, pl, _⟩ := I.list hl
    have er : PySem.W.EachIs (fun v (z : V × PyData) => ∃ as, Reads s.heap v z.2 as) its zs := by
      have key : ∀ {zs : List (V × PyData)} {us : List Value}, Vals (zs.map (·.1)) us → (∀ z ∈ zs, Dp X.K H z.1 z.2 ∧ z.2.depth ≤ 60) → PySem.W.EachIs (fun v (z : V × PyData) => ∃ as, Reads s.heap v z.2 as) us zs := by
        intro zs
        induction zs with
        | nil => intro us r _; cases r; exact .nil
        | cons z zs ih =>
          intro us r h
          cases r with
          | cons r1 r2 => exact .cons (Dp.reads I _ _ _ (h z List.mem_cons_self).1 r1) (ih r2 fun y hy => h y (List.mem_cons_of_mem _ hy))
      exact key rv hd
    have hn : H (s.heap.objs.size + 1) = none := I.hok.fresh (Nat.le_succ _)
    refine PySem.W.sorted_data (enc := (·.2)) pl.isList (each_of rv) er al so len (fun z hz => ?_) fun out ho eo => ?_
    · have := (hd z hz).2
      unfold Deepy at hu
      omega
    · obtain ⟨ep, he⟩ := sortedAll_at s.heap its (List.toArray out)
      have hv := each_vals eo
      exact ⟨.ref _, upd H (s.heap.objs.size + 1) (.lst ((zs.mergeSort (leP (·.2))).map (·.1))), I.laid (t' := s.toks) (fun _ _ => sortedAll_old) (Nat.le_succ _) ⟨by rw [List.length_map, (List.mergeSort_perm _ _).length_eq]; exact len, out, ep, hv, he⟩, rfl, q _ hn⟩
end
theorem sort_M {T : Ct} : CallM T (rSortD T.K T.w) sortF := by
  intro φ S H ds vs Q R r P
  unfold sortF at P
  split at P
  · rename_i n
    obtain ⟨v, rfl, r1⟩ := r.one
    cases r1 with
    | @ref _ a h =>
    split at P
    · rename_i ks hks
      cases R.cell n _ a hks h with
      | set e =>
        refine .inl ⟨a, ks, rfl, e, okE.newLst R ?_ P⟩
        refine ⟨by simp, fun i d v h1 h2 => ?_⟩
        rw [List.getElem?_map] at h1 h2
        cases q : (sortTx ks)[i]? with
        | none => rw [q] at h1; cases h1
        | some x => rw [q] at h1 h2; cases h1; cases h2; exact .str x
    · split at P
      · rename_i xs hxs
        split at P
        · rename_i ps hps
          split at P
          · rename_i hc
            simp only [Bool.and_eq_true, decide_eq_true_eq, List.all_eq_true] at hc
            obtain ⟨⟨⟨c1, c2⟩, c3⟩, c4⟩ := hc
            obtain ⟨us, hl, ru⟩ := R.listOf h hxs
            have lp : ps.length = xs.length := mapO_len hps
            -- all three, side by side
            let ts : List (D × V × PyData) := xs.zip (us.zip ps)
            have t1 : ts.map (·.1) = xs := List.map_fst_zip (by rw [List.length_zip, ← ru.1, lp]; omega)
            have t2 : ts.map (·.2) = us.zip ps := List.map_snd_zip (by rw [List.length_zip, ← ru.1, lp]; omega)
            have t3 : ts.map (fun t => t.2.1) = us := by
              have : ts.map (fun t => t.2.1) = (ts.map (·.2)).map (·.1) := by rw [List.map_map]; rfl
              rw [this, t2]
              exact List.map_fst_zip (by rw [← ru.1, lp]; omega)
            have t4 : ts.map (fun t => t.2.2) = ps := by
              have : ts.map (fun t => t.2.2) = (ts.map (·.2)).map (·.2) := by rw [List.map_map]; rfl
              rw [this, t2]
              exact List.map_snd_zip (by rw [← ru.1, lp]; omega)
            have t5 : ts.map (fun t => (t.1, t.2.2)) = xs.zip ps := by
              have : xs.zip ps = (ts.map (·.1)).zip (ts.map fun t => t.2.2) := by rw [t1, t4]
              rw [this, List.zip_map']
            have rel : ∀ t ∈ ts, RV T φ H t.1 t.2.1 ∧ toP S deep t.1 = some t.2.2 := fun t ht => by
              obtain ⟨i, hi, e⟩ := List.mem_iff_getElem.mp ht
              have g : ts[i]? = some t := by rw [List.getElem?_eq_getElem hi, e]
              have gx : xs[i]? = some t.1 := by rw [← t1, List.getElem?_map, g]; rfl
              have gu : us[i]? = some t.2.1 := by rw [← t3, List.getElem?_map, g]; rfl
              have gp : ps[i]? = some t.2.2 := by rw [← t4, List.getElem?_map, g]; rfl
              exact ⟨ru.2 i _ _ gx gu, mapO_get hps gx gp⟩
            have m1 : sortD xs ps = (ts.mergeSort (leP fun t => t.2.2)).map (·.1) := by
              unfold sortD
              rw [iSort_is (leP_trans _) (leP_total _), ← t5, ← List.map_mergeSort (r := leP fun (t : D × V × PyData) => t.2.2) (s := leP (·.2)) (f := fun t => (t.1, t.2.2)) (fun a _ b _ => leP_map (fun _ => rfl) a b), List.map_map]
              rfl
            have m2 : ((us.zip ps).mergeSort (leP (·.2))).map (·.1) = (ts.mergeSort (leP fun t => t.2.2)).map fun t => t.2.1 := by
              rw [← t2, ← List.map_mergeSort (r := leP fun (t : D × V × PyData) => t.2.2) (s := leP (·.2)) (f := fun t => t.2) (fun a _ b _ => leP_map (fun _ => rfl) a b), List.map_map]
              rfl
            refine .inr ⟨a, us.zip ps, rfl, ?_, fun z hz => ?_, ?_, ?_, ?_, ?_⟩
            · rw [List.map_fst_zip (by rw [← ru.1, lp]; omega)]
              exact hl
            · obtain ⟨t, ht, e⟩ := List.mem_map.mp (t2 ▸ hz)
              subst e
              have hp : t.2.2 ∈ ps := t4 ▸ List.mem_map_of_mem ht
              exact ⟨toP_dp R _ _ _ _ (rel t ht).1 (rel t ht).2, c4 _ hp⟩
            · rw [List.map_snd_zip (by rw [← ru.1, lp]; omega)]
              exact alikesB_ok c1
            · rw [List.map_snd_zip (by rw [← ru.1, lp]; omega)]
              exact sortableB_ok c2
            · rw [List.length_zip, ← ru.1, lp, ← line_eq]
              omega
            · rw [m2]
              rw [m1] at P
              refine okE.newLst R ?_ P
              refine ⟨by simp, fun i d v h1 h2 => ?_⟩
              rw [List.getElem?_map] at h1 h2
              cases q : (ts.mergeSort (leP fun t => t.2.2))[i]? with
              | none => rw [q] at h1; cases h1
              | some t =>
                rw [q] at h1 h2
                cases h1
                cases h2
                exact (rel t (List.mem_mergeSort.mp (List.mem_of_getElem? q))).1
          · exact False.elim P
        · exact False.elim P
      · exact False.elim P
  · exact False.elim P
end MR

/-! M34: sorted, set, len of a set, max of a list, with a default. -/
namespace MR
open PySem PySem.Spec L2 PyProof.Rows
/-! ### set of a list of texts -/
def setTF (ds : List D) (S : Hs) : Res D := match ds with
  | [.ref n] => match listOf S n with
    | some xs => match mapO strOf xs with
      | some ys => if ys.length < 4000 then .ok (.ref S.n) (S.new (.set (addTs [] ys))) else .bad
      | none => .bad
    | none => .bad
  | _ => .bad
theorem setT_no : NoErL setTF := fun ds S c d S' h => by
  unfold setTF at h
  repeat' (first | cases h | split at h)
def rSetT (K : PySem.W.Frag) (w : World) : List V → Hp → VK → Prop := fun vs H Q => ∃ (a : Addr) (ys : List Str), vs = [.ref a] ∧ SqL K H a (ys.map V.str) ∧ ys.length < 4000 ∧ ∀ p, H p = none → Q (.ref p) (upd H p (TSO w p (addTs [] ys)))
theorem call_setT {X : Cx} (hc : X.calm = true) : CallR X (.type "set") (rSetT X.K X.w) := by
  intro pins s σ H vs us Q I r ⟨a, ys, e, hl, len, q⟩
  subst e
  rw [Vals.ref1 r]
  obtain ⟨its, rv, pl, _⟩ := I.list hl
  have sa := rv.strs
  refine call_set_txt (I.ok.hd hc) pl.isList (by simpa using sa) (by unfold scanBound; omega) fun h' tk R k => ?_
  have hn : H s.heap.objs.size = none := I.hok.fresh (Nat.le_refl _)
  exact ⟨.ref _, _, I.laid k (Nat.le_refl _) (tso_ok R), rfl, q _ hn⟩
theorem setT_M {T : Ct} : CallM T (rSetT T.K T.w) setTF := by
  intro φ S H ds vs Q R r P
  unfold setTF at P
  split at P
  · rename_i n
    obtain ⟨v, rfl, r1⟩ := r.one
    cases r1 with
    | @ref _ a h =>
    split at P
    · rename_i xs hxs
      split at P
      · rename_i ys hys
        split at P
        · rename_i hlen
          obtain ⟨us, hl, ru⟩ := R.listOf h hxs
          have e := mapO_str ru hys
          subst e
          refine ⟨a, ys, rfl, hl, hlen, fun p hp => ?_⟩
          obtain ⟨R2, U2⟩ := R.new (o := TSO T.w p (addTs [] ys)) (c := .set (addTs [] ys)) hp fun φ' H' u z => .set z
          refine P _ _ _ U2 R2 (.ref ?_)
          rw [List.getElem?_append_right (by rw [R.len]; exact Nat.le_refl _), R.len]
          simp
        · exact False.elim P
      · exact False.elim P
    · exact False.elim P
  · exact False.elim P
/-! ### len of a set -/
def lenSF (ds : List D) (S : Hs) : Res D := match ds with
  | [.ref n] => match S.get n with
    | some (.set ks) => .ok (.int ks.length) S
    | _ => .bad
  | _ => .bad
theorem lenS_no : NoErL lenSF := fun ds S c d S' h => by
  unfold lenSF at h
  repeat' (first | cases h | split at h)
def rLenS (w : World) : List V → Hp → VK → Prop := fun vs H Q => ∃ (a : Addr) (ks : List Str), vs = [.ref a] ∧ H a = some (TSO w a ks) ∧ Q (.int ks.length) H
theorem call_lenS {X : Cx} : CallR X (.builtin "len") (rLenS X.w) := by
  intro pins s σ H vs us Q I r ⟨a, ks, e, ha, q⟩
  subst e
  rw [Vals.ref1 r]
  exact len_txt (I.hok a _ ha).1 fun tk u => ⟨.int _, H, I.kept (fun _ _ k => k), ⟨_, rfl⟩, q⟩
theorem lenS_M {T : Ct} : CallM T (rLenS T.w) lenSF := by
  intro φ S H ds vs Q R r P
  unfold lenSF at P
  split at P
  · rename_i n
    obtain ⟨v, rfl, r1⟩ := r.one
    cases r1 with
    | @ref _ a h =>
    split at P
    · rename_i ks hks
      cases R.cell n _ a hks h with
      | set e => exact ⟨a, ks, rfl, e, P.now R (.int _)⟩
    · exact False.elim P
  · exact False.elim P
/-! ### max of a list of ints -/
def topI : Int → List Int → Int
  | m, [] => m
  | m, y :: ys => topI (if y > m then y else m) ys
theorem topI_ge : ∀ (m : Int) (ys : List Int), m ≤ topI m ys ∧ ∀ y ∈ ys, y ≤ topI m ys
  | m, [] => ⟨Int.le_refl _, fun _ h => by cases h⟩
  | m, y :: ys => by
    have ih := topI_ge (if y > m then y else m) ys
    unfold topI
    have h0 : m ≤ (if y > m then y else m) ∧ y ≤ (if y > m then y else m) := by split <;> omega
    refine ⟨Int.le_trans h0.1 ih.1, fun z hz => ?_⟩
    · rcases List.mem_cons.mp hz with rfl | hz
      · exact Int.le_trans h0.2 ih.1
      · exact ih.2 z hz
theorem topI_mem : ∀ (m : Int) (ys : List Int), topI m ys = m ∨ topI m ys ∈ ys
  | m, [] => .inl rfl
  | m, y :: ys => by
    unfold topI
    rcases topI_mem (if y > m then y else m) ys with h | h
    · rw [h]
      split
      · exact .inr List.mem_cons_self
      · exact .inl rfl
    · exact .inr (List.mem_cons_of_mem _ h)
def maxLF (ds : List D) (S : Hs) : Res D := match ds with
  | [.ref n] => match listOf S n with
    | some xs => match mapO intOf xs with
      | some (y :: ys) => .ok (.int (topI y ys)) S
      | _ => .bad
    | none => .bad
  | _ => .bad
theorem maxL_no : NoErL maxLF := fun ds S c d S' h => by
  unfold maxLF at h
  repeat' (first | cases h | split at h)
theorem maxL_M {T : Ct} : CallM T (rMax T.K) maxLF := by
  intro φ S H ds vs Q R r P
  unfold maxLF at P
  split at P
  · rename_i n
    obtain ⟨v, rfl, r1⟩ := r.one
    cases r1 with
    | @ref _ a h =>
    split at P
    · rename_i xs hxs
      split at P
      · rename_i y ys hys
        obtain ⟨us, hl, ru⟩ := R.listOf h hxs
        have e := mapO_ints ru hys
        subst e
        refine ⟨a, y :: ys, rfl, hl, Nat.succ_pos _, fun m hm hy => ?_⟩
        have hg := topI_ge y ys
        have ht : topI y ys ∈ y :: ys := by
          rcases topI_mem y ys with e | e
          · rw [e]; exact List.mem_cons_self
          · exact List.mem_cons_of_mem _ e
        have e : topI y ys = m := by
          have h1 := hy _ ht
          have h2 : m ≤ topI y ys := by
            rcases List.mem_cons.mp hm with e | e
            · rw [e]; exact hg.1
            · exact hg.2 m e
          omega
        rw [← e]
        exact P.now R (.int _)
      · exact False.elim P
    · exact False.elim P
  · exact False.elim P
/-! ### max(list, default = d) -/
def mCallK (f : List D → List D → Hs → Res D) (ms mk : Exs) : Ex := fun env S => (ms env S).bind fun ds S1 => (mk env S1).bind fun zs S2 => f ds zs S2
def CallMK (T : Ct) (r : List V → List V → Hp → VK → Prop) (f : List D → List D → Hs → Res D) : Prop := ∀ {φ : List Addr} {S : Hs} {H : Hp} {ds zs : List D} {vs ws : List V} {Q : VK}, RS T φ S H → RVs T φ H ds vs → RVs T φ H zs ws → Post (okE T φ H Q) (fun _ _ _ => False) (f ds zs S) → r vs ws H Q
theorem callK_weak {T : Ct} {W : WX} {ms mk : Exs} {r : List V → List V → Hp → VK → Prop} {f : List D → List D → Hs → Res D} (hM : CallMK T r f) (hn : ∀ ds zs S c d S', f ds zs S ≠ .err c d S') {σ : L2.St} {H : Hp} {Q : VK} (h : tE T W (mCallK f ms mk) σ H Q) : L2.tCKw r (tA T W ms) (tA T W mk) σ H Q := by
  obtain ⟨φ, env, S, R, E, P⟩ := h
  exact tA_bind R E P fun ds S1 φ1 H1 vs u R1 r1 E1 P1 => tA_bind R1 E1 P1 fun zs S2 φ2 H2 ws u2 R2 r2 E2 P2 => hM R2 (r1.up R1 u2) r2 ((P2.upE (u.trans u2)).noEr (hn ds zs S2))
def maxDF (ds zs : List D) (S : Hs) : Res D := match ds, zs with
  | [.ref n], [.int d] => match listOf S n with
    | some xs => match mapO intOf xs with
      | some (y :: ys) => .ok (.int (topI y ys)) S
      | some [] => .ok (.int d) S
      | _ => .bad
    | none => .bad
  | _, _ => .bad
theorem maxD_no : ∀ ds zs S c d S', maxDF ds zs S ≠ .err c d S' := fun ds zs S c d S' h => by
  unfold maxDF at h
  repeat' (first | cases h | split at h)
def rMaxDI (K : PySem.W.Frag) : List V → List V → Hp → VK → Prop := fun vs ws H Q => ∃ (a : Addr) (ns : List Int) (d : Int), vs = [V.ref a] ∧ ws = [.int d] ∧ SqL K H a (ns.map V.int) ∧ (ns = [] → Q (.int d) H) ∧ ∀ y ys, ns = y :: ys → Q (.int (topI y ys)) H
theorem lt_ints (x y : Int) : PySem.W.dataLt (.int x) (.int y) = decide (x < y) := PySem.W.dataLt_int x y
theorem top_ints (x : Int) : ∀ ys : List Int, PySem.W.maxD (.int x) (ys.map PyData.int) = .int (topI x ys) := by
  intro ys
  unfold PySem.W.maxD
  induction ys generalizing x with
  | nil => rfl
  | cons y ys ih =>
    rw [List.map_cons, List.foldl_cons, lt_ints]
    unfold topI
    by_cases h : x < y
    · rw [decide_eq_true h, if_pos rfl, if_pos h]; exact ih y
    · rw [decide_eq_false h, if_neg Bool.false_ne_true, if_neg h]; exact ih x
theorem reads_ints {h : Heap} : ∀ {ns : List Int} {us : List Value}, Vals (ns.map V.int) us → ReadsAll h us (ns.map PyData.int) (ns.map fun _ => ([] : List Addr)).flatten
  | [], _, .nil => .nil
  | n :: ns, _, .cons ⟨t, e⟩ r => by
    subst e
    exact .cons (.int n t) (reads_ints r)
theorem ints_flat : ∀ ns : List Int, PyData.depthAll (ns.map PyData.int) ≤ 1
  | [] => Nat.zero_le _
  | n :: ns => Nat.max_le.mpr ⟨Nat.le_of_ble_eq_true rfl, ints_flat ns⟩
theorem call_maxD {X : Cx} (hc : X.calm = true) (hu : Deepy X) : L2.CallRK X (.builtin "max") [Str.ofString "default"] (rMaxDI X.K) := by
  intro pins s σ H vs zs us ws Q I r rz ⟨a, ns, d, e, ez, hl, q0, q⟩
  subst e ez
  rw [Vals.ref1 r]
  obtain ⟨v, rfl, td, rfl⟩ := vals1 rz
  obtain ⟨its, rv, pl, _⟩ := I.list hl
  have depth := ints_flat ns
  have al : PySem.W.AlikeAll (ns.map PyData.int) := by
    refine ⟨fun x hx y hy => ?_, fun x hx => ?_⟩
    · obtain ⟨i, _, rfl⟩ := List.mem_map.mp hx
      obtain ⟨j, _, rfl⟩ := List.mem_map.mp hy
      rfl
    · obtain ⟨i, _, rfl⟩ := List.mem_map.mp hx
      exact fun z => nomatch z
  refine PySem.W.max_list_default (I.ok.hd hc) pl.isList (by simpa using reads_ints rv) al (by unfold Deepy at hu; omega) (fun e0 h' tk k => ?_) fun y ys i v h' tk bs e1 hv hr k => ?_
  · exact ⟨.int d, H, I.kept k, ⟨_, rfl⟩, q0 (List.map_eq_nil_iff.mp e0)⟩
  · cases ns with
    | nil => cases e1
    | cons z zs =>
      cases e1
      rw [top_ints] at hr
      cases hr
      exact ⟨.int _, H, I.kept k, ⟨_, rfl⟩, q z zs rfl⟩
theorem maxD_M {T : Ct} : CallMK T (rMaxDI T.K) maxDF := by
  intro φ S H ds zs vs ws Q R r rz P
  unfold maxDF at P
  split at P
  · rename_i n d
    obtain ⟨v, rfl, r1⟩ := r.one
    obtain ⟨v2, rfl, r2⟩ := rz.one
    cases r2
    cases r1 with
    | @ref _ a h =>
    split at P
    · rename_i xs hxs
      obtain ⟨us, hl, ru⟩ := R.listOf h hxs
      split at P
      · rename_i y ys hys
        have e := mapO_ints ru hys
        subst e
        exact ⟨a, y :: ys, d, rfl, rfl, hl, fun z => (nomatch z), fun y' ys' e => by cases e; exact P.now R (.int _)⟩
      · rename_i hys
        have e := mapO_ints ru hys
        subst e
        exact ⟨a, [], d, rfl, rfl, hl, fun _ => P.now R (.int _), fun y' ys' e => by cases e⟩
      · exact False.elim P
    · exact False.elim P
  · exact False.elim P
section
variable {X : Cx} {T : Ct} {W : WX} {pos p : Pos} {e : Expr} {ms mk : Exs} {kws : List Keyword}
theorem r_sorted (hc : X.calm = true) (hu : Deepy X) (hm : X.mg "sorted" = none) (ha : PA X [e] (tA T W ms)) (hg : Gl X "sorted" := by rfl) (hK : T.K = X.K := by rfl) (hw : T.w = X.w := by rfl) (he : starEach [e] X.env = (false, eval e X.env) :: starEach [] X.env := by rfl) (hpl : (backTo pos (starEach [] X.env)).any (·.1) = false := by rfl) : PE X (.Call (.Name "sorted" p) [e] [] pos) (tE T W (mCall sortF ms)) :=
  r_callB (r := rSortD T.K T.w) (by rw [hK, hw]; exact call_sortD hc hu) sort_M sort_no hg hm (by decide +kernel) ha (by decide) (by decide) he hpl
theorem r_setT (hc : X.calm = true) (hm : X.mg "set" = none) (ha : PA X [e] (tA T W ms)) (hg : Gl X "set" := by rfl) (hK : T.K = X.K := by rfl) (hw : T.w = X.w := by rfl) (he : starEach [e] X.env = (false, eval e X.env) :: starEach [] X.env := by rfl) (hpl : (backTo pos (starEach [] X.env)).any (·.1) = false := by rfl) : PE X (.Call (.Name "set" p) [e] [] pos) (tE T W (mCall setTF ms)) :=
  r_callTy (r := rSetT T.K T.w) (by rw [hK, hw]; exact call_setT hc) setT_M setT_no hg hm (by decide +kernel) ha (by decide) (by decide) he hpl
theorem r_lenS (hm : X.mg "len" = none) (ha : PA X [e] (tA T W ms)) (hg : Gl X "len" := by rfl) (hw : T.w = X.w := by rfl) (he : starEach [e] X.env = (false, eval e X.env) :: starEach [] X.env := by rfl) (hpl : (backTo pos (starEach [] X.env)).any (·.1) = false := by rfl) : PE X (.Call (.Name "len" p) [e] [] pos) (tE T W (mCall lenSF ms)) :=
  r_callB (r := rLenS T.w) (by rw [hw]; exact call_lenS) lenS_M lenS_no hg hm (by decide +kernel) ha (by decide) (by decide) he hpl
theorem r_maxL (hc : X.calm = true) (hm : X.mg "max" = none) (ha : PA X [e] (tA T W ms)) (hg : Gl X "max" := by rfl) (hK : T.K = X.K := by rfl) (he : starEach [e] X.env = (false, eval e X.env) :: starEach [] X.env := by rfl) (hpl : (backTo pos (starEach [] X.env)).any (·.1) = false := by rfl) : PE X (.Call (.Name "max" p) [e] [] pos) (tE T W (mCall maxLF ms)) :=
  r_callB (r := rMax T.K) (by rw [hK]; exact cr_max hc) maxL_M maxL_no hg hm (by decide +kernel) ha (by decide) (by decide) he hpl
theorem r_maxD (hc : X.calm = true) (hu : Deepy X) (hm : X.mg "max" = none) (ha : PA X [e] (tA T W ms)) (hk : L2.PK X kws (tA T W mk)) (hg : Gl X "max" := by rfl) (hK : T.K = X.K := by rfl) (he : backTo pos (starEach [e] X.env) = (false, eval e X.env) :: backTo pos (starEach [] X.env) := by rfl) (hpl : (backTo pos (starEach [e] X.env)).any (·.1) = false := by rfl)
    (hall : (backToKw pos (keywordEach kws X.env)).all (·.1.isSome) = true := by rfl) (hnone : (backToKw pos (keywordEach kws X.env)).any (·.1.isNone) = false := by rfl) (hks : (backToKw pos (keywordEach kws X.env)).filterMap (·.1) = [Str.ofString "default"] := by rfl) : PE X (.Call (.Name "max" p) [e] kws pos) (tE T W (mCallK maxDF ms mk)) :=
  weakE (L2.pe_callBK (r := rMaxDI T.K) (by rw [hK]; exact call_maxD hc hu) hg hm (by decide +kernel) ha hk (by decide) (by decide) he hpl hall hnone hks) fun _ _ _ h => callK_weak maxD_M maxD_no h
end
end MR

/-! QA: what a mirror answers, as promises: a value comes (Ok), a suite ends (Wp); frames; loops. -/
namespace MR
open PySem
/-- a value comes, and it is so -/
def Ok {α : Type} (P : α → Hs → Prop) (r : Res α) : Prop := match r with
  | .ok a S => P a S
  | _ => False
/-- the suite goes on, or returns -/
def Wp (P : EnvD → Hs → Prop) (Q : D → Hs → Prop) (r : SRes) : Prop := match r with
  | .nx env S => P env S
  | .rt d S => Q d S
  | _ => False
section
variable {α β : Type} {P : α → Hs → Prop} {P' : EnvD → Hs → Prop} {Q : D → Hs → Prop} {S : Hs} {env : EnvD}
@[simp] theorem Ok_ok {a : α} : Ok P (.ok a S) = P a S := rfl
@[simp] theorem Ok_bad : Ok P .bad = False := rfl
@[simp] theorem Ok_bind {m : Res β} {k : β → Hs → Res α} : Ok P (m.bind k) = Ok (fun a S => Ok P (k a S)) m := by cases m <;> rfl
@[simp] theorem Wp_nx : Wp P' Q (.nx env S) = P' env S := rfl
@[simp] theorem Wp_rt {d : D} : Wp P' Q (.rt d S) = Q d S := rfl
@[simp] theorem Wp_bad : Wp P' Q .bad = False := rfl
@[simp] theorem Wp_toS {m : Res β} {k : β → Hs → SRes} : Wp P' Q (m.toS env k) = Ok (fun a S => Wp P' Q (k a S)) m := by cases m <;> rfl
theorem Ok.mono {R : α → Hs → Prop} {r : Res α} (h : Ok P r) (f : ∀ a S, P a S → R a S) : Ok R r := by
  cases r with
  | ok a S => exact f a S h
  | _ => exact h
theorem Wp.mono {R : EnvD → Hs → Prop} {Q2 : D → Hs → Prop} {r : SRes} (h : Wp P' Q r) (f : ∀ e S, P' e S → R e S) (g : ∀ d S, Q d S → Q2 d S) : Wp R Q2 r := by
  cases r with
  | nx e S => exact f e S h
  | rt d S => exact g d S h
  | _ => exact h
theorem Ok.eq {r : Res α} (h : Ok P r) : ∃ a S, r = .ok a S ∧ P a S := by
  cases r with
  | ok a S => exact ⟨a, S, rfl, h⟩
  | _ => exact h.elim
theorem Ok.of {r : Res α} {a : α} (e : r = .ok a S) (h : P a S) : Ok P r := by
  rw [e]
  exact h
@[simp] theorem Wp_seq {a b : SM} : Wp P' Q (mSeq a b env S) = Wp (fun e s => Wp P' Q (b e s)) Q (a env S) := by
  unfold mSeq
  cases a env S <;> rfl
@[simp] theorem Wp_set {i : Nat} {m : Ex} : Wp P' Q (mSet i m env S) = Ok (fun d s => P' (env.set i (some d)) s) (m env S) := Wp_toS
@[simp] theorem Wp_ret {m : Ex} : Wp P' Q (mRet m env S) = Ok Q (m env S) := Wp_toS
@[simp] theorem Wp_exp {m : Ex} : Wp P' Q (mExp m env S) = Ok (fun _ s => P' env s) (m env S) := Wp_toS
@[simp] theorem Wp_if {m : Ex} {a b : SM} : Wp P' Q (mIfS m a b env S) = Ok (fun d s => match d with
    | .bl k => if k then Wp P' Q (a env s) else Wp P' Q (b env s)
    | _ => False) (m env S) := by
  unfold mIfS
  rw [Wp_toS]
  cases m env S with
  | ok d s =>
    cases d <;> try rfl
    rename_i k
    cases k <;> rfl
  | _ => rfl
@[simp] theorem Wp_mNx : Wp P' Q (mNx env S) = P' env S := rfl
@[simp] theorem Wp_asg {b : Bnd} {m : Ex} : Wp P' Q (mAsg b m env S) = Ok (fun d s => match b d with
    | some us => P' (apD env us) s
    | none => False) (m env S) := by
  unfold mAsg
  rw [Wp_toS]
  cases m env S with
  | ok d s =>
    show Wp P' Q (match b d with
      | some us => .nx (apD env us) s
      | none => .bad) = _
    show _ = (match b d with
      | some us => P' (apD env us) s
      | none => False)
    cases b d <;> rfl
  | _ => rfl
end
section
variable {P : D → Hs → Prop} {P2 : List D → Hs → Prop} {S : Hs} {env : EnvD} {a b c : Ex} {ms : Exs}
@[simp] theorem o_mC {d : D} : Ok P (mC d env S) = P d S := rfl
@[simp] theorem o_op2 {g : D → D → Hs → Res D} : Ok P (mOp2 g a b env S) = Ok (fun x s => Ok (fun y s => Ok P (g x y s)) (b env s)) (a env S) := by
  unfold mOp2
  simp only [Ok_bind]
@[simp] theorem o_call {f : List D → Hs → Res D} : Ok P (mCall f ms env S) = Ok (fun ds s => Ok P (f ds s)) (ms env S) := Ok_bind
@[simp] theorem o_own {F : Fn} {dD : List D} : Ok P (mOwn F dD ms env S) = Ok (fun ds s => Ok P (F (ds ++ dD) s)) (ms env S) := Ok_bind
@[simp] theorem o_cons : Ok P2 (mCons a ms env S) = Ok (fun d s => Ok (fun ds s => P2 (d :: ds) s) (ms env s)) (a env S) := by
  unfold mCons
  simp only [Ok_bind, Ok_ok]
@[simp] theorem o_nil : Ok P2 (mNil env S) = P2 [] S := rfl
@[simp] theorem o_tup : Ok P (mTup ms env S) = Ok (fun ds s => ds.length ≤ line ∧ P (.tup ds) s) (ms env S) := by
  unfold mTup
  rw [Ok_bind]
  cases ms env S with
  | ok ds s =>
    show Ok P (if ds.length ≤ line then Res.ok (D.tup ds) s else .bad) = (ds.length ≤ line ∧ P (.tup ds) s)
    by_cases h : ds.length ≤ line
    · rw [if_pos h]; simp [h]
    · rw [if_neg h]; simp [h]
  | _ => rfl
@[simp] theorem o_lst : Ok P (mLst ms env S) = Ok (fun ds s => ds.length ≤ line ∧ P (.ref s.n) (s.new (.lst ds))) (ms env S) := by
  unfold mLst
  rw [Ok_bind]
  cases ms env S with
  | ok ds s =>
    show Ok P (if ds.length ≤ line then Res.ok (D.ref s.n) (s.new (.lst ds)) else .bad) = (ds.length ≤ line ∧ P (.ref s.n) (s.new (.lst ds)))
    by_cases h : ds.length ≤ line
    · rw [if_pos h]; simp [h]
    · rw [if_neg h]; simp [h]
  | _ => rfl
/-- what comes is a bool -/
def Bl (f : Bool → Prop) (d : D) : Prop := match d with
  | .bl k => f k
  | _ => False
@[simp] theorem Bl_bl {f : Bool → Prop} {k : Bool} : Bl f (.bl k) = f k := rfl
theorem o_asB {d : D} {s : Hs} {k : Bool → Res D} : Ok P (asB d k) = Bl (fun x => Ok P (k x)) d := by
  cases d <;> rfl
@[simp] theorem o_and : Ok P (mAnd a b env S) = Ok (fun d s => Bl (fun k => if k then Ok P (b env s) else P (.bl false) s) d) (a env S) := by
  unfold mAnd
  rw [Ok_bind]
  congr 1
  funext d s
  rw [o_asB (s := s)]
  congr 1
  funext k
  cases k <;> rfl
@[simp] theorem o_or : Ok P (mOr a b env S) = Ok (fun d s => Bl (fun k => if k then P (.bl true) s else Ok P (b env s)) d) (a env S) := by
  unfold mOr
  rw [Ok_bind]
  congr 1
  funext d s
  rw [o_asB (s := s)]
  congr 1
  funext k
  cases k <;> rfl
@[simp] theorem o_not : Ok P (mNot a env S) = Ok (fun d s => Bl (fun k => P (.bl (!k)) s) d) (a env S) := by
  unfold mNot
  rw [Ok_bind]
  congr 1
  funext d s
  rw [o_asB (s := s)]
  rfl
@[simp] theorem o_if : Ok P (mIf a b c env S) = Ok (fun d s => Bl (fun k => if k then Ok P (b env s) else Ok P (c env s)) d) (a env S) := by
  unfold mIf
  rw [Ok_bind]
  congr 1
  funext d s
  rw [o_asB (s := s)]
  congr 1
  funext k
  cases k <;> rfl
theorem o_mV {i : Nat} {d : D} (h : env[i]? = some (some d)) (hx : noX d = true) : Ok P (mV i env S) = P d S := by
  unfold mV
  rw [h]
  simp only [hx, if_true]
  rfl
@[simp] theorem o_chain {g g' : D → D → Hs → Res D} : Ok P (mChain g g' a b c env S) = Ok (fun x s => Ok (fun y s => Ok (fun z s => Bl (fun k => if k then Ok (fun w s => Ok P (g' y w s)) (c env s) else P (.bl false) s) z) (g x y s)) (b env s)) (a env S) := by
  unfold mChain
  simp only [Ok_bind]
  congr 1
  funext x s
  congr 1
  funext y s
  congr 1
  funext z s
  rw [o_asB (s := s)]
  congr 1
  funext k
  cases k
  · rfl
  · simp only [if_true, Ok_bind]
@[simp] theorem o_meth {Ty : String} {g : D → List D → Hs → Res D} : Ok P (mMeth Ty g a ms env S) = Ok (fun x s => tyD Ty x s = true ∧ Ok (fun xs s => Ok P (g x xs s)) (ms env s)) (a env S) := by
  unfold mMeth
  rw [Ok_bind]
  congr 1
  funext x s
  by_cases h : tyD Ty x s = true
  · rw [if_pos h, Ok_bind]; simp [h]
  · rw [if_neg h]; simp [h]
@[simp] theorem o_slice {l h : ExO} : Ok P (mSlice a l h env S) = Ok (fun x s => Ok (fun lo s => Ok (fun hi s => Ok P (sliceD x lo hi s)) (h env s)) (l env s)) (a env S) := by
  unfold mSlice
  simp only [Ok_bind]
@[simp] theorem o_noPart {P3 : Option Int → Hs → Prop} : Ok P3 (mNoPart env S) = P3 none S := rfl
/-- what comes is an int -/
def In (f : Int → Prop) (d : D) : Prop := match d with
  | .int k => f k
  | _ => False
@[simp] theorem In_int {f : Int → Prop} {k : Int} : In f (.int k) = f k := rfl
@[simp] theorem o_part {P3 : Option Int → Hs → Prop} : Ok P3 (mPart a env S) = Ok (fun d s => In (fun i => P3 (some i) s) d) (a env S) := by
  unfold mPart
  rw [Ok_bind]
  congr 1
  funext d s
  cases d <;> rfl
@[simp] theorem Wp_bl {P' : EnvD → Hs → Prop} {Q : D → Hs → Prop} {k : Bool} {e : EnvD} {s : Hs} {x y : SM} : (match (D.bl k) with
    | .bl k => if k then Wp P' Q (x e s) else Wp P' Q (y e s)
    | _ => False) = (if k then Wp P' Q (x e s) else Wp P' Q (y e s)) := rfl
end
/-! ### frames -/
/-- what was there stands as it did, but for q -/
structure Fr (q : Nat → Prop) (S S' : Hs) : Prop where
  at_ : ∀ n c, ¬ q n → S.get n = some c → S'.get n = some c
  n : S.n ≤ S'.n
abbrev No : Nat → Prop := fun _ => False
section
variable {q q' : Nat → Prop} {S S' S'' : Hs}
theorem Fr.refl : Fr q S S := ⟨fun _ _ _ h => h, Nat.le_refl _⟩
theorem Fr.trans (a : Fr q S S') (b : Fr q S' S'') : Fr q S S'' := ⟨fun n c h e => b.at_ n c h (a.at_ n c h e), Nat.le_trans a.n b.n⟩
theorem Fr.mono (a : Fr q S S') (h : ∀ n, q n → q' n) : Fr q' S S' := ⟨fun n c hn e => a.at_ n c (fun z => hn (h n z)) e, a.n⟩
theorem Fr.any (a : Fr No S S') : Fr q S S' := a.mono fun _ z => z.elim
theorem Fr.new {c : Cell} : Fr q S (S.new c) := ⟨fun n c' hn e => Hs.get_old e, Nat.le_succ _⟩
theorem Fr.put {p : Nat} {c0 c : Cell} (h : S.get p = some c0) (hq : q p) : Fr q S (S.put p c) := ⟨fun n c' hn e => by
  have ne : n ≠ p := fun z => hn (by subst z; exact hq)
  rw [Hs.get_put_ne (Hs.get_lt h) ne]
  exact e, Nat.le_refl _⟩
/-- what is new is written freely -/
theorem Fr.put_new {p : Nat} {c0 c : Cell} (a : Fr q S S') (h : S'.get p = some c0) (hp : S.n ≤ p) : Fr q S (S'.put p c) := ⟨fun n c' hn e => by
  have hl := Hs.get_lt e
  rw [Hs.get_put_ne (Hs.get_lt h) (by omega)]
  exact a.at_ n c' hn e, a.n⟩
end
/-! ### what a list comprehension makes -/
/-- di walks over items, whatever befalls within q -/
structure Itm (q : Nat → Prop) (S : Hs) (di : DI) (items : List D) : Prop where
  size : items.length ≤ di.size S
  next : ∀ i s, Fr q S s → di.next i s = some items[i]?
theorem lcL_ok {di : DI} {b : Bnd} {me : Ex} {env : EnvD} {q : Nat → Prop} {S1 : Hs} {items : List D} {R : Nat → D → Hs → Prop} (I : Itm q S1 di items) (hl : items.length ≤ line)
    (body : ∀ i d, items[i]? = some d → ∃ us, b d = some us ∧ ∀ s, Fr q S1 s → S1.n < s.n → Ok (fun y s' => Fr q s s' ∧ R i y s') (me (apD env us) s)) (hq : ¬ q S1.n)
    (stab : ∀ i y s s', Fr (fun m => q m ∨ m = S1.n) s s' → R i y s → R i y s') :
    ∀ (j i k : Nat) (s : Hs) (ys : List D), i + j = items.length → j < k → Fr q S1 s → S1.n < s.n → s.get S1.n = some (.lst ys) → ys.length = i → (∀ m y, ys[m]? = some y → R m y s) →
      Ok (fun d s' => d = .ref S1.n ∧ Fr q S1 s' ∧ ∃ zs, s'.get S1.n = some (.lst zs) ∧ zs.length = items.length ∧ ∀ m y, zs[m]? = some y → R m y s') (mLcL di b mTrue me env S1.n k i s)
  | 0, i, k + 1, s, ys, hij, hk, fr, hn, hg, hy, hR => by
    unfold mLcL
    rw [I.next i s fr, List.getElem?_eq_none (by omega)]
    exact ⟨rfl, fr, ys, hg, by omega, hR⟩
  | j + 1, i, k + 1, s, ys, hij, hk, fr, hn, hg, hy, hR => by
    have hi : i < items.length := by omega
    obtain ⟨us, hb, h⟩ := body i items[i] (List.getElem?_eq_getElem hi)
    obtain ⟨y, s', e, fr', r⟩ := (h s fr hn).eq
    have g' : s'.get S1.n = some (.lst ys) := fr'.at_ _ _ hq hg
    unfold mLcL
    rw [I.next i s fr, List.getElem?_eq_getElem hi]
    simp only [hb]
    show Ok _ (match me (apD env us) s with
      | .ok y S4 => match S4.get S1.n with
        | some (.lst acc) => if acc.length < line then mLcL di b mTrue me env S1.n k (i + 1) (S4.put S1.n (.lst (acc ++ [y]))) else .bad
        | _ => .bad
      | _ => .bad)
    rw [e]
    simp only [g']
    rw [if_pos (by omega)]
    have fr2 : Fr (fun m => q m ∨ m = S1.n) s' (s'.put S1.n (.lst (ys ++ [y]))) := Fr.put g' (.inr rfl)
    refine lcL_ok I hl body hq stab j (i + 1) k _ (ys ++ [y]) (by omega) (by omega) ((fr.trans fr').put_new g' (Nat.le_refl _)) (Nat.lt_of_lt_of_le hn fr'.n) (Hs.get_put g') (by simp [hy]) fun m z hm => ?_
    by_cases hm2 : m < ys.length
    · rw [List.getElem?_append_left hm2] at hm
      exact stab m z s' _ fr2 (stab m z s s' (fr'.mono fun _ z => .inl z) (hR m z hm))
    · rw [List.getElem?_append_right (by omega)] at hm
      have : m = i := by
        have hl2 := (List.getElem?_eq_some_iff.mp hm).1
        simp at hl2
        omega
      subst this
      rw [← hy] at hm
      simp at hm
      subst hm
      exact stab _ _ s' _ fr2 r
theorem o_lc {P : D → Hs → Prop} {mi : ExI} {b : Bnd} {me : Ex} {vs : List Nat} {env : EnvD} {S : Hs} (q : Nat → Prop) (items : List D) (R : Hs → Nat → D → Hs → Prop)
    (h : Ok (fun di S1 => Itm q S1 di items ∧ items.length ≤ line ∧ ¬ q S1.n ∧ (∀ i d, items[i]? = some d → ∃ us, b d = some us ∧ ∀ s, Fr q S1 s → S1.n < s.n → Ok (fun y s' => Fr q s s' ∧ R S1 i y s') (me (apD (wipeD env vs) us) s)) ∧
      (∀ i y s s', Fr (fun m => q m ∨ m = S1.n) s s' → R S1 i y s → R S1 i y s') ∧
      ∀ s' zs, Fr q S1 s' → S1.n < s'.n → s'.get S1.n = some (.lst zs) → zs.length = items.length → (∀ m y, zs[m]? = some y → R S1 m y s') → P (.ref S1.n) s') (mi env S)) : Ok P (mLc mi b mTrue me vs env S) := by
  unfold mLc
  rw [Ok_bind]
  refine h.mono fun di S1 ⟨I, hl, hq, body, stab, fin⟩ => ?_
  have hz := I.size
  exact (lcL_ok I hl body hq stab items.length 0 _ (S1.new (.lst [])) [] (by omega) (by omega) Fr.new (Nat.lt_succ_self _) (Hs.get_new _ _) rfl fun m y e => by simp at e).mono fun d s' ⟨e, fr, zs, g, l, r⟩ => by
    subst e
    exact fin s' zs fr (Hs.get_lt g) g l r
/-! ### for -/
theorem loop_ok {P : EnvD → Hs → Prop} {Q : D → Hs → Prop} {di : DI} {b : Bnd} {body : SM} {items : List D} (I : Nat → EnvD → Hs → Prop)
    (step : ∀ i e s d, I i e s → items[i]? = some d → di.next i s = some (some d) ∧ ∃ us, b d = some us ∧ Wp (I (i + 1)) Q (body (apD e us) s)) (stop : ∀ e s, I items.length e s → di.next items.length s = some none ∧ P e s) :
    ∀ (j i k : Nat) (e : EnvD) (s : Hs), i + j = items.length → j < k → I i e s → Wp P Q (mLoop di b body k i e s)
  | 0, i, k + 1, e, s, hij, hk, hI => by
    have hi : i = items.length := by omega
    subst hi
    obtain ⟨h1, h2⟩ := stop e s hI
    unfold mLoop
    rw [h1]
    exact h2
  | j + 1, i, k + 1, e, s, hij, hk, hI => by
    have hi : i < items.length := by omega
    obtain ⟨h1, us, h2, h3⟩ := step i e s _ hI (List.getElem?_eq_getElem hi)
    unfold mLoop
    rw [h1]
    simp only [h2]
    cases hb : body (apD e us) s with
    | nx e2 s2 =>
      rw [hb] at h3
      exact loop_ok I step stop j (i + 1) k e2 s2 (by omega) (by omega) h3
    | rt d s2 =>
      rw [hb] at h3
      exact h3
    | _ =>
      rw [hb] at h3
      exact h3.elim
theorem w_for {P : EnvD → Hs → Prop} {Q : D → Hs → Prop} {mi : ExI} {b : Bnd} {body : SM} {env : EnvD} {S : Hs} (items : List D) (I : Hs → Nat → EnvD → Hs → Prop)
    (h : Ok (fun di S1 => items.length ≤ di.size S1 ∧ I S1 0 env S1 ∧ (∀ i e s d, I S1 i e s → items[i]? = some d → di.next i s = some (some d) ∧ ∃ us, b d = some us ∧ Wp (I S1 (i + 1)) Q (body (apD e us) s)) ∧
      ∀ e s, I S1 items.length e s → di.next items.length s = some none ∧ P e s) (mi env S)) : Wp P Q (mFor mi b body env S) := by
  unfold mFor
  rw [Wp_toS]
  exact h.mono fun di S1 ⟨hz, h0, step, stop⟩ => loop_ok (I S1) step stop items.length 0 _ env S1 (by omega) (by omega) h0
/-! ### what is walked -/
section
variable {q : Nat → Prop} {S : Hs}
theorem listOf_get {n : Nat} {xs : List D} (h : S.get n = some (.lst xs)) : listOf S n = some xs := by
  unfold listOf
  rw [h]
theorem itm_lst {n : Nat} {xs : List D} (h : S.get n = some (.lst xs)) (hq : ¬ q n) : Itm q S (.lst n) xs := ⟨by
  show xs.length ≤ (match listOf S n with
    | some xs => xs.length
    | none => 0)
  rw [listOf_get h]
  exact Nat.le_refl _, fun i s fr => by
  show (match listOf s n with
    | some xs => some xs[i]?
    | none => none) = _
  rw [listOf_get (fr.at_ _ _ hq h)]⟩
theorem itm_tup {xs : List D} : Itm q S (.tup xs) xs := ⟨Nat.le_refl _, fun i s fr => rfl⟩
def rngL (lo : Int) (n : Nat) : List D := (List.range n).map fun i => .int (lo + (i : Nat))
theorem rngL_len {lo : Int} {n : Nat} : (rngL lo n).length = n := by simp [rngL]
theorem itm_rng {lo : Int} {n : Nat} : Itm q S (.rng lo n) (rngL lo n) := ⟨by rw [rngL_len]; exact Nat.le_refl _, fun i s fr => by
  show some (if i < n then some (D.int (lo + i)) else none) = _
  unfold rngL
  rw [List.getElem?_map]
  by_cases h : i < n
  · rw [if_pos h, List.getElem?_range h]; rfl
  · rw [if_neg h, List.getElem?_eq_none (by simp; omega)]; rfl⟩
def sgnL (z : Str) : List D := z.cps.toList.map fun c => .str ⟨#[c]⟩
theorem itm_str {z : Str} : Itm q S (.str z) (sgnL z) := ⟨by simp [sgnL, DI.size], fun i s fr => by
  show some (match z.cps[i]? with
    | some c => some (D.str ⟨#[c]⟩)
    | none => none) = _
  unfold sgnL
  rw [List.getElem?_map, Array.getElem?_toList]
  cases z.cps[i]? <;> rfl⟩
def zipL2 (xs ys : List D) : List D := (xs.zip ys).map fun p => .tup [p.1, p.2]
theorem pairAt_zip : ∀ (xs ys : List D) (i : Nat), pairAt xs ys i = (zipL2 xs ys)[i]?
  | [], ys, i => by simp [pairAt, zipL2]
  | x :: xs, [], i => by
    unfold pairAt zipL2
    cases (x :: xs)[i]? <;> simp
  | x :: xs, y :: ys, 0 => rfl
  | x :: xs, y :: ys, i + 1 => pairAt_zip xs ys i
theorem itm_zipT {xs ys : List D} : Itm q S (.zipT xs ys) (zipL2 xs ys) := ⟨by simp [zipL2, DI.size]; omega, fun i s fr => by
  show some (pairAt xs ys i) = _
  rw [pairAt_zip]⟩
theorem itm_zipL {n m : Nat} {xs ys : List D} (h : S.get n = some (.lst xs)) (h' : S.get m = some (.lst ys)) (hq : ¬ q n) (hq' : ¬ q m) : Itm q S (.zipL n m) (zipL2 xs ys) := ⟨by
  show (zipL2 xs ys).length ≤ (match listOf S n with
    | some xs => xs.length
    | none => 0)
  rw [listOf_get h]
  simp [zipL2]
  omega, fun i s fr => by
  show (match listOf s n, listOf s m with
    | some xs, some ys => some (pairAt xs ys i)
    | _, _ => none) = _
  rw [listOf_get (fr.at_ _ _ hq h), listOf_get (fr.at_ _ _ hq' h'), ← pairAt_zip]⟩
end
/-! ### def by def -/
/-- what a def's body ends as -/
theorem o_run {P : D → Hs → Prop} {p n : Nat} {body : SM} {ds : List D} {S : Hs} (hl : ds.length = p) (h : Wp (fun _ s => P .non s) P (body (startD n ds) S)) : Ok P (runB p n body ds S) := by
  unfold runB
  rw [if_pos hl]
  cases hb : body (startD n ds) S with
  | nx e s => rw [hb] at h; exact h
  | rt d s => rw [hb] at h; exact h
  | _ => rw [hb] at h; exact h.elim
theorem pur_raw {F : Fn} {ds : List D} {S : Hs} (hf : frees ds = false) : pur F ds S = F ds S := by
  unfold pur
  rw [hf]
  rfl
theorem pur_val {F : Fn} {ds : List D} {d : D} {S : Hs} (hf : frees ds = true) (hd : free d = true) (h : Ok (fun x _ => x = d) (F ds S0)) : pur F ds S = .ok d S := by
  obtain ⟨x, S1, e, hx⟩ := h.eq
  subst hx
  unfold pur
  rw [if_pos hf, e]
  cases x <;> first | (simp only [hd]; rfl) | cases hd
/-- a def that leaves what was there and answers a plain value -/
theorem pur_any {F : Fn} {ds : List D} {d : D} {S : Hs} (hd : free d = true) (h : ∀ S', (frees ds = false → S' = S) → Ok (fun x s => x = d ∧ Fr No S' s) (F ds S')) : Ok (fun x s => x = d ∧ Fr No S s) (pur F ds S) := by
  cases hf : frees ds with
  | true => exact Ok.of (pur_val hf hd ((h S0 (fun z => nomatch hf.symm.trans z)).mono fun _ _ z => z.1)) ⟨rfl, Fr.refl⟩
  | false =>
    rw [pur_raw hf]
    exact h S fun _ => rfl
end MR

namespace K57
open PySem PySem.Spec L2 MR
open PyProof.Rows (envOfC)
def top (i : Nat) : Stmt := PySem.Challenge.pw_withinbooks_k57_whole_expressions_put_in.main.body.getD i (.Pass ⟨0, 0, 0, 0⟩)
abbrev s_is_spelt : Stmt := top 5
abbrev s_is_written_as : Stmt := top 8
abbrev s_is_expression : Stmt := top 9
abbrev s_check_expression : Stmt := top 10
abbrev s_parts_of : Stmt := top 11
abbrev s_jobs_from : Stmt := top 12
abbrev s_jobs_in : Stmt := top 13
abbrev s_nesting_from : Stmt := top 14
abbrev s_nesting : Stmt := top 15
abbrev s_is_open : Stmt := top 17
abbrev s_copied : Stmt := top 18
abbrev s_filled : Stmt := top 19
abbrev s_put_in : Stmt := top 20
abbrev s__law_purse : Stmt := top 22
abbrev s__law_mixed : Stmt := top 23
abbrev s__law_draw : Stmt := top 24
abbrev s__law_purses : Stmt := top 25
abbrev s__law_one_of : Stmt := top 26
abbrev s__law_same : Stmt := top 27
abbrev s__law_exact : Stmt := top 28
abbrev s__law_word : Stmt := top 29
abbrev s__law_words : Stmt := top 30
abbrev s__law_expression : Stmt := top 31
abbrev s__law_placed : Stmt := top 32
abbrev s__law_put : Stmt := top 33
abbrev s__law_leaves : Stmt := top 34
abbrev s__law_nest : Stmt := top 35
abbrev s__law_bent : Stmt := top 36
abbrev s__law_spoilt : Stmt := top 37
abbrev s__law_frame_right : Stmt := top 38
abbrev s_law : Stmt := top 39
abbrev Tt (w : World) (K : PySem.W.Frag) (ca : Str → Addr) : Ct := ⟨K, ca, [], w⟩
def kn : List Str := ["PurseError", "InvalidExpression"]
def cl : List Str := ["PurseError", "InvalidExpression"]
def isa : Isa := isaT "PurseError"
def tys : List String := ["ValueError"]
/-- what the top of the program has written -/
structure Bas (P : Program) (K : PySem.W.Frag) (mg : Str → Option Value) (ca : Str → Addr) (fa : Nat → Addr) (fd : Nat → FuncData) : Prop where
  n_ValueError : mg "ValueError" = none
  n_all : mg "all" = none
  n_bool : mg "bool" = none
  n_dict : mg "dict" = none
  n_int : mg "int" = none
  n_isinstance : mg "isinstance" = none
  n_len : mg "len" = none
  n_list : mg "list" = none
  n_max : mg "max" = none
  n_min : mg "min" = none
  n_range : mg "range" = none
  n_repr : mg "repr" = none
  n_set : mg "set" = none
  n_sorted : mg "sorted" = none
  n_str : mg "str" = none
  n_sum : mg "sum" = none
  n_tuple : mg "tuple" = none
  n_zip : mg "zip" = none
  c_PurseError : mg "PurseError" = some (.ref (ca "PurseError"))
  c_InvalidExpression : mg "InvalidExpression" = some (.ref (ca "InvalidExpression"))
  e_InvalidExpression : ∃ fI, PySem.ErX.ErrTxt P K mg "InvalidExpression" (ca "InvalidExpression") fI
  ek : ErrK K ca isa kn cl
  b_PurseError : PySem.ErY.BareTxt K mg "PurseError" (ca "PurseError")
  e2 : ∀ c ∈ kn, ∀ n ∈ tys, PySem.W.kitOne K (.ref (ca c)) (.type n) = some true
  sysm : ∃ o, K.lookup sysModules = some o
  k_LETTERS : ∃ t, mg "LETTERS" = some (.str "abcdefghijklmnopqrstuvwxyz" t)
  k_PLACE : ∃ (q : Addr) (o : Obj) (its : Array Value) (n : Nat), mg "PLACE" = some (.ref q) ∧ K.lookup q = some o ∧ o.cls = .type "tuple" ∧ o.data = .seq its n ∧ its.size ≤ sizeLine ∧ Vals ((["place"] : List Str).map V.str) its.toList
  d_is_spelt : FunD K "is_spelt" "is_spelt" (defArgs s_is_spelt) (defBody s_is_spelt) (defScope s_is_spelt) [] [] (fa 0) (fd 0)
  g_is_spelt : mg "is_spelt" = some (.ref (fa 0))
  d_is_written_as : FunD K "is_written_as" "is_written_as" (defArgs s_is_written_as) (defBody s_is_written_as) (defScope s_is_written_as) [] [] (fa 1) (fd 1)
  g_is_written_as : mg "is_written_as" = some (.ref (fa 1))
  d_is_expression : FunD K "is_expression" "is_expression" (defArgs s_is_expression) (defBody s_is_expression) (defScope s_is_expression) [] [] (fa 2) (fd 2)
  g_is_expression : mg "is_expression" = some (.ref (fa 2))
  d_check_expression : FunD K "check_expression" "check_expression" (defArgs s_check_expression) (defBody s_check_expression) (defScope s_check_expression) [] [] (fa 3) (fd 3)
  g_check_expression : mg "check_expression" = some (.ref (fa 3))
  d_parts_of : FunD K "parts_of" "parts_of" (defArgs s_parts_of) (defBody s_parts_of) (defScope s_parts_of) [] [] (fa 4) (fd 4)
  g_parts_of : mg "parts_of" = some (.ref (fa 4))
  d_jobs_from : FunD K "jobs_from" "jobs_from" (defArgs s_jobs_from) (defBody s_jobs_from) (defScope s_jobs_from) [] [] (fa 5) (fd 5)
  g_jobs_from : mg "jobs_from" = some (.ref (fa 5))
  d_jobs_in : FunD K "jobs_in" "jobs_in" (defArgs s_jobs_in) (defBody s_jobs_in) (defScope s_jobs_in) [] [] (fa 6) (fd 6)
  g_jobs_in : mg "jobs_in" = some (.ref (fa 6))
  d_nesting_from : FunD K "nesting_from" "nesting_from" (defArgs s_nesting_from) (defBody s_nesting_from) (defScope s_nesting_from) [] [] (fa 7) (fd 7)
  g_nesting_from : mg "nesting_from" = some (.ref (fa 7))
  d_nesting : FunD K "nesting" "nesting" (defArgs s_nesting) (defBody s_nesting) (defScope s_nesting) [] [] (fa 8) (fd 8)
  g_nesting : mg "nesting" = some (.ref (fa 8))
  d_is_open : FunD K "is_open" "is_open" (defArgs s_is_open) (defBody s_is_open) (defScope s_is_open) [] [] (fa 9) (fd 9)
  g_is_open : mg "is_open" = some (.ref (fa 9))
  d_copied : FunD K "copied" "copied" (defArgs s_copied) (defBody s_copied) (defScope s_copied) [] [] (fa 10) (fd 10)
  g_copied : mg "copied" = some (.ref (fa 10))
  d_filled : FunD K "filled" "filled" (defArgs s_filled) (defBody s_filled) (defScope s_filled) [] [] (fa 11) (fd 11)
  g_filled : mg "filled" = some (.ref (fa 11))
  d_put_in : FunD K "put_in" "put_in" (defArgs s_put_in) (defBody s_put_in) (defScope s_put_in) [] [] (fa 12) (fd 12)
  g_put_in : mg "put_in" = some (.ref (fa 12))
  d__law_purse : FunD K "_law_purse" "_law_purse" (defArgs s__law_purse) (defBody s__law_purse) (defScope s__law_purse) [] [] (fa 13) (fd 13)
  g__law_purse : mg "_law_purse" = some (.ref (fa 13))
  d__law_mixed : FunD K "_law_mixed" "_law_mixed" (defArgs s__law_mixed) (defBody s__law_mixed) (defScope s__law_mixed) [] [] (fa 14) (fd 14)
  g__law_mixed : mg "_law_mixed" = some (.ref (fa 14))
  d__law_draw : FunD K "_law_draw" "_law_draw" (defArgs s__law_draw) (defBody s__law_draw) (defScope s__law_draw) [] [] (fa 15) (fd 15)
  g__law_draw : mg "_law_draw" = some (.ref (fa 15))
  d__law_purses : FunD K "_law_purses" "_law_purses" (defArgs s__law_purses) (defBody s__law_purses) (defScope s__law_purses) [] [] (fa 16) (fd 16)
  g__law_purses : mg "_law_purses" = some (.ref (fa 16))
  d__law_one_of : FunD K "_law_one_of" "_law_one_of" (defArgs s__law_one_of) (defBody s__law_one_of) (defScope s__law_one_of) [] [] (fa 17) (fd 17)
  g__law_one_of : mg "_law_one_of" = some (.ref (fa 17))
  d__law_same : FunD K "_law_same" "_law_same" (defArgs s__law_same) (defBody s__law_same) (defScope s__law_same) [] [] (fa 18) (fd 18)
  g__law_same : mg "_law_same" = some (.ref (fa 18))
  d__law_exact : FunD K "_law_exact" "_law_exact" (defArgs s__law_exact) (defBody s__law_exact) (defScope s__law_exact) [] [] (fa 19) (fd 19)
  g__law_exact : mg "_law_exact" = some (.ref (fa 19))
  d__law_word : FunD K "_law_word" "_law_word" (defArgs s__law_word) (defBody s__law_word) (defScope s__law_word) [] [] (fa 20) (fd 20)
  g__law_word : mg "_law_word" = some (.ref (fa 20))
  d__law_words : FunD K "_law_words" "_law_words" (defArgs s__law_words) (defBody s__law_words) (defScope s__law_words) [] [] (fa 21) (fd 21)
  g__law_words : mg "_law_words" = some (.ref (fa 21))
  d__law_expression : FunD K "_law_expression" "_law_expression" (defArgs s__law_expression) (defBody s__law_expression) (defScope s__law_expression) [] [] (fa 22) (fd 22)
  g__law_expression : mg "_law_expression" = some (.ref (fa 22))
  d__law_placed : FunD K "_law_placed" "_law_placed" (defArgs s__law_placed) (defBody s__law_placed) (defScope s__law_placed) [] [] (fa 23) (fd 23)
  g__law_placed : mg "_law_placed" = some (.ref (fa 23))
  d__law_put : FunD K "_law_put" "_law_put" (defArgs s__law_put) (defBody s__law_put) (defScope s__law_put) [] [] (fa 24) (fd 24)
  g__law_put : mg "_law_put" = some (.ref (fa 24))
  d__law_leaves : FunD K "_law_leaves" "_law_leaves" (defArgs s__law_leaves) (defBody s__law_leaves) (defScope s__law_leaves) [] [] (fa 25) (fd 25)
  g__law_leaves : mg "_law_leaves" = some (.ref (fa 25))
  d__law_nest : FunD K "_law_nest" "_law_nest" (defArgs s__law_nest) (defBody s__law_nest) (defScope s__law_nest) [] [] (fa 26) (fd 26)
  g__law_nest : mg "_law_nest" = some (.ref (fa 26))
  d__law_bent : FunD K "_law_bent" "_law_bent" (defArgs s__law_bent) (defBody s__law_bent) (defScope s__law_bent) [] [] (fa 27) (fd 27)
  g__law_bent : mg "_law_bent" = some (.ref (fa 27))
  d__law_spoilt : FunD K "_law_spoilt" "_law_spoilt" (defArgs s__law_spoilt) (defBody s__law_spoilt) (defScope s__law_spoilt) [] [] (fa 28) (fd 28)
  g__law_spoilt : mg "_law_spoilt" = some (.ref (fa 28))
  d__law_frame_right : FunD K "_law_frame_right" "_law_frame_right" (defArgs s__law_frame_right) (defBody s__law_frame_right) (defScope s__law_frame_right) [] [] (fa 29) (fd 29)
  g__law_frame_right : mg "_law_frame_right" = some (.ref (fa 29))
  d_law : FunD K "law" "law" (defArgs s_law) (defBody s_law) (defScope s_law) [] [] (fa 30) (fd 30)
  g_law : mg "law" = some (.ref (fa 30))
end K57

namespace K57
open PySem PySem.Spec L2 MR
open PyProof.Rows (envOfC)
section
variable {P : Program} {w : World} {K : PySem.W.Frag} {mg : Str → Option Value} {base : Heap} {ca : Str → Addr} {fa : Nat → Addr} {fd : Nat → FuncData}
/-! ### is_spelt -/
theorem sc_is_spelt : FnScope ["value", "letter"] ["value"] (defScope s_is_spelt) := ⟨rfl, rfl, rfl, by decide +kernel, rfl, by decide +kernel, by decide +kernel⟩
def FB_is_spelt : SM := mSeq (mIfS (mOr (mNot (mCall isiF (mCons (mV 0) (mCons (mC (.ty "str")) (mNil))))) (mNot (mChain ltD ltD (mC (.int 0)) (mCall lenF (mCons (mV 0) (mNil))) (mC (.int 9))))) (mRet (mC (.bl false))) (mNx)) (mSeq (mFor (mIter (mV 0)) (bName 1) (mIfS (mOp2 notinD (mV 1) (mC (.str "abcdefghijklmnopqrstuvwxyz"))) (mRet (mC (.bl false))) (mNx))) (mRet (mC (.bl true))))
def F_is_spelt : Fn := runB 1 2 FB_is_spelt
theorem bi_is_spelt (B : Bas P K mg ca fa fd) : Binds K (fd 0) ["value"] [] := B.d_is_spelt.bindsN (ps := ["value"]) fun _ _ _ _ _ _ us hl => match us, hl with | [_], _ => rfl
theorem ok_is_spelt (B : Bas P K mg ca fa fd) : Def P w K mg base (Tt w K ca) 2 "is_spelt" (fa 0) (fd 0) ["value"] F_is_spelt := by
  obtain ⟨t_LETTERS, h_LETTERS⟩ := B.k_LETTERS
  exact ⟨fn_ok (k := 1) (Tt w K ca) B.d_is_spelt sc_is_spelt fun cdv A outer s H E hr tk pw => (s_cons (s_if (PW.pt (w_or (t_not (t_val (r_isi B.n_isinstance (a_cons (r_var 0) (a_cons (r_ty rfl B.n_str (by decide +kernel) (by decide +kernel) (by decide +kernel)) a_nil))))) (w_one (t_not (t_ltlt r_int (r_len B.n_len (a_cons (r_var 0) a_nil)) r_int))))) (s_one (s_ret r_bl)) s_nil) (s_cons (s_for pw rfl (i_any (r_var 0)) (pg_name (i := 1) sc_is_spelt.nd rfl (by first | exact Or.inl rfl | exact Or.inr rfl)) tg_name (s_one (s_if (t_notin (deepy_of hr) (r_var 1) (r_gStr rfl h_LETTERS (by decide +kernel))) (s_one (s_ret r_bl)) s_nil))) (s_one (s_ret r_bl)))), B.g_is_spelt, B.d_is_spelt.kp⟩
/-! ### is_written_as -/
theorem sc_is_written_as : FnScope ["value", "places", "one"] ["value", "places"] (defScope s_is_written_as) := ⟨rfl, rfl, rfl, by decide +kernel, rfl, by decide +kernel, by decide +kernel⟩
def FB_is_written_as (F : Fn) : SM := mSeq (mIfS (mOr (mOwn (pur F_is_spelt) [] (mCons (mV 0) (mNil))) (mAnd (mV 1) (mAnd (mCall isiF (mCons (mV 0) (mCons (mC (.ty "tuple")) (mNil)))) (mOp2 eqD (mV 0) (mC (.tup ((["place"] : List Str).map D.str))))))) (mRet (mC (.bl true))) (mNx)) (mSeq (mIfS (mOr (mNot (mCall isiF (mCons (mV 0) (mCons (mC (.ty "tuple")) (mNil))))) (mOr (mOp2 neD (mCall lenF (mCons (mV 0) (mNil))) (mC (.int 2))) (mNot (mCall isiF (mCons (mOp2 ixD (mV 0) (mC (.int 0))) (mCons (mC (.ty "str")) (mNil))))))) (mRet (mC (.bl false))) (mNx)) (mSeq (mIfS (mOp2 eqD (mOp2 ixD (mV 0) (mC (.int 0))) (mC (.str "again"))) (mRet (mOwn (pur F) [] (mCons (mOp2 ixD (mV 0) (mC (.int 1))) (mCons (mV 1) (mNil))))) (mNx)) (mRet (mAnd (mOp2 eqD (mOp2 ixD (mV 0) (mC (.int 0))) (mC (.str "row"))) (mAnd (mCall isiF (mCons (mOp2 ixD (mV 0) (mC (.int 1))) (mCons (mC (.ty "list")) (mNil)))) (mCall allF (mCons (mLc (mIter (mOp2 ixD (mV 0) (mC (.int 1)))) (bName 2) (mTrue) (mOwn (pur F) [] (mCons (mV 2) (mCons (mV 1) (mNil)))) [2]) (mNil))))))))
def F_is_written_as : Nat → Fn
  | 0 => fun _ _ => .bad
  | n + 1 => runB 2 3 (FB_is_written_as (F_is_written_as n))
theorem bi_is_written_as (B : Bas P K mg ca fa fd) : Binds K (fd 1) ["value", "places"] [] := B.d_is_written_as.bindsN (ps := ["value", "places"]) fun _ _ _ _ _ _ us hl => match us, hl with | [_, _], _ => rfl
theorem ok_is_written_as (B : Bas P K mg ca fa fd) : ∀ n : Nat, Def P w K mg base (Tt w K ca) (n + 3) "is_written_as" (fa 1) (fd 1) ["value", "places"] (F_is_written_as n)
  | 0 => ⟨B.d_is_written_as.ok (k := 2) sc_is_written_as (fun _ _ _ _ h => (spM_bad h).elim) (fun _ _ _ _ _ _ _ _ _ h => (spM_bad h).elim), B.g_is_written_as, B.d_is_written_as.kp⟩
  | n + 1 => by
    have IH := ok_is_written_as B n
    obtain ⟨q_PLACE, o_PLACE, i_PLACE, n_PLACE, h_PLACE⟩ := B.k_PLACE
    exact ⟨fn_ok (k := n + 3) (Tt w K ca) B.d_is_written_as sc_is_written_as fun cdv A outer s H E hr tk pw => (s_cons (s_if (PW.pt (w_or (t_val (r_call (pur_def (ok_is_spelt B)) (hr.mono (by omega)) (bi_is_spelt B) tk (a_cons (r_var 0) a_nil))) (w_one (PW.pt (w_and (t_val (r_var 1)) (w_and (t_val (r_isi B.n_isinstance (a_cons (r_var 0) (a_cons (r_ty rfl B.n_tuple (by decide +kernel) (by decide +kernel) (by decide +kernel)) a_nil)))) (w_one (t_eq (deepy_of hr) (r_var 0) (r_gTup (zs := (["place"] : List Str)) rfl h_PLACE.1 h_PLACE.2.1 h_PLACE.2.2.1 h_PLACE.2.2.2.1 h_PLACE.2.2.2.2.1 h_PLACE.2.2.2.2.2))))))))) (s_one (s_ret r_bl)) s_nil) (s_cons (s_if (PW.pt (w_or (t_not (t_val (r_isi B.n_isinstance (a_cons (r_var 0) (a_cons (r_ty rfl B.n_tuple (by decide +kernel) (by decide +kernel) (by decide +kernel)) a_nil))))) (w_or (t_ne (deepy_of hr) (r_len B.n_len (a_cons (r_var 0) a_nil)) r_int) (w_one (t_not (t_val (r_isi B.n_isinstance (a_cons (r_ix (r_var 0) r_int) (a_cons (r_ty rfl B.n_str (by decide +kernel) (by decide +kernel) (by decide +kernel)) a_nil))))))))) (s_one (s_ret r_bl)) s_nil) (s_cons (s_if (t_eq (deepy_of hr) (r_ix (r_var 0) r_int) r_str) (s_one (s_ret (r_call (pur_def IH) (hr.mono (by omega)) (bi_is_written_as B) tk (a_cons (r_ix (r_var 0) r_int) (a_cons (r_var 1) a_nil))))) s_nil) (s_one (s_ret (r_and (r_eq (deepy_of hr) (r_ix (r_var 0) r_int) r_str) (r_and (r_isi B.n_isinstance (a_cons (r_ix (r_var 0) r_int) (a_cons (r_ty rfl B.n_list (by decide +kernel) (by decide +kernel) (by decide +kernel)) a_nil))) (r_one (r_all rfl B.n_all (a_cons (r_lc (own := [("one", 2)]) rfl sc_is_written_as.nd (show BlkOk ["value", "places", "one"] (defScope s_is_written_as) _ [("one", 2)] from ⟨rfl, by decide +kernel, by decide +kernel, by decide +kernel, by decide +kernel⟩) (i_any (r_ix (r_var 0) r_int)) tg_name (bName_in (by decide)) (fun _ _ _ _ _ => (pg_name (i := 2) sc_is_written_as.nd rfl (by first | exact Or.inl rfl | exact Or.inr rfl))) (fun _ _ _ _ _ => ts_nil) (fun _ _ _ _ _ => (r_call (pur_def IH) (hr.mono (by omega)) (bi_is_written_as B) takes_none5 (a_cons (r_var 2) (a_cons (r_var 1) a_nil))))) a_nil)))))))))), B.g_is_written_as, B.d_is_written_as.kp⟩
/-! ### is_expression -/
theorem sc_is_expression : FnScope ["value"] ["value"] (defScope s_is_expression) := ⟨rfl, rfl, rfl, by decide +kernel, rfl, by decide +kernel, by decide +kernel⟩
def FB_is_expression : SM := mRet (mOwn (pur (F_is_written_as 16)) [] (mCons (mV 0) (mCons (mC (.bl false)) (mNil))))
def F_is_expression : Fn := runB 1 1 FB_is_expression
theorem bi_is_expression (B : Bas P K mg ca fa fd) : Binds K (fd 2) ["value"] [] := B.d_is_expression.bindsN (ps := ["value"]) fun _ _ _ _ _ _ us hl => match us, hl with | [_], _ => rfl
theorem ok_is_expression (B : Bas P K mg ca fa fd) : Def P w K mg base (Tt w K ca) 20 "is_expression" (fa 2) (fd 2) ["value"] F_is_expression := by
  exact ⟨fn_ok (k := 19) (Tt w K ca) B.d_is_expression sc_is_expression fun cdv A outer s H E hr tk pw => (s_one (s_ret (r_call (pur_def (ok_is_written_as B 16)) (hr.mono (by decide)) (bi_is_written_as B) tk (a_cons (r_var 0) (a_cons r_bl a_nil))))), B.g_is_expression, B.d_is_expression.kp⟩
/-! ### check_expression -/
theorem sc_check_expression : FnScope ["value", "places"] ["value", "places"] (defScope s_check_expression) := ⟨rfl, rfl, rfl, by decide +kernel, rfl, by decide +kernel, by decide +kernel⟩
def FB_check_expression : SM := mIfS (mNot (mOwn (pur (F_is_written_as 16)) [] (mCons (mV 0) (mCons (mV 1) (mNil))))) (mRaise "InvalidExpression" (mV 0)) (mNx)
def F_check_expression : Fn := runB 2 2 FB_check_expression
theorem bi_check_expression (B : Bas P K mg ca fa fd) : Binds K (fd 3) ["value", "places"] [] := B.d_check_expression.bindsN (ps := ["value", "places"]) fun _ _ _ _ _ _ us hl => match us, hl with | [_, _], _ => rfl
theorem ok_check_expression (B : Bas P K mg ca fa fd) : Def P w K mg base (Tt w K ca) 20 "check_expression" (fa 3) (fd 3) ["value", "places"] F_check_expression := by
  obtain ⟨fI_InvalidExpression, e_InvalidExpression⟩ := B.e_InvalidExpression
  exact ⟨fn_ok (k := 19) (Tt w K ca) B.d_check_expression sc_check_expression fun cdv A outer s H E hr tk pw => (s_one (s_if (t_not (t_val (r_call (pur_def (ok_is_written_as B 16)) (hr.mono (by decide)) (bi_is_written_as B) tk (a_cons (r_var 0) (a_cons (r_var 1) a_nil))))) (s_one (s_raise rfl e_InvalidExpression rfl (hr.mono (by decide) : Room 1 _) tk (r_var 0) rfl (by decide +kernel))) s_nil)), B.g_check_expression, B.d_check_expression.kp⟩
/-! ### parts_of -/
theorem sc_parts_of : FnScope ["expression"] ["expression"] (defScope s_parts_of) := ⟨rfl, rfl, rfl, by decide +kernel, rfl, by decide +kernel, by decide +kernel⟩
def FB_parts_of : SM := mSeq (mIfS (mOr (mOwn (pur F_is_spelt) [] (mCons (mV 0) (mNil))) (mOp2 eqD (mV 0) (mC (.tup ((["place"] : List Str).map D.str))))) (mRet (mLst (mNil))) (mNx)) (mRet (mIf (mOp2 eqD (mOp2 ixD (mV 0) (mC (.int 0))) (mC (.str "row"))) (mOp2 ixD (mV 0) (mC (.int 1))) (mLst (mCons (mOp2 ixD (mV 0) (mC (.int 1))) (mNil)))))
def F_parts_of : Fn := runB 1 1 FB_parts_of
theorem bi_parts_of (B : Bas P K mg ca fa fd) : Binds K (fd 4) ["expression"] [] := B.d_parts_of.bindsN (ps := ["expression"]) fun _ _ _ _ _ _ us hl => match us, hl with | [_], _ => rfl
theorem ok_parts_of (B : Bas P K mg ca fa fd) : Def P w K mg base (Tt w K ca) 3 "parts_of" (fa 4) (fd 4) ["expression"] F_parts_of := by
  obtain ⟨q_PLACE, o_PLACE, i_PLACE, n_PLACE, h_PLACE⟩ := B.k_PLACE
  exact ⟨fn_ok (k := 2) (Tt w K ca) B.d_parts_of sc_parts_of fun cdv A outer s H E hr tk pw => (s_cons (s_if (PW.pt (w_or (t_val (r_call (pur_def (ok_is_spelt B)) (hr.mono (by decide)) (bi_is_spelt B) tk (a_cons (r_var 0) a_nil))) (w_one (t_eq (deepy_of hr) (r_var 0) (r_gTup (zs := (["place"] : List Str)) rfl h_PLACE.1 h_PLACE.2.1 h_PLACE.2.2.1 h_PLACE.2.2.2.1 h_PLACE.2.2.2.2.1 h_PLACE.2.2.2.2.2))))) (s_one (s_ret (r_lst a_nil))) s_nil) (s_one (s_ret (r_if (t_eq (deepy_of hr) (r_ix (r_var 0) r_int) r_str) (r_ix (r_var 0) r_int) (r_lst (a_cons (r_ix (r_var 0) r_int) a_nil)))))), B.g_parts_of, B.d_parts_of.kp⟩
/-! ### jobs_from -/
theorem sc_jobs_from : FnScope ["expression", "part", "job"] ["expression"] (defScope s_jobs_from) := ⟨rfl, rfl, rfl, by decide +kernel, rfl, by decide +kernel, by decide +kernel⟩
def FB_jobs_from (F : Fn) : SM := mSeq (mIfS (mOwn (pur F_is_spelt) [] (mCons (mV 0) (mNil))) (mRet (mLst (mCons (mV 0) (mNil)))) (mNx)) (mRet (mCall sortF (mCons (mComp (.set []) (mIter (mOwn (pur F_parts_of) [] (mCons (mV 0) (mNil)))) (bName 1) (mTrue) (mIn (mIter (mOwn (pur F) [] (mCons (mV 1) (mNil)))) (bName 2) (mTrue) (mAdd (mV 2)) [2]) [1, 2]) (mNil))))
def F_jobs_from : Nat → Fn
  | 0 => fun _ _ => .bad
  | n + 1 => runB 1 3 (FB_jobs_from (F_jobs_from n))
theorem bi_jobs_from (B : Bas P K mg ca fa fd) : Binds K (fd 5) ["expression"] [] := B.d_jobs_from.bindsN (ps := ["expression"]) fun _ _ _ _ _ _ us hl => match us, hl with | [_], _ => rfl
theorem ok_jobs_from (B : Bas P K mg ca fa fd) : ∀ n : Nat, Def P w K mg base (Tt w K ca) (n + 4) "jobs_from" (fa 5) (fd 5) ["expression"] (F_jobs_from n)
  | 0 => ⟨B.d_jobs_from.ok (k := 3) sc_jobs_from (fun _ _ _ _ h => (spM_bad h).elim) (fun _ _ _ _ _ _ _ _ _ h => (spM_bad h).elim), B.g_jobs_from, B.d_jobs_from.kp⟩
  | n + 1 => by
    have IH := ok_jobs_from B n
    exact ⟨fn_ok (k := n + 4) (Tt w K ca) B.d_jobs_from sc_jobs_from fun cdv A outer s H E hr tk pw => (s_cons (s_if (t_val (r_call (pur_def (ok_is_spelt B)) (hr.mono (by omega)) (bi_is_spelt B) tk (a_cons (r_var 0) a_nil))) (s_one (s_ret (r_lst (a_cons (r_var 0) a_nil)))) s_nil) (s_one (s_ret (r_sorted rfl (deepy_of hr) B.n_sorted (a_cons (r_sc2 (own := [("part", 1), ("job", 2)]) (vs1 := [2]) rfl sc_jobs_from.nd (show BlkOk ["expression", "part", "job"] (defScope s_jobs_from) _ [("part", 1), ("job", 2)] from ⟨rfl, by decide +kernel, by decide +kernel, by decide +kernel, by decide +kernel⟩) (by decide) (i_any (r_call (pur_def (ok_parts_of B)) (hr.mono (by omega)) (bi_parts_of B) tk (a_cons (r_var 0) a_nil))) tg_name (bName_in (by decide)) tg_name (bName_in (by decide)) (fun _ _ _ _ _ => (pg_name (i := 1) sc_jobs_from.nd rfl (by first | exact Or.inl rfl | exact Or.inr rfl))) (fun _ _ _ _ _ => ts_nil) (fun _ _ _ _ _ => (i_any (r_call (pur_def IH) (hr.mono (by omega)) (bi_jobs_from B) takes_none5 (a_cons (r_var 1) a_nil)))) (fun _ _ _ _ _ => (pg_name (i := 2) sc_jobs_from.nd rfl (by first | exact Or.inl rfl | exact Or.inr rfl))) (fun _ _ _ _ _ => ts_nil) (fun _ _ _ _ _ => (r_var 2))) a_nil))))), B.g_jobs_from, B.d_jobs_from.kp⟩
/-! ### jobs_in -/
theorem sc_jobs_in : FnScope ["expression"] ["expression"] (defScope s_jobs_in) := ⟨rfl, rfl, rfl, by decide +kernel, rfl, by decide +kernel, by decide +kernel⟩
def FB_jobs_in : SM := mSeq (mExp (mOwn (pur F_check_expression) [] (mCons (mV 0) (mCons (mC (.bl true)) (mNil))))) (mRet (mOwn (pur (F_jobs_from 16)) [] (mCons (mV 0) (mNil))))
def F_jobs_in : Fn := runB 1 1 FB_jobs_in
theorem bi_jobs_in (B : Bas P K mg ca fa fd) : Binds K (fd 6) ["expression"] [] := B.d_jobs_in.bindsN (ps := ["expression"]) fun _ _ _ _ _ _ us hl => match us, hl with | [_], _ => rfl
theorem ok_jobs_in (B : Bas P K mg ca fa fd) : Def P w K mg base (Tt w K ca) 21 "jobs_in" (fa 6) (fd 6) ["expression"] F_jobs_in := by
  exact ⟨fn_ok (k := 20) (Tt w K ca) B.d_jobs_in sc_jobs_in fun cdv A outer s H E hr tk pw => (s_cons (s_exp (r_call (pur_def (ok_check_expression B)) (hr.mono (by decide)) (bi_check_expression B) tk (a_cons (r_var 0) (a_cons r_bl a_nil)))) (s_one (s_ret (r_call (pur_def (ok_jobs_from B 16)) (hr.mono (by decide)) (bi_jobs_from B) tk (a_cons (r_var 0) a_nil))))), B.g_jobs_in, B.d_jobs_in.kp⟩
/-! ### nesting_from -/
theorem sc_nesting_from : FnScope ["expression", "inner", "part"] ["expression"] (defScope s_nesting_from) := ⟨rfl, rfl, rfl, by decide +kernel, rfl, by decide +kernel, by decide +kernel⟩
def FB_nesting_from (F : Fn) : SM := mSeq (mSet 1 (mCallK maxDF (mCons (mLc (mIter (mOwn (pur F_parts_of) [] (mCons (mV 0) (mNil)))) (bName 2) (mTrue) (mOwn (pur F) [] (mCons (mV 2) (mNil))) [2]) (mNil)) (mCons (mC (.int 0)) (mNil)))) (mRet (mOp2 addD (mV 1) (mCall intF (mCons (mOp2 eqD (mOp2 ixD (mV 0) (mC (.int 0))) (mC (.str "again"))) (mNil)))))
def F_nesting_from : Nat → Fn
  | 0 => fun _ _ => .bad
  | n + 1 => runB 1 3 (FB_nesting_from (F_nesting_from n))
theorem bi_nesting_from (B : Bas P K mg ca fa fd) : Binds K (fd 7) ["expression"] [] := B.d_nesting_from.bindsN (ps := ["expression"]) fun _ _ _ _ _ _ us hl => match us, hl with | [_], _ => rfl
theorem ok_nesting_from (B : Bas P K mg ca fa fd) : ∀ n : Nat, Def P w K mg base (Tt w K ca) (n + 4) "nesting_from" (fa 7) (fd 7) ["expression"] (F_nesting_from n)
  | 0 => ⟨B.d_nesting_from.ok (k := 3) sc_nesting_from (fun _ _ _ _ h => (spM_bad h).elim) (fun _ _ _ _ _ _ _ _ _ h => (spM_bad h).elim), B.g_nesting_from, B.d_nesting_from.kp⟩
  | n + 1 => by
    have IH := ok_nesting_from B n
    exact ⟨fn_ok (k := n + 4) (Tt w K ca) B.d_nesting_from sc_nesting_from fun cdv A outer s H E hr tk pw => (s_cons (s_set 1 sc_nesting_from.nd (r_maxD rfl (deepy_of hr) B.n_max (a_cons (r_lc (own := [("part", 2)]) rfl sc_nesting_from.nd (show BlkOk ["expression", "inner", "part"] (defScope s_nesting_from) _ [("part", 2)] from ⟨rfl, by decide +kernel, by decide +kernel, by decide +kernel, by decide +kernel⟩) (i_any (r_call (pur_def (ok_parts_of B)) (hr.mono (by omega)) (bi_parts_of B) tk (a_cons (r_var 0) a_nil))) tg_name (bName_in (by decide)) (fun _ _ _ _ _ => (pg_name (i := 2) sc_nesting_from.nd rfl (by first | exact Or.inl rfl | exact Or.inr rfl))) (fun _ _ _ _ _ => ts_nil) (fun _ _ _ _ _ => (r_call (pur_def IH) (hr.mono (by omega)) (bi_nesting_from B) takes_none5 (a_cons (r_var 2) a_nil)))) a_nil) (k_cons r_int k_nil))) (s_one (s_ret (r_add (r_var 1) (r_intc B.n_int (a_cons (r_eq (deepy_of hr) (r_ix (r_var 0) r_int) r_str) a_nil)))))), B.g_nesting_from, B.d_nesting_from.kp⟩
/-! ### nesting -/
theorem sc_nesting : FnScope ["expression"] ["expression"] (defScope s_nesting) := ⟨rfl, rfl, rfl, by decide +kernel, rfl, by decide +kernel, by decide +kernel⟩
def FB_nesting : SM := mSeq (mExp (mOwn (pur F_check_expression) [] (mCons (mV 0) (mCons (mC (.bl true)) (mNil))))) (mRet (mOwn (pur (F_nesting_from 16)) [] (mCons (mV 0) (mNil))))
def F_nesting : Fn := runB 1 1 FB_nesting
theorem bi_nesting (B : Bas P K mg ca fa fd) : Binds K (fd 8) ["expression"] [] := B.d_nesting.bindsN (ps := ["expression"]) fun _ _ _ _ _ _ us hl => match us, hl with | [_], _ => rfl
theorem ok_nesting (B : Bas P K mg ca fa fd) : Def P w K mg base (Tt w K ca) 21 "nesting" (fa 8) (fd 8) ["expression"] F_nesting := by
  exact ⟨fn_ok (k := 20) (Tt w K ca) B.d_nesting sc_nesting fun cdv A outer s H E hr tk pw => (s_cons (s_exp (r_call (pur_def (ok_check_expression B)) (hr.mono (by decide)) (bi_check_expression B) tk (a_cons (r_var 0) (a_cons r_bl a_nil)))) (s_one (s_ret (r_call (pur_def (ok_nesting_from B 16)) (hr.mono (by decide)) (bi_nesting_from B) tk (a_cons (r_var 0) a_nil))))), B.g_nesting, B.d_nesting.kp⟩
/-! ### is_open -/
theorem sc_is_open : FnScope ["value"] ["value"] (defScope s_is_open) := ⟨rfl, rfl, rfl, by decide +kernel, rfl, by decide +kernel, by decide +kernel⟩
def FB_is_open : SM := mRet (mAnd (mOwn (pur (F_is_written_as 16)) [] (mCons (mV 0) (mCons (mC (.bl true)) (mNil)))) (mNot (mOwn (pur (F_is_written_as 16)) [] (mCons (mV 0) (mCons (mC (.bl false)) (mNil))))))
def F_is_open : Fn := runB 1 1 FB_is_open
theorem bi_is_open (B : Bas P K mg ca fa fd) : Binds K (fd 9) ["value"] [] := B.d_is_open.bindsN (ps := ["value"]) fun _ _ _ _ _ _ us hl => match us, hl with | [_], _ => rfl
theorem ok_is_open (B : Bas P K mg ca fa fd) : Def P w K mg base (Tt w K ca) 20 "is_open" (fa 9) (fd 9) ["value"] F_is_open := by
  exact ⟨fn_ok (k := 19) (Tt w K ca) B.d_is_open sc_is_open fun cdv A outer s H E hr tk pw => (s_one (s_ret (r_and (r_call (pur_def (ok_is_written_as B 16)) (hr.mono (by decide)) (bi_is_written_as B) tk (a_cons (r_var 0) (a_cons r_bl a_nil))) (r_one (r_not (r_call (pur_def (ok_is_written_as B 16)) (hr.mono (by decide)) (bi_is_written_as B) tk (a_cons (r_var 0) (a_cons r_bl a_nil)))))))), B.g_is_open, B.d_is_open.kp⟩
/-! ### copied -/
theorem sc_copied : FnScope ["expression", "part"] ["expression"] (defScope s_copied) := ⟨rfl, rfl, rfl, by decide +kernel, rfl, by decide +kernel, by decide +kernel⟩
def FB_copied (F : Fn) : SM := mSeq (mIfS (mOwn (pur F_is_spelt) [] (mCons (mV 0) (mNil))) (mRet (mV 0)) (mNx)) (mSeq (mIfS (mOp2 eqD (mOp2 ixD (mV 0) (mC (.int 0))) (mC (.str "again"))) (mRet (mTup (mCons (mC (.str "again")) (mCons (mOwn (pur F) [] (mCons (mOp2 ixD (mV 0) (mC (.int 1))) (mNil))) (mNil))))) (mNx)) (mRet (mTup (mCons (mC (.str "row")) (mCons (mLc (mIter (mOp2 ixD (mV 0) (mC (.int 1)))) (bName 1) (mTrue) (mOwn (pur F) [] (mCons (mV 1) (mNil))) [1]) (mNil))))))
def F_copied : Nat → Fn
  | 0 => fun _ _ => .bad
  | n + 1 => runB 1 2 (FB_copied (F_copied n))
theorem bi_copied (B : Bas P K mg ca fa fd) : Binds K (fd 10) ["expression"] [] := B.d_copied.bindsN (ps := ["expression"]) fun _ _ _ _ _ _ us hl => match us, hl with | [_], _ => rfl
theorem ok_copied (B : Bas P K mg ca fa fd) : ∀ n : Nat, Def P w K mg base (Tt w K ca) (n + 3) "copied" (fa 10) (fd 10) ["expression"] (F_copied n)
  | 0 => ⟨B.d_copied.ok (k := 2) sc_copied (fun _ _ _ _ h => (spM_bad h).elim) (fun _ _ _ _ _ _ _ _ _ h => (spM_bad h).elim), B.g_copied, B.d_copied.kp⟩
  | n + 1 => by
    have IH := ok_copied B n
    exact ⟨fn_ok (k := n + 3) (Tt w K ca) B.d_copied sc_copied fun cdv A outer s H E hr tk pw => (s_cons (s_if (t_val (r_call (pur_def (ok_is_spelt B)) (hr.mono (by omega)) (bi_is_spelt B) tk (a_cons (r_var 0) a_nil))) (s_one (s_ret (r_var 0))) s_nil) (s_cons (s_if (t_eq (deepy_of hr) (r_ix (r_var 0) r_int) r_str) (s_one (s_ret (r_tup (a_cons r_str (a_cons (r_call (pur_def IH) (hr.mono (by omega)) (bi_copied B) tk (a_cons (r_ix (r_var 0) r_int) a_nil)) a_nil))))) s_nil) (s_one (s_ret (r_tup (a_cons r_str (a_cons (r_lc (own := [("part", 1)]) rfl sc_copied.nd (show BlkOk ["expression", "part"] (defScope s_copied) _ [("part", 1)] from ⟨rfl, by decide +kernel, by decide +kernel, by decide +kernel, by decide +kernel⟩) (i_any (r_ix (r_var 0) r_int)) tg_name (bName_in (by decide)) (fun _ _ _ _ _ => (pg_name (i := 1) sc_copied.nd rfl (by first | exact Or.inl rfl | exact Or.inr rfl))) (fun _ _ _ _ _ => ts_nil) (fun _ _ _ _ _ => (r_call (pur_def IH) (hr.mono (by omega)) (bi_copied B) takes_none5 (a_cons (r_var 1) a_nil)))) a_nil))))))), B.g_copied, B.d_copied.kp⟩
/-! ### filled -/
theorem sc_filled : FnScope ["frame", "expression", "part"] ["frame", "expression"] (defScope s_filled) := ⟨rfl, rfl, rfl, by decide +kernel, rfl, by decide +kernel, by decide +kernel⟩
def FB_filled (F : Fn) : SM := mSeq (mIfS (mOwn (pur F_is_spelt) [] (mCons (mV 0) (mNil))) (mRet (mV 0)) (mNx)) (mSeq (mIfS (mOp2 eqD (mV 0) (mC (.tup ((["place"] : List Str).map D.str)))) (mRet (mOwn (pur (F_copied 16)) [] (mCons (mV 1) (mNil)))) (mNx)) (mSeq (mIfS (mOp2 eqD (mOp2 ixD (mV 0) (mC (.int 0))) (mC (.str "again"))) (mRet (mTup (mCons (mC (.str "again")) (mCons (mOwn (pur F) [] (mCons (mOp2 ixD (mV 0) (mC (.int 1))) (mCons (mV 1) (mNil)))) (mNil))))) (mNx)) (mRet (mTup (mCons (mC (.str "row")) (mCons (mLc (mIter (mOp2 ixD (mV 0) (mC (.int 1)))) (bName 2) (mTrue) (mOwn (pur F) [] (mCons (mV 2) (mCons (mV 1) (mNil)))) [2]) (mNil)))))))
def F_filled : Nat → Fn
  | 0 => fun _ _ => .bad
  | n + 1 => runB 2 3 (FB_filled (F_filled n))
theorem bi_filled (B : Bas P K mg ca fa fd) : Binds K (fd 11) ["frame", "expression"] [] := B.d_filled.bindsN (ps := ["frame", "expression"]) fun _ _ _ _ _ _ us hl => match us, hl with | [_, _], _ => rfl
theorem ok_filled (B : Bas P K mg ca fa fd) : ∀ n : Nat, Def P w K mg base (Tt w K ca) (n + 20) "filled" (fa 11) (fd 11) ["frame", "expression"] (F_filled n)
  | 0 => ⟨B.d_filled.ok (k := 19) sc_filled (fun _ _ _ _ h => (spM_bad h).elim) (fun _ _ _ _ _ _ _ _ _ h => (spM_bad h).elim), B.g_filled, B.d_filled.kp⟩
  | n + 1 => by
    have IH := ok_filled B n
    obtain ⟨q_PLACE, o_PLACE, i_PLACE, n_PLACE, h_PLACE⟩ := B.k_PLACE
    exact ⟨fn_ok (k := n + 20) (Tt w K ca) B.d_filled sc_filled fun cdv A outer s H E hr tk pw => (s_cons (s_if (t_val (r_call (pur_def (ok_is_spelt B)) (hr.mono (by omega)) (bi_is_spelt B) tk (a_cons (r_var 0) a_nil))) (s_one (s_ret (r_var 0))) s_nil) (s_cons (s_if (t_eq (deepy_of hr) (r_var 0) (r_gTup (zs := (["place"] : List Str)) rfl h_PLACE.1 h_PLACE.2.1 h_PLACE.2.2.1 h_PLACE.2.2.2.1 h_PLACE.2.2.2.2.1 h_PLACE.2.2.2.2.2)) (s_one (s_ret (r_call (pur_def (ok_copied B 16)) (hr.mono (by omega)) (bi_copied B) tk (a_cons (r_var 1) a_nil)))) s_nil) (s_cons (s_if (t_eq (deepy_of hr) (r_ix (r_var 0) r_int) r_str) (s_one (s_ret (r_tup (a_cons r_str (a_cons (r_call (pur_def IH) (hr.mono (by omega)) (bi_filled B) tk (a_cons (r_ix (r_var 0) r_int) (a_cons (r_var 1) a_nil))) a_nil))))) s_nil) (s_one (s_ret (r_tup (a_cons r_str (a_cons (r_lc (own := [("part", 2)]) rfl sc_filled.nd (show BlkOk ["frame", "expression", "part"] (defScope s_filled) _ [("part", 2)] from ⟨rfl, by decide +kernel, by decide +kernel, by decide +kernel, by decide +kernel⟩) (i_any (r_ix (r_var 0) r_int)) tg_name (bName_in (by decide)) (fun _ _ _ _ _ => (pg_name (i := 2) sc_filled.nd rfl (by first | exact Or.inl rfl | exact Or.inr rfl))) (fun _ _ _ _ _ => ts_nil) (fun _ _ _ _ _ => (r_call (pur_def IH) (hr.mono (by omega)) (bi_filled B) takes_none5 (a_cons (r_var 2) (a_cons (r_var 1) a_nil))))) a_nil)))))))), B.g_filled, B.d_filled.kp⟩
/-! ### put_in -/
theorem sc_put_in : FnScope ["frame", "expression"] ["frame", "expression"] (defScope s_put_in) := ⟨rfl, rfl, rfl, by decide +kernel, rfl, by decide +kernel, by decide +kernel⟩
def FB_put_in : SM := mSeq (mIfS (mNot (mOwn (pur F_is_open) [] (mCons (mV 0) (mNil)))) (mRaise "InvalidExpression" (mV 0)) (mNx)) (mSeq (mExp (mOwn (pur F_check_expression) [] (mCons (mV 1) (mCons (mC (.bl false)) (mNil))))) (mRet (mOwn (pur (F_filled 16)) [] (mCons (mV 0) (mCons (mV 1) (mNil))))))
def F_put_in : Fn := runB 2 2 FB_put_in
theorem bi_put_in (B : Bas P K mg ca fa fd) : Binds K (fd 12) ["frame", "expression"] [] := B.d_put_in.bindsN (ps := ["frame", "expression"]) fun _ _ _ _ _ _ us hl => match us, hl with | [_, _], _ => rfl
theorem ok_put_in (B : Bas P K mg ca fa fd) : Def P w K mg base (Tt w K ca) 37 "put_in" (fa 12) (fd 12) ["frame", "expression"] F_put_in := by
  obtain ⟨fI_InvalidExpression, e_InvalidExpression⟩ := B.e_InvalidExpression
  exact ⟨fn_ok (k := 36) (Tt w K ca) B.d_put_in sc_put_in fun cdv A outer s H E hr tk pw => (s_cons (s_if (t_not (t_val (r_call (pur_def (ok_is_open B)) (hr.mono (by decide)) (bi_is_open B) tk (a_cons (r_var 0) a_nil)))) (s_one (s_raise rfl e_InvalidExpression rfl (hr.mono (by decide) : Room 1 _) tk (r_var 0) rfl (by decide +kernel))) s_nil) (s_cons (s_exp (r_call (pur_def (ok_check_expression B)) (hr.mono (by decide)) (bi_check_expression B) tk (a_cons (r_var 1) (a_cons r_bl a_nil)))) (s_one (s_ret (r_call (pur_def (ok_filled B 16)) (hr.mono (by decide)) (bi_filled B) tk (a_cons (r_var 0) (a_cons (r_var 1) a_nil))))))), B.g_put_in, B.d_put_in.kp⟩
end
end K57

namespace K57
open PySem PySem.Spec L2 MR
open PyProof.Rows (envOfC)
section
variable {P : Program} {w : World} {K : PySem.W.Frag} {mg : Str → Option Value} {base : Heap} {ca : Str → Addr} {fa : Nat → Addr} {fd : Nat → FuncData}
/-! ### _law_purse -/
theorem sc__law_purse : FnScope ["_law_script", "_law_at", "_law_seed"] ["_law_script", "_law_at"] (defScope s__law_purse) := ⟨rfl, rfl, rfl, by decide +kernel, rfl, by decide +kernel, by decide +kernel⟩
def FB__law_purse : SM := mSeq (mSet 2 (mCall sumF (mCons (mSlice (mV 0) (mPart (mV 1)) (mPart (mOp2 addD (mV 1) (mC (.int 1))))) (mNil)))) (mRet (mLst (mCons (mOp2 modD (mCall intF (mCons (mCall maxF (mCons (mOp2 subD (mV 2) (mOp2 powD (mC (.int 10)) (mC (.int 18)))) (mCons (mC (.int 0)) (mNil)))) (mNil))) (mOp2 powD (mOp2 powD (mC (.int 10)) (mC (.int 60))) (mC (.int 8)))) (mCons (mOp2 modD (mCall intF (mCons (mV 2) (mNil))) (mC (.int 2147483629))) (mCons (mC (.int 0)) (mCons (mV 1) (mNil)))))))
def F__law_purse : Fn := runB 2 3 FB__law_purse
theorem bi__law_purse (B : Bas P K mg ca fa fd) : Binds K (fd 13) ["_law_script", "_law_at"] [] := B.d__law_purse.bindsN (ps := ["_law_script", "_law_at"]) fun _ _ _ _ _ _ us hl => match us, hl with | [_, _], _ => rfl
theorem ok__law_purse (B : Bas P K mg ca fa fd) : Def P w K mg base (Tt w K ca) 2 "_law_purse" (fa 13) (fd 13) ["_law_script", "_law_at"] F__law_purse := by
  exact ⟨fn_ok (k := 1) (Tt w K ca) B.d__law_purse sc__law_purse fun cdv A outer s H E hr tk pw => (s_cons (s_set 2 sc__law_purse.nd (r_sum rfl B.n_sum (a_cons (r_slice (r_var 0) (o_some (r_var 1)) (o_some (r_add (r_var 1) r_int))) a_nil))) (s_one (s_ret (r_lst (a_cons (r_mod (r_intc B.n_int (a_cons (r_max rfl B.n_max (a_cons (r_sub (r_var 2) (r_pow r_int r_int)) (a_cons r_int a_nil))) a_nil)) (r_pow (r_pow r_int r_int) r_int)) (a_cons (r_mod (r_intc B.n_int (a_cons (r_var 2) a_nil)) r_int) (a_cons r_int (a_cons (r_var 1) a_nil)))))))), B.g__law_purse, B.d__law_purse.kp⟩
/-! ### _law_mixed -/
theorem sc__law_mixed : FnScope ["_law_seed", "_law_turn", "_law_at", "_law_mixed_here"] ["_law_seed", "_law_turn", "_law_at"] (defScope s__law_mixed) := ⟨rfl, rfl, rfl, by decide +kernel, rfl, by decide +kernel, by decide +kernel⟩
def FB__law_mixed : SM := mSeq (mSet 3 (mOp2 addD (mOp2 mulD (mV 0) (mC (.int 69069))) (mOp2 mulD (mOp2 mulD (mC (.int 104729)) (mV 1)) (mV 1)))) (mSeq (mSet 3 (mOp2 modD (mCall intF (mCons (mOp2 addD (mOp2 addD (mV 3) (mOp2 mulD (mC (.int 7919)) (mV 2))) (mV 1)) (mNil))) (mC (.int 2147483647)))) (mSeq (mSet 3 (mOp2 modD (mCall intF (mCons (mOp2 addD (mOp2 mulD (mV 3) (mV 3)) (mC (.int 40503))) (mNil))) (mC (.int 2147483629)))) (mRet (mOp2 modD (mCall intF (mCons (mOp2 mulD (mV 3) (mC (.int 48271))) (mNil))) (mC (.int 2147483587))))))
def F__law_mixed : Fn := runB 3 4 FB__law_mixed
theorem bi__law_mixed (B : Bas P K mg ca fa fd) : Binds K (fd 14) ["_law_seed", "_law_turn", "_law_at"] [] := B.d__law_mixed.bindsN (ps := ["_law_seed", "_law_turn", "_law_at"]) fun _ _ _ _ _ _ us hl => match us, hl with | [_, _, _], _ => rfl
theorem ok__law_mixed (B : Bas P K mg ca fa fd) : Def P w K mg base (Tt w K ca) 2 "_law_mixed" (fa 14) (fd 14) ["_law_seed", "_law_turn", "_law_at"] F__law_mixed := by
  exact ⟨fn_ok (k := 1) (Tt w K ca) B.d__law_mixed sc__law_mixed fun cdv A outer s H E hr tk pw => (s_cons (s_set 3 sc__law_mixed.nd (r_add (r_mul (r_var 0) r_int) (r_mul (r_mul r_int (r_var 1)) (r_var 1)))) (s_cons (s_set 3 sc__law_mixed.nd (r_mod (r_intc B.n_int (a_cons (r_add (r_add (r_var 3) (r_mul r_int (r_var 2))) (r_var 1)) a_nil)) r_int)) (s_cons (s_set 3 sc__law_mixed.nd (r_mod (r_intc B.n_int (a_cons (r_add (r_mul (r_var 3) (r_var 3)) r_int) a_nil)) r_int)) (s_one (s_ret (r_mod (r_intc B.n_int (a_cons (r_mul (r_var 3) r_int) a_nil)) r_int)))))), B.g__law_mixed, B.d__law_mixed.kp⟩
/-! ### _law_draw -/
theorem sc__law_draw : FnScope ["_law_purse_here", "_law_many", "_law_found", "_law_piece", "_law_drawn"] ["_law_purse_here", "_law_many"] (defScope s__law_draw) := ⟨rfl, rfl, rfl, by decide +kernel, rfl, by decide +kernel, by decide +kernel⟩
def FB__law_draw : SM := mSeq (mIfS (mOp2 gtD (mOp2 ixD (mV 0) (mC (.int 0))) (mC (.int 0))) (mSeq (mSet 4 (mOp2 modD (mCall intF (mCons (mOp2 ixD (mV 0) (mC (.int 0))) (mNil))) (mV 1))) (mSeq (mPut (mV 0) (mC (.int 0)) (mOp2 fdivD (mOp2 ixD (mV 0) (mC (.int 0))) (mV 1))) (mRet (mV 4)))) (mNx)) (mSeq (mSet 2 (mC (.int 0))) (mSeq (mFor (mRange1 (mCons (mOp2 addD (mC (.int 1)) (mOp2 fdivD (mBits (mV 1)) (mC (.int 28)))) (mNil))) (bName 3) (mSeq (mPut (mV 0) (mC (.int 2)) (mOp2 addD (mOp2 ixD (mV 0) (mC (.int 2))) (mC (.int 1)))) (mSet 2 (mOp2 addD (mOp2 mulD (mV 2) (mC (.int 2147483587))) (mOwn (pur F__law_mixed) [] (mCons (mOp2 ixD (mV 0) (mC (.int 1))) (mCons (mOp2 ixD (mV 0) (mC (.int 2))) (mCons (mOp2 ixD (mV 0) (mC (.int 3))) (mNil))))))))) (mRet (mOp2 modD (mCall intF (mCons (mV 2) (mNil))) (mV 1)))))
def F__law_draw : Fn := runB 2 5 FB__law_draw
theorem bi__law_draw (B : Bas P K mg ca fa fd) : Binds K (fd 15) ["_law_purse_here", "_law_many"] [] := B.d__law_draw.bindsN (ps := ["_law_purse_here", "_law_many"]) fun _ _ _ _ _ _ us hl => match us, hl with | [_, _], _ => rfl
theorem ok__law_draw (B : Bas P K mg ca fa fd) : Def P w K mg base (Tt w K ca) 3 "_law_draw" (fa 15) (fd 15) ["_law_purse_here", "_law_many"] F__law_draw := by
  exact ⟨fn_ok (k := 2) (Tt w K ca) B.d__law_draw sc__law_draw fun cdv A outer s H E hr tk pw => (s_cons (s_if (t_gt (r_ix (r_var 0) r_int) r_int) (s_cons (s_set 4 sc__law_draw.nd (r_mod (r_intc B.n_int (a_cons (r_ix (r_var 0) r_int) a_nil)) (r_var 1))) (s_cons (s_put (r_var 0) r_int (r_fdiv (r_ix (r_var 0) r_int) (r_var 1))) (s_one (s_ret (r_var 4))))) s_nil) (s_cons (s_set 2 sc__law_draw.nd r_int) (s_cons (s_for pw rfl (i_range1 B.n_range (a_cons (r_add r_int (r_fdiv (r_bits (r_var 1)) r_int)) a_nil)) (pg_name (i := 3) sc__law_draw.nd rfl (by first | exact Or.inl rfl | exact Or.inr rfl)) tg_name (s_cons (s_put (r_var 0) r_int (r_add (r_ix (r_var 0) r_int) r_int)) (s_one (s_set 2 sc__law_draw.nd (r_add (r_mul (r_var 2) r_int) (r_call (pur_def (ok__law_mixed B)) (hr.mono (by decide)) (bi__law_mixed B) tk (a_cons (r_ix (r_var 0) r_int) (a_cons (r_ix (r_var 0) r_int) (a_cons (r_ix (r_var 0) r_int) a_nil))))))))) (s_one (s_ret (r_mod (r_intc B.n_int (a_cons (r_var 2) a_nil)) (r_var 1))))))), B.g__law_draw, B.d__law_draw.kp⟩
/-! ### _law_purses -/
theorem sc__law_purses : FnScope ["_law_script", "_law_few", "_law_at"] ["_law_script", "_law_few"] (defScope s__law_purses) := ⟨rfl, rfl, rfl, by decide +kernel, rfl, by decide +kernel, by decide +kernel⟩
def FB__law_purses : SM := mRet (mLc (mRange1 (mCons (mCall maxF (mCons (mC (.int 1)) (mCons (mCall minF (mCons (mV 1) (mCons (mCall lenF (mCons (mV 0) (mNil))) (mNil)))) (mNil)))) (mNil))) (bName 2) (mTrue) (mOwn (pur F__law_purse) [] (mCons (mV 0) (mCons (mV 2) (mNil)))) [2])
def F__law_purses : Fn := runB 2 3 FB__law_purses
theorem bi__law_purses (B : Bas P K mg ca fa fd) : Binds K (fd 16) ["_law_script", "_law_few"] [] := B.d__law_purses.bindsN (ps := ["_law_script", "_law_few"]) fun _ _ _ _ _ _ us hl => match us, hl with | [_, _], _ => rfl
theorem ok__law_purses (B : Bas P K mg ca fa fd) : Def P w K mg base (Tt w K ca) 3 "_law_purses" (fa 16) (fd 16) ["_law_script", "_law_few"] F__law_purses := by
  exact ⟨fn_ok (k := 2) (Tt w K ca) B.d__law_purses sc__law_purses fun cdv A outer s H E hr tk pw => (s_one (s_ret (r_lc (own := [("_law_at", 2)]) rfl sc__law_purses.nd (show BlkOk ["_law_script", "_law_few", "_law_at"] (defScope s__law_purses) _ [("_law_at", 2)] from ⟨rfl, by decide +kernel, by decide +kernel, by decide +kernel, by decide +kernel⟩) (i_range1 B.n_range (a_cons (r_max rfl B.n_max (a_cons r_int (a_cons (r_min rfl B.n_min (a_cons (r_var 1) (a_cons (r_len B.n_len (a_cons (r_var 0) a_nil)) a_nil))) a_nil))) a_nil)) tg_name (bName_in (by decide)) (fun _ _ _ _ _ => (pg_name (i := 2) sc__law_purses.nd rfl (by first | exact Or.inl rfl | exact Or.inr rfl))) (fun _ _ _ _ _ => ts_nil) (fun _ _ _ _ _ => (r_call (pur_def (ok__law_purse B)) (hr.mono (by decide)) (bi__law_purse B) takes_none5 (a_cons (r_var 0) (a_cons (r_var 2) a_nil))))))), B.g__law_purses, B.d__law_purses.kp⟩
/-! ### _law_one_of -/
theorem sc__law_one_of : FnScope ["_law_purse_here", "_law_some"] ["_law_purse_here", "_law_some"] (defScope s__law_one_of) := ⟨rfl, rfl, rfl, by decide +kernel, rfl, by decide +kernel, by decide +kernel⟩
def FB__law_one_of : SM := mRet (mOp2 ixD (mV 1) (mOwn (pur F__law_draw) [] (mCons (mV 0) (mCons (mCall lenF (mCons (mV 1) (mNil))) (mNil)))))
def F__law_one_of : Fn := runB 2 2 FB__law_one_of
theorem bi__law_one_of (B : Bas P K mg ca fa fd) : Binds K (fd 17) ["_law_purse_here", "_law_some"] [] := B.d__law_one_of.bindsN (ps := ["_law_purse_here", "_law_some"]) fun _ _ _ _ _ _ us hl => match us, hl with | [_, _], _ => rfl
theorem ok__law_one_of (B : Bas P K mg ca fa fd) : Def P w K mg base (Tt w K ca) 4 "_law_one_of" (fa 17) (fd 17) ["_law_purse_here", "_law_some"] F__law_one_of := by
  exact ⟨fn_ok (k := 3) (Tt w K ca) B.d__law_one_of sc__law_one_of fun cdv A outer s H E hr tk pw => (s_one (s_ret (r_ix (r_var 1) (r_call (pur_def (ok__law_draw B)) (hr.mono (by decide)) (bi__law_draw B) tk (a_cons (r_var 0) (a_cons (r_len B.n_len (a_cons (r_var 1) a_nil)) a_nil)))))), B.g__law_one_of, B.d__law_one_of.kp⟩
/-! ### _law_same -/
theorem sc__law_same : FnScope ["_law_thing", "_law_item", "_law_key"] ["_law_thing"] (defScope s__law_same) := ⟨rfl, rfl, rfl, by decide +kernel, rfl, by decide +kernel, by decide +kernel⟩
def FB__law_same (F : Fn) : SM := mSeq (mIfS (mCall isiF (mCons (mV 0) (mCons (mC (.ty "dict")) (mNil)))) (mRet (mCall dictTF (mCons (mLock 0 (mLc (mKeysT (mV 0)) (bName 2) (mTrue) (mTup (mCons (mV 2) (mCons (mOwn (pur F) [] (mCons (mOp2 dgetTD (mV 0) (mV 2)) (mNil))) (mNil)))) [2])) (mNil)))) (mNx)) (mSeq (mIfS (mCall isiF (mCons (mV 0) (mCons (mC (.ty "list")) (mNil)))) (mRet (mLc (mIter (mV 0)) (bName 1) (mTrue) (mOwn (pur F) [] (mCons (mV 1) (mNil))) [1])) (mNx)) (mRet (mIf (mCall isiF (mCons (mV 0) (mCons (mC (.ty "tuple")) (mNil)))) (mCall tupleF (mCons (mLc (mIter (mV 0)) (bName 1) (mTrue) (mOwn (pur F) [] (mCons (mV 1) (mNil))) [1]) (mNil))) (mV 0))))
def F__law_same : Nat → Fn
  | 0 => fun _ _ => .bad
  | n + 1 => runB 1 3 (FB__law_same (F__law_same n))
theorem bi__law_same (B : Bas P K mg ca fa fd) : Binds K (fd 18) ["_law_thing"] [] := B.d__law_same.bindsN (ps := ["_law_thing"]) fun _ _ _ _ _ _ us hl => match us, hl with | [_], _ => rfl
theorem ok__law_same (B : Bas P K mg ca fa fd) : ∀ n : Nat, Def P w K mg base (Tt w K ca) (n + 2) "_law_same" (fa 18) (fd 18) ["_law_thing"] (F__law_same n)
  | 0 => ⟨B.d__law_same.ok (k := 1) sc__law_same (fun _ _ _ _ h => (spM_bad h).elim) (fun _ _ _ _ _ _ _ _ _ h => (spM_bad h).elim), B.g__law_same, B.d__law_same.kp⟩
  | n + 1 => by
    have IH := ok__law_same B n
    exact ⟨fn_ok (k := n + 2) (Tt w K ca) B.d__law_same sc__law_same fun cdv A outer s H E hr tk pw => (s_cons (s_if (t_val (r_isi B.n_isinstance (a_cons (r_var 0) (a_cons (r_ty rfl B.n_dict (by decide +kernel) (by decide +kernel) (by decide +kernel)) a_nil)))) (s_one (s_ret (r_dictT rfl (deepy_of hr) B.n_dict (a_cons (r_lock 0 (r_lc (own := [("_law_key", 2)]) rfl sc__law_same.nd (show BlkOk ["_law_thing", "_law_item", "_law_key"] (defScope s__law_same) _ [("_law_key", 2)] from ⟨rfl, by decide +kernel, by decide +kernel, by decide +kernel, by decide +kernel⟩) (i_keysT (r_var 0)) tg_name (bName_in (by decide)) (fun _ _ _ _ _ => (pg_name (i := 2) sc__law_same.nd rfl (by first | exact Or.inl rfl | exact Or.inr rfl))) (fun _ _ _ _ _ => ts_nil) (fun _ _ _ _ _ => (r_tup (a_cons (r_var 2) (a_cons (r_call (pur_def IH) (hr.mono (by omega)) (bi__law_same B) takes_none5 (a_cons (r_dgetT (deepy_of hr) (r_var 0) (r_var 2)) a_nil)) a_nil)))))) a_nil)))) s_nil) (s_cons (s_if (t_val (r_isi B.n_isinstance (a_cons (r_var 0) (a_cons (r_ty rfl B.n_list (by decide +kernel) (by decide +kernel) (by decide +kernel)) a_nil)))) (s_one (s_ret (r_lc (own := [("_law_item", 1)]) rfl sc__law_same.nd (show BlkOk ["_law_thing", "_law_item", "_law_key"] (defScope s__law_same) _ [("_law_item", 1)] from ⟨rfl, by decide +kernel, by decide +kernel, by decide +kernel, by decide +kernel⟩) (i_any (r_var 0)) tg_name (bName_in (by decide)) (fun _ _ _ _ _ => (pg_name (i := 1) sc__law_same.nd rfl (by first | exact Or.inl rfl | exact Or.inr rfl))) (fun _ _ _ _ _ => ts_nil) (fun _ _ _ _ _ => (r_call (pur_def IH) (hr.mono (by omega)) (bi__law_same B) takes_none5 (a_cons (r_var 1) a_nil)))))) s_nil) (s_one (s_ret (r_if (t_val (r_isi B.n_isinstance (a_cons (r_var 0) (a_cons (r_ty rfl B.n_tuple (by decide +kernel) (by decide +kernel) (by decide +kernel)) a_nil)))) (r_tuple B.n_tuple (a_cons (r_lc (own := [("_law_item", 1)]) rfl sc__law_same.nd (show BlkOk ["_law_thing", "_law_item", "_law_key"] (defScope s__law_same) _ [("_law_item", 1)] from ⟨rfl, by decide +kernel, by decide +kernel, by decide +kernel, by decide +kernel⟩) (i_any (r_var 0)) tg_name (bName_in (by decide)) (fun _ _ _ _ _ => (pg_name (i := 1) sc__law_same.nd rfl (by first | exact Or.inl rfl | exact Or.inr rfl))) (fun _ _ _ _ _ => ts_nil) (fun _ _ _ _ _ => (r_call (pur_def IH) (hr.mono (by omega)) (bi__law_same B) takes_none5 (a_cons (r_var 1) a_nil)))) a_nil)) (r_var 0)))))), B.g__law_same, B.d__law_same.kp⟩
/-! ### _law_exact -/
theorem sc__law_exact : FnScope ["_law_one", "_law_other", "_law_alike", "_law_key", "_law_a", "_law_b"] ["_law_one", "_law_other"] (defScope s__law_exact) := ⟨rfl, rfl, rfl, by decide +kernel, rfl, by decide +kernel, by decide +kernel⟩
def FB__law_exact (F : Fn) : SM := mSeq (mIfS (mCall isiF (mCons (mV 0) (mCons (mTup (mCons (mC (.ty "list")) (mCons (mC (.ty "tuple")) (mNil)))) (mNil)))) (mSeq (mSet 2 (mAnd (mOp2 eqD (mCall isiF (mCons (mV 1) (mCons (mC (.ty "list")) (mNil)))) (mCall isiF (mCons (mV 0) (mCons (mC (.ty "list")) (mNil))))) (mOp2 eqD (mCall isiF (mCons (mV 1) (mCons (mC (.ty "tuple")) (mNil)))) (mCall isiF (mCons (mV 0) (mCons (mC (.ty "tuple")) (mNil))))))) (mRet (mAnd (mV 2) (mAnd (mOp2 eqD (mCall lenF (mCons (mV 0) (mNil))) (mCall lenF (mCons (mV 1) (mNil)))) (mCall allF (mCons (mLc (mZip (mCons (mV 0) (mCons (mV 1) (mNil)))) (bTup [4, 5]) (mTrue) (mOwn (pur F) [] (mCons (mV 4) (mCons (mV 5) (mNil)))) [4, 5]) (mNil))))))) (mNx)) (mSeq (mIfS (mCall isiF (mCons (mV 0) (mCons (mC (.ty "dict")) (mNil)))) (mSeq (mSet 2 (mAnd (mCall isiF (mCons (mV 1) (mCons (mC (.ty "dict")) (mNil)))) (mOwn (pur F) [] (mCons (mCall listTF (mCons (mV 0) (mNil))) (mCons (mCall listTF (mCons (mV 1) (mNil))) (mNil)))))) (mRet (mAnd (mV 2) (mCall allF (mCons (mLock 0 (mLc (mKeysT (mV 0)) (bName 3) (mTrue) (mOwn (pur F) [] (mCons (mOp2 dgetTD (mV 0) (mV 3)) (mCons (mOp2 dgetTD (mV 1) (mV 3)) (mNil)))) [3])) (mNil)))))) (mNx)) (mRet (mAnd (mOp2 eqD (mCall isiF (mCons (mV 0) (mCons (mC (.ty "bool")) (mNil)))) (mCall isiF (mCons (mV 1) (mCons (mC (.ty "bool")) (mNil))))) (mOp2 eqD (mV 0) (mV 1)))))
def F__law_exact : Nat → Fn
  | 0 => fun _ _ => .bad
  | n + 1 => runB 2 6 (FB__law_exact (F__law_exact n))
theorem bi__law_exact (B : Bas P K mg ca fa fd) : Binds K (fd 19) ["_law_one", "_law_other"] [] := B.d__law_exact.bindsN (ps := ["_law_one", "_law_other"]) fun _ _ _ _ _ _ us hl => match us, hl with | [_, _], _ => rfl
theorem ok__law_exact (B : Bas P K mg ca fa fd) : ∀ n : Nat, Def P w K mg base (Tt w K ca) (n + 2) "_law_exact" (fa 19) (fd 19) ["_law_one", "_law_other"] (F__law_exact n)
  | 0 => ⟨B.d__law_exact.ok (k := 1) sc__law_exact (fun _ _ _ _ h => (spM_bad h).elim) (fun _ _ _ _ _ _ _ _ _ h => (spM_bad h).elim), B.g__law_exact, B.d__law_exact.kp⟩
  | n + 1 => by
    have IH := ok__law_exact B n
    exact ⟨fn_ok (k := n + 2) (Tt w K ca) B.d__law_exact sc__law_exact fun cdv A outer s H E hr tk pw => (s_cons (s_if (t_val (r_isi B.n_isinstance (a_cons (r_var 0) (a_cons (r_tup (a_cons (r_ty rfl B.n_list (by decide +kernel) (by decide +kernel) (by decide +kernel)) (a_cons (r_ty rfl B.n_tuple (by decide +kernel) (by decide +kernel) (by decide +kernel)) a_nil))) a_nil)))) (s_cons (s_set 2 sc__law_exact.nd (r_and (r_eq (deepy_of hr) (r_isi B.n_isinstance (a_cons (r_var 1) (a_cons (r_ty rfl B.n_list (by decide +kernel) (by decide +kernel) (by decide +kernel)) a_nil))) (r_isi B.n_isinstance (a_cons (r_var 0) (a_cons (r_ty rfl B.n_list (by decide +kernel) (by decide +kernel) (by decide +kernel)) a_nil)))) (r_one (r_eq (deepy_of hr) (r_isi B.n_isinstance (a_cons (r_var 1) (a_cons (r_ty rfl B.n_tuple (by decide +kernel) (by decide +kernel) (by decide +kernel)) a_nil))) (r_isi B.n_isinstance (a_cons (r_var 0) (a_cons (r_ty rfl B.n_tuple (by decide +kernel) (by decide +kernel) (by decide +kernel)) a_nil))))))) (s_one (s_ret (r_and (r_var 2) (r_and (r_eq (deepy_of hr) (r_len B.n_len (a_cons (r_var 0) a_nil)) (r_len B.n_len (a_cons (r_var 1) a_nil))) (r_one (r_all rfl B.n_all (a_cons (r_lc (own := [("_law_a", 4), ("_law_b", 5)]) rfl sc__law_exact.nd (show BlkOk ["_law_one", "_law_other", "_law_alike", "_law_key", "_law_a", "_law_b"] (defScope s__law_exact) _ [("_law_a", 4), ("_law_b", 5)] from ⟨rfl, by decide +kernel, by decide +kernel, by decide +kernel, by decide +kernel⟩) (i_zip B.n_zip (a_cons (r_var 0) (a_cons (r_var 1) a_nil))) (tg_tup (is := [4, 5])) (bTup_in (by decide)) (fun _ _ _ _ _ => (pg_tup rfl (pgs_cons (pg_name (i := 4) sc__law_exact.nd rfl (by first | exact Or.inl rfl | exact Or.inr rfl)) (pgs_cons (pg_name (i := 5) sc__law_exact.nd rfl (by first | exact Or.inl rfl | exact Or.inr rfl)) pgs_nil)))) (fun _ _ _ _ _ => ts_nil) (fun _ _ _ _ _ => (r_call (pur_def IH) (hr.mono (by omega)) (bi__law_exact B) takes_none5 (a_cons (r_var 4) (a_cons (r_var 5) a_nil))))) a_nil)))))))) s_nil) (s_cons (s_if (t_val (r_isi B.n_isinstance (a_cons (r_var 0) (a_cons (r_ty rfl B.n_dict (by decide +kernel) (by decide +kernel) (by decide +kernel)) a_nil)))) (s_cons (s_set 2 sc__law_exact.nd (r_and (r_isi B.n_isinstance (a_cons (r_var 1) (a_cons (r_ty rfl B.n_dict (by decide +kernel) (by decide +kernel) (by decide +kernel)) a_nil))) (r_one (r_call (pur_def IH) (hr.mono (by omega)) (bi__law_exact B) tk (a_cons (r_listT rfl B.n_list (a_cons (r_var 0) a_nil)) (a_cons (r_listT rfl B.n_list (a_cons (r_var 1) a_nil)) a_nil)))))) (s_one (s_ret (r_and (r_var 2) (r_one (r_all rfl B.n_all (a_cons (r_lock 0 (r_lc (own := [("_law_key", 3)]) rfl sc__law_exact.nd (show BlkOk ["_law_one", "_law_other", "_law_alike", "_law_key", "_law_a", "_law_b"] (defScope s__law_exact) _ [("_law_key", 3)] from ⟨rfl, by decide +kernel, by decide +kernel, by decide +kernel, by decide +kernel⟩) (i_keysT (r_var 0)) tg_name (bName_in (by decide)) (fun _ _ _ _ _ => (pg_name (i := 3) sc__law_exact.nd rfl (by first | exact Or.inl rfl | exact Or.inr rfl))) (fun _ _ _ _ _ => ts_nil) (fun _ _ _ _ _ => (r_call (pur_def IH) (hr.mono (by omega)) (bi__law_exact B) takes_none5 (a_cons (r_dgetT (deepy_of hr) (r_var 0) (r_var 3)) (a_cons (r_dgetT (deepy_of hr) (r_var 1) (r_var 3)) a_nil)))))) a_nil))))))) s_nil) (s_one (s_ret (r_and (r_eq (deepy_of hr) (r_isi B.n_isinstance (a_cons (r_var 0) (a_cons (r_ty rfl B.n_bool (by decide +kernel) (by decide +kernel) (by decide +kernel)) a_nil))) (r_isi B.n_isinstance (a_cons (r_var 1) (a_cons (r_ty rfl B.n_bool (by decide +kernel) (by decide +kernel) (by decide +kernel)) a_nil)))) (r_one (r_eq (deepy_of hr) (r_var 0) (r_var 1)))))))), B.g__law_exact, B.d__law_exact.kp⟩
/-! ### _law_word -/
theorem sc__law_word : FnScope ["_law_purse_here", "_law_size", "_law_turn"] ["_law_purse_here"] (defScope s__law_word) := ⟨rfl, rfl, rfl, by decide +kernel, rfl, by decide +kernel, by decide +kernel⟩
def FB__law_word : SM := mSeq (mSet 1 (mOp2 addD (mC (.int 1)) (mOwn (pur F__law_draw) [] (mCons (mV 0) (mCons (mIf (mOp2 eqD (mOwn (pur F__law_draw) [] (mCons (mV 0) (mCons (mC (.int 3)) (mNil)))) (mC (.int 0))) (mC (.int 8)) (mC (.int 3))) (mNil)))))) (mRet (mMeth "str" joinG (mC (.str "")) (mCons (mLc (mRange1 (mCons (mV 1) (mNil))) (bName 2) (mTrue) (mOp2 ixD (mC (.str "abcdefghijklmnopqrstuvwxyz")) (mOwn (pur F__law_draw) [] (mCons (mV 0) (mCons (mC (.int 26)) (mNil))))) [2]) (mNil))))
def F__law_word : Fn := runB 1 3 FB__law_word
theorem bi__law_word (B : Bas P K mg ca fa fd) : Binds K (fd 20) ["_law_purse_here"] [] := B.d__law_word.bindsN (ps := ["_law_purse_here"]) fun _ _ _ _ _ _ us hl => match us, hl with | [_], _ => rfl
theorem ok__law_word (B : Bas P K mg ca fa fd) : Def P w K mg base (Tt w K ca) 4 "_law_word" (fa 20) (fd 20) ["_law_purse_here"] F__law_word := by
  exact ⟨fn_ok (k := 3) (Tt w K ca) B.d__law_word sc__law_word fun cdv A outer s H E hr tk pw => (s_cons (s_set 1 sc__law_word.nd (r_add r_int (r_call (pur_def (ok__law_draw B)) (hr.mono (by decide)) (bi__law_draw B) tk (a_cons (r_var 0) (a_cons (r_if (t_eq (deepy_of hr) (r_call (pur_def (ok__law_draw B)) (hr.mono (by decide)) (bi__law_draw B) tk (a_cons (r_var 0) (a_cons r_int a_nil))) r_int) r_int r_int) a_nil))))) (s_one (s_ret (r_join r_str (a_cons (r_lc (own := [("_law_turn", 2)]) rfl sc__law_word.nd (show BlkOk ["_law_purse_here", "_law_size", "_law_turn"] (defScope s__law_word) _ [("_law_turn", 2)] from ⟨rfl, by decide +kernel, by decide +kernel, by decide +kernel, by decide +kernel⟩) (i_range1 B.n_range (a_cons (r_var 1) a_nil)) tg_name (bName_in (by decide)) (fun _ _ _ _ _ => (pg_name (i := 2) sc__law_word.nd rfl (by first | exact Or.inl rfl | exact Or.inr rfl))) (fun _ _ _ _ _ => ts_nil) (fun _ _ _ _ _ => (r_ix r_str (r_call (pur_def (ok__law_draw B)) (hr.mono (by decide)) (bi__law_draw B) takes_none5 (a_cons (r_var 0) (a_cons r_int a_nil)))))) a_nil))))), B.g__law_word, B.d__law_word.kp⟩
/-! ### _law_words -/
theorem sc__law_words : FnScope ["_law_purse_here", "_law_many", "_law_turn", "_law_base", "_law_near", "_law_spot", "_law_found", "_law_word_here", "_law_letter"] ["_law_purse_here", "_law_many"] (defScope s__law_words) := ⟨rfl, rfl, rfl, by decide +kernel, rfl, by decide +kernel, by decide +kernel⟩
def FB__law_words : SM := mSeq (mPar 3 4 (mCons (mOwn (pur F__law_word) [] (mCons (mV 0) (mNil))) (mCons (mOp2 eqD (mOwn (pur F__law_draw) [] (mCons (mV 0) (mCons (mC (.int 3)) (mNil)))) (mC (.int 0))) (mNil)))) (mSeq (mAsg (bTup [5, 6]) (mTup (mCons (mOwn (pur F__law_draw) [] (mCons (mV 0) (mCons (mCall lenF (mCons (mV 3) (mNil))) (mNil)))) (mCons (mLst (mNil)) (mNil))))) (mSeq (mFor (mRange1 (mCons (mV 1) (mNil))) (bName 2) (mSeq (mSet 7 (mOp2 addD (mOp2 addD (mSlice (mV 3) mNoPart (mPart (mV 5))) (mOp2 ixD (mC (.str "abcdefghijklmnopqrstuvwxyz")) (mOwn (pur F__law_draw) [] (mCons (mV 0) (mCons (mC (.int 26)) (mNil)))))) (mSlice (mV 3) (mPart (mOp2 addD (mV 5) (mC (.int 1)))) mNoPart))) (mSeq (mIfS (mNot (mV 4)) (mSet 7 (mOwn (pur F__law_word) [] (mCons (mV 0) (mNil)))) (mNx)) (mSeq (mIfS (mOp2 inD (mV 7) (mV 6)) (mSet 7 (mOp2 ixD (mLc (mIter (mCall listSF (mCons (mC (.str "abcdefghijklmnopqrstuvwxyz")) (mNil)))) (bName 8) (mOp2 notinD (mV 8) (mV 6)) (mV 8) [8]) (mC (.int 0)))) (mNx)) (mExp (mMeth "list" appendG (mV 6) (mCons (mV 7) (mNil)))))))) (mRet (mV 6))))
def F__law_words : Fn := runB 2 9 FB__law_words
theorem bi__law_words (B : Bas P K mg ca fa fd) : Binds K (fd 21) ["_law_purse_here", "_law_many"] [] := B.d__law_words.bindsN (ps := ["_law_purse_here", "_law_many"]) fun _ _ _ _ _ _ us hl => match us, hl with | [_, _], _ => rfl
theorem ok__law_words (B : Bas P K mg ca fa fd) : Def P w K mg base (Tt w K ca) 5 "_law_words" (fa 21) (fd 21) ["_law_purse_here", "_law_many"] F__law_words := by
  exact ⟨fn_ok (k := 4) (Tt w K ca) B.d__law_words sc__law_words fun cdv A outer s H E hr tk pw => (s_cons (s_par 3 4 rfl sc__law_words.nd (a_cons (r_call (pur_def (ok__law_word B)) (hr.mono (by decide)) (bi__law_word B) tk (a_cons (r_var 0) a_nil)) (a_cons (r_eq (deepy_of hr) (r_call (pur_def (ok__law_draw B)) (hr.mono (by decide)) (bi__law_draw B) tk (a_cons (r_var 0) (a_cons r_int a_nil))) r_int) a_nil))) (s_cons (s_asg (r_tup (a_cons (r_call (pur_def (ok__law_draw B)) (hr.mono (by decide)) (bi__law_draw B) tk (a_cons (r_var 0) (a_cons (r_len B.n_len (a_cons (r_var 3) a_nil)) a_nil))) (a_cons (r_lst a_nil) a_nil))) (pg_tup rfl (pgs_cons (pg_name (i := 5) sc__law_words.nd rfl (by first | exact Or.inl rfl | exact Or.inr rfl)) (pgs_cons (pg_name (i := 6) sc__law_words.nd rfl (by first | exact Or.inl rfl | exact Or.inr rfl)) pgs_nil))) (tg_tup (is := [5, 6]))) (s_cons (s_for pw rfl (i_range1 B.n_range (a_cons (r_var 1) a_nil)) (pg_name (i := 2) sc__law_words.nd rfl (by first | exact Or.inl rfl | exact Or.inr rfl)) tg_name (s_cons (s_set 7 sc__law_words.nd (r_add (r_add (r_slice (r_var 3) o_none (o_some (r_var 5))) (r_ix r_str (r_call (pur_def (ok__law_draw B)) (hr.mono (by decide)) (bi__law_draw B) tk (a_cons (r_var 0) (a_cons r_int a_nil))))) (r_slice (r_var 3) (o_some (r_add (r_var 5) r_int)) o_none))) (s_cons (s_if (t_not (t_val (r_var 4))) (s_one (s_set 7 sc__law_words.nd (r_call (pur_def (ok__law_word B)) (hr.mono (by decide)) (bi__law_word B) tk (a_cons (r_var 0) a_nil)))) s_nil) (s_cons (s_if (t_in (deepy_of hr) (r_var 7) (r_var 6)) (s_one (s_set 7 sc__law_words.nd (r_ix (r_lc (own := [("_law_letter", 8)]) rfl sc__law_words.nd (show BlkOk ["_law_purse_here", "_law_many", "_law_turn", "_law_base", "_law_near", "_law_spot", "_law_found", "_law_word_here", "_law_letter"] (defScope s__law_words) _ [("_law_letter", 8)] from ⟨rfl, by decide +kernel, by decide +kernel, by decide +kernel, by decide +kernel⟩) (i_any (r_listS rfl B.n_list (a_cons r_str a_nil))) tg_name (bName_in (by decide)) (fun _ _ _ _ _ => (pg_name (i := 8) sc__law_words.nd rfl (by first | exact Or.inl rfl | exact Or.inr rfl))) (fun _ _ _ _ _ => (ts_one (t_notin (deepy_of hr) (r_var 8) (r_var 6)))) (fun _ _ _ _ _ => (r_var 8))) r_int))) s_nil) (s_one (s_exp (r_append (r_var 6) (a_cons (r_var 7) a_nil)))))))) (s_one (s_ret (r_var 6)))))), B.g__law_words, B.d__law_words.kp⟩
end
end K57

namespace K57
open PySem PySem.Spec L2 MR
open PyProof.Rows (envOfC)
section
variable {P : Program} {w : World} {K : PySem.W.Frag} {mg : Str → Option Value} {base : Heap} {ca : Str → Addr} {fa : Nat → Addr} {fd : Nat → FuncData}
/-! ### _law_expression -/
theorem sc__law_expression : FnScope ["_law_purse_here", "_law_jobs", "_law_nest_here", "_law_size", "_law_way", "_law_many", "_law_part"] ["_law_purse_here", "_law_jobs", "_law_nest_here", "_law_size"] (defScope s__law_expression) := ⟨rfl, rfl, rfl, by decide +kernel, rfl, by decide +kernel, by decide +kernel⟩
def FB__law_expression (F : Fn) : SM := mSeq (mSet 4 (mOwn (pur F__law_draw) [] (mCons (mV 0) (mCons (mC (.int 6)) (mNil))))) (mSeq (mIfS (mOr (mOp2 ltD (mV 3) (mC (.int 2))) (mOp2 eqD (mV 4) (mC (.int 0)))) (mRet (mOwn (pur F__law_one_of) [] (mCons (mV 0) (mCons (mV 1) (mNil))))) (mNx)) (mSeq (mIfS (mAnd (mOp2 gtD (mV 2) (mC (.int 0))) (mOp2 ltD (mV 4) (mC (.int 4)))) (mRet (mTup (mCons (mC (.str "again")) (mCons (mOwn (pur F) [] (mCons (mV 0) (mCons (mV 1) (mCons (mOp2 subD (mV 2) (mC (.int 1))) (mCons (mOp2 subD (mV 3) (mC (.int 1))) (mNil)))))) (mNil))))) (mNx)) (mSeq (mSet 5 (mOwn (pur F__law_draw) [] (mCons (mV 0) (mCons (mCall minF (mCons (mC (.int 4)) (mCons (mOp2 addD (mV 3) (mC (.int 1))) (mNil)))) (mNil))))) (mRet (mTup (mCons (mC (.str "row")) (mCons (mLc (mRange1 (mCons (mV 5) (mNil))) (bName 6) (mTrue) (mOwn (pur F) [] (mCons (mV 0) (mCons (mV 1) (mCons (mV 2) (mCons (mOp2 fdivD (mV 3) (mCall maxF (mCons (mC (.int 2)) (mCons (mV 5) (mNil))))) (mNil)))))) [6]) (mNil))))))))
def F__law_expression : Nat → Fn
  | 0 => fun _ _ => .bad
  | n + 1 => runB 4 7 (FB__law_expression (F__law_expression n))
theorem bi__law_expression (B : Bas P K mg ca fa fd) : Binds K (fd 22) ["_law_purse_here", "_law_jobs", "_law_nest_here", "_law_size"] [] := B.d__law_expression.bindsN (ps := ["_law_purse_here", "_law_jobs", "_law_nest_here", "_law_size"]) fun _ _ _ _ _ _ us hl => match us, hl with | [_, _, _, _], _ => rfl
theorem ok__law_expression (B : Bas P K mg ca fa fd) : ∀ n : Nat, Def P w K mg base (Tt w K ca) (n + 5) "_law_expression" (fa 22) (fd 22) ["_law_purse_here", "_law_jobs", "_law_nest_here", "_law_size"] (F__law_expression n)
  | 0 => ⟨B.d__law_expression.ok (k := 4) sc__law_expression (fun _ _ _ _ h => (spM_bad h).elim) (fun _ _ _ _ _ _ _ _ _ h => (spM_bad h).elim), B.g__law_expression, B.d__law_expression.kp⟩
  | n + 1 => by
    have IH := ok__law_expression B n
    exact ⟨fn_ok (k := n + 5) (Tt w K ca) B.d__law_expression sc__law_expression fun cdv A outer s H E hr tk pw => (s_cons (s_set 4 sc__law_expression.nd (r_call (pur_def (ok__law_draw B)) (hr.mono (by omega)) (bi__law_draw B) tk (a_cons (r_var 0) (a_cons r_int a_nil)))) (s_cons (s_if (PW.pt (w_or (t_lt (r_var 3) r_int) (w_one (t_eq (deepy_of hr) (r_var 4) r_int)))) (s_one (s_ret (r_call (pur_def (ok__law_one_of B)) (hr.mono (by omega)) (bi__law_one_of B) tk (a_cons (r_var 0) (a_cons (r_var 1) a_nil))))) s_nil) (s_cons (s_if (PW.pt (w_and (t_gt (r_var 2) r_int) (w_one (t_lt (r_var 4) r_int)))) (s_one (s_ret (r_tup (a_cons r_str (a_cons (r_call (pur_def IH) (hr.mono (by omega)) (bi__law_expression B) tk (a_cons (r_var 0) (a_cons (r_var 1) (a_cons (r_sub (r_var 2) r_int) (a_cons (r_sub (r_var 3) r_int) a_nil))))) a_nil))))) s_nil) (s_cons (s_set 5 sc__law_expression.nd (r_call (pur_def (ok__law_draw B)) (hr.mono (by omega)) (bi__law_draw B) tk (a_cons (r_var 0) (a_cons (r_min rfl B.n_min (a_cons r_int (a_cons (r_add (r_var 3) r_int) a_nil))) a_nil)))) (s_one (s_ret (r_tup (a_cons r_str (a_cons (r_lc (own := [("_law_part", 6)]) rfl sc__law_expression.nd (show BlkOk ["_law_purse_here", "_law_jobs", "_law_nest_here", "_law_size", "_law_way", "_law_many", "_law_part"] (defScope s__law_expression) _ [("_law_part", 6)] from ⟨rfl, by decide +kernel, by decide +kernel, by decide +kernel, by decide +kernel⟩) (i_range1 B.n_range (a_cons (r_var 5) a_nil)) tg_name (bName_in (by decide)) (fun _ _ _ _ _ => (pg_name (i := 6) sc__law_expression.nd rfl (by first | exact Or.inl rfl | exact Or.inr rfl))) (fun _ _ _ _ _ => ts_nil) (fun _ _ _ _ _ => (r_call (pur_def IH) (hr.mono (by omega)) (bi__law_expression B) takes_none5 (a_cons (r_var 0) (a_cons (r_var 1) (a_cons (r_var 2) (a_cons (r_fdiv (r_var 3) (r_max rfl B.n_max (a_cons r_int (a_cons (r_var 5) a_nil)))) a_nil))))))) a_nil))))))))), B.g__law_expression, B.d__law_expression.kp⟩
/-! ### _law_placed -/
theorem sc__law_placed : FnScope ["_law_purse_here", "_law_expression_here", "_law_at", "_law_parts"] ["_law_purse_here", "_law_expression_here"] (defScope s__law_placed) := ⟨rfl, rfl, rfl, by decide +kernel, rfl, by decide +kernel, by decide +kernel⟩
def FB__law_placed (F : Fn) : SM := mSeq (mIfS (mOr (mCall isiF (mCons (mV 1) (mCons (mC (.ty "str")) (mNil)))) (mOp2 eqD (mOp2 ixD (mV 1) (mC (.int 1))) (mLst (mNil)))) (mRet (mTup (mCons (mC (.str "place")) (mNil)))) (mNx)) (mSeq (mIfS (mOp2 eqD (mOp2 ixD (mV 1) (mC (.int 0))) (mC (.str "again"))) (mRet (mTup (mCons (mC (.str "again")) (mCons (mOwn (pur F) [] (mCons (mV 0) (mCons (mOp2 ixD (mV 1) (mC (.int 1))) (mNil)))) (mNil))))) (mNx)) (mSeq (mSet 2 (mOwn (pur F__law_draw) [] (mCons (mV 0) (mCons (mCall lenF (mCons (mOp2 ixD (mV 1) (mC (.int 1))) (mNil))) (mNil))))) (mSeq (mSet 3 (mCall listF (mCons (mOp2 ixD (mV 1) (mC (.int 1))) (mNil)))) (mSeq (mPut (mV 3) (mV 2) (mOwn (pur F) [] (mCons (mV 0) (mCons (mOp2 ixD (mV 3) (mV 2)) (mNil))))) (mSeq (mIfS (mAnd (mOp2 gtD (mCall lenF (mCons (mV 3) (mNil))) (mC (.int 1))) (mOp2 eqD (mOwn (pur F__law_draw) [] (mCons (mV 0) (mCons (mC (.int 4)) (mNil)))) (mC (.int 0)))) (mPut (mV 3) (mOp2 subD (mV 2) (mC (.int 1))) (mOwn (pur F) [] (mCons (mV 0) (mCons (mOp2 ixD (mV 3) (mOp2 subD (mV 2) (mC (.int 1)))) (mNil))))) (mNx)) (mRet (mTup (mCons (mC (.str "row")) (mCons (mV 3) (mNil))))))))))
def F__law_placed : Nat → Fn
  | 0 => fun _ _ => .bad
  | n + 1 => runB 2 4 (FB__law_placed (F__law_placed n))
theorem bi__law_placed (B : Bas P K mg ca fa fd) : Binds K (fd 23) ["_law_purse_here", "_law_expression_here"] [] := B.d__law_placed.bindsN (ps := ["_law_purse_here", "_law_expression_here"]) fun _ _ _ _ _ _ us hl => match us, hl with | [_, _], _ => rfl
theorem ok__law_placed (B : Bas P K mg ca fa fd) : ∀ n : Nat, Def P w K mg base (Tt w K ca) (n + 4) "_law_placed" (fa 23) (fd 23) ["_law_purse_here", "_law_expression_here"] (F__law_placed n)
  | 0 => ⟨B.d__law_placed.ok (k := 3) sc__law_placed (fun _ _ _ _ h => (spM_bad h).elim) (fun _ _ _ _ _ _ _ _ _ h => (spM_bad h).elim), B.g__law_placed, B.d__law_placed.kp⟩
  | n + 1 => by
    have IH := ok__law_placed B n
    exact ⟨fn_ok (k := n + 4) (Tt w K ca) B.d__law_placed sc__law_placed fun cdv A outer s H E hr tk pw => (s_cons (s_if (PW.pt (w_or (t_val (r_isi B.n_isinstance (a_cons (r_var 1) (a_cons (r_ty rfl B.n_str (by decide +kernel) (by decide +kernel) (by decide +kernel)) a_nil)))) (w_one (t_eq (deepy_of hr) (r_ix (r_var 1) r_int) (r_lst a_nil))))) (s_one (s_ret (r_tup (a_cons r_str a_nil)))) s_nil) (s_cons (s_if (t_eq (deepy_of hr) (r_ix (r_var 1) r_int) r_str) (s_one (s_ret (r_tup (a_cons r_str (a_cons (r_call (pur_def IH) (hr.mono (by omega)) (bi__law_placed B) tk (a_cons (r_var 0) (a_cons (r_ix (r_var 1) r_int) a_nil))) a_nil))))) s_nil) (s_cons (s_set 2 sc__law_placed.nd (r_call (pur_def (ok__law_draw B)) (hr.mono (by omega)) (bi__law_draw B) tk (a_cons (r_var 0) (a_cons (r_len B.n_len (a_cons (r_ix (r_var 1) r_int) a_nil)) a_nil)))) (s_cons (s_set 3 sc__law_placed.nd (r_list B.n_list (a_cons (r_ix (r_var 1) r_int) a_nil))) (s_cons (s_put (r_var 3) (r_var 2) (r_call (pur_def IH) (hr.mono (by omega)) (bi__law_placed B) tk (a_cons (r_var 0) (a_cons (r_ix (r_var 3) (r_var 2)) a_nil)))) (s_cons (s_if (PW.pt (w_and (t_gt (r_len B.n_len (a_cons (r_var 3) a_nil)) r_int) (w_one (t_eq (deepy_of hr) (r_call (pur_def (ok__law_draw B)) (hr.mono (by omega)) (bi__law_draw B) tk (a_cons (r_var 0) (a_cons r_int a_nil))) r_int)))) (s_one (s_put (r_var 3) (r_sub (r_var 2) r_int) (r_call (pur_def IH) (hr.mono (by omega)) (bi__law_placed B) tk (a_cons (r_var 0) (a_cons (r_ix (r_var 3) (r_sub (r_var 2) r_int)) a_nil))))) s_nil) (s_one (s_ret (r_tup (a_cons r_str (a_cons (r_var 3) a_nil))))))))))), B.g__law_placed, B.d__law_placed.kp⟩
/-! ### _law_put -/
theorem sc__law_put : FnScope ["_law_frame", "_law_expression_here", "_law_part"] ["_law_frame", "_law_expression_here"] (defScope s__law_put) := ⟨rfl, rfl, rfl, by decide +kernel, rfl, by decide +kernel, by decide +kernel⟩
def FB__law_put (F : Fn) : SM := mSeq (mIfS (mOp2 eqD (mV 0) (mTup (mCons (mC (.str "place")) (mNil)))) (mRet (mOwn (pur (F__law_same 16)) [] (mCons (mV 1) (mNil)))) (mNx)) (mSeq (mIfS (mCall isiF (mCons (mV 0) (mCons (mC (.ty "str")) (mNil)))) (mRet (mV 0)) (mNx)) (mSeq (mIfS (mOp2 eqD (mOp2 ixD (mV 0) (mC (.int 0))) (mC (.str "again"))) (mRet (mTup (mCons (mC (.str "again")) (mCons (mOwn (pur F) [] (mCons (mOp2 ixD (mV 0) (mC (.int 1))) (mCons (mV 1) (mNil)))) (mNil))))) (mNx)) (mRet (mTup (mCons (mC (.str "row")) (mCons (mLc (mIter (mOp2 ixD (mV 0) (mC (.int 1)))) (bName 2) (mTrue) (mOwn (pur F) [] (mCons (mV 2) (mCons (mV 1) (mNil)))) [2]) (mNil)))))))
def F__law_put : Nat → Fn
  | 0 => fun _ _ => .bad
  | n + 1 => runB 2 3 (FB__law_put (F__law_put n))
theorem bi__law_put (B : Bas P K mg ca fa fd) : Binds K (fd 24) ["_law_frame", "_law_expression_here"] [] := B.d__law_put.bindsN (ps := ["_law_frame", "_law_expression_here"]) fun _ _ _ _ _ _ us hl => match us, hl with | [_, _], _ => rfl
theorem ok__law_put (B : Bas P K mg ca fa fd) : ∀ n : Nat, Def P w K mg base (Tt w K ca) (n + 19) "_law_put" (fa 24) (fd 24) ["_law_frame", "_law_expression_here"] (F__law_put n)
  | 0 => ⟨B.d__law_put.ok (k := 18) sc__law_put (fun _ _ _ _ h => (spM_bad h).elim) (fun _ _ _ _ _ _ _ _ _ h => (spM_bad h).elim), B.g__law_put, B.d__law_put.kp⟩
  | n + 1 => by
    have IH := ok__law_put B n
    exact ⟨fn_ok (k := n + 19) (Tt w K ca) B.d__law_put sc__law_put fun cdv A outer s H E hr tk pw => (s_cons (s_if (t_eq (deepy_of hr) (r_var 0) (r_tup (a_cons r_str a_nil))) (s_one (s_ret (r_call (pur_def (ok__law_same B 16)) (hr.mono (by omega)) (bi__law_same B) tk (a_cons (r_var 1) a_nil)))) s_nil) (s_cons (s_if (t_val (r_isi B.n_isinstance (a_cons (r_var 0) (a_cons (r_ty rfl B.n_str (by decide +kernel) (by decide +kernel) (by decide +kernel)) a_nil)))) (s_one (s_ret (r_var 0))) s_nil) (s_cons (s_if (t_eq (deepy_of hr) (r_ix (r_var 0) r_int) r_str) (s_one (s_ret (r_tup (a_cons r_str (a_cons (r_call (pur_def IH) (hr.mono (by omega)) (bi__law_put B) tk (a_cons (r_ix (r_var 0) r_int) (a_cons (r_var 1) a_nil))) a_nil))))) s_nil) (s_one (s_ret (r_tup (a_cons r_str (a_cons (r_lc (own := [("_law_part", 2)]) rfl sc__law_put.nd (show BlkOk ["_law_frame", "_law_expression_here", "_law_part"] (defScope s__law_put) _ [("_law_part", 2)] from ⟨rfl, by decide +kernel, by decide +kernel, by decide +kernel, by decide +kernel⟩) (i_any (r_ix (r_var 0) r_int)) tg_name (bName_in (by decide)) (fun _ _ _ _ _ => (pg_name (i := 2) sc__law_put.nd rfl (by first | exact Or.inl rfl | exact Or.inr rfl))) (fun _ _ _ _ _ => ts_nil) (fun _ _ _ _ _ => (r_call (pur_def IH) (hr.mono (by omega)) (bi__law_put B) takes_none5 (a_cons (r_var 2) (a_cons (r_var 1) a_nil))))) a_nil)))))))), B.g__law_put, B.d__law_put.kp⟩
/-! ### _law_leaves -/
theorem sc__law_leaves : FnScope ["_law_expression_here", "_law_found", "_law_part"] ["_law_expression_here"] (defScope s__law_leaves) := ⟨rfl, rfl, rfl, by decide +kernel, rfl, by decide +kernel, by decide +kernel⟩
def FB__law_leaves (F : Fn) : SM := mSeq (mIfS (mCall isiF (mCons (mV 0) (mCons (mC (.ty "str")) (mNil)))) (mRet (mLst (mCons (mV 0) (mNil)))) (mNx)) (mSeq (mIfS (mOp2 eqD (mV 0) (mTup (mCons (mC (.str "place")) (mNil)))) (mRet (mLst (mNil))) (mNx)) (mSeq (mSet 1 (mLst (mNil))) (mSeq (mFor (mIter (mIf (mOp2 eqD (mOp2 ixD (mV 0) (mC (.int 0))) (mC (.str "row"))) (mOp2 ixD (mV 0) (mC (.int 1))) (mLst (mCons (mOp2 ixD (mV 0) (mC (.int 1))) (mNil))))) (bName 2) (mSet 1 (mOp2 addD (mV 1) (mOwn (pur F) [] (mCons (mV 2) (mNil)))))) (mRet (mV 1)))))
def F__law_leaves : Nat → Fn
  | 0 => fun _ _ => .bad
  | n + 1 => runB 1 3 (FB__law_leaves (F__law_leaves n))
theorem bi__law_leaves (B : Bas P K mg ca fa fd) : Binds K (fd 25) ["_law_expression_here"] [] := B.d__law_leaves.bindsN (ps := ["_law_expression_here"]) fun _ _ _ _ _ _ us hl => match us, hl with | [_], _ => rfl
theorem ok__law_leaves (B : Bas P K mg ca fa fd) : ∀ n : Nat, Def P w K mg base (Tt w K ca) (n + 2) "_law_leaves" (fa 25) (fd 25) ["_law_expression_here"] (F__law_leaves n)
  | 0 => ⟨B.d__law_leaves.ok (k := 1) sc__law_leaves (fun _ _ _ _ h => (spM_bad h).elim) (fun _ _ _ _ _ _ _ _ _ h => (spM_bad h).elim), B.g__law_leaves, B.d__law_leaves.kp⟩
  | n + 1 => by
    have IH := ok__law_leaves B n
    exact ⟨fn_ok (k := n + 2) (Tt w K ca) B.d__law_leaves sc__law_leaves fun cdv A outer s H E hr tk pw => (s_cons (s_if (t_val (r_isi B.n_isinstance (a_cons (r_var 0) (a_cons (r_ty rfl B.n_str (by decide +kernel) (by decide +kernel) (by decide +kernel)) a_nil)))) (s_one (s_ret (r_lst (a_cons (r_var 0) a_nil)))) s_nil) (s_cons (s_if (t_eq (deepy_of hr) (r_var 0) (r_tup (a_cons r_str a_nil))) (s_one (s_ret (r_lst a_nil))) s_nil) (s_cons (s_set 1 sc__law_leaves.nd (r_lst a_nil)) (s_cons (s_for pw rfl (i_any (r_if (t_eq (deepy_of hr) (r_ix (r_var 0) r_int) r_str) (r_ix (r_var 0) r_int) (r_lst (a_cons (r_ix (r_var 0) r_int) a_nil)))) (pg_name (i := 2) sc__law_leaves.nd rfl (by first | exact Or.inl rfl | exact Or.inr rfl)) tg_name (s_one (s_set 1 sc__law_leaves.nd (r_add (r_var 1) (r_call (pur_def IH) (hr.mono (by omega)) (bi__law_leaves B) tk (a_cons (r_var 2) a_nil)))))) (s_one (s_ret (r_var 1))))))), B.g__law_leaves, B.d__law_leaves.kp⟩
/-! ### _law_nest -/
theorem sc__law_nest : FnScope ["_law_expression_here", "_law_part"] ["_law_expression_here"] (defScope s__law_nest) := ⟨rfl, rfl, rfl, by decide +kernel, rfl, by decide +kernel, by decide +kernel⟩
def FB__law_nest (F : Fn) : SM := mSeq (mIfS (mOr (mCall isiF (mCons (mV 0) (mCons (mC (.ty "str")) (mNil)))) (mOp2 eqD (mV 0) (mTup (mCons (mC (.str "place")) (mNil))))) (mRet (mC (.int 0))) (mNx)) (mSeq (mIfS (mOp2 eqD (mOp2 ixD (mV 0) (mC (.int 0))) (mC (.str "again"))) (mRet (mOp2 addD (mC (.int 1)) (mOwn (pur F) [] (mCons (mOp2 ixD (mV 0) (mC (.int 1))) (mNil))))) (mNx)) (mRet (mCall maxLF (mCons (mOp2 addD (mLst (mCons (mC (.int 0)) (mNil))) (mLc (mIter (mOp2 ixD (mV 0) (mC (.int 1)))) (bName 1) (mTrue) (mOwn (pur F) [] (mCons (mV 1) (mNil))) [1])) (mNil)))))
def F__law_nest : Nat → Fn
  | 0 => fun _ _ => .bad
  | n + 1 => runB 1 2 (FB__law_nest (F__law_nest n))
theorem bi__law_nest (B : Bas P K mg ca fa fd) : Binds K (fd 26) ["_law_expression_here"] [] := B.d__law_nest.bindsN (ps := ["_law_expression_here"]) fun _ _ _ _ _ _ us hl => match us, hl with | [_], _ => rfl
theorem ok__law_nest (B : Bas P K mg ca fa fd) : ∀ n : Nat, Def P w K mg base (Tt w K ca) (n + 2) "_law_nest" (fa 26) (fd 26) ["_law_expression_here"] (F__law_nest n)
  | 0 => ⟨B.d__law_nest.ok (k := 1) sc__law_nest (fun _ _ _ _ h => (spM_bad h).elim) (fun _ _ _ _ _ _ _ _ _ h => (spM_bad h).elim), B.g__law_nest, B.d__law_nest.kp⟩
  | n + 1 => by
    have IH := ok__law_nest B n
    exact ⟨fn_ok (k := n + 2) (Tt w K ca) B.d__law_nest sc__law_nest fun cdv A outer s H E hr tk pw => (s_cons (s_if (PW.pt (w_or (t_val (r_isi B.n_isinstance (a_cons (r_var 0) (a_cons (r_ty rfl B.n_str (by decide +kernel) (by decide +kernel) (by decide +kernel)) a_nil)))) (w_one (t_eq (deepy_of hr) (r_var 0) (r_tup (a_cons r_str a_nil)))))) (s_one (s_ret r_int)) s_nil) (s_cons (s_if (t_eq (deepy_of hr) (r_ix (r_var 0) r_int) r_str) (s_one (s_ret (r_add r_int (r_call (pur_def IH) (hr.mono (by omega)) (bi__law_nest B) tk (a_cons (r_ix (r_var 0) r_int) a_nil))))) s_nil) (s_one (s_ret (r_maxL rfl B.n_max (a_cons (r_add (r_lst (a_cons r_int a_nil)) (r_lc (own := [("_law_part", 1)]) rfl sc__law_nest.nd (show BlkOk ["_law_expression_here", "_law_part"] (defScope s__law_nest) _ [("_law_part", 1)] from ⟨rfl, by decide +kernel, by decide +kernel, by decide +kernel, by decide +kernel⟩) (i_any (r_ix (r_var 0) r_int)) tg_name (bName_in (by decide)) (fun _ _ _ _ _ => (pg_name (i := 1) sc__law_nest.nd rfl (by first | exact Or.inl rfl | exact Or.inr rfl))) (fun _ _ _ _ _ => ts_nil) (fun _ _ _ _ _ => (r_call (pur_def IH) (hr.mono (by omega)) (bi__law_nest B) takes_none5 (a_cons (r_var 1) a_nil))))) a_nil)))))), B.g__law_nest, B.d__law_nest.kp⟩
/-! ### _law_bent -/
theorem sc__law_bent : FnScope ["_law_purse_here", "_law_frame", "_law_at"] ["_law_purse_here", "_law_frame"] (defScope s__law_bent) := ⟨rfl, rfl, rfl, by decide +kernel, rfl, by decide +kernel, by decide +kernel⟩
def FB__law_bent (F : Fn) : SM := mSeq (mIfS (mOr (mCall isiF (mCons (mV 1) (mCons (mC (.ty "str")) (mNil)))) (mOp2 eqD (mV 1) (mTup (mCons (mC (.str "place")) (mNil))))) (mRet (mOwn (pur F__law_one_of) [] (mCons (mV 0) (mCons (mLst (mCons (mC .non) (mCons (mC (.int 5)) (mCons (mC (.str "")) (mCons (mTup (mCons (mC (.str "place")) (mCons (mC .non) (mNil)))) (mCons (mLst (mCons (mC (.str "place")) (mNil))) (mCons (mTup (mNil)) (mCons (mTup (mCons (mC (.str "places")) (mNil))) (mCons (mTup (mCons (mC (.str "row")) (mNil))) (mCons (mC (.bl true)) (mNil))))))))))) (mNil))))) (mNx)) (mSeq (mIfS (mOp2 eqD (mOp2 ixD (mV 1) (mC (.int 0))) (mC (.str "again"))) (mRet (mIf (mOp2 gtD (mOwn (pur F__law_draw) [] (mCons (mV 0) (mCons (mC (.int 3)) (mNil)))) (mC (.int 0))) (mTup (mCons (mC (.str "again")) (mCons (mOwn (pur F) [] (mCons (mV 0) (mCons (mOp2 ixD (mV 1) (mC (.int 1))) (mNil)))) (mNil)))) (mLst (mCons (mC (.str "again")) (mCons (mOp2 ixD (mV 1) (mC (.int 1))) (mNil)))))) (mNx)) (mSeq (mIfS (mOr (mOp2 eqD (mOp2 ixD (mV 1) (mC (.int 1))) (mLst (mNil))) (mOp2 eqD (mOwn (pur F__law_draw) [] (mCons (mV 0) (mCons (mC (.int 3)) (mNil)))) (mC (.int 0)))) (mRet (mTup (mCons (mC (.str "row")) (mCons (mCall tupleF (mCons (mOp2 ixD (mV 1) (mC (.int 1))) (mNil))) (mNil))))) (mNx)) (mSeq (mSet 2 (mOwn (pur F__law_draw) [] (mCons (mV 0) (mCons (mCall lenF (mCons (mOp2 ixD (mV 1) (mC (.int 1))) (mNil))) (mNil))))) (mRet (mTup (mCons (mC (.str "row")) (mCons (mOp2 addD (mOp2 addD (mSlice (mOp2 ixD (mV 1) (mC (.int 1))) mNoPart (mPart (mV 2))) (mLst (mCons (mOwn (pur F) [] (mCons (mV 0) (mCons (mOp2 ixD (mOp2 ixD (mV 1) (mC (.int 1))) (mV 2)) (mNil)))) (mNil)))) (mSlice (mOp2 ixD (mV 1) (mC (.int 1))) (mPart (mOp2 addD (mV 2) (mC (.int 1)))) mNoPart)) (mNil))))))))
def F__law_bent : Nat → Fn
  | 0 => fun _ _ => .bad
  | n + 1 => runB 2 3 (FB__law_bent (F__law_bent n))
theorem bi__law_bent (B : Bas P K mg ca fa fd) : Binds K (fd 27) ["_law_purse_here", "_law_frame"] [] := B.d__law_bent.bindsN (ps := ["_law_purse_here", "_law_frame"]) fun _ _ _ _ _ _ us hl => match us, hl with | [_, _], _ => rfl
theorem ok__law_bent (B : Bas P K mg ca fa fd) : ∀ n : Nat, Def P w K mg base (Tt w K ca) (n + 5) "_law_bent" (fa 27) (fd 27) ["_law_purse_here", "_law_frame"] (F__law_bent n)
  | 0 => ⟨B.d__law_bent.ok (k := 4) sc__law_bent (fun _ _ _ _ h => (spM_bad h).elim) (fun _ _ _ _ _ _ _ _ _ h => (spM_bad h).elim), B.g__law_bent, B.d__law_bent.kp⟩
  | n + 1 => by
    have IH := ok__law_bent B n
    exact ⟨fn_ok (k := n + 5) (Tt w K ca) B.d__law_bent sc__law_bent fun cdv A outer s H E hr tk pw => (s_cons (s_if (PW.pt (w_or (t_val (r_isi B.n_isinstance (a_cons (r_var 1) (a_cons (r_ty rfl B.n_str (by decide +kernel) (by decide +kernel) (by decide +kernel)) a_nil)))) (w_one (t_eq (deepy_of hr) (r_var 1) (r_tup (a_cons r_str a_nil)))))) (s_one (s_ret (r_call (pur_def (ok__law_one_of B)) (hr.mono (by omega)) (bi__law_one_of B) tk (a_cons (r_var 0) (a_cons (r_lst (a_cons r_non (a_cons r_int (a_cons r_str (a_cons (r_tup (a_cons r_str (a_cons r_non a_nil))) (a_cons (r_lst (a_cons r_str a_nil)) (a_cons (r_tup a_nil) (a_cons (r_tup (a_cons r_str a_nil)) (a_cons (r_tup (a_cons r_str a_nil)) (a_cons r_bl a_nil)))))))))) a_nil))))) s_nil) (s_cons (s_if (t_eq (deepy_of hr) (r_ix (r_var 1) r_int) r_str) (s_one (s_ret (r_if (t_gt (r_call (pur_def (ok__law_draw B)) (hr.mono (by omega)) (bi__law_draw B) tk (a_cons (r_var 0) (a_cons r_int a_nil))) r_int) (r_tup (a_cons r_str (a_cons (r_call (pur_def IH) (hr.mono (by omega)) (bi__law_bent B) tk (a_cons (r_var 0) (a_cons (r_ix (r_var 1) r_int) a_nil))) a_nil))) (r_lst (a_cons r_str (a_cons (r_ix (r_var 1) r_int) a_nil)))))) s_nil) (s_cons (s_if (PW.pt (w_or (t_eq (deepy_of hr) (r_ix (r_var 1) r_int) (r_lst a_nil)) (w_one (t_eq (deepy_of hr) (r_call (pur_def (ok__law_draw B)) (hr.mono (by omega)) (bi__law_draw B) tk (a_cons (r_var 0) (a_cons r_int a_nil))) r_int)))) (s_one (s_ret (r_tup (a_cons r_str (a_cons (r_tuple B.n_tuple (a_cons (r_ix (r_var 1) r_int) a_nil)) a_nil))))) s_nil) (s_cons (s_set 2 sc__law_bent.nd (r_call (pur_def (ok__law_draw B)) (hr.mono (by omega)) (bi__law_draw B) tk (a_cons (r_var 0) (a_cons (r_len B.n_len (a_cons (r_ix (r_var 1) r_int) a_nil)) a_nil)))) (s_one (s_ret (r_tup (a_cons r_str (a_cons (r_add (r_add (r_slice (r_ix (r_var 1) r_int) o_none (o_some (r_var 2))) (r_lst (a_cons (r_call (pur_def IH) (hr.mono (by omega)) (bi__law_bent B) tk (a_cons (r_var 0) (a_cons (r_ix (r_ix (r_var 1) r_int) (r_var 2)) a_nil))) a_nil))) (r_slice (r_ix (r_var 1) r_int) (o_some (r_add (r_var 2) r_int)) o_none)) a_nil))))))))), B.g__law_bent, B.d__law_bent.kp⟩
/-! ### _law_spoilt -/
theorem sc__law_spoilt : FnScope ["_law_thing", "_law_part"] ["_law_thing"] (defScope s__law_spoilt) := ⟨rfl, rfl, rfl, by decide +kernel, rfl, by decide +kernel, by decide +kernel⟩
def FB__law_spoilt (F : Fn) : SM := mSeq (mIfS (mCall isiF (mCons (mV 0) (mCons (mTup (mCons (mC (.ty "list")) (mCons (mC (.ty "tuple")) (mNil)))) (mNil)))) (mFor (mIter (mV 0)) (bName 1) (mExp (mOwn (pur F) [] (mCons (mV 1) (mNil))))) (mNx)) (mIfS (mCall isiF (mCons (mV 0) (mCons (mC (.ty "list")) (mNil)))) (mExp (mMeth "list" appendG (mV 0) (mCons (mC (.str "more")) (mNil)))) (mNx))
def F__law_spoilt : Nat → Fn
  | 0 => fun _ _ => .bad
  | n + 1 => runB 1 2 (FB__law_spoilt (F__law_spoilt n))
theorem bi__law_spoilt (B : Bas P K mg ca fa fd) : Binds K (fd 28) ["_law_thing"] [] := B.d__law_spoilt.bindsN (ps := ["_law_thing"]) fun _ _ _ _ _ _ us hl => match us, hl with | [_], _ => rfl
theorem ok__law_spoilt (B : Bas P K mg ca fa fd) : ∀ n : Nat, Def P w K mg base (Tt w K ca) (n + 2) "_law_spoilt" (fa 28) (fd 28) ["_law_thing"] (F__law_spoilt n)
  | 0 => ⟨B.d__law_spoilt.ok (k := 1) sc__law_spoilt (fun _ _ _ _ h => (spM_bad h).elim) (fun _ _ _ _ _ _ _ _ _ h => (spM_bad h).elim), B.g__law_spoilt, B.d__law_spoilt.kp⟩
  | n + 1 => by
    have IH := ok__law_spoilt B n
    exact ⟨fn_ok (k := n + 2) (Tt w K ca) B.d__law_spoilt sc__law_spoilt fun cdv A outer s H E hr tk pw => (s_cons (s_if (t_val (r_isi B.n_isinstance (a_cons (r_var 0) (a_cons (r_tup (a_cons (r_ty rfl B.n_list (by decide +kernel) (by decide +kernel) (by decide +kernel)) (a_cons (r_ty rfl B.n_tuple (by decide +kernel) (by decide +kernel) (by decide +kernel)) a_nil))) a_nil)))) (s_one (s_for pw rfl (i_any (r_var 0)) (pg_name (i := 1) sc__law_spoilt.nd rfl (by first | exact Or.inl rfl | exact Or.inr rfl)) tg_name (s_one (s_exp (r_call (pur_def IH) (hr.mono (by omega)) (bi__law_spoilt B) tk (a_cons (r_var 1) a_nil)))))) s_nil) (s_one (s_if (t_val (r_isi B.n_isinstance (a_cons (r_var 0) (a_cons (r_ty rfl B.n_list (by decide +kernel) (by decide +kernel) (by decide +kernel)) a_nil)))) (s_one (s_exp (r_append (r_var 0) (a_cons r_str a_nil)))) s_nil))), B.g__law_spoilt, B.d__law_spoilt.kp⟩
end
end K57

namespace K57
open PySem PySem.Spec L2 MR
open PyProof.Rows (envOfC)
section
variable {P : Program} {w : World} {K : PySem.W.Frag} {mg : Str → Option Value} {base : Heap} {ca : Str → Addr} {fa : Nat → Addr} {fd : Nat → FuncData}
/-! ### _law_frame_right -/
theorem sc__law_frame_right : FnScope ["_law_purse_here", "_law_frame", "_law_inner", "_law_expression_here", "_law_wide", "_law_told", "_law_both", "_law_turn", "_law_due", "_law_noted", "_law_bent_here"] ["_law_purse_here", "_law_frame", "_law_inner", "_law_expression_here"] (defScope s__law_frame_right) := ⟨rfl, rfl, rfl, by decide +kernel, rfl, by decide +kernel, by decide +kernel⟩
def FB__law_frame_right : SM := mSeq (mPar 8 9 (mCons (mOwn (pur (F__law_put 16)) [] (mCons (mV 1) (mCons (mV 3) (mNil)))) (mCons (mCall reprF (mCons (mLst (mCons (mV 1) (mCons (mV 2) (mCons (mV 3) (mNil))))) (mNil))) (mNil)))) (mSeq (mSet 4 (mOwn (pur (F__law_put 16)) [] (mCons (mOwn (pur (F__law_put 16)) [] (mCons (mV 1) (mCons (mV 2) (mNil)))) (mCons (mV 3) (mNil))))) (mSeq (mIfS (mOr (mOp2 gtD (mCall lenF (mCons (mOwn (pur (F__law_leaves 16)) [] (mCons (mV 4) (mNil))) (mNil))) (mC (.int 12))) (mOp2 gtD (mOwn (pur (F__law_nest 16)) [] (mCons (mV 4) (mNil))) (mC (.int 4)))) (mRet (mC (.bl true))) (mNx)) (mSeq (mSet 5 (mOwn (pur F_put_in) [] (mCons (mV 1) (mCons (mV 3) (mNil))))) (mSeq (mIfS (mOr (mNot (mOwn (pur (F__law_exact 16)) [] (mCons (mV 5) (mCons (mV 8) (mNil))))) (mOr (mOp2 isnotD (mOwn (pur F_is_expression) [] (mCons (mV 5) (mNil))) (mC (.bl true))) (mOp2 isnotD (mOwn (pur F_is_open) [] (mCons (mV 1) (mNil))) (mC (.bl true))))) (mRet (mC (.bl false))) (mNx)) (mSeq (mSet 6 (mCall sortF (mCons (mCall setTF (mCons (mOp2 addD (mOwn (pur (F__law_leaves 16)) [] (mCons (mV 1) (mNil))) (mOwn (pur (F__law_leaves 16)) [] (mCons (mV 3) (mNil)))) (mNil))) (mNil)))) (mSeq (mIfS (mOr (mOp2 neD (mOwn (pur F_jobs_in) [] (mCons (mV 5) (mNil))) (mV 6)) (mOr (mOp2 neD (mOwn (pur F_nesting) [] (mCons (mV 5) (mNil))) (mOwn (pur (F__law_nest 16)) [] (mCons (mV 8) (mNil)))) (mOp2 isnotD (mOwn (pur F_is_open) [] (mCons (mV 3) (mNil))) (mC (.bl false))))) (mRet (mC (.bl false))) (mNx)) (mSeq (mIfS (mNot (mOwn (pur (F__law_exact 16)) [] (mCons (mOwn (pur F_put_in) [] (mCons (mOwn (pur (F__law_put 16)) [] (mCons (mV 1) (mCons (mV 2) (mNil)))) (mCons (mV 3) (mNil)))) (mCons (mOwn (pur (F__law_put 16)) [] (mCons (mV 1) (mCons (mOwn (pur (F__law_put 16)) [] (mCons (mV 2) (mCons (mV 3) (mNil)))) (mNil)))) (mNil))))) (mRet (mC (.bl false))) (mNx)) (mSeq (mFor (mRange1 (mCons (mC (.int 3)) (mNil))) (bName 7) (mSeq (mSet 10 (mOwn (pur (F__law_bent 8)) [] (mCons (mV 0) (mCons (mV 1) (mNil))))) (mIfS (mOp2 isnotD (mOwn (pur F_is_open) [] (mCons (mV 10) (mNil))) (mC (.bl false))) (mRet (mC (.bl false))) (mNx)))) (mSeq (mExp (mOwn (pur (F__law_spoilt 16)) [] (mCons (mV 5) (mNil)))) (mRet (mAnd (mOp2 eqSD (mCall reprF (mCons (mLst (mCons (mV 1) (mCons (mV 2) (mCons (mV 3) (mNil))))) (mNil))) (mV 9)) (mOwn (pur (F__law_exact 16)) [] (mCons (mOwn (pur F_put_in) [] (mCons (mV 1) (mCons (mV 3) (mNil)))) (mCons (mV 8) (mNil)))))))))))))))
def F__law_frame_right : Fn := runB 4 11 FB__law_frame_right
theorem bi__law_frame_right (B : Bas P K mg ca fa fd) : Binds K (fd 29) ["_law_purse_here", "_law_frame", "_law_inner", "_law_expression_here"] [] := B.d__law_frame_right.bindsN (ps := ["_law_purse_here", "_law_frame", "_law_inner", "_law_expression_here"]) fun _ _ _ _ _ _ us hl => match us, hl with | [_, _, _, _], _ => rfl
theorem ok__law_frame_right (B : Bas P K mg ca fa fd) : DefG P w K mg base (Tt w K ca) 38 "_law_frame_right" (fa 29) (fd 29) ["_law_purse_here", "_law_frame", "_law_inner", "_law_expression_here"] F__law_frame_right := by
  exact ⟨fnG_ok (k := 37) (Tt w K ca) B.d__law_frame_right sc__law_frame_right fun cdv A outer s H E gd hr tk pw => (s_cons (s_par 8 9 rfl sc__law_frame_right.nd (a_cons (r_call (pur_def (ok__law_put B 16)) (hr.mono (by decide)) (bi__law_put B) tk (a_cons (r_var 1) (a_cons (r_var 3) a_nil))) (a_cons (r_repr gd (deepy_of hr) B.sysm B.n_repr (a_cons (r_lst (a_cons (r_var 1) (a_cons (r_var 2) (a_cons (r_var 3) a_nil)))) a_nil)) a_nil))) (s_cons (s_set 4 sc__law_frame_right.nd (r_call (pur_def (ok__law_put B 16)) (hr.mono (by decide)) (bi__law_put B) tk (a_cons (r_call (pur_def (ok__law_put B 16)) (hr.mono (by decide)) (bi__law_put B) tk (a_cons (r_var 1) (a_cons (r_var 2) a_nil))) (a_cons (r_var 3) a_nil)))) (s_cons (s_if (PW.pt (w_or (t_gt (r_len B.n_len (a_cons (r_call (pur_def (ok__law_leaves B 16)) (hr.mono (by decide)) (bi__law_leaves B) tk (a_cons (r_var 4) a_nil)) a_nil)) r_int) (w_one (t_gt (r_call (pur_def (ok__law_nest B 16)) (hr.mono (by decide)) (bi__law_nest B) tk (a_cons (r_var 4) a_nil)) r_int)))) (s_one (s_ret r_bl)) s_nil) (s_cons (s_set 5 sc__law_frame_right.nd (r_call (pur_def (ok_put_in B)) (hr.mono (by decide)) (bi_put_in B) tk (a_cons (r_var 1) (a_cons (r_var 3) a_nil)))) (s_cons (s_if (PW.pt (w_or (t_not (t_val (r_call (pur_def (ok__law_exact B 16)) (hr.mono (by decide)) (bi__law_exact B) tk (a_cons (r_var 5) (a_cons (r_var 8) a_nil))))) (w_or (t_isnot (r_call (pur_def (ok_is_expression B)) (hr.mono (by decide)) (bi_is_expression B) tk (a_cons (r_var 5) a_nil)) r_bl) (w_one (t_isnot (r_call (pur_def (ok_is_open B)) (hr.mono (by decide)) (bi_is_open B) tk (a_cons (r_var 1) a_nil)) r_bl))))) (s_one (s_ret r_bl)) s_nil) (s_cons (s_set 6 sc__law_frame_right.nd (r_sorted rfl (deepy_of hr) B.n_sorted (a_cons (r_setT rfl B.n_set (a_cons (r_add (r_call (pur_def (ok__law_leaves B 16)) (hr.mono (by decide)) (bi__law_leaves B) tk (a_cons (r_var 1) a_nil)) (r_call (pur_def (ok__law_leaves B 16)) (hr.mono (by decide)) (bi__law_leaves B) tk (a_cons (r_var 3) a_nil))) a_nil)) a_nil))) (s_cons (s_if (PW.pt (w_or (t_ne (deepy_of hr) (r_call (pur_def (ok_jobs_in B)) (hr.mono (by decide)) (bi_jobs_in B) tk (a_cons (r_var 5) a_nil)) (r_var 6)) (w_or (t_ne (deepy_of hr) (r_call (pur_def (ok_nesting B)) (hr.mono (by decide)) (bi_nesting B) tk (a_cons (r_var 5) a_nil)) (r_call (pur_def (ok__law_nest B 16)) (hr.mono (by decide)) (bi__law_nest B) tk (a_cons (r_var 8) a_nil))) (w_one (t_isnot (r_call (pur_def (ok_is_open B)) (hr.mono (by decide)) (bi_is_open B) tk (a_cons (r_var 3) a_nil)) r_bl))))) (s_one (s_ret r_bl)) s_nil) (s_cons (s_if (t_not (t_val (r_call (pur_def (ok__law_exact B 16)) (hr.mono (by decide)) (bi__law_exact B) tk (a_cons (r_call (pur_def (ok_put_in B)) (hr.mono (by decide)) (bi_put_in B) tk (a_cons (r_call (pur_def (ok__law_put B 16)) (hr.mono (by decide)) (bi__law_put B) tk (a_cons (r_var 1) (a_cons (r_var 2) a_nil))) (a_cons (r_var 3) a_nil))) (a_cons (r_call (pur_def (ok__law_put B 16)) (hr.mono (by decide)) (bi__law_put B) tk (a_cons (r_var 1) (a_cons (r_call (pur_def (ok__law_put B 16)) (hr.mono (by decide)) (bi__law_put B) tk (a_cons (r_var 2) (a_cons (r_var 3) a_nil))) a_nil))) a_nil))))) (s_one (s_ret r_bl)) s_nil) (s_cons (s_for pw rfl (i_range1 B.n_range (a_cons r_int a_nil)) (pg_name (i := 7) sc__law_frame_right.nd rfl (by first | exact Or.inl rfl | exact Or.inr rfl)) tg_name (s_cons (s_set 10 sc__law_frame_right.nd (r_call (pur_def (ok__law_bent B 8)) (hr.mono (by decide)) (bi__law_bent B) tk (a_cons (r_var 0) (a_cons (r_var 1) a_nil)))) (s_one (s_if (t_isnot (r_call (pur_def (ok_is_open B)) (hr.mono (by decide)) (bi_is_open B) tk (a_cons (r_var 10) a_nil)) r_bl) (s_one (s_ret r_bl)) s_nil)))) (s_cons (s_exp (r_call (pur_def (ok__law_spoilt B 16)) (hr.mono (by decide)) (bi__law_spoilt B) tk (a_cons (r_var 5) a_nil))) (s_one (s_ret (r_and (r_eqS (r_repr gd (deepy_of hr) B.sysm B.n_repr (a_cons (r_lst (a_cons (r_var 1) (a_cons (r_var 2) (a_cons (r_var 3) a_nil)))) a_nil)) (r_var 9)) (r_one (r_call (pur_def (ok__law_exact B 16)) (hr.mono (by decide)) (bi__law_exact B) tk (a_cons (r_call (pur_def (ok_put_in B)) (hr.mono (by decide)) (bi_put_in B) tk (a_cons (r_var 1) (a_cons (r_var 3) a_nil))) (a_cons (r_var 8) a_nil))))))))))))))))), B.g__law_frame_right, B.d__law_frame_right.kp⟩
/-! ### law -/
theorem sc_law : FnScope ["_law_script", "_law_purse_here", "_law_jobs", "_law_turn", "_law_wide", "_law_due", "_law_some", "_law_told", "_law_inner", "_law_part"] ["_law_script"] (defScope s_law) := ⟨rfl, rfl, rfl, by decide +kernel, rfl, by decide +kernel, by decide +kernel⟩
def FB_law : SM := mSeq (mFor (mIter (mOwn (pur F__law_purses) [] (mCons (mV 0) (mCons (mC (.int 3)) (mNil))))) (bName 1) (mSeq (mSet 2 (mOwn (pur F__law_words) [] (mCons (mV 1) (mCons (mC (.int 3)) (mNil))))) (mSeq (mFor (mRange1 (mCons (mC (.int 6)) (mNil))) (bName 3) (mSeq (mSet 6 (mLc (mRange1 (mCons (mC (.int 3)) (mNil))) (bName 9) (mTrue) (mOwn (pur (F__law_expression 8)) [] (mCons (mV 1) (mCons (mV 2) (mCons (mC (.int 2)) (mCons (mOp2 addD (mC (.int 1)) (mOwn (pur F__law_draw) [] (mCons (mV 1) (mCons (mC (.int 4)) (mNil))))) (mNil)))))) [9])) (mIfS (mNot (mOwn F__law_frame_right [] (mCons (mV 1) (mCons (mOwn (pur (F__law_placed 8)) [] (mCons (mV 1) (mCons (mOp2 ixD (mV 6) (mC (.int 0))) (mNil)))) (mCons (mOwn (pur (F__law_placed 8)) [] (mCons (mV 1) (mCons (mOp2 ixD (mV 6) (mC (.int 1))) (mNil)))) (mCons (mOp2 ixD (mV 6) (mC (.int 2))) (mNil))))))) (mRet (mC (.bl false))) (mNx)))) (mSeq (mIfS (mOr (mOp2 neD (mOwn (pur F_put_in) [] (mCons (mTup (mCons (mC (.str "place")) (mNil))) (mCons (mTup (mCons (mC (.str "row")) (mCons (mLst (mNil)) (mNil)))) (mNil)))) (mTup (mCons (mC (.str "row")) (mCons (mLst (mNil)) (mNil))))) (mOp2 isnotD (mOwn (pur F_is_open) [] (mCons (mTup (mCons (mC (.str "row")) (mCons (mLst (mNil)) (mNil)))) (mNil))) (mC (.bl false)))) (mRet (mC (.bl false))) (mNx)) (mSeq (mSet 4 (mTup (mCons (mC (.str "row")) (mCons (mLst (mCons (mOp2 ixD (mV 2) (mC (.int 0))) (mCons (mOp2 ixD (mV 2) (mC (.int 1))) (mCons (mTup (mCons (mC (.str "again")) (mCons (mOp2 ixD (mV 2) (mC (.int 2))) (mNil)))) (mCons (mOp2 ixD (mV 2) (mC (.int 1))) (mCons (mTup (mCons (mC (.str "place")) (mNil))) (mCons (mTup (mCons (mC (.str "again")) (mCons (mTup (mCons (mC (.str "place")) (mNil))) (mNil)))) (mCons (mOp2 ixD (mV 2) (mC (.int 0))) (mNil))))))))) (mNil))))) (mSeq (mPar 7 8 (mCons (mOwn (pur F_put_in) [] (mCons (mV 4) (mCons (mTup (mCons (mC (.str "row")) (mCons (mLst (mCons (mOp2 ixD (mV 2) (mC (.int 2))) (mCons (mOp2 ixD (mV 2) (mC (.int 0))) (mNil)))) (mNil)))) (mNil)))) (mCons (mTup (mCons (mC (.str "row")) (mCons (mLst (mCons (mOp2 ixD (mV 2) (mC (.int 2))) (mCons (mOp2 ixD (mV 2) (mC (.int 0))) (mNil)))) (mNil)))) (mNil)))) (mSeq (mSet 5 (mTup (mCons (mC (.str "row")) (mCons (mLst (mCons (mOp2 ixD (mV 2) (mC (.int 0))) (mCons (mOp2 ixD (mV 2) (mC (.int 1))) (mCons (mTup (mCons (mC (.str "again")) (mCons (mOp2 ixD (mV 2) (mC (.int 2))) (mNil)))) (mCons (mOp2 ixD (mV 2) (mC (.int 1))) (mCons (mV 8) (mCons (mTup (mCons (mC (.str "again")) (mCons (mV 8) (mNil)))) (mCons (mOp2 ixD (mV 2) (mC (.int 0))) (mNil))))))))) (mNil))))) (mIfS (mOr (mNot (mOwn (pur (F__law_exact 16)) [] (mCons (mV 7) (mCons (mV 5) (mNil))))) (mOr (mOp2 isnotD (mOwn (pur F_is_open) [] (mCons (mV 4) (mNil))) (mC (.bl true))) (mOp2 isnotD (mOwn (pur F_is_open) [] (mCons (mV 5) (mNil))) (mC (.bl false))))) (mRet (mC (.bl false))) (mNx))))))))) (mRet (mC (.bl true)))
def F_law : Fn := runB 1 10 FB_law
theorem bi_law (B : Bas P K mg ca fa fd) : Binds K (fd 30) ["_law_script"] [] := B.d_law.bindsN (ps := ["_law_script"]) fun _ _ _ _ _ _ us hl => match us, hl with | [_], _ => rfl
theorem ok_law (B : Bas P K mg ca fa fd) : DefG P w K mg base (Tt w K ca) 39 "law" (fa 30) (fd 30) ["_law_script"] F_law := by
  exact ⟨fnG_ok (k := 38) (Tt w K ca) B.d_law sc_law fun cdv A outer s H E gd hr tk pw => (s_cons (s_for pw rfl (i_any (r_call (pur_def (ok__law_purses B)) (hr.mono (by decide)) (bi__law_purses B) tk (a_cons (r_var 0) (a_cons r_int a_nil)))) (pg_name (i := 1) sc_law.nd rfl (by first | exact Or.inl rfl | exact Or.inr rfl)) tg_name (s_cons (s_set 2 sc_law.nd (r_call (pur_def (ok__law_words B)) (hr.mono (by decide)) (bi__law_words B) tk (a_cons (r_var 1) (a_cons r_int a_nil)))) (s_cons (s_for pw rfl (i_range1 B.n_range (a_cons r_int a_nil)) (pg_name (i := 3) sc_law.nd rfl (by first | exact Or.inl rfl | exact Or.inr rfl)) tg_name (s_cons (s_setLc (own := [("_law_part", 9)]) 6 rfl sc_law.nd (show BlkOk ["_law_script", "_law_purse_here", "_law_jobs", "_law_turn", "_law_wide", "_law_due", "_law_some", "_law_told", "_law_inner", "_law_part"] (defScope s_law) _ [("_law_part", 9)] from ⟨rfl, by decide +kernel, by decide +kernel, by decide +kernel, by decide +kernel⟩) (i_range1 B.n_range (a_cons r_int a_nil)) tg_name (bName_in (by decide)) (fun _ _ _ _ _ => (pg_name (i := 9) sc_law.nd rfl (by first | exact Or.inl rfl | exact Or.inr rfl))) (fun _ _ _ _ _ => ts_nil) (fun _ _ _ _ _ => (r_call (pur_def (ok__law_expression B 8)) (hr.mono (by decide)) (bi__law_expression B) takes_none5 (a_cons (r_var 1) (a_cons (r_var 2) (a_cons r_int (a_cons (r_add r_int (r_call (pur_def (ok__law_draw B)) (hr.mono (by decide)) (bi__law_draw B) takes_none5 (a_cons (r_var 1) (a_cons r_int a_nil)))) a_nil)))))) rfl) (s_one (s_if (t_not (t_val (r_callG (ok__law_frame_right B) gd (hr.mono (by decide)) (bi__law_frame_right B) tk (a_cons (r_var 1) (a_cons (r_call (pur_def (ok__law_placed B 8)) (hr.mono (by decide)) (bi__law_placed B) tk (a_cons (r_var 1) (a_cons (r_ix (r_var 6) r_int) a_nil))) (a_cons (r_call (pur_def (ok__law_placed B 8)) (hr.mono (by decide)) (bi__law_placed B) tk (a_cons (r_var 1) (a_cons (r_ix (r_var 6) r_int) a_nil))) (a_cons (r_ix (r_var 6) r_int) a_nil))))))) (s_one (s_ret r_bl)) s_nil)))) (s_cons (s_if (PW.pt (w_or (t_ne (deepy_of hr) (r_call (pur_def (ok_put_in B)) (hr.mono (by decide)) (bi_put_in B) tk (a_cons (r_tup (a_cons r_str a_nil)) (a_cons (r_tup (a_cons r_str (a_cons (r_lst a_nil) a_nil))) a_nil))) (r_tup (a_cons r_str (a_cons (r_lst a_nil) a_nil)))) (w_one (t_isnot (r_call (pur_def (ok_is_open B)) (hr.mono (by decide)) (bi_is_open B) tk (a_cons (r_tup (a_cons r_str (a_cons (r_lst a_nil) a_nil))) a_nil)) r_bl)))) (s_one (s_ret r_bl)) s_nil) (s_cons (s_set 4 sc_law.nd (r_tup (a_cons r_str (a_cons (r_lst (a_cons (r_ix (r_var 2) r_int) (a_cons (r_ix (r_var 2) r_int) (a_cons (r_tup (a_cons r_str (a_cons (r_ix (r_var 2) r_int) a_nil))) (a_cons (r_ix (r_var 2) r_int) (a_cons (r_tup (a_cons r_str a_nil)) (a_cons (r_tup (a_cons r_str (a_cons (r_tup (a_cons r_str a_nil)) a_nil))) (a_cons (r_ix (r_var 2) r_int) a_nil)))))))) a_nil)))) (s_cons (s_par 7 8 rfl sc_law.nd (a_cons (r_call (pur_def (ok_put_in B)) (hr.mono (by decide)) (bi_put_in B) tk (a_cons (r_var 4) (a_cons (r_tup (a_cons r_str (a_cons (r_lst (a_cons (r_ix (r_var 2) r_int) (a_cons (r_ix (r_var 2) r_int) a_nil))) a_nil))) a_nil))) (a_cons (r_tup (a_cons r_str (a_cons (r_lst (a_cons (r_ix (r_var 2) r_int) (a_cons (r_ix (r_var 2) r_int) a_nil))) a_nil))) a_nil))) (s_cons (s_set 5 sc_law.nd (r_tup (a_cons r_str (a_cons (r_lst (a_cons (r_ix (r_var 2) r_int) (a_cons (r_ix (r_var 2) r_int) (a_cons (r_tup (a_cons r_str (a_cons (r_ix (r_var 2) r_int) a_nil))) (a_cons (r_ix (r_var 2) r_int) (a_cons (r_var 8) (a_cons (r_tup (a_cons r_str (a_cons (r_var 8) a_nil))) (a_cons (r_ix (r_var 2) r_int) a_nil)))))))) a_nil)))) (s_one (s_if (PW.pt (w_or (t_not (t_val (r_call (pur_def (ok__law_exact B 16)) (hr.mono (by decide)) (bi__law_exact B) tk (a_cons (r_var 7) (a_cons (r_var 5) a_nil))))) (w_or (t_isnot (r_call (pur_def (ok_is_open B)) (hr.mono (by decide)) (bi_is_open B) tk (a_cons (r_var 4) a_nil)) r_bl) (w_one (t_isnot (r_call (pur_def (ok_is_open B)) (hr.mono (by decide)) (bi_is_open B) tk (a_cons (r_var 5) a_nil)) r_bl))))) (s_one (s_ret r_bl)) s_nil))))))))) (s_one (s_ret r_bl))), B.g_law, B.d_law.kp⟩
end
end K57

/-! QB: values as data; the law's copies and its exactness. -/
namespace K57
open PySem MR
open L2 (kitB)
/-- d is p, to the depth k, and no cell of q is asked -/
inductive Dn (q : Nat → Prop) (S : Hs) : Nat → D → PyData → Prop where
  | non {k : Nat} : Dn q S k .non .none
  | bl {k : Nat} (b : Bool) : Dn q S k (.bl b) (.bool b)
  | int {k : Nat} (i : Int) : Dn q S k (.int i) (.int i)
  | str {k : Nat} {s : Str} (h : PyData.strOk s = true ∧ s.cps.size ≤ line) : Dn q S k (.str s) (.str s)
  | tup {k : Nat} {ds : List D} {ps : List PyData} (l : ds.length = ps.length) (m : ds.length ≤ line) (r : ∀ (i : Nat) d p, ds[i]? = some d → ps[i]? = some p → Dn q S k d p) : Dn q S (k + 1) (.tup ds) (.tuple ps)
  | lst {k : Nat} {n : Nat} {ds : List D} {ps : List PyData} (hq : ¬ q n) (h : S.get n = some (.lst ds)) (l : ds.length = ps.length) (m : ds.length < line) (r : ∀ (i : Nat) d p, ds[i]? = some d → ps[i]? = some p → Dn q S k d p) : Dn q S (k + 1) (.ref n) (.list ps)
section
variable {q q' : Nat → Prop} {S S' : Hs} {k : Nat} {d : D} {p : PyData}
theorem Dn.fr (h : Dn q S k d p) (f : Fr q S S') : Dn q S' k d p := by
  induction h with
  | non => exact .non
  | bl b => exact .bl b
  | int i => exact .int i
  | str h => exact .str h
  | tup l m r ih => exact .tup l m ih
  | lst hq h l m r ih => exact .lst hq (f.at_ _ _ hq h) l m ih
theorem Dn.weak (h : Dn q S k d p) (w : ∀ n, q' n → q n) : Dn q' S k d p := by
  induction h with
  | non => exact .non
  | bl b => exact .bl b
  | int i => exact .int i
  | str h => exact .str h
  | tup l m r ih => exact .tup l m ih
  | lst hq h l m r ih => exact .lst (fun z => hq (w _ z)) h l m ih
theorem Dn.up (h : Dn q S k d p) : ∀ {m : Nat}, k ≤ m → Dn q S m d p := by
  induction h with
  | non => exact fun _ => .non
  | bl b => exact fun _ => .bl b
  | int i => exact fun _ => .int i
  | str h => exact fun _ => .str h
  | tup l z r ih =>
    intro m hm
    obtain ⟨j, rfl⟩ : ∃ j, m = j + 1 := ⟨m - 1, by omega⟩
    exact .tup l z fun i d p a b => ih i d p a b (by omega)
  | lst hq h l z r ih =>
    intro m hm
    obtain ⟨j, rfl⟩ : ∃ j, m = j + 1 := ⟨m - 1, by omega⟩
    exact .lst hq h l z fun i d p a b => ih i d p a b (by omega)
theorem Dn.free (h : Dn q S k d p) : MR.free d = true → Dn q' S' k d p := by
  induction h with
  | non => exact fun _ => .non
  | bl b => exact fun _ => .bl b
  | int i => exact fun _ => .int i
  | str h => exact fun _ => .str h
  | tup l m r ih => exact fun f => .tup l m fun i d p a b => ih i d p a b (frees_get f a)
  | lst hq h l m r ih => intro f; cases f
theorem Dn.noX (h : Dn q S k d p) : MR.noX d = true := by cases h <;> rfl
theorem mapO_at {α β : Type} {f : α → Option β} : ∀ {xs : List α} {ys : List β}, xs.length = ys.length → (∀ (i : Nat) x y, xs[i]? = some x → ys[i]? = some y → f x = some y) → mapO f xs = some ys
  | [], [], _, _ => rfl
  | [], _ :: _, h, _ => nomatch h
  | _ :: _, [], h, _ => nomatch h
  | x :: xs, y :: ys, h, r => by
    unfold mapO
    rw [r 0 x y rfl rfl, mapO_at (Nat.succ.inj h) fun i a b p q => r (i + 1) a b p q]
theorem Dn.toP (h : Dn q S k d p) : MR.toP S k d = some p := by
  induction h with
  | @non k => cases k <;> rfl
  | @bl k b => cases k <;> rfl
  | @int k i => cases k <;> rfl
  | @str k s h => cases k <;> rfl
  | @tup k ds ps l m r ih =>
    show (mapO (MR.toP S k) ds).map PyData.tuple = _
    rw [mapO_at l ih]
    rfl
  | @lst k n ds ps hq h l m r ih =>
    show (match MR.listOf S n with
      | some xs => (mapO (MR.toP S k) xs).map PyData.list
      | none => none) = _
    rw [listOf_get h]
    show (mapO (MR.toP S k) ds).map PyData.list = _
    rw [mapO_at l ih]
    rfl
theorem there {α β : Type} {xs : List α} {ys : List β} {i : Nat} {y : β} (l : xs.length = ys.length) (e : ys[i]? = some y) : ∃ x, xs[i]? = some x := by
  have h : i < xs.length := by
    rw [l]
    exact (List.getElem?_eq_some_iff.mp e).1
  exact ⟨xs[i], List.getElem?_eq_getElem h⟩
theorem all_at {f : PyData → Bool} : ∀ {ps : List PyData}, (∀ (i : Nat) p, ps[i]? = some p → f p = true) → ps.all f = true
  | [], _ => rfl
  | p :: ps, h => by
    rw [List.all_cons, h 0 p rfl, all_at fun i x e => h (i + 1) x e]
    rfl
theorem lay_all : ∀ ps : List PyData, PyData.canLayAll0 ps = ps.all PyData.canLay0
  | [] => by simp [PyData.canLayAll0]
  | p :: ps => by simp [PyData.canLayAll0, lay_all ps]
theorem Dn.lay (h : Dn q S k d p) : p.canLay0 = true := by
  induction h with
  | non => rfl
  | bl b => rfl
  | int i => rfl
  | str h => exact h.1
  | @tup k ds ps l m r ih =>
    rw [PyData.canLay0, lay_all]
    exact all_at fun i p e => let ⟨d, hd⟩ := there l e; ih i d p hd e
  | @lst k n ds ps hq h l m r ih =>
    rw [PyData.canLay0, lay_all]
    exact all_at fun i p e => let ⟨d, hd⟩ := there l e; ih i d p hd e
theorem depth_all {m : Nat} : ∀ {ps : List PyData}, (∀ (i : Nat) p, ps[i]? = some p → p.depth ≤ m) → PyData.depthAll ps ≤ m
  | [], _ => by simp [PyData.depthAll]
  | p :: ps, h => by
    rw [PyData.depthAll]
    exact Nat.max_le.mpr ⟨h 0 p rfl, depth_all fun i x e => h (i + 1) x e⟩
theorem Dn.depth (h : Dn q S k d p) : p.depth ≤ k + 1 := by
  induction h with
  | non => simp [PyData.depth]
  | bl b => simp [PyData.depth]
  | int i => simp [PyData.depth]
  | str h => simp [PyData.depth]
  | @tup k ds ps l m r ih =>
    rw [PyData.depth]
    exact Nat.succ_le_succ (depth_all fun i p e => let ⟨d, hd⟩ := there l e; ih i d p hd e)
  | @lst k n ds ps hq h l m r ih =>
    rw [PyData.depth]
    exact Nat.succ_le_succ (depth_all fun i p e => let ⟨d, hd⟩ := there l e; ih i d p hd e)
theorem Dn.shaped (h : Dn q S k d p) (hk : k ≤ 60) : SeqAt.shaped p = true := by
  have := h.depth
  unfold SeqAt.shaped
  rw [h.lay, decide_eq_true (by omega)]
  rfl
theorem Dn.eq {k2 : Nat} {d2 : D} {p2 : PyData} (h : Dn q S k d p) (h2 : Dn q' S k2 d2 p2) (hk : k ≤ 40) (hk2 : k2 ≤ 40) : eqD d d2 S = .ok (.bl (PyData.eqv p p2)) S := by
  have a := h.up (m := 40) hk
  have b := h2.up (m := 40) hk2
  unfold eqD
  show (match MR.toP S 40 d, MR.toP S 40 d2 with
    | some p, some q => if SeqAt.shaped p && SeqAt.shaped q then Res.ok (D.bl (PyData.eqv p q)) S else .bad
    | _, _ => .bad) = _
  rw [a.toP, b.toP]
  simp only [a.shaped (by omega), b.shaped (by omega), Bool.and_self, if_true]
theorem Dn.ne {k2 : Nat} {d2 : D} {p2 : PyData} (h : Dn q S k d p) (h2 : Dn q' S k2 d2 p2) (hk : k ≤ 40) (hk2 : k2 ≤ 40) : neD d d2 S = .ok (.bl (!PyData.eqv p p2)) S := by
  unfold neD
  rw [h.eq h2 hk hk2]
theorem Dn.refl (h : Dn q S k d p) : PyData.eqv p p = true := SeqAt.eqv_refl p h.lay
def tyOf : PyData → String
  | .none => "NoneType"
  | .bool _ => "bool"
  | .int _ => "int"
  | .str _ => "str"
  | .tuple _ => "tuple"
  | .list _ => "list"
  | .dict _ => "dict"
theorem Dn.ty (h : Dn q S k d p) : tyN d S = some (tyOf p) := by
  cases h with
  | @lst k n ds ps hq h l m r =>
    unfold tyN
    simp only [h]
    rfl
  | _ => rfl
theorem kits : ∀ a ∈ ["NoneType", "bool", "int", "str", "tuple", "list"], ∀ b ∈ ["bool", "str", "tuple", "list", "dict"], kitB a b = some (a == b) := by decide +kernel
theorem Dn.isi (h : Dn q S k d p) {b : String} (hb : b ∈ ["bool", "str", "tuple", "list", "dict"]) : isiF [d, .ty b] S = .ok (.bl (tyOf p == b)) S := by
  have e : kitB (tyOf p) b = some (tyOf p == b) := kits _ (by cases h <;> simp [tyOf]) b hb
  unfold isiF
  simp only [h.ty, e]
end
@[simp] theorem o_v {P : D → Hs → Prop} {i : Nat} {env : EnvD} {S : Hs} : Ok P (mV i env S) = (match env[i]? with
    | some (some d) => MR.noX d = true ∧ P d S
    | _ => False) := by
  unfold mV
  cases env[i]? with
  | none => rfl
  | some o =>
    cases o with
    | none => rfl
    | some d =>
      show Ok P (if MR.noX d then Res.ok d S else .bad) = (MR.noX d = true ∧ P d S)
      by_cases h : MR.noX d = true
      · rw [if_pos h]; simp [h]
      · rw [if_neg h]; simp [h]
@[simp] theorem noX_ref {n : Nat} : MR.noX (.ref n) = true := rfl
@[simp] theorem noX_str {s : Str} : MR.noX (.str s) = true := rfl
@[simp] theorem noX_int {i : Int} : MR.noX (.int i) = true := rfl
@[simp] theorem noX_bl {b : Bool} : MR.noX (.bl b) = true := rfl
@[simp] theorem noX_tup {ds : List D} : MR.noX (.tup ds) = true := rfl
@[simp] theorem noX_non : MR.noX .non = true := rfl
@[simp] theorem noX_er {c : Str} {d : D} : MR.noX (.er c d) = true := rfl
@[simp] theorem noX_key {k : List L2.Key} : MR.noX (.key k) = true := rfl
end K57

/-! PP2: small words. -/
namespace K57
open PySem MR
section
variable {q q' : Nat → Prop} {S S' s : Hs} {k n : Nat} {d : D} {p : PyData} {e : EnvD}
@[simp] theorem wipe1 {a : Option D} {i : Nat} {e : EnvD} : wipeD e [i] = e.set i none := rfl
@[simp] theorem apD1 {i : Nat} {e : EnvD} {d : D} : apD e [(i, d)] = e.set i (some d) := rfl
theorem iter_tup {xs : List D} {P : DI → Hs → Prop} {env : EnvD} {i : Nat} (h : env[i]? = some (some (.tup xs))) : Ok P (mIter (mV i) env S) = P (.tup xs) S := by
  unfold mIter
  simp [h]
theorem iter_lst {n : Nat} {xs : List D} {P : DI → Hs → Prop} {env : EnvD} {i : Nat} (h : env[i]? = some (some (.ref n))) (g : S.get n = some (.lst xs)) : Ok P (mIter (mV i) env S) = P (.lst n) S := by
  unfold mIter
  simp [h, listOf_get g]
theorem all_true : ∀ {zs : List D}, (∀ (m : Nat) y, zs[m]? = some y → y = .bl true) → ∃ bs, mapO blOf zs = some bs ∧ bs.all id = true
  | [], _ => ⟨[], rfl, rfl⟩
  | z :: zs, h => by
    have e := h 0 z rfl
    subst e
    obtain ⟨bs, e1, e2⟩ := all_true fun m y hy => h (m + 1) y hy
    exact ⟨true :: bs, by unfold mapO; rw [e1] <;> rfl, by simpa using e2⟩
theorem allF_true {n : Nat} {zs : List D} (g : S.get n = some (.lst zs)) (h : ∀ (m : Nat) y, zs[m]? = some y → y = .bl true) : allF [.ref n] S = .ok (.bl true) S := by
  obtain ⟨bs, e1, e2⟩ := all_true h
  unfold allF
  simp only [listOf_get g, e1, e2]
theorem zip_at {xs ys : List D} {i : Nat} {d : D} (h : (zipL2 xs ys)[i]? = some d) : ∃ x y, xs[i]? = some x ∧ ys[i]? = some y ∧ d = .tup [x, y] := by
  rw [← pairAt_zip] at h
  exact pairAt_some h
theorem len_tup {xs : List D} : lenF [.tup xs] S = .ok (.int xs.length) S := rfl
theorem len_lst {n : Nat} {xs : List D} (g : S.get n = some (.lst xs)) : lenF [.ref n] S = .ok (.int xs.length) S := by
  unfold lenF
  simp only [listOf_get g]
theorem eq_bl (a b : Bool) : eqD (.bl a) (.bl b) S = .ok (.bl (a == b)) S := by
  rw [(Dn.bl (q := No) (k := 0) (S := S) a).eq (Dn.bl (q := No) (k := 0) b) (by omega) (by omega)]
  cases a <;> cases b <;> rfl
theorem eq_int (a b : Int) : eqD (.int a) (.int b) S = .ok (.bl (decide (a = b))) S := by
  rw [(Dn.int (q := No) (k := 0) (S := S) a).eq (Dn.int (q := No) (k := 0) b) (by omega) (by omega)]
  by_cases h : a = b <;> simp [PyData.eqv, h]
theorem pur_same {F : Fn} {ds : List D} {x : D} (hx : free x = true) (h : ∀ S', (frees ds = false → S' = S) → Ok (fun y s => y = x ∧ s = S') (F ds S')) : pur F ds S = .ok x S := by
  cases hf : frees ds with
  | true => exact pur_val hf hx ((h S0 (fun z => nomatch hf.symm.trans z)).mono fun _ _ z => z.1)
  | false =>
    rw [pur_raw hf]
    obtain ⟨y, s, e, rfl, rfl⟩ := (h S fun _ => rfl).eq
    exact e
def letB (c : Nat) : Bool := decide (97 ≤ c) && decide (c ≤ 122)
def speltB (z : Str) : Bool := decide (0 < z.cps.size) && decide (z.cps.size < 9) && z.cps.toList.all letB
theorem letters : ("abcdefghijklmnopqrstuvwxyz" : Str).cps.toList = List.range' 97 26 := by decide +kernel
theorem mem_letters (c : Nat) : decide (c ∈ ("abcdefghijklmnopqrstuvwxyz" : Str).cps.toList) = letB c := by
  rw [letters]
  unfold letB
  by_cases h : 97 ≤ c ∧ c ≤ 122
  · rw [decide_eq_true (List.mem_range'_1.mpr ⟨by omega, by omega⟩), decide_eq_true h.1, decide_eq_true h.2]
    rfl
  · rw [decide_eq_false (fun z => h (by have := List.mem_range'_1.mp z; omega))]
    by_cases h1 : 97 ≤ c
    · rw [decide_eq_true h1, decide_eq_false (by omega)]
      rfl
    · rw [decide_eq_false h1]
      rfl
theorem notin_let (c : Nat) (S : Hs) : notinD (.str ⟨#[c]⟩) (.str "abcdefghijklmnopqrstuvwxyz") S = .ok (.bl (!letB c)) S := by
  rw [← mem_letters]
  rfl
theorem all_take {l : List Nat} {f : Nat → Bool} : ∀ {i : Nat}, (∀ j < i, ∀ c, l[j]? = some c → f c = true) → i = l.length → l.all f = true := fun {i} h e => by
  rw [List.all_eq_true]
  intro c hc
  obtain ⟨j, hj, e2⟩ := List.mem_iff_getElem.mp hc
  exact h j (by omega) c (by rw [List.getElem?_eq_getElem hj, e2])
theorem atI_nat {α : Type} (xs : List α) (i : Nat) : L2.atI xs (i : Int) = xs[i]? := by
  unfold L2.atI L2.ixN
  rw [if_pos (Int.natCast_nonneg _)]
  by_cases h : i < xs.length
  · rw [if_pos (by omega)]
    rfl
  · rw [if_neg (by omega), List.getElem?_eq_none (by omega)]
    rfl
theorem ix_tup {S : Hs} {xs : List D} {i : Nat} {d : D} (h : xs[i]? = some d) : ixD (.tup xs) (.int (i : Int)) S = .ok d S := by
  unfold ixD
  simp only [atI_nat, h]
theorem ix_lst {S : Hs} {n : Nat} {xs : List D} {i : Nat} {d : D} (g : S.get n = some (.lst xs)) (h : xs[i]? = some d) : ixD (.ref n) (.int (i : Int)) S = .ok d S := by
  unfold ixD
  simp only [listOf_get g, atI_nat, h]
theorem ix_str {S : Hs} {z : Str} {i c : Nat} (hl : z.cps.size ≤ line) (h : z.cps.toList[i]? = some c) : ixD (.str z) (.int (i : Int)) S = .ok (.str ⟨#[c]⟩) S := by
  have hl' : z.length ≤ line := hl
  unfold ixD
  simp only [atI_nat, h, hl', if_true]
theorem w_forE {P : EnvD → Hs → Prop} {Q : D → Hs → Prop} {mi : ExI} {b : Bnd} {body : SM} {env : EnvD} {S : Hs}
    (h : Ok (fun di S1 => ∃ (items : List D) (I : Nat → EnvD → Hs → Prop), items.length ≤ di.size S1 ∧ I 0 env S1 ∧ (∀ i e s d, I i e s → items[i]? = some d → di.next i s = some (some d) ∧ ∃ us, b d = some us ∧ Wp (I (i + 1)) Q (body (apD e us) s)) ∧
      ∀ e s, I items.length e s → di.next items.length s = some none ∧ P e s) (mi env S)) : Wp P Q (mFor mi b body env S) := by
  unfold mFor
  rw [Wp_toS]
  exact h.mono fun di S1 ⟨items, I, hz, h0, step, stop⟩ => loop_ok I step stop items.length 0 _ env S1 (by omega) (by omega) h0
def Rg (f : Nat → Prop) (ds : List D) : Prop := match ds with
  | [.int j] => 0 ≤ j ∧ j < 1000000 ∧ f j.toNat
  | _ => False
theorem o_range1 {P : DI → Hs → Prop} {ms : Exs} {env : EnvD} (h : Ok (fun ds s => Rg (fun n => P (.rng 0 n) s) ds) (ms env S)) : Ok P (mRange1 ms env S) := by
  obtain ⟨ds, s, e, h⟩ := h.eq
  unfold mRange1
  rw [e]
  match ds, h with
  | [.int j], ⟨h0, h1, h2⟩ =>
    show Ok P (if -(2 ^ 62) ≤ j ∧ j < 2 ^ 62 then Res.ok (DI.rng 0 j.toNat) s else .bad)
    rw [if_pos ⟨by omega, by omega⟩]
    exact h2
def fit (z : Str) : Prop := PyData.strOk z = true ∧ z.cps.size ≤ line
end
end K57

/-! QN: the purse's draws. -/
namespace K57D
open PySem MR
open L2 (atI ixN)
open K57 (F__law_mixed FB__law_mixed F__law_draw FB__law_draw)
def ofS (r : SRes) : Res D := match r with
  | .nx _ S1 => .ok .non S1
  | .rt d S1 => .ok d S1
  | .err c d _ S1 => .err c d S1
  | _ => .bad
theorem seqE {m : Ex} {b : SM} {env : EnvD} {S S1 : Hs} {d : D} (h : m env S = .ok d S1) : mSeq (mExp m) b env S = b env S1 := by
  unfold mSeq mExp
  rw [h]
  rfl
theorem own1 {F : Fn} {m : Ex} {dD : List D} {env : EnvD} {S S1 : Hs} {d : D} (h : m env S = .ok d S1) : mOwn F dD (mCons m mNil) env S = F (d :: dD) S1 := by
  unfold mOwn mCons
  rw [h]
  rfl
theorem pur_val {F : Fn} {ds : List D} {d : D} {S S1 : Hs} (hf : frees ds = true) (e : F ds S0 = .ok d S1) (hd : free d = true) : pur F ds S = .ok d S := by
  unfold pur
  rw [if_pos hf, e]
  cases d <;> first | (simp only [hd]; rfl) | cases hd
theorem pur_raw {F : Fn} {ds : List D} {S : Hs} (hf : frees ds = false) : pur F ds S = F ds S := by
  unfold pur
  rw [hf]
  rfl
theorem lg {i : Int} {k : Nat} (h : i.natAbs < 2 ^ k) : i.natAbs.log2 ≤ k := by
  by_cases h0 : i.natAbs = 0
  · rw [h0]
    exact Nat.zero_le _
  · exact Nat.le_of_lt ((Nat.log2_lt h0).mpr h)
theorem mul_ok {i j : Int} {S : Hs} (h : i.natAbs < 2 ^ 250) (h' : j.natAbs < 2 ^ 250) : mulD (.int i) (.int j) S = .ok (.int (i * j)) S := by
  have a := lg h
  have b := lg h'
  show (if i.natAbs.log2 + j.natAbs.log2 < 1000000 then Res.ok (D.int (i * j)) S else .bad) = _
  rw [if_pos (by omega)]
theorem op2 {g : D → D → Hs → Res D} {ma mb : Ex} {env : EnvD} {S S1 S2 : Hs} {x y : D} (ha : ma env S = .ok x S1) (hb : mb env S1 = .ok y S2) : mOp2 g ma mb env S = g x y S2 := by
  unfold mOp2
  rw [ha]
  show (mb env S1).bind _ = _
  rw [hb]
  rfl
theorem seqSet {i : Nat} {m : Ex} {b : SM} {env : EnvD} {S S1 : Hs} {d : D} (h : m env S = .ok d S1) : mSeq (mSet i m) b env S = b (env.set i (some d)) S1 := by
  unfold mSeq mSet
  rw [h]
  rfl
theorem setE {i : Nat} {m : Ex} {env : EnvD} {S S1 : Hs} {d : D} (h : m env S = .ok d S1) : mSet i m env S = .nx (env.set i (some d)) S1 := by
  unfold mSet
  rw [h]
  rfl
theorem retE {m : Ex} {env : EnvD} {S S1 : Hs} {d : D} (h : m env S = .ok d S1) : mRet m env S = .rt d S1 := by
  unfold mRet
  rw [h]
  rfl
theorem seqN {a b : SM} {env env1 : EnvD} {S S1 : Hs} (h : a env S = .nx env1 S1) : mSeq a b env S = b env1 S1 := by
  unfold mSeq
  rw [h]
theorem ifE {m : Ex} {a b : SM} {env : EnvD} {S S1 : Hs} {k : Bool} (h : m env S = .ok (.bl k) S1) : mIfS m a b env S = if k then a env S1 else b env S1 := by
  unfold mIfS
  rw [h]
  rfl
theorem call1 {f : List D → Hs → Res D} {m : Ex} {env : EnvD} {S S1 : Hs} {d : D} (h : m env S = .ok d S1) : mCall f (mCons m mNil) env S = f [d] S1 := by
  unfold mCall mCons
  rw [h]
  rfl
theorem mixed_ok {b c d : Int} (hb : 0 ≤ b ∧ b < 2147483648) (hc : 0 ≤ c ∧ c < 1048576) (hd : 0 ≤ d ∧ d ≤ 64) : ∃ v : Int, 0 ≤ v ∧ v < 2147483587 ∧ ∀ S, pur F__law_mixed [.int b, .int c, .int d] S = .ok (.int v) S := by
  let x1 : Int := b * 69069 + 104729 * c * c
  let x2 : Int := (x1 + 7919 * d + c).fmod 2147483647
  let x3 : Int := (x2 * x2 + 40503).fmod 2147483629
  have h2 : 0 ≤ x2 ∧ x2 < 2147483647 := ⟨Int.fmod_nonneg_of_pos _ (by decide), Int.fmod_lt_of_pos _ (by decide)⟩
  have h3 : 0 ≤ x3 ∧ x3 < 2147483629 := ⟨Int.fmod_nonneg_of_pos _ (by decide), Int.fmod_lt_of_pos _ (by decide)⟩
  refine ⟨(x3 * 48271).fmod 2147483587, Int.fmod_nonneg_of_pos _ (by decide), Int.fmod_lt_of_pos _ (by decide), fun S => pur_val (S1 := S0) rfl ?_ rfl⟩
  show ofS (FB__law_mixed [some (.int b), some (.int c), some (.int d), none] S0) = _
  unfold FB__law_mixed
  have m1 : mulD (.int b) (.int 69069) S0 = .ok (.int (b * 69069)) S0 := mul_ok (by omega) (by decide)
  have m2 : mulD (.int 104729) (.int c) S0 = .ok (.int (104729 * c)) S0 := mul_ok (by decide) (by omega)
  have m3 : mulD (.int (104729 * c)) (.int c) S0 = .ok (.int (104729 * c * c)) S0 := mul_ok (by omega) (by omega)
  have m4 : mulD (.int 7919) (.int d) S0 = .ok (.int (7919 * d)) S0 := mul_ok (by decide) (by omega)
  have m5 : mulD (.int x2) (.int x2) S0 = .ok (.int (x2 * x2)) S0 := mul_ok (by omega) (by omega)
  have m6 : mulD (.int x3) (.int 48271) S0 = .ok (.int (x3 * 48271)) S0 := mul_ok (by omega) (by decide)
  rw [seqSet (d := .int x1) (S1 := S0), seqSet (d := .int x2) (S1 := S0), seqSet (d := .int x3) (S1 := S0), retE (d := .int ((x3 * 48271).fmod 2147483587)) (S1 := S0)]
  · rfl
  · rw [op2 (x := .int (x3 * 48271)) (y := .int 2147483587) (S1 := S0) (S2 := S0) _ rfl]
    · rfl
    · rw [call1 (d := .int (x3 * 48271)) (S1 := S0)]
      · rfl
      · rw [op2 (x := .int x3) (y := .int 48271) (S1 := S0) (S2 := S0) rfl rfl]
        exact m6
  · rw [op2 (x := .int (x2 * x2 + 40503)) (y := .int 2147483629) (S1 := S0) (S2 := S0) _ rfl]
    · rfl
    · rw [call1 (d := .int (x2 * x2 + 40503)) (S1 := S0)]
      · rfl
      · rw [op2 (x := .int (x2 * x2)) (y := .int 40503) (S1 := S0) (S2 := S0) _ rfl]
        · rfl
        · rw [op2 (x := .int x2) (y := .int x2) (S1 := S0) (S2 := S0) rfl rfl]
          exact m5
  · rw [op2 (x := .int (x1 + 7919 * d + c)) (y := .int 2147483647) (S1 := S0) (S2 := S0) _ rfl]
    · rfl
    · rw [call1 (d := .int (x1 + 7919 * d + c)) (S1 := S0)]
      · rfl
      · rw [op2 (x := .int (x1 + 7919 * d)) (y := .int c) (S1 := S0) (S2 := S0) _ rfl]
        · rfl
        · rw [op2 (x := .int x1) (y := .int (7919 * d)) (S1 := S0) (S2 := S0) rfl _]
          · rfl
          · rw [op2 (x := .int 7919) (y := .int d) (S1 := S0) (S2 := S0) rfl rfl]
            exact m4
  · rw [op2 (x := .int (b * 69069)) (y := .int (104729 * c * c)) (S1 := S0) (S2 := S0)]
    · rfl
    · rw [op2 (x := .int b) (y := .int 69069) (S1 := S0) (S2 := S0) rfl rfl]
      exact m1
    · rw [op2 (x := .int (104729 * c)) (y := .int c) (S1 := S0) (S2 := S0) _ rfl]
      · exact m3
      · rw [op2 (x := .int 104729) (y := .int c) (S1 := S0) (S2 := S0) rfl rfl]
        exact m2
theorem loop_inv {di : DI} {b : Bnd} {body : SM} {n : Nat} (I : Nat → EnvD → Hs → Prop) (step : ∀ i env S, i < n → I i env S → ∃ d us env' S', di.next i S = some (some d) ∧ b d = some us ∧ body (apD env us) S = .nx env' S' ∧ I (i + 1) env' S')
    (stop : ∀ env S, I n env S → di.next n S = some none) : ∀ (j i k : Nat) (env : EnvD) (S : Hs), i + j = n → j < k → I i env S → ∃ env' S', mLoop di b body k i env S = .nx env' S' ∧ I n env' S'
  | 0, i, k + 1, env, S, hij, hk, hI => by
    have e : i = n := by omega
    subst e
    refine ⟨env, S, ?_, hI⟩
    unfold mLoop
    rw [stop env S hI]
  | j + 1, i, k + 1, env, S, hij, hk, hI => by
    obtain ⟨d, us, env', S', h1, h2, h3, h4⟩ := step i env S (by omega) hI
    obtain ⟨env2, S2, h5, h6⟩ := loop_inv I step stop j (i + 1) k env' S' (by omega) (by omega) h4
    refine ⟨env2, S2, ?_, h6⟩
    unfold mLoop
    rw [h1]
    simp only [h2, h3]
    exact h5
theorem for_inv {mi : ExI} {b : Bnd} {body : SM} {env : EnvD} {S S1 : Hs} {di : DI} {n : Nat} (hi : mi env S = .ok di S1) (hn : n ≤ di.size S1) (I : Nat → EnvD → Hs → Prop) (h0 : I 0 env S1)
    (step : ∀ i env S, i < n → I i env S → ∃ d us env' S', di.next i S = some (some d) ∧ b d = some us ∧ body (apD env us) S = .nx env' S' ∧ I (i + 1) env' S') (stop : ∀ env S, I n env S → di.next n S = some none) :
    ∃ env' S', mFor mi b body env S = .nx env' S' ∧ I n env' S' := by
  unfold mFor
  rw [hi]
  exact loop_inv I step stop n 0 _ env S1 (by omega) (by omega) h0
structure Kp (p : Nat) (S S' : Hs) : Prop where
  at_ : ∀ n c, n ≠ p → S.get n = some c → S'.get n = some c
  n : S.n ≤ S'.n
theorem Kp.refl (p : Nat) (S : Hs) : Kp p S S := ⟨fun _ _ _ h => h, Nat.le_refl _⟩
theorem Kp.trans {p : Nat} {S S' S'' : Hs} (a : Kp p S S') (b : Kp p S' S'') : Kp p S S'' := ⟨fun n c h e => b.at_ n c h (a.at_ n c h e), Nat.le_trans a.n b.n⟩
theorem Kp.put {p : Nat} {S : Hs} {c0 c : Cell} (h : S.get p = some c0) : Kp p S (S.put p c) := ⟨fun n c' hn e => by rw [Hs.get_put_ne (Hs.get_lt h) hn]; exact e, Nat.le_refl _⟩
theorem Kp.new {p : Nat} {S : Hs} {c : Cell} : Kp p S (S.new c) := ⟨fun n c' hn e => Hs.get_old e, Nat.le_succ _⟩
structure Pu (S : Hs) (p : Nat) (c0 : Int) : Prop where
  ex : ∃ a b c d : Int, S.get p = some (.lst [.int a, .int b, .int c, .int d]) ∧ (0 ≤ b ∧ b < 2147483648) ∧ (0 ≤ c ∧ c ≤ c0) ∧ (0 ≤ d ∧ d ≤ 64)
theorem ixr {S : Hs} {p : Nat} {l : List D} {i : Int} {d : D} (h : S.get p = some (.lst l)) (e : atI l i = some d) : ixD (.ref p) (.int i) S = .ok d S := by
  show (match MR.listOf S p with
    | some xs => (match atI xs i with
      | some d => Res.ok d S
      | none => .bad : Res D)
    | none => .bad) = _
  unfold MR.listOf
  rw [h]
  simp only [e]
theorem putr {S : Hs} {p : Nat} {l : List D} {i : Int} {j : Nat} {v : D} (h : S.get p = some (.lst l)) (e : ixN l.length i = some j) : putD (.ref p) (.int i) v S = some (S.put p (.lst (l.set j v))) := by
  unfold putD
  simp only [h, e]
theorem putE {mo mi mv : Ex} {env : EnvD} {S S1 S2 S3 S4 : Hs} {o i v : D} (hv : mv env S = .ok v S1) (ho : mo env S1 = .ok o S2) (hi : mi env S2 = .ok i S3) (h : putD o i v S3 = some S4) : mPut mo mi mv env S = .nx env S4 := by
  unfold mPut
  rw [hv]
  show (mo env S1).toS _ _ = _
  rw [ho]
  show (mi env S2).toS _ _ = _
  rw [hi]
  show (match putD o i v S3 with
    | some S4 => SRes.nx env S4
    | none => .bad) = _
  rw [h]
theorem own3 {F : Fn} {m1 m2 m3 : Ex} {env : EnvD} {S S1 S2 S3 : Hs} {d1 d2 d3 : D} (h1 : m1 env S = .ok d1 S1) (h2 : m2 env S1 = .ok d2 S2) (h3 : m3 env S2 = .ok d3 S3) : mOwn F [] (mCons m1 (mCons m2 (mCons m3 mNil))) env S = F [d1, d2, d3] S3 := by
  unfold mOwn mCons
  rw [h1]
  show (Res.bind (Res.bind (m2 env S1) _) _).bind _ = _
  rw [h2]
  show (Res.bind (Res.bind (Res.bind (m3 env S2) _) _) _).bind _ = _
  rw [h3]
  rfl
theorem own2 {F : Fn} {m1 m2 : Ex} {env : EnvD} {S S1 S2 : Hs} {d1 d2 : D} (h1 : m1 env S = .ok d1 S1) (h2 : m2 env S1 = .ok d2 S2) : mOwn F [] (mCons m1 (mCons m2 mNil)) env S = F [d1, d2] S2 := by
  unfold mOwn mCons
  rw [h1]
  show (Res.bind (Res.bind (m2 env S1) _) _).bind _ = _
  rw [h2]
  rfl
def drawR : ExI := mRange1 (mCons (mOp2 addD (mC (.int 1)) (mOp2 fdivD (mBits (mV 1)) (mC (.int 28)))) (mNil))
def drawB : SM := mSeq (mPut (mV 0) (mC (.int 2)) (mOp2 addD (mOp2 ixD (mV 0) (mC (.int 2))) (mC (.int 1)))) (mSet 2 (mOp2 addD (mOp2 mulD (mV 2) (mC (.int 2147483587))) (mOwn (pur F__law_mixed) [] (mCons (mOp2 ixD (mV 0) (mC (.int 1))) (mCons (mOp2 ixD (mV 0) (mC (.int 2))) (mCons (mOp2 ixD (mV 0) (mC (.int 3))) (mNil)))))))
theorem draw_eq : FB__law_draw = mSeq (mIfS (mOp2 gtD (mOp2 ixD (mV 0) (mC (.int 0))) (mC (.int 0))) (mSeq (mSet 4 (mOp2 modD (mCall intF (mCons (mOp2 ixD (mV 0) (mC (.int 0))) (mNil))) (mV 1))) (mSeq (mPut (mV 0) (mC (.int 0)) (mOp2 fdivD (mOp2 ixD (mV 0) (mC (.int 0))) (mV 1))) (mRet (mV 4)))) (mNx)) (mSeq (mSet 2 (mC (.int 0))) (mSeq (mFor drawR (bName 3) drawB) (mRet (mOp2 modD (mCall intF (mCons (mV 2) (mNil))) (mV 1))))) := rfl
theorem drawB_ok {p : Nat} {m f : Int} {S : Hs} {o3 : Option D} {a b c d : Int} (hp : S.get p = some (.lst [.int a, .int b, .int c, .int d])) (hb : 0 ≤ b ∧ b < 2147483648) (hc : 0 ≤ c ∧ c < 1048575) (hd : 0 ≤ d ∧ d ≤ 64) (hf : 0 ≤ f ∧ f < 2 ^ 200) :
    ∃ f' : Int, (0 ≤ f' ∧ f' < (f + 1) * 2147483587) ∧ drawB [some (.ref p), some (.int m), some (.int f), o3, none] S = .nx [some (.ref p), some (.int m), some (.int f'), o3, none] (S.put p (.lst [.int a, .int b, .int (c + 1), .int d])) := by
  obtain ⟨v, v0, v1, hv⟩ := mixed_ok (b := b) (c := c + 1) (d := d) hb ⟨by omega, by omega⟩ hd
  refine ⟨f * 2147483587 + v, ⟨by omega, by omega⟩, ?_⟩
  unfold drawB
  have hp' := Hs.get_put hp (c' := .lst [.int a, .int b, .int (c + 1), .int d])
  rw [seqN (putE (v := .int (c + 1)) (o := .ref p) (i := .int 2) (S1 := S) (S2 := S) (S3 := S) (S4 := S.put p (.lst [.int a, .int b, .int (c + 1), .int d])) ?_ rfl rfl (putr (j := 2) (v := .int (c + 1)) hp rfl))]
  · rw [setE (d := .int (f * 2147483587 + v)) (S1 := S.put p (.lst [.int a, .int b, .int (c + 1), .int d]))]
    · rfl
    · rw [op2 (x := .int (f * 2147483587)) (y := .int v)]
      · rfl
      · rw [op2 (x := .int f) (y := .int 2147483587) rfl rfl]
        exact mul_ok (by omega) (by decide)
      · rw [own3 (d1 := .int b) (d2 := .int (c + 1)) (d3 := .int d)]
        · exact hv _
        · rw [op2 (x := .ref p) (y := .int 1) rfl rfl]
          exact ixr hp' rfl
        · rw [op2 (x := .ref p) (y := .int 2) rfl rfl]
          exact ixr hp' rfl
        · rw [op2 (x := .ref p) (y := .int 3) rfl rfl]
          exact ixr hp' rfl
  · rw [op2 (x := .int c) (y := .int 1) (S1 := S) (S2 := S) _ rfl]
    · rfl
    · rw [op2 (x := .ref p) (y := .int 2) rfl rfl]
      exact ixr hp rfl
theorem draw_ok {p n : Nat} {m : Int} {S : Hs} {c0 : Int} (hr : ∀ S, drawR [some (.ref p), some (.int m), some (.int 0), none, none] S = .ok (.rng 0 n) S) (hn : n ≤ 4) (hm : 0 < m) (hl : m.natAbs.log2 < 9000) (P : Pu S p c0) (hc0 : c0 < 1000000) :
    ∃ (r : Int) (S' : Hs), 0 ≤ r ∧ r < m ∧ F__law_draw [.ref p, .int m] S = .ok (.int r) S' ∧ Kp p S S' ∧ S'.n = S.n ∧ Pu S' p (c0 + 4) := by
  obtain ⟨a, b, c, d, hp, hb, hc, hd⟩ := P.ex
  have hF : ∀ r S', FB__law_draw [some (.ref p), some (.int m), none, none, none] S = .rt (.int r) S' → F__law_draw [.ref p, .int m] S = .ok (.int r) S' := fun r S' e => by
    show ofS (FB__law_draw [some (.ref p), some (.int m), none, none, none] S) = _
    rw [e]
    rfl
  have ix0 : (mOp2 ixD (mV 0) (mC (.int 0))) [some (.ref p), some (.int m), none, none, none] S = .ok (.int a) S := by
    rw [op2 (x := .ref p) (y := .int 0) rfl rfl]
    exact ixr hp rfl
  have hg : (mOp2 gtD (mOp2 ixD (mV 0) (mC (.int 0))) (mC (.int 0))) [some (.ref p), some (.int m), none, none, none] S = .ok (.bl (decide (0 < a))) S := by
    rw [op2 (x := .int a) (y := .int 0) ix0 rfl]
    rfl
  by_cases ha : 0 < a
  · refine ⟨a.fmod m, S.put p (.lst [.int (a / m), .int b, .int c, .int d]), Int.fmod_nonneg_of_pos _ hm, Int.fmod_lt_of_pos _ hm, hF _ _ ?_, Kp.put hp, rfl, ⟨_, b, c, d, Hs.get_put hp, hb, ⟨hc.1, by omega⟩, hd⟩⟩
    rw [draw_eq]
    unfold mSeq
    rw [ifE hg, decide_eq_true ha, if_pos rfl]
    have e1 : (mSeq (mSet 4 (mOp2 modD (mCall intF (mCons (mOp2 ixD (mV 0) (mC (.int 0))) (mNil))) (mV 1))) (mSeq (mPut (mV 0) (mC (.int 0)) (mOp2 fdivD (mOp2 ixD (mV 0) (mC (.int 0))) (mV 1))) (mRet (mV 4)))) [some (.ref p), some (.int m), none, none, none] S = .rt (.int (a.fmod m)) (S.put p (.lst [.int (a / m), .int b, .int c, .int d])) := by
      rw [seqSet (d := .int (a.fmod m)) (S1 := S)]
      · rw [seqN (putE (v := .int (a / m)) (o := .ref p) (i := .int 0) (S1 := S) (S2 := S) (S3 := S) (S4 := S.put p (.lst [.int (a / m), .int b, .int c, .int d])) ?_ rfl rfl (putr (j := 0) (v := .int (a / m)) hp rfl))]
        · rfl
        · rw [op2 (x := .int a) (y := .int m) (S1 := S) (S2 := S) _ rfl]
          · show (if (decide (0 < m) && decide (m.natAbs.log2 < 9000)) = true then Res.ok (D.int (a / m)) S else .bad) = _
            rw [decide_eq_true hm, decide_eq_true hl]
            rfl
          · rw [op2 (x := .ref p) (y := .int 0) rfl rfl]
            exact ixr hp rfl
      · rw [op2 (x := .int a) (y := .int m) (S1 := S) (S2 := S) _ rfl]
        · show (if decide (m ≠ 0) = true then Res.ok (D.int (a.fmod m)) S else .bad) = _
          rw [decide_eq_true (by omega)]
          rfl
        · rw [call1 ix0]
          rfl
    rw [show (mSeq (mSet 4 (mOp2 modD (mCall intF (mCons (mOp2 ixD (mV 0) (mC (.int 0))) (mNil))) (mV 1))) (mSeq (mPut (mV 0) (mC (.int 0)) (mOp2 fdivD (mOp2 ixD (mV 0) (mC (.int 0))) (mV 1))) (mRet (mV 4)))) = _ from rfl] at e1
    unfold mSeq at e1
    rw [e1]
  · let J : Nat → EnvD → Hs → Prop := fun i env S' => ∃ (f c' : Int) (o3 : Option D), env = [some (.ref p), some (.int m), some (.int f), o3, none] ∧ (0 ≤ f ∧ f < 2147483587 ^ i) ∧ (0 ≤ c' ∧ c' ≤ c0 + i) ∧ S'.get p = some (.lst [.int a, .int b, .int c', .int d]) ∧ Kp p S S' ∧ S'.n = S.n
    obtain ⟨env', S', h1, f, c', o3, rfl, hf, hc', hp', k', n'⟩ := for_inv (mi := drawR) (b := bName 3) (body := drawB) (env := [some (.ref p), some (.int m), some (.int 0), none, none]) (S := S) (S1 := S) (di := .rng 0 n) (n := n) (hr S) (Nat.le_refl _) J
      ⟨0, c, none, rfl, ⟨Int.le_refl _, by decide⟩, ⟨hc.1, by omega⟩, hp, Kp.refl _ _, rfl⟩ (fun i env S1 hi hJ => by
        obtain ⟨f, c', o3, rfl, hf, hc', hp', k', n'⟩ := hJ
        have hf2 : f < 2 ^ 200 := Int.lt_of_lt_of_le hf.2 (by
          have h4 : i ≤ 4 := by omega
          have : i = 0 ∨ i = 1 ∨ i = 2 ∨ i = 3 ∨ i = 4 := by omega
          rcases this with rfl | rfl | rfl | rfl | rfl <;> decide)
        obtain ⟨f', hf', e⟩ := drawB_ok (m := m) (o3 := some (.int (0 + i))) hp' hb ⟨hc'.1, by omega⟩ hd ⟨hf.1, hf2⟩
        refine ⟨.int (0 + i), [(3, .int (0 + i))], _, _, ?_, rfl, e, f', c' + 1, _, rfl, ⟨hf'.1, ?_⟩, ⟨by omega, by omega⟩, Hs.get_put hp', k'.trans (Kp.put hp'), n'⟩
        · show some (if i < n then some (D.int (0 + i)) else none) = _
          rw [if_pos hi]
        · have : (f + 1) * 2147483587 ≤ 2147483587 ^ i * 2147483587 := Int.mul_le_mul_of_nonneg_right (by omega) (by decide)
          rw [Int.pow_succ]
          omega) fun env S1 hJ => by
        show some (if n < n then some (D.int (0 + n)) else none) = _
        rw [if_neg (Nat.lt_irrefl _)]
    refine ⟨f.fmod m, S', Int.fmod_nonneg_of_pos _ hm, Int.fmod_lt_of_pos _ hm, hF _ _ ?_, k', n', ⟨a, b, c', d, hp', hb, ⟨hc'.1, by omega⟩, hd⟩⟩
    have ha' : decide (0 < a) = false := decide_eq_false ha
    rw [draw_eq]
    refine (seqN (env1 := [some (.ref p), some (.int m), none, none, none]) (S1 := S) ?_).trans ((seqSet (d := .int 0) (S1 := S) rfl).trans ((seqN (env1 := [some (.ref p), some (.int m), some (.int f), o3, none]) (S1 := S') h1).trans (retE (d := .int (f.fmod m)) (S1 := S') ?_)))
    · rw [ifE hg, ha', if_neg Bool.false_ne_true]
      rfl
    · rw [op2 (x := .int f) (y := .int m) (S1 := S') (S2 := S') rfl rfl]
      show (if decide (m ≠ 0) = true then Res.ok (D.int (f.fmod m)) S' else .bad) = _
      rw [decide_eq_true (by omega)]
      rfl
end K57D

/-! QO: draws, words. -/
namespace K57
open PySem MR
open K57D (Pu)
/-- a comprehension over which something is kept -/
theorem lcJ_ok {di : DI} {b : Bnd} {me : Ex} {env : EnvD} {q : Nat → Prop} {S1 : Hs} {items : List D} {R : Nat → D → Hs → Prop} (J : Nat → Hs → Prop) (I : Itm q S1 di items) (hl : items.length ≤ line)
    (body : ∀ i d, items[i]? = some d → ∃ us, b d = some us ∧ ∀ s, Fr q S1 s → S1.n < s.n → J i s → Ok (fun y s' => Fr q s s' ∧ J (i + 1) s' ∧ R i y s') (me (apD env us) s)) (hq : ¬ q S1.n)
    (jput : ∀ i s c0 c, s.get S1.n = some c0 → J i s → J i (s.put S1.n c))
    (stab : ∀ i y s s', Fr (fun m => q m ∨ m = S1.n) s s' → R i y s → R i y s') :
    ∀ (j i k : Nat) (s : Hs) (ys : List D), i + j = items.length → j < k → Fr q S1 s → S1.n < s.n → J i s → s.get S1.n = some (.lst ys) → ys.length = i → (∀ m y, ys[m]? = some y → R m y s) →
      Ok (fun d s' => d = .ref S1.n ∧ Fr q S1 s' ∧ J items.length s' ∧ ∃ zs, s'.get S1.n = some (.lst zs) ∧ zs.length = items.length ∧ ∀ m y, zs[m]? = some y → R m y s') (mLcL di b mTrue me env S1.n k i s)
  | 0, i, k + 1, s, ys, hij, hk, fr, hn, hJ, hg, hy, hR => by
    have hi : i = items.length := by omega
    unfold mLcL
    rw [I.next i s fr, List.getElem?_eq_none (by omega)]
    exact ⟨rfl, fr, hi ▸ hJ, ys, hg, by omega, hR⟩
  | j + 1, i, k + 1, s, ys, hij, hk, fr, hn, hJ, hg, hy, hR => by
    have hi : i < items.length := by omega
    obtain ⟨us, hb, h⟩ := body i items[i] (List.getElem?_eq_getElem hi)
    obtain ⟨y, s', e, fr', hJ', r⟩ := (h s fr hn hJ).eq
    have g' : s'.get S1.n = some (.lst ys) := fr'.at_ _ _ hq hg
    unfold mLcL
    rw [I.next i s fr, List.getElem?_eq_getElem hi]
    simp only [hb]
    show Ok _ (match me (apD env us) s with
      | .ok y S4 => match S4.get S1.n with
        | some (.lst acc) => if acc.length < line then mLcL di b mTrue me env S1.n k (i + 1) (S4.put S1.n (.lst (acc ++ [y]))) else .bad
        | _ => .bad
      | _ => .bad)
    rw [e]
    simp only [g']
    rw [if_pos (by omega)]
    have fr2 : Fr (fun m => q m ∨ m = S1.n) s' (s'.put S1.n (.lst (ys ++ [y]))) := Fr.put g' (.inr rfl)
    refine lcJ_ok J I hl body hq jput stab j (i + 1) k _ (ys ++ [y]) (by omega) (by omega) ((fr.trans fr').put_new g' (Nat.le_refl _)) (Nat.lt_of_lt_of_le hn fr'.n) (jput _ _ _ _ g' hJ') (Hs.get_put g') (by simp [hy]) fun m z hm => ?_
    by_cases hm2 : m < ys.length
    · rw [List.getElem?_append_left hm2] at hm
      exact stab m z s' _ fr2 (stab m z s s' (fr'.mono fun _ z => .inl z) (hR m z hm))
    · rw [List.getElem?_append_right (by omega)] at hm
      have : m = i := by
        have hl2 := (List.getElem?_eq_some_iff.mp hm).1
        simp at hl2
        omega
      subst this
      rw [← hy] at hm
      simp at hm
      subst hm
      exact stab _ _ s' _ fr2 r
theorem o_lcJ {P : D → Hs → Prop} {mi : ExI} {b : Bnd} {me : Ex} {vs : List Nat} {env : EnvD} {S : Hs} (q : Nat → Prop) (items : List D) (J : Nat → Hs → Prop) (R : Hs → Nat → D → Hs → Prop)
    (h : Ok (fun di S1 => Itm q S1 di items ∧ items.length ≤ line ∧ ¬ q S1.n ∧ J 0 (S1.new (.lst [])) ∧ (∀ i s c0 c, s.get S1.n = some c0 → J i s → J i (s.put S1.n c)) ∧
      (∀ i d, items[i]? = some d → ∃ us, b d = some us ∧ ∀ s, Fr q S1 s → S1.n < s.n → J i s → Ok (fun y s' => Fr q s s' ∧ J (i + 1) s' ∧ R S1 i y s') (me (apD (wipeD env vs) us) s)) ∧
      (∀ i y s s', Fr (fun m => q m ∨ m = S1.n) s s' → R S1 i y s → R S1 i y s') ∧
      ∀ s' zs, Fr q S1 s' → S1.n < s'.n → J items.length s' → s'.get S1.n = some (.lst zs) → zs.length = items.length → (∀ m y, zs[m]? = some y → R S1 m y s') → P (.ref S1.n) s') (mi env S)) : Ok P (mLc mi b mTrue me vs env S) := by
  unfold mLc
  rw [Ok_bind]
  refine h.mono fun di S1 ⟨I, hl, hq, j0, jput, body, stab, fin⟩ => ?_
  have hz := I.size
  exact (lcJ_ok J I hl body hq jput stab items.length 0 _ (S1.new (.lst [])) [] (by omega) (by omega) Fr.new (Nat.lt_succ_self _) j0 (Hs.get_new _ _) rfl fun m y e => by simp at e).mono fun d s' ⟨e, fr, hJ, zs, g, l, r⟩ => by
    subst e
    exact fin s' zs fr (Hs.get_lt g) hJ g l r
section
variable {S S' s : Hs} {p n : Nat} {c0 : Int}
theorem _root_.K57D.Pu.lt (P : Pu S p c0) : p < S.n := by
  obtain ⟨a, b, c, d, g, _⟩ := P.ex
  exact Hs.get_lt g
theorem _root_.K57D.Pu.fr {q : Nat → Prop} (P : Pu S p c0) (f : Fr q S S') (h : ¬ q p) : Pu S' p c0 := by
  obtain ⟨a, b, c, d, g, r⟩ := P.ex
  exact ⟨a, b, c, d, f.at_ _ _ h g, r⟩
theorem _root_.K57D.Pu.le {c1 : Int} (P : Pu S p c0) (h : c0 ≤ c1) : Pu S p c1 := by
  obtain ⟨a, b, c, d, g, r1, r2, r3⟩ := P.ex
  exact ⟨a, b, c, d, g, r1, ⟨r2.1, by omega⟩, r3⟩
theorem _root_.K57D.Pu.put {c : Cell} {c1 : Cell} (P : Pu S p c0) (g : S.get n = some c1) (h : n ≠ p) : Pu (S.put n c) p c0 := K57D.Pu.fr P (Fr.put (q := (· = n)) g rfl) fun z => h z.symm
theorem bits_small {m : Nat} (h0 : 0 < m) (h : m < 2 ^ 27) : (Builtin.Int.intBits (m : Int) : Nat) < 28 := by
  unfold Builtin.Int.intBits
  have hne : ¬ ((m : Int) == 0) = true := by simp; omega
  rw [if_neg hne]
  have : (m : Int).natAbs = m := Int.natAbs_natCast m
  rw [this]
  have := (Nat.log2_lt (by omega)).mpr h
  omega
theorem drawR_small {m : Nat} (h0 : 0 < m) (h : m < 2 ^ 27) (S : Hs) : K57D.drawR [some (.ref p), some (.int (m : Int)), some (.int 0), none, none] S = .ok (.rng 0 1) S := by
  have hb := bits_small h0 h
  have e : fdivD (.int ((Builtin.Int.intBits (m : Int) : Nat) : Int)) (.int 28) S = .ok (.int 0) S := by
    show (if (decide ((0 : Int) < 28) && decide ((28 : Int).natAbs.log2 < 9000)) = true then Res.ok (D.int (((Builtin.Int.intBits (m : Int) : Nat) : Int) / 28)) S else .bad) = _
    rw [if_pos (by decide +kernel)]
    have : (((Builtin.Int.intBits (m : Int) : Nat) : Int) / 28) = 0 := by omega
    rw [this]
  have e2 : mOp2 addD (mC (.int 1)) (mOp2 fdivD (mBits (mV 1)) (mC (.int 28))) [some (.ref p), some (.int (m : Int)), some (.int 0), none, none] S = .ok (.int 1) S := by
    have e3 : mOp2 fdivD (mBits (mV 1)) (mC (.int 28)) [some (.ref p), some (.int (m : Int)), some (.int 0), none, none] S = .ok (.int 0) S := by
      rw [K57D.op2 (x := .int ((Builtin.Int.intBits (m : Int) : Nat) : Int)) (y := .int 28) (S1 := S) (S2 := S) rfl rfl, e]
    rw [K57D.op2 (x := .int 1) (y := .int 0) (S1 := S) (S2 := S) rfl e3]
    rfl
  unfold K57D.drawR mRange1 mCons
  rw [e2]
  rfl
/-- one draw -/
theorem draw_w {m : Nat} (P : Pu S p c0) (hc : c0 < 900000) (h0 : 0 < m) (h : m < 2 ^ 27) : Ok (fun x s => ∃ r : Nat, x = .int (r : Int) ∧ r < m ∧ Fr (· = p) S s ∧ s.n = S.n ∧ Pu s p (c0 + 4)) (pur F__law_draw [.ref p, .int (m : Int)] S) := by
  have hlog : (m : Int).natAbs.log2 < 9000 := by
    rw [Int.natAbs_natCast]
    have := (Nat.log2_lt (by omega)).mpr h
    omega
  obtain ⟨r, S', r0, r1, e, k', n', P'⟩ := K57D.draw_ok (m := (m : Int)) (n := 1) (fun S => drawR_small h0 h S) (by omega) (by omega) hlog P (by omega)
  obtain ⟨r', rfl⟩ := Int.eq_ofNat_of_zero_le r0
  rw [pur_raw (by rfl)]
  exact Ok.of e ⟨r', rfl, by omega, ⟨fun a c ha g => k'.at_ a c ha g, k'.n⟩, n', P'⟩
theorem one_ok {w : Nat} {xs : List D} (P : Pu S p c0) (hc : c0 < 900000) (g : S.get w = some (.lst xs)) (hw : w ≠ p) (h0 : 0 < xs.length) (h : xs.length < 2 ^ 27) :
    Ok (fun x s => ∃ r : Nat, xs[r]? = some x ∧ Fr (· = p) S s ∧ s.n = S.n ∧ Pu s p (c0 + 4)) (pur F__law_one_of [.ref p, .ref w] S) := by
  rw [pur_raw (by rfl)]
  refine o_run rfl ?_
  show Wp _ _ (FB__law_one_of [some (.ref p), some (.ref w)] S)
  unfold FB__law_one_of
  simp [len_lst g]
  refine (draw_w P hc h0 h).mono fun x s ⟨r, hx, hr, fr, hn, P'⟩ => ?_
  subst hx
  have g' := fr.at_ _ _ hw g
  rw [ix_lst g' (List.getElem?_eq_getElem hr)]
  exact ⟨⟨r, List.getElem?_eq_getElem hr⟩, fr, hn, P'⟩
theorem fit_spelt {w : Str} (h : speltB w = true) : fit w := by
  unfold speltB at h
  rw [Bool.and_eq_true, Bool.and_eq_true] at h
  obtain ⟨⟨h1, h2⟩, h3⟩ := h
  have h2 := of_decide_eq_true h2
  refine ⟨?_, by have : line = 16777216 := rfl; omega⟩
  unfold PyData.strOk
  rw [← Array.all_toList, List.all_eq_true]
  intro c hc
  have h4 := List.all_eq_true.mp h3 c hc
  unfold letB at h4
  have := of_decide_eq_true (Bool.and_eq_true_iff.mp h4).2
  exact decide_eq_true (by omega)
theorem join_sgn (cs : List Nat) : (Txt.join "" (cs.map fun c => (⟨#[c]⟩ : Str))).cps.toList = cs := by
  have go : ∀ (cs : List Nat) (acc : Array Nat), ((cs.map fun c => (⟨#[c]⟩ : Str)).foldl (fun acc p => acc ++ ("" : Str).cps ++ p.cps) acc).toList = acc.toList ++ cs := by
    intro cs
    induction cs with
    | nil => intro acc; simp
    | cons c cs ih =>
      intro acc
      have e : ("" : Str).cps = #[] := rfl
      rw [List.map_cons, List.foldl_cons, ih]
      simp [e]
  cases cs with
  | nil => rfl
  | cons c cs =>
    show (((cs.map fun c => (⟨#[c]⟩ : Str)).foldl (fun acc p => acc ++ ("" : Str).cps ++ p.cps) #[c])).toList = _
    rw [go]
    rfl
theorem abc_at {r : Nat} (h : r < 26) : ixD (.str "abcdefghijklmnopqrstuvwxyz") (.int (r : Int)) S = .ok (.str ⟨#[97 + r]⟩) S := by
  refine ix_str (by decide +kernel) ?_
  rw [letters, List.getElem?_range' h]
  simp
theorem let_at {r : Nat} (h : r < 26) : letB (97 + r) = true := by
  unfold letB
  rw [decide_eq_true (by omega), decide_eq_true (by omega)]
  rfl
theorem mapO_sgn : ∀ {zs : List D}, (∀ (m : Nat) (y : D), zs[m]? = some y → ∃ c : Nat, letB c = true ∧ y = D.str ⟨#[c]⟩) → ∃ cs : List Nat, mapO strOf zs = some (cs.map fun c => ⟨#[c]⟩) ∧ cs.all letB = true ∧ cs.length = zs.length
  | [], _ => ⟨[], rfl, rfl, rfl⟩
  | z :: zs, h => by
    obtain ⟨c, hc, e⟩ := h 0 z rfl
    subst e
    obtain ⟨cs, e1, e2, e3⟩ := mapO_sgn (zs := zs) fun (m : Nat) (y : D) hy => h (m + 1) y hy
    exact ⟨c :: cs, by unfold mapO; rw [e1] <;> rfl, by simp [hc, e2], by simp [e3]⟩
theorem word_ok (P : Pu S p c0) (hc : c0 < 800000) : Ok (fun x s => ∃ w, x = .str w ∧ speltB w = true ∧ Fr (· = p) S s ∧ Pu s p (c0 + 44)) (pur F__law_word [.ref p] S) := by
  rw [pur_raw (by rfl)]
  refine o_run rfl ?_
  show Wp _ _ (FB__law_word [some (.ref p), none, none] S)
  unfold FB__law_word
  simp
  refine (draw_w (m := 3) P (by omega) (by decide) (by decide)).mono fun x s1 ⟨r1, hx, hr1, fr1, hn1, P1⟩ => ?_
  subst hx
  simp [eq_int]
  have rest : ∀ m : Nat, 0 < m → m ≤ 8 → Ok (fun x s => ∃ r : Nat, x = .int (r : Int) ∧ r < m ∧ Fr (· = p) s1 s ∧ s.n = s1.n ∧ Pu s p (c0 + 4 + 4)) (pur F__law_draw [.ref p, .int (m : Int)] s1) := fun m h0 h8 => draw_w P1 (by omega) h0 (by omega)
  have go : ∀ (s2 : Hs) (r2 : Nat) (z : Int), z = 1 + (r2 : Int) → r2 < 8 → Fr (· = p) s1 s2 → Pu s2 p (c0 + 4 + 4) → Ok (fun x s => ∃ w, x = .str w ∧ speltB w = true ∧ Fr (· = p) S s ∧ Pu s p (c0 + 44)) (mMeth "str" joinG (mC (.str "")) (mCons (mLc (mRange1 (mCons (mV 1) mNil)) (bName 2) mTrue (mOp2 ixD (mC (.str "abcdefghijklmnopqrstuvwxyz")) (mOwn (pur F__law_draw) [] (mCons (mV 0) (mCons (mC (.int 26)) mNil)))) [2]) mNil) [some (.ref p), some (.int z), none] s2) := fun s2 r2 z hz0 h8 fr2 P2 => by
    simp
    refine ⟨rfl, ?_⟩
    refine o_lcJ (· = p) (rngL 0 (r2 + 1)) (fun i s => Pu s p (c0 + 4 + 4 + 4 * (i : Int))) (fun _ _ y _ => ∃ c : Nat, letB c = true ∧ y = D.str ⟨#[c]⟩) ?_
    have er : mRange1 (mCons (mV 1) mNil) [some (.ref p), some (.int z), none] s2 = .ok (.rng 0 (r2 + 1)) s2 := by
      have e1 : -(2 ^ 62) ≤ z ∧ z < 2 ^ 62 := ⟨by omega, by omega⟩
      have e2 : z.toNat = r2 + 1 := by omega
      show (if -(2 ^ 62) ≤ z ∧ z < 2 ^ 62 then Res.ok (DI.rng 0 z.toNat) s2 else .bad) = _
      rw [if_pos e1, e2]
    rw [er]
    have hp2 := P2.lt
    refine ⟨itm_rng, by rw [rngL_len]; have : line = 16777216 := rfl; omega, fun z => by omega, (P2.fr (Fr.new (q := No)) id).le (by omega), fun i s c1 c g hJ => K57D.Pu.put hJ g (by omega), fun i d hd => ⟨[(2, d)], rfl, fun s fr hl hJ => ?_⟩, fun _ _ _ _ _ z => z, fun s' zs fr hl hJ g2 l2 hz => ?_⟩
    · have hi : i < r2 + 1 := by
        have := (List.getElem?_eq_some_iff.mp hd).1
        rwa [rngL_len] at this
      simp
      refine (draw_w (m := 26) hJ (by omega) (by decide) (by decide)).mono fun x s3 ⟨r3, hx, hr3, fr3, hn3, P3⟩ => ?_
      subst hx
      rw [abc_at hr3]
      exact ⟨fr3, P3.le (by omega), _, let_at hr3, rfl⟩
    · obtain ⟨cs, e1, e2, e3⟩ := mapO_sgn hz
      have ecs : ∀ l : List Nat, ((l.map fun c => (⟨#[c]⟩ : Str)).map (·.length)).sum = l.length := fun l => by
        induction l with
        | nil => rfl
        | cons a l ih =>
          rw [List.map_cons, List.map_cons, List.sum_cons, ih, List.length_cons]
          show 1 + l.length = _
          omega
      have hcl : cs.length = r2 + 1 := by rw [e3, l2, rngL_len]
      have e4 : joinG (.str "") [.ref s2.n] s' = .ok (.str (Txt.join "" (cs.map fun c => ⟨#[c]⟩))) s' := by
        unfold joinG
        simp only [listOf_get g2, e1]
        rw [if_pos (by
          rw [ecs, hcl, List.length_map]
          show r2 + 1 + cs.length * 0 ≤ line
          have : line = 16777216 := rfl
          omega)]
      rw [e4]
      refine ⟨_, rfl, ?_, fr1.trans (fr2.trans fr), hJ.le (by rw [rngL_len]; omega)⟩
      have hj := join_sgn cs
      have hz2 : (Txt.join "" (cs.map fun c => (⟨#[c]⟩ : Str))).cps.size = r2 + 1 := by
        rw [← Array.length_toList, hj, hcl]
      unfold speltB
      rw [hj, hz2, decide_eq_true (by omega), decide_eq_true (by omega), e2]
      rfl
  by_cases h : r1 = 0
  · simp [h]
    refine (rest 8 (by omega) (by omega)).mono fun x s2 ⟨r2, hx, hr2, fr2, hn2, P2⟩ => ?_
    subst hx
    obtain ⟨z, hz⟩ : ∃ z : Int, z = 1 + (r2 : Int) := ⟨_, rfl⟩
    have a1 : ∀ s, addD (.int 1) (.int (r2 : Int)) s = .ok (.int z) s := fun s => by
      rw [hz]
      rfl
    rw [a1, Ok_ok]
    simpa using go s2 r2 z hz (by omega) fr2 P2
  · simp [h]
    refine (rest 3 (by omega) (by omega)).mono fun x s2 ⟨r2, hx, hr2, fr2, hn2, P2⟩ => ?_
    subst hx
    obtain ⟨z, hz⟩ : ∃ z : Int, z = 1 + (r2 : Int) := ⟨_, rfl⟩
    have a1 : ∀ s, addD (.int 1) (.int (r2 : Int)) s = .ok (.int z) s := fun s => by
      rw [hz]
      rfl
    rw [a1, Ok_ok]
    simpa using go s2 r2 z hz (by omega) fr2 P2
end
end K57

/-! QU: the purses. -/
namespace K57D
open PySem MR
open L2 (atI ixN)
open K57 (F__law_purse FB__law_purse F__law_purses FB__law_purses)
theorem pur_lst {F : Fn} {ds xs : List D} {n : Nat} {S S1 : Hs} (hf : frees ds = true) (e : F ds S0 = .ok (.ref n) S1) (g : S1.get n = some (.lst xs)) (hx : frees xs = true) : pur F ds S = .ok (.ref S.n) (S.new (.lst xs)) := by
  unfold pur
  rw [if_pos hf, e]
  simp only [g, hx]
  rfl
theorem consE {m : Ex} {ms : Exs} {env : EnvD} {S S1 S2 : Hs} {d : D} {ds : List D} (h : m env S = .ok d S1) (h2 : ms env S1 = .ok ds S2) : mCons m ms env S = .ok (d :: ds) S2 := by
  unfold mCons
  rw [h]
  show (ms env S1).bind _ = _
  rw [h2]
  rfl
theorem lstE {ms : Exs} {env : EnvD} {S S1 : Hs} {ds : List D} (h : ms env S = .ok ds S1) (hl : ds.length ≤ line) : mLst ms env S = .ok (.ref S1.n) (S1.new (.lst ds)) := by
  unfold mLst
  rw [h]
  show (if ds.length ≤ line then Res.ok (D.ref S1.n) (S1.new (.lst ds)) else .bad) = _
  rw [if_pos hl]
theorem lc_inv {di : DI} {b : Bnd} {mt me : Ex} {env : EnvD} {a n : Nat} (I : Nat → Hs → Prop) (step : ∀ i S, i < n → I i S → ∃ d us y S3 S4 acc, di.next i S = some (some d) ∧ b d = some us ∧ mt (apD env us) S = .ok (.bl true) S3 ∧ me (apD env us) S3 = .ok y S4 ∧ S4.get a = some (.lst acc) ∧ acc.length < line ∧ I (i + 1) (S4.put a (.lst (acc ++ [y]))))
    (stop : ∀ S, I n S → di.next n S = some none) : ∀ (j i k : Nat) (S : Hs), i + j = n → j < k → I i S → ∃ S', mLcL di b mt me env a k i S = .ok (.ref a) S' ∧ I n S'
  | 0, i, k + 1, S, hij, hk, hI => by
    have e : i = n := by omega
    subst e
    refine ⟨S, ?_, hI⟩
    unfold mLcL
    rw [stop S hI]
  | j + 1, i, k + 1, S, hij, hk, hI => by
    obtain ⟨d, us, y, S3, S4, acc, h1, h2, h3, h4, h5, h6, h7⟩ := step i S (by omega) hI
    obtain ⟨S', h8, h9⟩ := lc_inv I step stop j (i + 1) k _ (by omega) (by omega) h7
    refine ⟨S', ?_, h9⟩
    unfold mLcL
    rw [h1]
    simp only [h2, h3, h4, h5, h6, if_true]
    exact h8
theorem mapO_int : ∀ ns : List Int, mapO intOf (ns.map D.int) = some ns
  | [] => rfl
  | n :: ns => by simp only [List.map_cons, mapO, intOf, mapO_int ns]
theorem frees_int : ∀ ns : List Int, frees (ns.map D.int) = true
  | [] => rfl
  | n :: ns => frees_int ns
theorem cut_int (ns : List Int) (lo hi : Option Int) : ∃ ms : List Int, cutD (ns.map D.int) lo hi = ms.map D.int := by
  unfold cutD
  rw [← List.map_drop, ← List.map_take]
  exact ⟨_, rfl⟩
theorem purse_ok (ns : List Int) {i : Nat} (hi : i ≤ 64) : ∃ a b : Int, 0 ≤ b ∧ b < 2147483648 ∧ ∀ S, pur F__law_purse [.fz (ns.map D.int), .int (i : Int)] S = .ok (.ref S.n) (S.new (.lst [.int a, .int b, .int 0, .int (i : Int)])) := by
  obtain ⟨ms, hms⟩ := cut_int ns (some (i : Int)) (some ((i : Int) + 1))
  let z : Int := ms.sum
  let a : Int := (if (0 : Int) > z - 1000000000000000000 then 0 else z - 1000000000000000000).fmod (((10 : Int) ^ 60) ^ 8)
  refine ⟨a, z.fmod 2147483629, Int.fmod_nonneg_of_pos _ (by decide), ?_, fun S => ?_⟩
  · have := Int.fmod_lt_of_pos z (b := 2147483629) (by decide)
    omega
  · have e : F__law_purse [.fz (ns.map D.int), .int (i : Int)] S0 = .ok (.ref 1) ((S0.new (.lst (ms.map D.int))).new (.lst [.int a, .int (z.fmod 2147483629), .int 0, .int (i : Int)])) := by
      show ofS (FB__law_purse [some (.fz (ns.map D.int)), some (.int (i : Int)), none] S0) = _
      unfold FB__law_purse
      rw [seqSet (d := .int z) (S1 := S0.new (.lst (ms.map D.int)))]
      · rw [retE (d := .ref 1) (S1 := (S0.new (.lst (ms.map D.int))).new (.lst [.int a, .int (z.fmod 2147483629), .int 0, .int (i : Int)]))]
        · rfl
        · refine lstE (S1 := S0.new (.lst (ms.map D.int))) (ds := [.int a, .int (z.fmod 2147483629), .int 0, .int (i : Int)]) ?_ (by show 4 ≤ 16777216; omega)
          refine consE (S1 := S0.new (.lst (ms.map D.int))) (by kernel_rfl) (consE (S1 := S0.new (.lst (ms.map D.int))) rfl (consE (S1 := S0.new (.lst (ms.map D.int))) rfl (consE (S1 := S0.new (.lst (ms.map D.int))) rfl rfl)))
      · rw [call1 (d := .ref 0) (S1 := S0.new (.lst (ms.map D.int)))]
        · show (match MR.listOf (S0.new (.lst (ms.map D.int))) 0 with
            | some xs => (match mapO intOf xs with
              | some is => Res.ok (D.int is.sum) (S0.new (.lst (ms.map D.int)))
              | none => .bad : Res D)
            | none => .bad) = _
          rw [listOf_get (Hs.get_new S0 _)]
          simp only [mapO_int]
          rfl
        · show Res.ok (D.ref 0) (S0.new (.lst (cutD (ns.map D.int) (some (i : Int)) (some ((i : Int) + 1))))) = _
          rw [hms]
    exact pur_lst (by show (frees (ns.map D.int) && (true && true)) = true; rw [frees_int]; rfl) e (Hs.get_new (S0.new _) _) rfl
def refs (k : Nat) : List D := (List.range k).map fun j => .ref (j + 1)
structure Made (k : Nat) (S : Hs) : Prop where
  n : S.n = 1 + k
  l : S.get 0 = some (.lst (refs k))
  p : ∀ j, j < k → Pu S (j + 1) 0
theorem refs_succ (k : Nat) : refs (k + 1) = refs k ++ [.ref (k + 1)] := by
  unfold refs
  rw [List.range_succ, List.map_append]
  rfl
theorem purses_ok (ns : List Int) : ∃ (k : Nat) (S : Hs), k ≤ 3 ∧ pur F__law_purses [.fz (ns.map D.int), .int 3] S0 = .ok (.ref 0) S ∧ Made k S := by
  let z : Int := (if (if (ns.length : Int) < 3 then (ns.length : Int) else 3) > 1 then (if (ns.length : Int) < 3 then (ns.length : Int) else 3) else 1)
  have hz : 1 ≤ z ∧ z ≤ 3 := by
    show 1 ≤ (if (if (ns.length : Int) < 3 then (ns.length : Int) else 3) > 1 then (if (ns.length : Int) < 3 then (ns.length : Int) else 3) else 1) ∧ (if (if (ns.length : Int) < 3 then (ns.length : Int) else 3) > 1 then (if (ns.length : Int) < 3 then (ns.length : Int) else 3) else 1) ≤ 3
    split <;> split <;> omega
  obtain ⟨k, ek⟩ := Int.eq_ofNat_of_zero_le (show 0 ≤ z by omega)
  have hF : ∀ S, F__law_purses [.fz (ns.map D.int), .int 3] S0 = .ok (.ref 0) S → Made k S → pur F__law_purses [.fz (ns.map D.int), .int 3] S0 = .ok (.ref 0) S := fun S e M => by
    unfold pur
    rw [if_pos (by show (frees (ns.map D.int) && (true && true)) = true; rw [frees_int]; rfl), e]
    simp only [M.l]
    by_cases hf : frees (refs k) = true
    · have : k = 0 := by
        cases k with
        | zero => rfl
        | succ k =>
          rw [refs_succ] at hf
          exfalso
          have := frees_get (i := k) (d := .ref (k + 1)) hf (by rw [List.getElem?_append_right (by unfold refs; simp)]; unfold refs; simp)
          cases this
      omega
    · rw [if_neg hf]
  let I : Nat → Hs → Prop := fun i S => Made i S
  have hr : (mRange1 (mCons (mCall maxF (mCons (mC (.int 1)) (mCons (mCall minF (mCons (mV 1) (mCons (mCall lenF (mCons (mV 0) (mNil))) (mNil)))) (mNil)))) (mNil))) [some (.fz (ns.map D.int)), some (.int 3), none] S0 = .ok (.rng 0 k) S0 := by
    have e : (mCons (mCall maxF (mCons (mC (.int 1)) (mCons (mCall minF (mCons (mV 1) (mCons (mCall lenF (mCons (mV 0) (mNil))) (mNil)))) (mNil)))) (mNil)) [some (.fz (ns.map D.int)), some (.int 3), none] S0 = .ok [.int z] S0 := by
      have hl : ((ns.map D.int).length : Int) = (ns.length : Int) := by rw [List.length_map]
      show Res.ok [D.int (if (if ((ns.map D.int).length : Int) < 3 then ((ns.map D.int).length : Int) else 3) > 1 then (if ((ns.map D.int).length : Int) < 3 then ((ns.map D.int).length : Int) else 3) else 1)] S0 = _
      rw [hl]
    unfold mRange1
    rw [e]
    show (if -(2 ^ 62) ≤ z ∧ z < 2 ^ 62 then Res.ok (DI.rng 0 z.toNat) S0 else .bad) = _
    rw [if_pos (by omega), ek, Int.toNat_natCast]
  obtain ⟨S', h1, h2⟩ := lc_inv (di := .rng 0 k) (b := bName 2) (mt := mTrue) (me := mOwn (pur F__law_purse) [] (mCons (mV 0) (mCons (mV 2) (mNil)))) (env := [some (.fz (ns.map D.int)), some (.int 3), none]) (a := 0) (n := k) I
    (fun i S hi hI => by
      obtain ⟨a, b, b0, b1, hp⟩ := purse_ok ns (i := i) (by omega)
      have M : Made i S := hI
      have g0 : (S.new (.lst [.int a, .int b, .int 0, .int (i : Int)])).get 0 = some (.lst (refs i)) := Hs.get_old M.l
      have gn : (S.new (.lst [.int a, .int b, .int 0, .int (i : Int)])).get S.n = some (.lst [.int a, .int b, .int 0, .int (i : Int)]) := Hs.get_new S _
      have hlt := Hs.get_lt g0
      refine ⟨.int (0 + i), [(2, .int (0 + i))], .ref S.n, S, S.new (.lst [.int a, .int b, .int 0, .int (i : Int)]), refs i, ?_, rfl, rfl, ?_, g0, ?_, ⟨?_, ?_, fun j hj => ?_⟩⟩
      · show some (if i < k then some (D.int (0 + i)) else none) = _
        rw [if_pos hi]
      · rw [own2 (d1 := .fz (ns.map D.int)) (d2 := .int (0 + i)) rfl rfl, Int.zero_add]
        exact hp S
      · show (refs i).length < 16777216
        unfold refs
        simp
        omega
      · show S.n + 1 = _
        rw [M.n]
        omega
      · rw [Hs.get_put g0, refs_succ, M.n, Nat.add_comm 1 i]
      · by_cases e : j = i
        · subst e
          refine ⟨a, b, 0, (j : Int), ?_, ⟨b0, b1⟩, ⟨by omega, by omega⟩, ⟨by omega, by omega⟩⟩
          rw [Hs.get_put_ne hlt (by omega)]
          have : j + 1 = S.n := by rw [M.n]; omega
          rw [this]
          exact gn
        · obtain ⟨a', b', c', d', h, r⟩ := (M.p j (by omega)).ex
          refine ⟨a', b', c', d', ?_, r⟩
          rw [Hs.get_put_ne hlt (by omega)]
          exact Hs.get_old h) (fun S _ => by
      show some (if k < k then some (D.int (0 + k)) else none) = _
      rw [if_neg (Nat.lt_irrefl _)]) k 0 (k + 1) (S0.new (.lst [])) (by omega) (by omega) ⟨rfl, rfl, fun j hj => by omega⟩
  refine ⟨k, S', by omega, hF S' ?_ h2, h2⟩
  show ofS (FB__law_purses [some (.fz (ns.map D.int)), some (.int 3), none] S0) = _
  unfold FB__law_purses
  rw [retE (d := .ref 0) (S1 := S')]
  · rfl
  · unfold mLc
    rw [hr]
    exact h1
end K57D

/-! PP6: copies; exactness; spelt words. -/
namespace K57
open PySem MR
open L2 (kitB)
section
variable {q q' : Nat → Prop} {S S' s : Hs} {k n : Nat} {d : D} {p : PyData} {e : EnvD}
def Own (s : Hs) (k : Nat) (x : D) (p : PyData) : Prop := ∀ n, x = .ref n → ∃ ds ps, s.get n = some (.lst ds) ∧ p = .list ps ∧ ds.length = ps.length ∧ ds.length < line ∧ ∀ (i : Nat) d p, ds[i]? = some d → ps[i]? = some p → Dn (· = n) s k d p
theorem Own.fr {x : D} (o : Own S k x p) (f : Fr No S S') : Own S' k x p := fun n e => by
  obtain ⟨ds, ps, h1, h2, h3, h4, h5⟩ := o n e
  exact ⟨ds, ps, f.at_ _ _ id h1, h2, h3, h4, fun i d p a b => (h5 i d p a b).fr f.any⟩
theorem same_pur {F : Fn} (H : ∀ {d p q S}, Dn q S k d p → Ok (fun x s => Fr No S s ∧ Dn (· < S.n) s k x p ∧ Own s k x p) (F [d] S)) (h : Dn q S k d p) : Ok (fun x s => Fr No S s ∧ Dn (· < S.n) s k x p ∧ Own s k x p) (pur F [d] S) := by
  cases hf : frees [d] with
  | false =>
    rw [pur_raw hf]
    exact H h
  | true =>
    have f : free d = true := (Bool.and_eq_true_iff.mp hf).1
    have h0 : Dn No S0 k d p := h.free f
    obtain ⟨x, s, e, fr, dn, ow⟩ := (H h0).eq
    have fin : (if free x then Res.ok x S else F [d] S) = pur F [d] S → Ok (fun x s => Fr No S s ∧ Dn (· < S.n) s k x p ∧ Own s k x p) (pur F [d] S) := fun e2 => by
      rw [← e2]
      by_cases hx : free x = true
      · rw [if_pos hx]
        exact ⟨Fr.refl, dn.free hx, fun n e => by subst e; cases hx⟩
      · rw [if_neg hx]
        exact H h
    cases x with
    | ref n =>
      cases dn
      cases h
      cases f
    | _ => exact fin (by unfold pur; rw [if_pos hf, e])
theorem same_ok : ∀ (k : Nat) {d : D} {p : PyData} {q : Nat → Prop} {S : Hs}, Dn q S k d p → Ok (fun x s => Fr No S s ∧ Dn (· < S.n) s k x p ∧ Own s k x p) (F__law_same (k + 1) [d] S)
  | k, d, p, q, S, h => by
    have i1 := h.isi (b := "dict") (by simp)
    have i2 := h.isi (b := "list") (by simp)
    have i3 := h.isi (b := "tuple") (by simp)
    show Ok _ (runB 1 3 (FB__law_same (F__law_same k)) [d] S)
    refine o_run rfl ?_
    show Wp _ _ (FB__law_same (F__law_same k) [some d, none, none] S)
    unfold FB__law_same
    cases h with
    | non => simpa [i1, i2, i3, tyOf] using ⟨Fr.refl, .non, fun n e => nomatch e⟩
    | bl b => simpa [i1, i2, i3, tyOf] using ⟨Fr.refl, .bl b, fun n e => nomatch e⟩
    | int i => simpa [i1, i2, i3, tyOf] using ⟨Fr.refl, .int i, fun n e => nomatch e⟩
    | str h => simpa [i1, i2, i3, tyOf] using ⟨Fr.refl, .str h, fun n e => nomatch e⟩
    | @tup k ds ps l m r =>
      simp [i1, i2, i3, tyOf]
      refine o_lc No ds (fun S1 i y s => ∃ p, ps[i]? = some p ∧ Dn (· < S1.n + 1) s k y p) ?_
      rw [iter_tup rfl]
      refine ⟨itm_tup, m, id, fun i d hd => ⟨[(1, d)], rfl, fun s fr hn => ?_⟩, fun i y s s' f ⟨p, hp, z⟩ => ⟨p, hp, z.fr (f.mono fun n hn => hn.elim (fun z => z.elim) fun z => by omega)⟩, fun s' zs fr hn g l2 hz => ?_⟩
      · obtain ⟨p, hp⟩ := there l.symm hd
        have dn := (r i d p hd hp).fr fr.any
        simp [dn.noX]
        exact (same_pur (same_ok k) dn).mono fun y s' ⟨f, z, _⟩ => ⟨f, p, hp, z.weak fun n hn => by omega⟩
      · unfold tupleF
        simp [listOf_get g]
        exact ⟨fr, .tup (l2.trans l) (by omega) fun i y p hy hp => by
          obtain ⟨p', e, z⟩ := hz i y hy
          rw [hp] at e
          cases e
          exact z.weak fun n hn => by omega, fun n e => nomatch e⟩
    | @lst k n ds ps hq h l m r =>
      simp [i1, i2, i3, tyOf]
      refine o_lc No ds (fun S1 i y s => ∃ p, ps[i]? = some p ∧ Dn (· < S1.n + 1) s k y p) ?_
      rw [iter_lst rfl h]
      refine ⟨itm_lst h id, Nat.le_of_lt m, id, fun i d hd => ⟨[(1, d)], rfl, fun s fr hn => ?_⟩, fun i y s s' f ⟨p, hp, z⟩ => ⟨p, hp, z.fr (f.mono fun n hn => hn.elim (fun z => z.elim) fun z => by omega)⟩, fun s' zs fr hn g l2 hz => ?_⟩
      · obtain ⟨p, hp⟩ := there l.symm hd
        have dn := (r i d p hd hp).fr fr.any
        simp [dn.noX]
        exact (same_pur (same_ok k) dn).mono fun y s' ⟨f, z, _⟩ => ⟨f, p, hp, z.weak fun n hn => by omega⟩
      · exact ⟨fr, .lst (Nat.lt_irrefl _) g (l2.trans l) (by omega) fun i y p hy hp => by
          obtain ⟨p', e, z⟩ := hz i y hy
          rw [hp] at e
          cases e
          exact z.weak fun n hn => by omega, fun n e => by
          cases e
          exact ⟨zs, ps, g, rfl, l2.trans l, by omega, fun i y p hy hp => by
            obtain ⟨p', e, z⟩ := hz i y hy
            rw [hp] at e
            cases e
            exact (z.weak fun n hn => by omega).up (Nat.le_succ k)⟩⟩
theorem exact_pur {F : Fn} {d' : D} {k' : Nat} {p' : PyData} (H : ∀ {S}, Dn q S k d p → Dn q' S k' d' p' → Ok (fun x s => x = .bl true ∧ Fr No S s) (F [d, d'] S)) (h : Dn q S k d p) (h' : Dn q' S k' d' p') : Ok (fun x s => x = .bl true ∧ Fr No S s) (pur F [d, d'] S) :=
  pur_any rfl fun S' hS => by
    cases hf : frees [d, d'] with
    | false =>
      have e := hS hf
      subst e
      exact H h h'
    | true =>
      obtain ⟨f1, f2⟩ := Bool.and_eq_true_iff.mp hf
      exact H (h.free f1) (h'.free (Bool.and_eq_true_iff.mp f2).1)
theorem kit2 : ∀ a ∈ ["NoneType", "bool", "int", "str", "tuple", "list"], kitBs a [.ty "list", .ty "tuple"] = some (a == "list" || a == "tuple") := by decide +kernel
theorem Dn.isi2 (h : Dn q S k d p) : isiF [d, .tup [.ty "list", .ty "tuple"]] S = .ok (.bl (tyOf p == "list" || tyOf p == "tuple")) S := by
  have e := kit2 (tyOf p) (by cases h <;> simp [tyOf])
  unfold isiF
  simp only [h.ty, e]
theorem zipT_ev {P : DI → Hs → Prop} {env : EnvD} {i j : Nat} {xs ys : List D} (h1 : env[i]? = some (some (.tup xs))) (h2 : env[j]? = some (some (.tup ys))) : Ok P (mZip (mCons (mV i) (mCons (mV j) mNil)) env S) = P (.zipT xs ys) S := by
  unfold mZip
  simp [h1, h2]
theorem zipL_ev {P : DI → Hs → Prop} {env : EnvD} {i j n m : Nat} {xs ys : List D} (h1 : env[i]? = some (some (.ref n))) (h2 : env[j]? = some (some (.ref m))) (g : S.get n = some (.lst xs)) (g' : S.get m = some (.lst ys)) : Ok P (mZip (mCons (mV i) (mCons (mV j) mNil)) env S) = P (.zipL n m) S := by
  unfold mZip
  simp [h1, h2, listOf_get g, listOf_get g']
theorem exact_ok : ∀ (k : Nat) {d d' : D} {p : PyData} {q q' : Nat → Prop} {S : Hs}, k ≤ 30 → Dn q S k d p → Dn q' S k d' p → Ok (fun x s => x = .bl true ∧ Fr No S s) (F__law_exact (k + 1) [d, d'] S)
  | k, d, d', p, q, q', S, hk, h, h' => by
    have i2 := h.isi2
    have j1 := h.isi (b := "list") (by simp)
    have j2 := h.isi (b := "tuple") (by simp)
    have j3 := h.isi (b := "dict") (by simp)
    have j4 := h.isi (b := "bool") (by simp)
    have l1 := h'.isi (b := "list") (by simp)
    have l2 := h'.isi (b := "tuple") (by simp)
    have l4 := h'.isi (b := "bool") (by simp)
    have hln : (2 : Nat) ≤ line := by decide
    have e0 := h.eq h' (by omega) (by omega)
    have er := h.refl
    show Ok _ (runB 2 6 (FB__law_exact (F__law_exact k)) [d, d'] S)
    refine o_run rfl ?_
    show Wp _ _ (FB__law_exact (F__law_exact k) [some d, some d', none, none, none, none] S)
    unfold FB__law_exact
    cases h with
    | non => cases h'; simpa [i2, j3, j4, l4, tyOf, eq_bl, e0, er, hln] using Fr.refl
    | bl b => cases h'; simpa [i2, j3, j4, l4, tyOf, eq_bl, e0, er, hln] using Fr.refl
    | int i => cases h'; simpa [i2, j3, j4, l4, tyOf, eq_bl, e0, er, hln] using Fr.refl
    | str h => cases h'; simpa [i2, j3, j4, l4, tyOf, eq_bl, e0, er, hln] using Fr.refl
    | @tup k ds ps l m r =>
      cases h' with
      | @tup _ ds' _ l' m' r' =>
        simp [i2, j1, j2, j3, j4, l1, l2, l4, tyOf, eq_bl, e0, er, hln, len_tup, eq_int, l, l']
        refine o_lc No (zipL2 ds ds') (fun _ _ y _ => y = .bl true) ?_
        rw [zipT_ev rfl rfl]
        refine ⟨itm_zipT, by simp [zipL2]; omega, id, fun i d hd => ?_, fun _ _ _ _ _ z => z, fun s' zs fr hn g2 l2 hz => ?_⟩
        · obtain ⟨x, y, hx, hy, rfl⟩ := zip_at hd
          refine ⟨[(4, x), (5, y)], rfl, fun s fr hn => ?_⟩
          obtain ⟨p, hp⟩ := there l.symm hx
          have dx := (r i x p hx hp).fr fr.any
          have dy := (r' i y p hy hp).fr fr.any
          simp [apD, wipeD, dx.noX, dy.noX]
          exact (exact_pur (fun a b => exact_ok k (by omega) a b) dx dy).mono fun y s' ⟨e, f⟩ => ⟨f, e⟩
        · rw [allF_true g2 hz]
          exact ⟨rfl, fr⟩
    | @lst k n ds ps hq g l m r =>
      cases h' with
      | @lst _ n' ds' _ hq' g' l' m' r' =>
        simp [i2, j1, j2, j3, j4, l1, l2, l4, tyOf, eq_bl, e0, er, hln, len_lst g, len_lst g', eq_int, l, l']
        refine o_lc No (zipL2 ds ds') (fun _ _ y _ => y = .bl true) ?_
        rw [zipL_ev rfl rfl g g']
        refine ⟨itm_zipL g g' id id, by simp [zipL2]; omega, id, fun i d hd => ?_, fun _ _ _ _ _ z => z, fun s' zs fr hn g2 l2 hz => ?_⟩
        · obtain ⟨x, y, hx, hy, rfl⟩ := zip_at hd
          refine ⟨[(4, x), (5, y)], rfl, fun s fr hn => ?_⟩
          obtain ⟨p, hp⟩ := there l.symm hx
          have dx := (r i x p hx hp).fr fr.any
          have dy := (r' i y p hy hp).fr fr.any
          simp [apD, wipeD, dx.noX, dy.noX]
          exact (exact_pur (fun a b => exact_ok k (by omega) a b) dx dy).mono fun y s' ⟨e, f⟩ => ⟨f, e⟩
        · rw [allF_true g2 hz]
          exact ⟨rfl, fr⟩
def speltP : PyData → Bool
  | .str z => speltB z
  | _ => false
theorem sgn_at {z : Str} {i : Nat} {d : D} (h : (sgnL z)[i]? = some d) : ∃ c, z.cps.toList[i]? = some c ∧ d = .str ⟨#[c]⟩ := by
  unfold sgnL at h
  rw [List.getElem?_map] at h
  obtain ⟨c, h1, h2⟩ := Option.map_eq_some_iff.mp h
  exact ⟨c, h1, h2.symm⟩
theorem iter_str {z : Str} {P : DI → Hs → Prop} {env : EnvD} {i : Nat} (h : env[i]? = some (some (.str z))) : Ok P (mIter (mV i) env S) = P (.str z) S := by
  unfold mIter
  simp [h]
theorem spelt_str (z : Str) (S : Hs) (hl : z.cps.size ≤ line) : Ok (fun x s => x = .bl (speltB z) ∧ s = S) (F_is_spelt [.str z] S) := by
  have i1 : isiF [.str z, .ty "str"] S = .ok (.bl true) S := by kernel_rfl
  have i2 : lenF [.str z] S = .ok (.int z.cps.size) S := by
    show (if z.cps.size ≤ line then Res.ok (D.int z.cps.size) S else .bad) = _
    rw [if_pos hl]
  refine o_run rfl ?_
  show Wp _ _ (FB_is_spelt [some (.str z), none] S)
  unfold FB_is_spelt
  simp [i1, i2, ltD]
  by_cases h1 : 0 < z.cps.size
  · by_cases h2 : z.cps.size < 9
    · have h2' : ((z.cps.size : Nat) : Int) < 9 := by omega
      simp [h1, h2']
      refine w_for (sgnL z) (fun S1 i e s => s = S ∧ (∃ o, e = [some (.str z), o]) ∧ ∀ j < i, ∀ c, z.cps.toList[j]? = some c → letB c = true) ?_
      rw [iter_str rfl]
      refine ⟨by simp [sgnL, DI.size], ⟨rfl, ⟨none, rfl⟩, fun j hj => by omega⟩, fun i e s d ⟨hs, ⟨o, he⟩, hI⟩ hd => ?_, fun e s ⟨hs, _, hI⟩ => ?_⟩
      · subst hs he
        obtain ⟨c, hc, rfl⟩ := sgn_at hd
        refine ⟨(itm_str (q := No)).next i s Fr.refl ▸ congrArg some hd, [(1, .str ⟨#[c]⟩)], rfl, ?_⟩
        simp [notin_let]
        cases hl2 : letB c with
        | true =>
          simp
          intro j hj c' hc'
          rw [← Array.getElem?_toList] at hc'
          by_cases hji : j = i
          · subst hji
            rw [hc] at hc'
            cases hc'
            exact hl2
          · exact hI j (by omega) c' hc'
        | false =>
          simp
          unfold speltB
          have : z.cps.toList.all letB = false := by
            rw [List.all_eq_false]
            exact ⟨c, List.mem_of_getElem? hc, by simp [hl2]⟩
          rw [this]
          simp
      · subst hs
        refine ⟨(itm_str (q := No)).next _ s Fr.refl |>.trans (by rw [List.getElem?_eq_none (Nat.le_refl _)]), ?_⟩
        simp
        unfold speltB
        rw [all_take hI (by simp [sgnL])]
        simp [h1, h2]
    · have h2' : ¬ ((z.cps.size : Nat) : Int) < 9 := by omega
      simp [h1, h2']
      unfold speltB
      simp [h2]
  · simp [h1]
    unfold speltB
    simp [h1]
theorem spelt_raw (h : Dn q S k d p) : Ok (fun x s => x = .bl (speltP p) ∧ s = S) (F_is_spelt [d] S) := by
  have i1 := h.isi (b := "str") (by simp)
  have go : (tyOf p == "str") = false → speltP p = false → Ok (fun x s => x = .bl (speltP p) ∧ s = S) (F_is_spelt [d] S) := fun e1 e2 => by
    refine o_run rfl ?_
    show Wp _ _ (FB_is_spelt [some d, none] S)
    unfold FB_is_spelt
    simp [i1, e1, e2, h.noX]
  cases h with
  | str h => exact spelt_str _ S h.2
  | _ => exact go rfl rfl
theorem is_spelt_ok (h : Dn q S k d p) : pur F_is_spelt [d] S = .ok (.bl (speltP p)) S := pur_same rfl fun S' hS => by
  cases hf : frees [d] with
  | false =>
    have e := hS hf
    subst e
    exact spelt_raw h
  | true => exact spelt_raw (h.free (q' := No) (Bool.and_eq_true_iff.mp hf).1)
theorem bls_all {f : Nat → Bool} : ∀ {cs : List Nat} {zs : List D}, zs.length = cs.length → (∀ (m : Nat) y, zs[m]? = some y → ∃ c, cs[m]? = some c ∧ y = .bl (f c)) → ∃ bs, mapO blOf zs = some bs ∧ bs.all id = cs.all f
  | [], [], _, _ => ⟨[], rfl, rfl⟩
  | [], _ :: _, l, _ => nomatch l
  | _ :: _, [], l, _ => nomatch l
  | c :: cs, z :: zs, l, h => by
    obtain ⟨c', e, e2⟩ := h 0 z rfl
    cases e
    subst e2
    obtain ⟨bs, e1, e2⟩ := bls_all (f := f) (cs := cs) (zs := zs) (Nat.succ.inj l) fun m y hy => h (m + 1) y hy
    exact ⟨f c :: bs, by unfold mapO; rw [e1] <;> rfl, by rw [List.all_cons, List.all_cons, e2]; rfl⟩
theorem allF_of {n : Nat} {zs : List D} {bs : List Bool} (g : S.get n = some (.lst zs)) (h : mapO blOf zs = some bs) : allF [.ref n] S = .ok (.bl (bs.all id)) S := by
  unfold allF
  simp only [listOf_get g, h]
def wds (f : List Str) : List D := f.map D.str
theorem tyD_lst {m : Nat} {xs : List D} (g : S.get m = some (.lst xs)) : tyD "list" (.ref m) S = true := by
  unfold tyD
  simp only [g]
  rfl
theorem app_lst {m : Nat} {xs : List D} {y : D} (g : S.get m = some (.lst xs)) (hl : xs.length < line) : appendG (.ref m) [y] S = .ok .non (S.put m (.lst (xs ++ [y]))) := by
  unfold appendG
  simp only [g]
  rw [if_pos hl]
theorem lcf_ok {di : DI} {b : Bnd} {mt me : Ex} {env : EnvD} {S1 : Hs} {items : List D} {g : D → Option D} (I : Itm No S1 di items) (hl : items.length < line)
    (body : ∀ d ∈ items, ∃ us, b d = some us ∧ ∀ s, Fr No S1 s → mt (apD env us) s = .ok (.bl (g d).isSome) s ∧ ∀ y, g d = some y → me (apD env us) s = .ok y s) :
    ∀ (j i k : Nat) (s : Hs) (ys : List D), i + j = items.length → j < k → Fr No S1 s → s.get S1.n = some (.lst ys) → ys.length ≤ i → ys ++ (items.drop i).filterMap g = items.filterMap g →
      Ok (fun d s' => d = .ref S1.n ∧ Fr No S1 s' ∧ s'.get S1.n = some (.lst (items.filterMap g))) (mLcL di b mt me env S1.n k i s)
  | 0, i, k + 1, s, ys, hij, hk, fr, hg, hy, he => by
    have hi : i = items.length := by omega
    unfold mLcL
    rw [I.next i s fr, List.getElem?_eq_none (by omega)]
    subst hi
    rw [List.drop_length] at he
    simp at he
    subst he
    exact ⟨rfl, fr, hg⟩
  | j + 1, i, k + 1, s, ys, hij, hk, fr, hg, hy, he => by
    have hi : i < items.length := by omega
    obtain ⟨us, hb, h⟩ := body items[i] (List.getElem_mem hi)
    obtain ⟨h1, h2⟩ := h s fr
    rw [List.drop_eq_getElem_cons hi] at he
    unfold mLcL
    rw [I.next i s fr, List.getElem?_eq_getElem hi]
    simp only [hb]
    rw [h1]
    cases hg2 : g items[i] with
    | none =>
      rw [List.filterMap_cons_none hg2] at he
      exact lcf_ok I hl body j (i + 1) k s ys (by omega) (by omega) fr hg (by omega) he
    | some y =>
      rw [List.filterMap_cons_some hg2] at he
      simp only [Option.isSome_some]
      rw [h2 y hg2]
      simp only [hg]
      rw [if_pos (by omega)]
      exact lcf_ok I hl body j (i + 1) k _ (ys ++ [y]) (by omega) (by omega) (fr.put_new hg (Nat.le_refl _)) (Hs.get_put hg) (by simp; omega) (by rw [List.append_assoc]; exact he)
theorem o_lcf {P : D → Hs → Prop} {mi : ExI} {b : Bnd} {mt me : Ex} {vs : List Nat} {env : EnvD} {S : Hs} (items : List D) (g : D → Option D)
    (h : Ok (fun di S1 => Itm No S1 di items ∧ items.length < line ∧ (∀ d ∈ items, ∃ us, b d = some us ∧ ∀ s, Fr No S1 s → mt (apD (wipeD env vs) us) s = .ok (.bl (g d).isSome) s ∧ ∀ y, g d = some y → me (apD (wipeD env vs) us) s = .ok y s) ∧
      ∀ s', Fr No S1 s' → s'.get S1.n = some (.lst (items.filterMap g)) → P (.ref S1.n) s') (mi env S)) : Ok P (mLc mi b mt me vs env S) := by
  unfold mLc
  rw [Ok_bind]
  refine h.mono fun di S1 ⟨I, hl, body, fin⟩ => ?_
  have hz := I.size
  exact (lcf_ok I hl body items.length 0 _ (S1.new (.lst [])) [] (by omega) (by omega) Fr.new (Hs.get_new _ _) (Nat.le_refl _) rfl).mono fun d s' ⟨e, fr, g⟩ => by
    subst e
    exact fin s' fr g
variable {P : EnvD → Hs → Prop} {Q : D → Hs → Prop} {env : EnvD}
@[simp] theorem Wp_par {i j : Nat} {ms : Exs} : Wp P Q (mPar i j ms env S) = Ok (fun ds s => match ds with
    | [d, e] => P ((env.set i (some d)).set j (some e)) s
    | _ => False) (ms env S) := by
  unfold mPar
  rw [Wp_toS]
  congr 1
  funext ds s
  match ds with
  | [] => rfl
  | [_] => rfl
  | [_, _] => rfl
  | _ :: _ :: _ :: _ => rfl
theorem wds_dn {m : Nat} {f : List Str} (g : S.get m = some (.lst (wds f))) (hf : ∀ w ∈ f, fit w) (hl : f.length < line) : Dn No S 1 (.ref m) (.list (f.map .str)) := .lst id g (by simp [wds]) (by simpa [wds] using hl) fun i d p a b => by
  unfold wds at a
  rw [List.getElem?_map] at a b
  obtain ⟨w, hw, rfl⟩ := Option.map_eq_some_iff.mp a
  rw [hw] at b
  cases b
  exact .str (hf w (List.mem_of_getElem? hw))
end
end K57

/-! PP7: the list of drawn words. -/
namespace K57
open PySem MR
open K57D (Pu)
section
variable {S S' s : Hs} {p n : Nat} {c0 : Int}
theorem len_str {w : Str} (h : w.cps.size ≤ line) : lenF [.str w] S = .ok (.int (w.cps.size : Nat)) S := by
  show (if w.cps.size ≤ line then Res.ok (D.int w.cps.size) S else .bad) = _
  rw [if_pos h]
theorem slice_str {w : Str} {lo hi : Option Int} (h : w.cps.size ≤ line) : sliceD (.str w) lo hi S = .ok (.str (L2.cutS w lo hi)) S := by
  show (if w.cps.size ≤ line then Res.ok (D.str (L2.cutS w lo hi)) S else .bad) = _
  rw [if_pos h]
theorem cuts_to (w : Str) (k : Nat) (hk : k ≤ w.cps.size) : (L2.cutS w none (some (k : Int))).cps.toList = w.cps.toList.take k := by
  unfold L2.cutS
  rw [HT.sIx_none, HT.sIx_nat]
  have hl : w.length = w.cps.size := rfl
  rw [hl, Nat.min_eq_left hk]
  simp
theorem cuts_from (w : Str) (k : Nat) (hk : k ≤ w.cps.size) : (L2.cutS w (some (k : Int)) none).cps.toList = w.cps.toList.drop k := by
  unfold L2.cutS
  rw [HT.sIx_none, HT.sIx_nat]
  have hl : w.length = w.cps.size := rfl
  rw [hl, Nat.min_eq_left hk, List.take_of_length_le (by simp)]
theorem spelt_at {w : Str} (h : speltB w = true) : 0 < w.cps.size ∧ w.cps.size < 9 ∧ ∀ c ∈ w.cps.toList, letB c = true := by
  unfold speltB at h
  rw [Bool.and_eq_true, Bool.and_eq_true] at h
  exact ⟨of_decide_eq_true h.1.1, of_decide_eq_true h.1.2, List.all_eq_true.mp h.2⟩
theorem spelt_of {w : Str} (h0 : 0 < w.cps.size) (h9 : w.cps.size < 9) (h : ∀ c ∈ w.cps.toList, letB c = true) : speltB w = true := by
  unfold speltB
  rw [decide_eq_true h0, decide_eq_true h9, List.all_eq_true.mpr h]
  rfl
/-- one sign of a word is another one -/
theorem bend_ok {w : Str} {k c : Nat} (h : speltB w = true) (hk : k < w.cps.size) (hc : letB c = true) : speltB (L2.cutS w none (some (k : Int)) ++ ⟨#[c]⟩ ++ L2.cutS w (some ((k + 1 : Nat) : Int)) none) = true ∧ (L2.cutS w none (some (k : Int))).length = k ∧ (L2.cutS w (some ((k + 1 : Nat) : Int)) none).length = w.cps.size - (k + 1) := by
  obtain ⟨h0, h9, hl⟩ := spelt_at h
  have a := cuts_to w k (by omega)
  have b := cuts_from w (k + 1) (by omega)
  have la : (L2.cutS w none (some (k : Int))).cps.size = k := by
    rw [← Array.length_toList, a, List.length_take, Array.length_toList]
    omega
  have lb : (L2.cutS w (some ((k + 1 : Nat) : Int)) none).cps.size = w.cps.size - (k + 1) := by
    rw [← Array.length_toList, b, List.length_drop, Array.length_toList]
  have e : (L2.cutS w none (some (k : Int)) ++ ⟨#[c]⟩ ++ L2.cutS w (some ((k + 1 : Nat) : Int)) none).cps = (L2.cutS w none (some (k : Int))).cps ++ #[c] ++ (L2.cutS w (some ((k + 1 : Nat) : Int)) none).cps := rfl
  refine ⟨spelt_of ?_ ?_ ?_, la, lb⟩
  · rw [e]
    simp
    omega
  · rw [e]
    simp only [Array.size_append, la, lb]
    show k + 1 + (w.cps.size - (k + 1)) < 9
    omega
  · rw [e]
    intro x hx
    simp only [Array.toList_append, List.mem_append, a, b] at hx
    rcases hx with (hx | hx) | hx
    · exact hl x (List.mem_of_mem_take hx)
    · simp at hx
      subst hx
      exact hc
    · exact hl x (List.mem_of_mem_drop hx)
theorem one_spelt {c : Nat} (h : letB c = true) : speltB ⟨#[c]⟩ = true := spelt_of (show (0 : Nat) < 1 by decide) (show (1 : Nat) < 9 by decide) fun x hx => by
  simp at hx
  subst hx
  exact h
theorem inB_wds {w : Str} {m : Nat} {ws : List Str} (g : S.get m = some (.lst (wds ws))) : inB (.str w) (.ref m) S = some ((wds ws).any fun y => eqFl y (.str w)) := by
  have hf : (wds ws).all flatD = true := by
    rw [List.all_eq_true]
    intro x hx
    obtain ⟨z, _, rfl⟩ := List.mem_map.mp hx
    rfl
  unfold inB
  simp only [listOf_get g, hf]
  rfl
/-- a letter, if it is not among the words -/
def freeG (ws : List Str) (d : D) : Option D := if (wds ws).any (fun y => eqFl y d) = true then none else some d
theorem any_mem {ws : List Str} {w : Str} (h : (wds ws).any (fun y => eqFl y (.str w)) = true) : w ∈ ws := by
  obtain ⟨x, hx, e⟩ := List.any_eq_true.mp h
  obtain ⟨z, hz, rfl⟩ := List.mem_map.mp hx
  have e' : (z == w) = true := e
  rw [beq_iff_eq] at e'
  exact e' ▸ hz
theorem four_in {ws : List Str} (hl : ws.length ≤ 3) {a b c d : Str} (ha : a ∈ ws) (hb : b ∈ ws) (hc : c ∈ ws) (hd : d ∈ ws) (ab : a ≠ b) (ac : a ≠ c) (ad : a ≠ d) (bc : b ≠ c) (bd : b ≠ d) (cd : c ≠ d) : False := by
  match ws, hl with
  | [], _ => cases ha
  | [x], _ =>
    simp at ha hb
    exact ab (ha.trans hb.symm)
  | [x, y], _ =>
    simp only [List.mem_cons, List.not_mem_nil, or_false] at ha hb hc
    rcases ha with rfl | rfl <;> rcases hb with rfl | rfl <;> rcases hc with rfl | rfl <;> contradiction
  | [x, y, z], _ =>
    simp only [List.mem_cons, List.not_mem_nil, or_false] at ha hb hc hd
    rcases ha with rfl | rfl | rfl <;> rcases hb with rfl | rfl | rfl <;> rcases hc with rfl | rfl | rfl <;> rcases hd with rfl | rfl | rfl <;> contradiction
abbrev abc : Str := "abcdefghijklmnopqrstuvwxyz"
theorem abc_mem {c : Nat} (h1 : 97 ≤ c) (h2 : c ≤ 122) : D.str ⟨#[c]⟩ ∈ sgnL abc := by
  unfold sgnL
  rw [letters]
  exact List.mem_map.mpr ⟨c, List.mem_range'_1.mpr ⟨by omega, by omega⟩, rfl⟩
theorem abc_let {d : D} (h : d ∈ sgnL abc) : ∃ c, letB c = true ∧ d = .str ⟨#[c]⟩ := by
  unfold sgnL at h
  rw [letters] at h
  obtain ⟨c, hc, rfl⟩ := List.mem_map.mp h
  have := List.mem_range'_1.mp hc
  exact ⟨c, by unfold letB; rw [decide_eq_true (by omega), decide_eq_true (by omega)]; rfl, rfl⟩
theorem free_one {ws : List Str} (hl : ws.length ≤ 3) : ∃ c rest, (sgnL abc).filterMap (freeG ws) = .str ⟨#[c]⟩ :: rest ∧ letB c = true := by
  cases e : (sgnL abc).filterMap (freeG ws) with
  | nil =>
    have all : ∀ c, 97 ≤ c → c ≤ 122 → (⟨#[c]⟩ : Str) ∈ ws := fun c h1 h2 => by
      have hn : freeG ws (.str ⟨#[c]⟩) = none := by
        cases e2 : freeG ws (.str ⟨#[c]⟩) with
        | none => rfl
        | some d =>
          have : d ∈ (sgnL abc).filterMap (freeG ws) := List.mem_filterMap.mpr ⟨_, abc_mem h1 h2, e2⟩
          rw [e] at this
          cases this
      unfold freeG at hn
      split at hn
      · rename_i h
        exact any_mem h
      · cases hn
    exact (four_in hl (all 97 (by omega) (by omega)) (all 98 (by omega) (by omega)) (all 99 (by omega) (by omega)) (all 100 (by omega) (by omega)) (by decide) (by decide) (by decide) (by decide) (by decide) (by decide)).elim
  | cons x rest =>
    have : x ∈ (sgnL abc).filterMap (freeG ws) := by
      rw [e]
      exact List.mem_cons_self
    obtain ⟨d, hd, h⟩ := List.mem_filterMap.mp this
    unfold freeG at h
    split at h
    · cases h
    · cases h
      obtain ⟨c, hc, rfl⟩ := abc_let hd
      exact ⟨c, rest, rfl, hc⟩
/-- where the making of words stands -/
def WdI (S : Hs) (p : Nat) (z : Int) (fd : Nat) (base : Str) (near : Bool) (spot : Nat) (c0 : Int) (i : Nat) (e : EnvD) (s : Hs) : Prop := ∃ (ws : List Str) (o2 o7 : Option D), e = [some (.ref p), some (.int z), o2, some (.str base), some (.bl near), some (.int (spot : Int)), some (.ref fd), o7, none] ∧ s.get fd = some (.lst (wds ws)) ∧ ws.length = i ∧ (∀ w ∈ ws, speltB w = true) ∧ Fr (· = p) S s ∧ Pu s p (c0 + 60 * (i : Int))
def wdEnd : SM := mSeq (mIfS (mOp2 inD (mV 7) (mV 6)) (mSet 7 (mOp2 ixD (mLc (mIter (mCall listSF (mCons (mC (.str "abcdefghijklmnopqrstuvwxyz")) (mNil)))) (bName 8) (mOp2 notinD (mV 8) (mV 6)) (mV 8) [8]) (mC (.int 0)))) (mNx)) (mExp (mMeth "list" appendG (mV 6) (mCons (mV 7) (mNil))))
def wdRest : SM := mSeq (mIfS (mNot (mV 4)) (mSet 7 (mOwn (pur F__law_word) [] (mCons (mV 0) (mNil)))) (mNx)) wdEnd
def wdBody : SM := mSeq (mSet 7 (mOp2 addD (mOp2 addD (mSlice (mV 3) mNoPart (mPart (mV 5))) (mOp2 ixD (mC (.str "abcdefghijklmnopqrstuvwxyz")) (mOwn (pur F__law_draw) [] (mCons (mV 0) (mCons (mC (.int 26)) (mNil)))))) (mSlice (mV 3) (mPart (mOp2 addD (mV 5) (mC (.int 1)))) mNoPart))) wdRest
theorem wd_eq : FB__law_words = mSeq (mPar 3 4 (mCons (mOwn (pur F__law_word) [] (mCons (mV 0) (mNil))) (mCons (mOp2 eqD (mOwn (pur F__law_draw) [] (mCons (mV 0) (mCons (mC (.int 3)) (mNil)))) (mC (.int 0))) (mNil)))) (mSeq (mAsg (bTup [5, 6]) (mTup (mCons (mOwn (pur F__law_draw) [] (mCons (mV 0) (mCons (mCall lenF (mCons (mV 3) (mNil))) (mNil)))) (mCons (mLst (mNil)) (mNil))))) (mSeq (mFor (mRange1 (mCons (mV 1) (mNil))) (bName 2) wdBody) (mRet (mV 6)))) := rfl
/-- the last half of a turn -/
theorem wd_end {z : Int} {fd i spot : Nat} {base w : Str} {near : Bool} {ws : List Str} {o2 : Option D} (hw : speltB w = true) (g : s.get fd = some (.lst (wds ws))) (hl : ws.length = i) (hi : i ≤ 3) (hs : ∀ w ∈ ws, speltB w = true) (fr : Fr (· = p) S s) (hfd : fd ≠ p) (hn : S.n ≤ fd) (P : Pu s p (c0 + 60 * ((i + 1 : Nat) : Int))) :
    Wp (WdI S p z fd base near spot c0 (i + 1)) (fun _ _ => False) (wdEnd [some (.ref p), some (.int z), o2, some (.str base), some (.bl near), some (.int (spot : Int)), some (.ref fd), some (.str w), none] s) := by
  have ln : line = 16777216 := rfl
  have hi2 : inD (.str w) (.ref fd) s = .ok (.bl ((wds ws).any fun y => eqFl y (.str w))) s := by
    unfold inD
    rw [inB_wds g]
  have fin : ∀ (s' : Hs) (w' : Str), Fr No s s' → speltB w' = true → Wp (WdI S p z fd base near spot c0 (i + 1)) (fun _ _ => False) (mExp (mMeth "list" appendG (mV 6) (mCons (mV 7) (mNil))) [some (.ref p), some (.int z), o2, some (.str base), some (.bl near), some (.int (spot : Int)), some (.ref fd), some (.str w'), none] s') := fun s' w' f hw' => by
    have g' := f.at_ _ _ id g
    simp [tyD_lst g', app_lst g' (show (wds ws).length < line by simp [wds]; omega)]
    refine ⟨ws ++ [w'], o2, _, rfl, ?_, by simp [hl], fun v hv => ?_, (fr.trans f.any).put_new g' hn, K57D.Pu.put (P.fr f id) g' hfd⟩
    · rw [Hs.get_put g']
      simp [wds]
    · rcases List.mem_append.mp hv with hv | hv
      · exact hs v hv
      · cases List.mem_singleton.mp hv
        exact hw'
  unfold wdEnd
  rw [Wp_seq, Wp_if]
  cases hb : (wds ws).any fun y => eqFl y (.str w) with
  | false =>
    rw [hb] at hi2
    simpa [hi2] using fin s w Fr.refl hw
  | true =>
    rw [hb] at hi2
    simp [hi2]
    refine o_lcf (sgnL abc) (freeG ws) ?_
    have e1 : mIter (mCall listSF (mCons (mC (.str "abcdefghijklmnopqrstuvwxyz")) (mNil))) [some (.ref p), some (.int z), o2, some (.str base), some (.bl near), some (.int (spot : Int)), some (.ref fd), some (.str w), none] s = .ok (.lst s.n) (s.new (.lst (sgnL abc))) := by
      unfold mIter
      have e2 : mCall listSF (mCons (mC (.str "abcdefghijklmnopqrstuvwxyz")) (mNil)) [some (.ref p), some (.int z), o2, some (.str base), some (.bl near), some (.int (spot : Int)), some (.ref fd), some (.str w), none] s = .ok (.ref s.n) (s.new (.lst (sgnL abc))) := by
        show listSF [.str abc] s = _
        unfold listSF
        simp only []
        rw [if_pos (by decide +kernel)]
        rfl
      rw [e2]
      show (match MR.listOf (s.new (.lst (sgnL abc))) s.n with
        | some _ => Res.ok (DI.lst s.n) (s.new (.lst (sgnL abc)))
        | none => .bad) = _
      rw [listOf_get (Hs.get_new _ _)]
    rw [e1]
    refine ⟨itm_lst (Hs.get_new _ _) id, by decide +kernel, fun d hd => ⟨[(8, d)], rfl, fun s2 f2 => ?_⟩, fun s2 f2 g2 => ?_⟩
    · obtain ⟨c, hc, rfl⟩ := abc_let hd
      have g3 := f2.at_ _ _ id (Hs.get_old (c' := .lst (sgnL abc)) g)
      have e3 : notinD (.str ⟨#[c]⟩) (.ref fd) s2 = .ok (.bl (!((wds ws).any fun y => eqFl y (.str ⟨#[c]⟩)))) s2 := by
        unfold notinD
        rw [inB_wds g3]
      refine ⟨?_, fun y hy => ?_⟩
      · show mOp2 notinD (mV 8) (mV 6) [some (.ref p), some (.int z), o2, some (.str base), some (.bl near), some (.int (spot : Int)), some (.ref fd), some (.str w), some (.str ⟨#[c]⟩)] s2 = _
        rw [K57D.op2 (x := .str ⟨#[c]⟩) (y := .ref fd) (S1 := s2) (S2 := s2) rfl rfl, e3]
        unfold freeG
        cases (wds ws).any fun y => eqFl y (.str ⟨#[c]⟩) <;> rfl
      · unfold freeG at hy
        split at hy
        · cases hy
        · cases hy
          rfl
    · obtain ⟨c, rest, e4, hc⟩ := free_one (ws := ws) (by omega)
      rw [e4] at g2
      have f3 : Fr No s s2 := Fr.trans Fr.new f2
      have e5 : ixD (.ref (s.new (.lst (sgnL abc))).n) (.int 0) s2 = .ok (.str ⟨#[c]⟩) s2 := ix_lst (i := 0) g2 rfl
      rw [e5]
      simpa using fin s2 ⟨#[c]⟩ f3 (one_spelt hc)
theorem words_ok {m : Nat} {z : Int} (hz : z = (m : Int)) (P : Pu S p c0) (hc : c0 < 700000) (h1 : 1 ≤ m) (h4 : m ≤ 4) : Ok (fun x s => ∃ w ws, x = .ref w ∧ s.get w = some (.lst (wds ws)) ∧ S.n ≤ w ∧ ws.length = m ∧ (∀ v ∈ ws, speltB v = true) ∧ Fr (· = p) S s ∧ Pu s p (c0 + 300)) (pur F__law_words [.ref p, .int z] S) := by
  rw [pur_raw (by rfl)]
  refine o_run rfl ?_
  show Wp _ _ (FB__law_words [some (.ref p), some (.int z), none, none, none, none, none, none, none] S)
  rw [wd_eq]
  simp
  refine (word_ok P (by omega)).mono fun x s1 ⟨base, hx, hb, fr1, P1⟩ => ?_
  subst hx
  refine (draw_w (m := 3) P1 (by omega) (by decide) (by decide)).mono fun x s2 ⟨r2, hx, hr2, fr2, hn2, P2⟩ => ?_
  subst hx
  obtain ⟨hb0, hb9, hbl⟩ := spelt_at hb
  have hfit := fit_spelt hb
  simp [eq_int, len_str hfit.2]
  refine (draw_w (m := base.cps.size) P2 (by omega) hb0 (by omega)).mono fun x s3 ⟨spot, hx, hr3, fr3, hn3, P3⟩ => ?_
  subst hx
  simp [bTup, apD, show (2 : Nat) ≤ line by decide]
  have hS3 : S.n ≤ s3.n := (fr1.trans (fr2.trans fr3)).n
  have hp3 := P3.lt
  refine w_for (rngL 0 m) (fun _ => WdI S p z s3.n base (decide (r2 = 0)) spot (c0 + 44 + 4 + 4)) ?_
  have er : mRange1 (mCons (mV 1) mNil) [some (.ref p), some (.int z), none, some (.str base), some (.bl (decide (r2 = 0))), some (.int (spot : Int)), some (.ref s3.n), none, none] (s3.new (.lst [])) = .ok (.rng 0 m) (s3.new (.lst [])) := by
    show (if -(2 ^ 62) ≤ z ∧ z < 2 ^ 62 then Res.ok (DI.rng 0 z.toNat) (s3.new (.lst [])) else .bad) = _
    rw [if_pos ⟨by omega, by omega⟩, hz, Int.toNat_natCast]
  rw [er]
  refine ⟨(itm_rng (q := No)).size, ⟨[], none, none, rfl, Hs.get_new _ _, rfl, fun w hw => (by cases hw), (fr1.trans (fr2.trans fr3)).trans Fr.new, (P3.fr (Fr.new (q := No)) id).le (by omega)⟩, fun i e s d I hd => ?_, fun e s I => ?_⟩
  · have hi : i < m := by
      have := (List.getElem?_eq_some_iff.mp hd).1
      rwa [rngL_len] at this
    refine ⟨((itm_rng (q := No) (S := s)).next i s Fr.refl).trans (congrArg some hd), [(2, d)], rfl, ?_⟩
    obtain ⟨ws, o2, o7, rfl, g, hl, hs, fr, PI⟩ := I
    unfold wdBody
    rw [Wp_seq, Wp_set]
    simp [slice_str hfit.2]
    refine (draw_w (m := 26) PI (by omega) (by decide) (by decide)).mono fun x s4 ⟨r4, hx, hr4, fr4, hn4, P4⟩ => ?_
    subst hx
    rw [abc_at hr4]
    have hlet := let_at hr4
    obtain ⟨hw, l1, l2⟩ := bend_ok hb hr3 hlet
    have hln : line = 16777216 := rfl
    have a1 : ∀ s, addD (.str (L2.cutS base none (some (spot : Int)))) (.str ⟨#[97 + r4]⟩) s = .ok (.str (L2.cutS base none (some (spot : Int)) ++ ⟨#[97 + r4]⟩)) s := fun s => by
      show (if (L2.cutS base none (some (spot : Int))).length + 1 ≤ line then Res.ok (D.str (L2.cutS base none (some (spot : Int)) ++ ⟨#[97 + r4]⟩)) s else .bad) = _
      rw [if_pos (by rw [l1]; omega)]
    have a2 : ∀ s, addD (.int (spot : Int)) (.int 1) s = .ok (.int ((spot + 1 : Nat) : Int)) s := fun s => rfl
    have a3 : ∀ s, addD (.str (L2.cutS base none (some (spot : Int)) ++ ⟨#[97 + r4]⟩)) (.str (L2.cutS base (some ((spot + 1 : Nat) : Int)) none)) s = .ok (.str (L2.cutS base none (some (spot : Int)) ++ ⟨#[97 + r4]⟩ ++ L2.cutS base (some ((spot + 1 : Nat) : Int)) none)) s := fun s => by
      have l3 : (L2.cutS base none (some (spot : Int)) ++ ⟨#[97 + r4]⟩ : Str).length = (L2.cutS base none (some (spot : Int))).length + 1 := by
        show ((L2.cutS base none (some (spot : Int))).cps ++ #[97 + r4]).size = _
        rw [Array.size_append]
        rfl
      show (if (L2.cutS base none (some (spot : Int)) ++ ⟨#[97 + r4]⟩ : Str).length + (L2.cutS base (some ((spot + 1 : Nat) : Int)) none).length ≤ line then Res.ok (D.str _) s else .bad) = _
      rw [if_pos (by rw [l3, l1, l2]; omega)]
    simp only [Ok_ok, a1, a2, In_int, slice_str hfit.2, a3]
    have g4 := fr4.at_ _ _ (show ¬ s3.n = p by omega) g
    unfold wdRest
    rw [Wp_seq, Wp_if]
    simp only [o_not, o_v, List.getElem?_cons_zero, List.getElem?_cons_succ, noX_bl, true_and, Bl_bl, List.set_cons_succ, List.set_cons_zero]
    cases hnear : decide (r2 = 0) with
    | true =>
      simp only [Bool.not_true, Bool.false_eq_true, if_false, Wp_mNx]
      exact (wd_end hw g4 hl (by omega) hs (fr.trans fr4) (by omega) hS3 (P4.le (by omega))).mono (fun _ _ z => z) fun _ _ z => z.elim
    | false =>
      simp only [Bool.not_false, if_true, Wp_set, o_own, o_cons, o_nil, o_v, List.getElem?_cons_zero, noX_ref, true_and, List.append_nil]
      refine (word_ok P4 (by omega)).mono fun x s5 ⟨w5, hx, hw5, fr5, P5⟩ => ?_
      subst hx
      simp only [List.set_cons_succ, List.set_cons_zero]
      exact (wd_end hw5 (fr5.at_ _ _ (show ¬ s3.n = p by omega) g4) hl (by omega) hs ((fr.trans fr4).trans fr5) (by omega) hS3 (P5.le (by omega))).mono (fun _ _ z => z) fun _ _ z => z.elim
  · obtain ⟨ws, o2, o7, rfl, g, hl, hs, fr, PI⟩ := I
    refine ⟨((itm_rng (q := No) (S := s)).next _ s Fr.refl).trans (by rw [List.getElem?_eq_none (Nat.le_refl _)]), ?_⟩
    rw [rngL_len] at hl PI
    simp
    exact ⟨ws, g, hS3, hl, hs, fr, PI.le (by omega)⟩
end
end K57

/-! PP8: expressions as trees; what is put in; no program in sight. -/
namespace K57
open PySem MR
inductive T where
  | w (s : Str)
  | pl
  | ag (t : T)
  | row (ts : List T)
mutual
def T.ind1 {P : T → Prop} (w : ∀ s, P (.w s)) (pl : P .pl) (ag : ∀ t, P t → P (.ag t)) (row : ∀ ts, (∀ t ∈ ts, P t) → P (.row ts)) : ∀ t : T, P t
  | .w s => w s
  | .pl => pl
  | .ag t => ag t (T.ind1 w pl ag row t)
  | .row ts => row ts (T.inds w pl ag row ts)
def T.inds {P : T → Prop} (w : ∀ s, P (.w s)) (pl : P .pl) (ag : ∀ t, P t → P (.ag t)) (row : ∀ ts, (∀ t ∈ ts, P t) → P (.row ts)) : ∀ ts : List T, ∀ t ∈ ts, P t
  | [], _, h => nomatch h
  | t :: ts, x, h => (List.mem_cons.mp h).elim (fun e => e ▸ T.ind1 w pl ag row t) (T.inds w pl ag row ts x)
end
theorem T.ind {P : T → Prop} (w : ∀ s, P (.w s)) (pl : P .pl) (ag : ∀ t, P t → P (.ag t)) (row : ∀ ts, (∀ t ∈ ts, P t) → P (.row ts)) (t : T) : P t := T.ind1 w pl ag row t
mutual
/-- as data -/
def T.p : T → PyData
  | .w s => .str s
  | .pl => .tuple [.str "place"]
  | .ag t => .tuple [.str "again", t.p]
  | .row ts => .tuple [.str "row", .list (T.ps ts)]
def T.ps : List T → List PyData
  | [] => []
  | t :: ts => t.p :: T.ps ts
end
theorem ps_map : ∀ ts : List T, T.ps ts = ts.map T.p
  | [] => rfl
  | t :: ts => by rw [T.ps, ps_map ts]; rfl
theorem p_row (ts : List T) : (T.row ts).p = .tuple [.str "row", .list (ts.map T.p)] := by rw [T.p, ps_map]
mutual
/-- how deep -/
def T.dp : T → Nat
  | .w _ => 0
  | .pl => 1
  | .ag t => t.dp + 1
  | .row ts => T.dps ts + 2
def T.dps : List T → Nat
  | [] => 0
  | t :: ts => max t.dp (T.dps ts)
end
theorem dps_ge : ∀ {ts : List T} {t : T}, t ∈ ts → t.dp ≤ T.dps ts
  | u :: ts, t, h => by
    rw [T.dps]
    rcases List.mem_cons.mp h with e | e
    · rw [e]; exact Nat.le_max_left _ _
    · exact Nat.le_trans (dps_ge e) (Nat.le_max_right _ _)
theorem dps_le {m : Nat} : ∀ {ts : List T}, (∀ t ∈ ts, t.dp ≤ m) → T.dps ts ≤ m
  | [], _ => Nat.zero_le _
  | t :: ts, h => Nat.max_le.mpr ⟨h t List.mem_cons_self, dps_le fun x hx => h x (List.mem_cons_of_mem _ hx)⟩
mutual
/-- the words in it -/
def T.lv : T → List Str
  | .w s => [s]
  | .pl => []
  | .ag t => t.lv
  | .row ts => T.lvs ts
def T.lvs : List T → List Str
  | [] => []
  | t :: ts => t.lv ++ T.lvs ts
end
theorem mem_lvs {x : Str} : ∀ {ts : List T}, x ∈ T.lvs ts ↔ ∃ t ∈ ts, x ∈ t.lv
  | [] => by simp [T.lvs]
  | t :: ts => by
    rw [T.lvs, List.mem_append, mem_lvs (ts := ts)]
    simp
mutual
/-- how it is nested -/
def T.ns : T → Int
  | .w _ => 0
  | .pl => 0
  | .ag t => 1 + t.ns
  | .row ts => topI 0 (T.nss ts)
def T.nss : List T → List Int
  | [] => []
  | t :: ts => t.ns :: T.nss ts
end
theorem nss_map : ∀ ts : List T, T.nss ts = ts.map T.ns
  | [] => rfl
  | t :: ts => by rw [T.nss, nss_map ts]; rfl
theorem ns_nn : ∀ t : T, 0 ≤ t.ns := T.ind (fun _ => Int.le_refl _) (Int.le_refl _) (fun t h => by rw [T.ns]; omega) fun ts h => by rw [T.ns]; exact (topI_ge 0 _).1
theorem topI0 {y : Int} {ys : List Int} (h : 0 ≤ y) : topI 0 (y :: ys) = topI y ys := by
  rw [topI]
  by_cases e : y > 0
  · rw [if_pos e]
  · rw [if_neg e]
    have : y = 0 := by omega
    rw [this]
mutual
/-- a place in it -/
def T.hp : T → Bool
  | .w _ => false
  | .pl => true
  | .ag t => t.hp
  | .row ts => T.hps ts
def T.hps : List T → Bool
  | [] => false
  | t :: ts => t.hp || T.hps ts
end
theorem hps_any : ∀ ts : List T, T.hps ts = ts.any T.hp
  | [] => rfl
  | t :: ts => by rw [T.hps, hps_any ts]; rfl
mutual
/-- its words are spelt -/
def T.ok : T → Bool
  | .w s => speltB s
  | .pl => true
  | .ag t => t.ok
  | .row ts => T.oks ts
def T.oks : List T → Bool
  | [] => true
  | t :: ts => t.ok && T.oks ts
end
theorem oks_all : ∀ ts : List T, T.oks ts = ts.all T.ok
  | [] => rfl
  | t :: ts => by rw [T.oks, oks_all ts]; rfl
theorem ok_row {ts : List T} (h : (T.row ts).ok = true) {t : T} (ht : t ∈ ts) : t.ok = true := by
  rw [T.ok, oks_all] at h
  exact List.all_eq_true.mp h t ht
theorem ok_lv : ∀ t : T, t.ok = true → ∀ x ∈ t.lv, speltB x = true := T.ind (fun s h x hx => by cases List.mem_singleton.mp hx; exact h) (fun _ x hx => nomatch hx) (fun t ih h => ih h) fun ts ih h x hx => by
  rw [T.lv] at hx
  obtain ⟨t, ht, hx⟩ := mem_lvs.mp hx
  exact ih t ht (ok_row h ht) x hx
mutual
/-- how large -/
def T.sz : T → Nat
  | .w _ => 1
  | .pl => 1
  | .ag t => t.sz
  | .row ts => max 1 (T.szs ts)
def T.szs : List T → Nat
  | [] => 0
  | t :: ts => t.sz + T.szs ts
end
theorem sz_pos : ∀ t : T, 0 < t.sz := T.ind (fun _ => Nat.one_pos) Nat.one_pos (fun t h => h) fun ts _ => Nat.le_max_left _ _
theorem szs_len : ∀ ts : List T, ts.length ≤ T.szs ts
  | [] => Nat.le_refl _
  | t :: ts => by
    have := sz_pos t
    have := szs_len ts
    rw [T.szs, List.length_cons]
    omega
theorem szs_ge : ∀ {ts : List T} {t : T}, t ∈ ts → t.sz ≤ T.szs ts
  | u :: ts, t, h => by
    rw [T.szs]
    rcases List.mem_cons.mp h with e | e
    · rw [e]; omega
    · have := szs_ge e
      omega
theorem sz_row (ts : List T) : ts.length ≤ (T.row ts).sz ∧ (∀ t ∈ ts, t.sz ≤ (T.row ts).sz) ∧ T.szs ts ≤ (T.row ts).sz := by
  rw [T.sz]
  have h := Nat.le_max_right 1 (T.szs ts)
  exact ⟨Nat.le_trans (szs_len ts) h, fun t ht => Nat.le_trans (szs_ge ht) h, h⟩
mutual
theorem lv_le : ∀ t : T, t.lv.length ≤ t.sz
  | .w _ => Nat.le_refl _
  | .pl => Nat.zero_le _
  | .ag t => lv_le t
  | .row ts => by
    have h := lvs_le ts
    rw [T.lv, T.sz]
    omega
theorem lvs_le : ∀ ts : List T, (T.lvs ts).length ≤ T.szs ts
  | [] => Nat.le_refl _
  | t :: ts => by
    have h1 := lv_le t
    have h2 := lvs_le ts
    rw [T.lvs, T.szs, List.length_append]
    omega
end
mutual
/-- the lists in it -/
def T.cl : T → Nat
  | .w _ => 0
  | .pl => 0
  | .ag t => t.cl
  | .row ts => T.cls ts + 1
def T.cls : List T → Nat
  | [] => 0
  | t :: ts => t.cl + T.cls ts
end
theorem cls_take : ∀ {ts : List T} {i : Nat} {t : T}, ts[i]? = some t → T.cls (ts.take (i + 1)) = T.cls (ts.take i) + t.cl
  | u :: ts, 0, t, h => by
    cases h
    simp [T.cls]
  | u :: ts, i + 1, t, h => by
    have := cls_take (ts := ts) (i := i) (t := t) h
    rw [List.take_succ_cons, T.cls, this, List.take_succ_cons, T.cls]
    omega
theorem cls_le : ∀ {ts : List T} {i : Nat} {t : T}, ts[i]? = some t → T.cls (ts.take i) + t.cl ≤ T.cls ts
  | u :: ts, 0, t, h => by
    cases h
    simp [T.cls]
  | u :: ts, i + 1, t, h => by
    have := cls_le (ts := ts) (i := i) (t := t) h
    rw [List.take_succ_cons, T.cls, T.cls]
    omega
mutual
/-- e put into every place -/
def T.put : T → T → T
  | .w s, _ => .w s
  | .pl, e => e
  | .ag t, e => .ag (t.put e)
  | .row ts, e => .row (T.puts ts e)
def T.puts : List T → T → List T
  | [], _ => []
  | t :: ts, e => t.put e :: T.puts ts e
end
theorem puts_map (e : T) : ∀ ts : List T, T.puts ts e = ts.map fun t => t.put e
  | [] => rfl
  | t :: ts => by rw [T.puts, puts_map e ts]; rfl
theorem put_put (i e : T) : ∀ f : T, (f.put i).put e = f.put (i.put e) := T.ind (fun _ => rfl) rfl (fun t h => by rw [T.put, T.put, T.put, h]) fun ts h => by
  rw [T.put, T.put, T.put, puts_map, puts_map, puts_map, List.map_map]
  congr 1
  exact List.map_congr_left fun t ht => h t ht
theorem put_ok {e : T} (he : e.ok = true) : ∀ f : T, f.ok = true → (f.put e).ok = true := T.ind (fun _ h => h) (fun _ => he) (fun t ih h => ih h) fun ts ih h => by
  rw [T.put, T.ok, puts_map, oks_all, List.all_map]
  exact List.all_eq_true.mpr fun t ht => ih t ht (ok_row h ht)
theorem put_hp (e : T) : ∀ f : T, (f.put e).hp = (f.hp && e.hp) := T.ind (fun _ => rfl) rfl (fun t ih => ih) fun ts ih => by
  rw [T.put, T.hp, T.hp, puts_map, hps_any, hps_any, List.any_map]
  induction ts with
  | nil => rfl
  | cons t ts ih2 =>
    rw [List.any_cons, List.any_cons, ih2 fun x hx => ih x (List.mem_cons_of_mem _ hx)]
    show ((t.put e).hp || _) = _
    rw [ih t List.mem_cons_self, Bool.and_or_distrib_right]
theorem put_dp (e : T) : ∀ f : T, (f.put e).dp ≤ f.dp + e.dp := T.ind (fun _ => Nat.zero_le _) (Nat.le_add_left _ _) (fun t h => by rw [T.put, T.dp, T.dp]; omega) fun ts h => by
  rw [T.put, T.dp, T.dp, puts_map]
  have : T.dps (ts.map fun t => t.put e) ≤ T.dps ts + e.dp := dps_le fun x hx => by
    obtain ⟨t, ht, rfl⟩ := List.mem_map.mp hx
    exact Nat.le_trans (h t ht) (Nat.add_le_add_right (dps_ge ht) _)
  omega
mutual
theorem put_sz (e : T) : ∀ f : T, (f.put e).sz ≤ f.sz * e.sz
  | .w _ => by
    have := sz_pos e
    rw [T.put, T.sz, Nat.one_mul]
    exact this
  | .pl => by
    rw [T.put, T.sz, Nat.one_mul]
    exact Nat.le_refl _
  | .ag t => put_sz e t
  | .row ts => by
    have h := puts_sz e ts
    have h0 := sz_pos e
    rw [T.put, T.sz, T.sz]
    have h1 : T.szs ts * e.sz ≤ max 1 (T.szs ts) * e.sz := Nat.mul_le_mul_right _ (Nat.le_max_right _ _)
    have h2 : 1 * e.sz ≤ max 1 (T.szs ts) * e.sz := Nat.mul_le_mul_right _ (Nat.le_max_left _ _)
    refine Nat.max_le.mpr ⟨?_, ?_⟩ <;> omega
theorem puts_sz (e : T) : ∀ ts : List T, T.szs (T.puts ts e) ≤ T.szs ts * e.sz
  | [] => Nat.zero_le _
  | t :: ts => by
    have h1 := put_sz e t
    have h2 := puts_sz e ts
    rw [T.puts, T.szs, T.szs, Nat.add_mul]
    omega
end
/-- the words of a whole that has a place -/
theorem put_mem (e : T) (x : Str) : ∀ f : T, x ∈ (f.put e).lv ↔ x ∈ f.lv ∨ (f.hp = true ∧ x ∈ e.lv) := T.ind (fun s => by simp [T.put, T.hp, T.lv]) (by simp [T.put, T.hp, T.lv]) (fun t h => h) fun ts h => by
  rw [T.put, T.lv, T.lv, T.hp, puts_map, hps_any, mem_lvs, mem_lvs]
  constructor
  · rintro ⟨u, hu, hx⟩
    obtain ⟨t, ht, rfl⟩ := List.mem_map.mp hu
    rcases (h t ht).mp hx with a | ⟨a, b⟩
    · exact .inl ⟨t, ht, a⟩
    · exact .inr ⟨List.any_eq_true.mpr ⟨t, ht, a⟩, b⟩
  · rintro (⟨t, ht, hx⟩ | ⟨a, b⟩)
    · exact ⟨_, List.mem_map_of_mem ht, (h t ht).mpr (.inl hx)⟩
    · obtain ⟨t, ht, ha⟩ := List.any_eq_true.mp a
      exact ⟨_, List.mem_map_of_mem ht, (h t ht).mpr (.inr ⟨ha, b⟩)⟩
/-! ### the texts in order, each once -/
def canon (ks : List Str) : List Str := sortTx (addTs [] ks)
end K57

/-! PP9: the texts in order, each once; what is written as an expression. -/
namespace K57
open PySem MR
theorem mem_addT {ks : List Str} {x y : Str} : y ∈ addT ks x ↔ y ∈ ks ∨ y = x := by
  unfold addT
  by_cases h : x ∈ ks
  · rw [if_pos h]
    exact ⟨.inl, fun z => z.elim id fun e => e ▸ h⟩
  · rw [if_neg h, List.mem_append, List.mem_singleton]
theorem nd_addT {ks : List Str} {x : Str} (h : ks.Nodup) : (addT ks x).Nodup := by
  unfold addT
  by_cases e : x ∈ ks
  · rw [if_pos e]; exact h
  · rw [if_neg e]
    exact List.nodup_append.mpr ⟨h, by simp, fun a ha b hb => by
      rw [List.mem_singleton.mp hb]
      exact fun z => e (z ▸ ha)⟩
theorem mem_addTs {y : Str} : ∀ {xs ks : List Str}, y ∈ addTs ks xs ↔ y ∈ ks ∨ y ∈ xs
  | [], ks => by simp [addTs]
  | x :: xs, ks => by
    show y ∈ addTs (addT ks x) xs ↔ _
    rw [mem_addTs, mem_addT, List.mem_cons]
    exact or_assoc
theorem nd_addTs : ∀ {xs ks : List Str}, ks.Nodup → (addTs ks xs).Nodup
  | [], ks, h => h
  | x :: xs, ks, h => nd_addTs (xs := xs) (nd_addT h)
theorem perm_of {a b : List Str} (ha : a.Nodup) (hb : b.Nodup) (h : ∀ x, x ∈ a ↔ x ∈ b) : a.Perm b := (List.perm_ext_iff_of_nodup ha hb).mpr h
theorem sort_perm {a b : List Str} (h : a.Perm b) : sortTx a = sortTx b := by
  rw [sortTx_is, sortTx_is]
  refine List.Perm.eq_of_pairwise (fun x y _ _ h1 h2 => leTx_anti h1 h2) (List.pairwise_mergeSort (le := leTx) (fun _ _ _ => leTx_trans) leTx_total a) (List.pairwise_mergeSort (le := leTx) (fun _ _ _ => leTx_trans) leTx_total b) ?_
  exact ((List.mergeSort_perm a leTx).trans h).trans (List.mergeSort_perm b leTx).symm
theorem canon_of {a ks : List Str} (hk : ks.Nodup) (h : ∀ x, x ∈ ks ↔ x ∈ a) : sortTx ks = canon a := sort_perm (perm_of hk (nd_addTs (ks := []) List.nodup_nil) fun x => by rw [h x, mem_addTs]; simp)
theorem canon_mem {a : List Str} {x : Str} : x ∈ canon a ↔ x ∈ a := by
  unfold canon
  rw [sortTx_is, List.mem_mergeSort, mem_addTs]
  simp
theorem canon_eq {a b : List Str} (h : ∀ x, x ∈ a ↔ x ∈ b) : canon a = canon b := canon_of (nd_addTs (ks := []) List.nodup_nil) fun x => by
  rw [mem_addTs, ← h x]
  simp
theorem canon_len (a : List Str) : (canon a).length ≤ a.length := by
  unfold canon
  rw [sortTx_is, (List.mergeSort_perm _ _).length_eq]
  have := addTs_len [] a
  simpa using this
theorem canon_one (s : Str) : canon [s] = [s] := rfl
/-! ### what is written as an expression -/
def placeB (p : PyData) : Bool := tyOf p == "tuple" && PyData.eqv p (.tuple [.str "place"])
def listAll (f : PyData → Bool) : PyData → Bool
  | .list ps => ps.all f
  | _ => false
def bodyW (f : PyData → Bool) : PyData → Bool
  | .tuple [.str s, v] => if s = "again" then f v else decide (s = "row") && listAll f v
  | _ => false
def isWd : Nat → Bool → PyData → Bool
  | 0, _, _ => false
  | k + 1, pl, p => speltP p || ((pl && placeB p) || bodyW (isWd k pl) p)
theorem isWd_succ (k : Nat) (pl : Bool) (p : PyData) : isWd (k + 1) pl p = (speltP p || ((pl && placeB p) || bodyW (isWd k pl) p)) := rfl
theorem isWd_row {k : Nat} {pl : Bool} {ps : List PyData} : isWd (k + 1) pl (.tuple [.str "row", .list ps]) = ps.all fun x => isWd k pl x := by
  rw [isWd_succ]
  have e : placeB (.tuple [.str "row", .list ps]) = false := by
    unfold placeB
    simp [PyData.eqv, PyData.eqvAll]
  rw [e, Bool.and_false]
  rfl
theorem isWd_ag {k : Nat} {pl : Bool} {p : PyData} : isWd (k + 1) pl (.tuple [.str "again", p]) = isWd k pl p := by
  rw [isWd_succ]
  have e : placeB (.tuple [.str "again", p]) = false := by
    unfold placeB
    simp [PyData.eqv, PyData.eqvAll]
  rw [e, Bool.and_false]
  rfl
theorem place_yes : placeB (.tuple [.str "place"]) = true := by decide +kernel
theorem isWd_pl {k : Nat} {pl : Bool} : isWd (k + 1) pl (.tuple [.str "place"]) = pl := by
  rw [isWd, place_yes]
  cases pl <;> rfl
theorem isWd_w {k : Nat} {pl : Bool} {s : Str} (h : speltB s = true) : isWd (k + 1) pl (.str s) = true := by
  rw [isWd_succ]
  show (speltB s || _) = true
  rw [h]
  rfl
theorem isWd_t (pl : Bool) : ∀ t : T, t.ok = true → ∀ k, t.dp < k → isWd k pl t.p = (pl || !t.hp) := T.ind (fun s h k hk => by
    obtain ⟨j, rfl⟩ : ∃ j, k = j + 1 := ⟨k - 1, by omega⟩
    rw [T.p, isWd_w h]
    simp [T.hp]) (fun _ k hk => by
    obtain ⟨j, rfl⟩ : ∃ j, k = j + 1 := ⟨k - 1, by omega⟩
    rw [T.p, isWd_pl]
    simp [T.hp]) (fun t ih h k hk => by
    obtain ⟨j, rfl⟩ : ∃ j, k = j + 1 := ⟨k - 1, by omega⟩
    rw [T.dp] at hk
    rw [T.p, isWd_ag, T.hp]
    exact ih h j (by omega)) fun ts ih h k hk => by
    obtain ⟨j, rfl⟩ : ∃ j, k = j + 1 := ⟨k - 1, by omega⟩
    rw [T.dp] at hk
    rw [p_row, isWd_row, T.hp, hps_any, List.all_map]
    have each : ∀ t ∈ ts, isWd j pl t.p = (pl || !t.hp) := fun t ht => ih t ht (ok_row h ht) j (by have := dps_ge ht; omega)
    have e : (ts.all ((fun x => isWd j pl x) ∘ T.p)) = ts.all fun t => pl || !t.hp := by
      refine Bool.eq_iff_iff.mpr ?_
      rw [List.all_eq_true, List.all_eq_true]
      exact ⟨fun f t ht => (each t ht) ▸ f t ht, fun f t ht => (each t ht).trans (f t ht)⟩
    rw [e]
    cases pl
    · simp [List.any_eq_not_all_not]
    · simp
end K57

/-! PP10: is_written_as, by the mirror. -/
namespace K57
open PySem MR
section
variable {q q' : Nat → Prop} {S S' s : Hs} {k n : Nat} {d : D} {p : PyData} {pl : Bool}
theorem Dn.at_ (h : Dn q S k d p) {ds : List D} (hd : frees ds = true → MR.free d = true) (hS : frees ds = false → S' = S) : Dn q S' k d p := by
  cases hf : frees ds with
  | false => rw [hS hf]; exact h
  | true => exact h.free (hd hf)
theorem pur_gen {F : Fn} {ds : List D} {P : D → Hs → Hs → Prop} (h : ∀ S', (frees ds = false → S' = S) → Ok (fun x s => P x S' s) (F ds S')) (w1 : ∀ x s, frees ds = true → free x = true → P x S0 s → P x S S)
    (w2 : ∀ n s xs, frees ds = true → P (.ref n) S0 s → s.get n = some (.lst xs) → frees xs = true → P (.ref S.n) S (S.new (.lst xs))) : Ok (fun x s => P x S s) (pur F ds S) := by
  have raw := h S fun _ => rfl
  cases hf : frees ds with
  | false => rw [pur_raw hf]; exact raw
  | true =>
    obtain ⟨x, s, e, hp⟩ := (h S0 fun z => nomatch hf.symm.trans z).eq
    have fin : ∀ x, F ds S0 = .ok x s → P x S0 s → (∀ n, x ≠ .ref n) → Ok (fun x s => P x S s) (pur F ds S) := fun x e hp hx => by
      have e2 : pur F ds S = if free x then .ok x S else F ds S := by
        unfold pur
        rw [if_pos hf, e]
        cases x <;> first | rfl | exact absurd rfl (hx _)
      rw [e2]
      by_cases fx : free x = true
      · rw [if_pos fx]
        exact w1 x s hf fx hp
      · rw [if_neg fx]
        exact raw
    cases x with
    | ref n =>
      unfold pur
      rw [if_pos hf, e]
      show Ok _ (match s.get n with
        | some (.lst xs) => if frees xs then .ok (.ref S.n) (S.new (.lst xs)) else F ds S
        | _ => F ds S)
      split
      · rename_i xs hx
        by_cases fx : frees xs = true
        · rw [if_pos fx]
          exact w2 n s xs hf hp hx fx
        · rw [if_neg fx]
          exact raw
      · exact raw
    | _ => exact fin _ e hp fun n z => by cases z
theorem place_dn {k : Nat} : Dn q S (k + 1) (.tup [.str "place"]) (.tuple [.str "place"]) := .tup rfl (by decide) fun i d p h1 h2 => by
  match i with
  | 0 =>
    cases h1
    cases h2
    exact .str (by decide +kernel)
  | i + 1 =>
    simp at h1
theorem eq_str {a b : Str} (ha : fit a) (hb : fit b) : eqD (.str a) (.str b) S = .ok (.bl (decide (a = b))) S := by
  rw [(Dn.str (q := No) (k := 0) (S := S) ha).eq (Dn.str (q := No) (k := 0) hb) (by omega) (by omega)]
  have e : PyData.eqv (.str a) (.str b) = decide (a = b) := by
    rw [PyData.eqv]
    by_cases h : a = b
    · rw [decide_eq_true h, h]; simp
    · rw [decide_eq_false h]; simpa using h
  rw [e]
theorem mapO_bls {f : PyData → Bool} : ∀ {ps : List PyData} {zs : List D}, zs.length = ps.length → (∀ (m : Nat) y, zs[m]? = some y → ∃ p, ps[m]? = some p ∧ y = .bl (f p)) → mapO blOf zs = some (ps.map f)
  | [], [], _, _ => rfl
  | [], _ :: _, h, _ => nomatch h
  | _ :: _, [], h, _ => nomatch h
  | p :: ps, z :: zs, h, r => by
    obtain ⟨p', e, hz⟩ := r 0 z rfl
    cases e
    subst hz
    rw [mapO, mapO_bls (Nat.succ.inj h) fun m y hy => r (m + 1) y hy]
    rfl
theorem bodyW_len {f : PyData → Bool} {ps : List PyData} (h : ps.length ≠ 2) : bodyW f (.tuple ps) = false := by
  match ps, h with
  | [], _ => rfl
  | [_], _ => simp [bodyW]
  | [_, _], h => exact absurd rfl h
  | _ :: _ :: _ :: _, _ => simp [bodyW]
theorem fit_again : fit "again" := ⟨by decide +kernel, by decide +kernel⟩
theorem fit_row : fit "row" := ⟨by decide +kernel, by decide +kernel⟩
theorem fit_place : fit "place" := ⟨by decide +kernel, by decide +kernel⟩
theorem written_pur {F : Fn} {b : Bool} (H : ∀ {S'}, Dn q S' k d p → Ok (fun x s => x = .bl b ∧ Fr No S' s) (F [d, .bl pl] S')) (h : Dn q S k d p) : Ok (fun x s => x = .bl b ∧ Fr No S s) (pur F [d, .bl pl] S) :=
  pur_any rfl fun S' hS => H (h.at_ (ds := [d, .bl pl]) (fun z => (Bool.and_eq_true_iff.mp z).1) hS)
theorem iter_ixl {xs : List D} {P : DI → Hs → Prop} {env : EnvD} {m : Ex} (h : m env S = .ok (.ref n) s) (g : s.get n = some (.lst xs)) : Ok P (mIter m env S) = P (.lst n) s := by
  unfold mIter
  simp [h, listOf_get g]
theorem written_ok : ∀ (k : Nat) {d : D} {p : PyData} {q : Nat → Prop} {S : Hs}, k ≤ 30 → Dn q S k d p → Ok (fun x s => x = .bl (isWd (k + 1) pl p) ∧ Fr No S s) (F_is_written_as (k + 1) [d, .bl pl] S)
  | k, d, p, q, S, hk, h => by
    have sp : ∀ S', Fr No S S' → pur F_is_spelt [d] S' = .ok (.bl (speltP p)) S' := fun S' f => is_spelt_ok (h.fr f.any)
    have sp := sp S Fr.refl
    have i3 := h.isi (b := "tuple") (by simp)
    have nx := h.noX
    show Ok _ (runB 2 3 (FB_is_written_as (F_is_written_as k)) [d, .bl pl] S)
    refine o_run rfl ?_
    show Wp _ _ (FB_is_written_as (F_is_written_as k) [some d, some (.bl pl), none] S)
    rw [isWd_succ]
    unfold FB_is_written_as
    cases h with
    | non => cases pl <;> simpa [sp, i3, tyOf, speltP, placeB, bodyW] using Fr.refl
    | bl b => cases pl <;> simpa [sp, i3, tyOf, speltP, placeB, bodyW] using Fr.refl
    | int i => cases pl <;> simpa [sp, i3, tyOf, speltP, placeB, bodyW] using Fr.refl
    | str h => cases pl <;> cases e : speltP (.str _) <;> simp [sp, i3, tyOf, placeB, bodyW, e] <;> exact Fr.refl
    | @lst k n ds ps hq g l m r => cases pl <;> simpa [sp, i3, tyOf, speltP, placeB, bodyW] using Fr.refl
    | @tup k ds ps l m r =>
      have epl := (Dn.tup l m r).eq (place_dn (q := q) (S := S) (k := 0)) (by omega) (by omega)
      cases hb : (pl && placeB (.tuple ps)) with
      | true =>
        obtain ⟨h1, h2⟩ := Bool.and_eq_true_iff.mp hb
        subst h1
        have h3 : PyData.eqv (.tuple ps) (.tuple [.str "place"]) = true := by simpa [placeB, tyOf] using h2
        simp [sp, i3, tyOf, speltP, epl, h3]
        exact Fr.refl
      | false =>
        have go : ∀ {P : EnvD → Hs → Prop} {Q : D → Hs → Prop} {r : SM}, Wp P Q (r [some (.tup ds), some (.bl pl), none] S) → Wp P Q (mSeq (mIfS (mOr (mOwn (pur F_is_spelt) [] (mCons (mV 0) (mNil))) (mAnd (mV 1) (mAnd (mCall isiF (mCons (mV 0) (mCons (mC (.ty "tuple")) (mNil)))) (mOp2 eqD (mV 0) (mC (.tup ((["place"] : List Str).map D.str))))))) (mRet (mC (.bl true))) (mNx)) r [some (.tup ds), some (.bl pl), none] S) := fun {P Q r} hr => by
          cases pl with
          | false => simpa [sp, i3, tyOf, speltP] using hr
          | true =>
            have h3 : PyData.eqv (.tuple ps) (.tuple [.str "place"]) = false := by simpa [placeB, tyOf] using hb
            simpa [sp, i3, tyOf, speltP, epl, h3] using hr
        refine go ?_
        have e0 : speltP (.tuple ps) = false := rfl
        rw [e0, Bool.false_or, Bool.false_or]
        by_cases h2 : ds.length = 2
        case neg =>
          have h2' : ¬ ((ds.length : Int) = 2) := by omega
          rw [bodyW_len (fun z => h2 (l.trans z))]
          simp [i3, tyOf, len_tup, neD, eq_int, h2']
          exact Fr.refl
        match ds, ps, l, m, r, i3, h2 with
        | [d0, d1], [p0, p1], _, m, r, i3, _ =>
          have h0 := r 0 d0 p0 rfl rfl
          have h1 := r 1 d1 p1 rfl rfl
          have j0 := h0.isi (b := "str") (by simp)
          have x0 : ixD (.tup [d0, d1]) (.int 0) S = .ok d0 S := ix_tup (i := 0) rfl
          have x1 : ixD (.tup [d0, d1]) (.int 1) S = .ok d1 S := ix_tup (i := 1) rfl
          cases h0 with
          | @str _ s0 hs =>
            have eb : bodyW (isWd (k + 1) pl) (.tuple [.str s0, p1]) = if s0 = "again" then isWd (k + 1) pl p1 else decide (s0 = "row") && listAll (isWd (k + 1) pl) p1 := rfl
            rw [eb]
            by_cases ea : s0 = "again"
            · rw [if_pos ea]
              simp [i3, tyOf, len_tup, neD, eq_int, x0, x1, j0, eq_str hs fit_again, decide_eq_true ea]
              exact written_pur (fun z => written_ok k (by omega) z) h1
            · rw [if_neg ea]
              by_cases er : s0 = "row"
              · rw [decide_eq_true er, Bool.true_and]
                have ea' : decide (s0 = "again") = false := decide_eq_false ea
                have er' : decide (s0 = "row") = true := decide_eq_true er
                have l1 := h1.isi (b := "list") (by simp)
                cases h1 with
                | @lst k2 n2 es qs hq2 g3 l3 m3 r3 =>
                  simp [i3, tyOf, len_tup, neD, eq_int, x0, x1, j0, eq_str hs fit_again, eq_str hs fit_row, ea', er', l1, listAll]
                  refine o_lc No es (fun _ i y _ => ∃ p, qs[i]? = some p ∧ y = .bl (isWd (k2 + 2) pl p)) ?_
                  rw [iter_ixl (n := n2) (s := S) (by simp [mOp2, mV, mC, Res.bind, noX, x1]) g3]
                  refine ⟨itm_lst g3 id, Nat.le_of_lt m3, id, fun i d hd => ⟨[(2, d)], rfl, fun s fr hn => ?_⟩, fun _ _ _ _ _ z => z, fun s' zs fr hn g2 l2 hz => ?_⟩
                  · obtain ⟨p, hp⟩ := there l3.symm hd
                    have dn := ((r3 i d p hd hp).fr fr.any).up (Nat.le_succ k2)
                    simp [dn.noX]
                    exact (written_pur (fun z => written_ok (k2 + 1) (by omega) z) dn).mono fun y s' ⟨e, f⟩ => ⟨f, p, hp, e⟩
                  · have eall := mapO_bls (l2.trans l3) hz
                    unfold allF
                    simp only [listOf_get g2, eall]
                    refine ⟨?_, fr⟩
                    rw [List.all_map]
                    rfl
                | _ => simp [i3, tyOf, len_tup, neD, eq_int, x0, x1, j0, eq_str hs fit_again, eq_str hs fit_row, ea', er', l1, listAll]; exact Fr.refl
              · have ea' : decide (s0 = "again") = false := decide_eq_false ea
                have er' : decide (s0 = "row") = false := decide_eq_false er
                rw [er', Bool.false_and]
                simp [i3, tyOf, len_tup, neD, eq_int, x0, x1, j0, eq_str hs fit_again, eq_str hs fit_row, ea', er']
                exact Fr.refl
          | _ => simp [i3, tyOf, len_tup, neD, eq_int, x0, x1, j0, bodyW]; exact Fr.refl
end
end K57

/-! PP11: copies and what is put in, by the mirror. -/
namespace K57
open PySem MR
section
variable {q q' : Nat → Prop} {S S' s : Hs} {k n : Nat} {d : D} {p : PyData} {pl : Bool}
/-! ### shapes -/
theorem dn_w {x : Str} (h : Dn q S k d (T.w x).p) : d = .str x := by cases h; rfl
theorem dn_pl (h : Dn q S k d T.pl.p) : d = .tup [.str "place"] := by
  cases h with
  | @tup k ds ps l m r =>
    match ds, l, r with
    | [d0], _, r =>
      have h0 := r 0 d0 _ rfl rfl
      cases h0
      rfl
theorem dn_ag {t : T} (h : Dn q S k d (T.ag t).p) : ∃ d1 j, k = j + 1 ∧ d = .tup [.str "again", d1] ∧ Dn q S j d1 t.p := by
  cases h with
  | @tup k ds ps l m r =>
    match ds, l, r with
    | [d0, d1], _, r =>
      have h0 := r 0 d0 _ rfl rfl
      cases h0
      exact ⟨d1, k, rfl, rfl, r 1 d1 _ rfl rfl⟩
theorem dn_row {ts : List T} (h : Dn q S k d (T.row ts).p) : ∃ n ds j, k = j + 2 ∧ d = .tup [.str "row", .ref n] ∧ ¬ q n ∧ S.get n = some (.lst ds) ∧ ds.length = ts.length ∧ ds.length < line ∧ ∀ (i : Nat) d t, ds[i]? = some d → ts[i]? = some t → Dn q S j d t.p := by
  rw [p_row] at h
  cases h with
  | @tup k ds ps l m r =>
    match ds, l, r with
    | [d0, d1], _, r =>
      have h0 := r 0 d0 _ rfl rfl
      cases h0
      have h1 := r 1 d1 _ rfl rfl
      cases h1 with
      | @lst k n es qs hq g l m2 r =>
        exact ⟨n, es, k, rfl, rfl, hq, g, by rw [l, List.length_map], m2, fun i d t h1 h2 => r i d t.p h1 (by rw [List.getElem?_map, h2]; rfl)⟩
theorem mk_ag {d1 : D} {t : T} (h : Dn q S k d1 t.p) : Dn q S (k + 1) (.tup [.str "again", d1]) (T.ag t).p := .tup rfl (show 2 ≤ line by decide) fun i d p h1 h2 => by
  match i with
  | 0 => cases h1; cases h2; exact .str fit_again
  | 1 => cases h1; cases h2; exact h
  | i + 2 => simp at h1
theorem mk_row {n : Nat} {ds : List D} {ts : List T} (hq : ¬ q n) (g : S.get n = some (.lst ds)) (l : ds.length = ts.length) (m : ds.length < line) (r : ∀ (i : Nat) d t, ds[i]? = some d → ts[i]? = some t → Dn q S k d t.p) : Dn q S (k + 2) (.tup [.str "row", .ref n]) (T.row ts).p := by
  rw [p_row]
  refine .tup rfl (show 2 ≤ line by decide) fun i d p h1 h2 => ?_
  match i with
  | 0 => cases h1; cases h2; exact .str fit_row
  | 1 =>
    cases h1; cases h2
    refine .lst hq g (by rw [l, List.length_map]) m fun i d p h1 h2 => ?_
    rw [List.getElem?_map] at h2
    cases e : ts[i]? with
    | none => rw [e] at h2; cases h2
    | some t => rw [e] at h2; cases h2; exact r i d t h1 e
  | i + 2 => simp at h1
def isPl : T → Bool
  | .pl => true
  | _ => false
theorem eqv_pl (t : T) : PyData.eqv t.p (.tuple [.str "place"]) = isPl t := by
  cases t with
  | w s => rfl
  | pl => decide +kernel
  | ag t => rw [T.p]; simp [PyData.eqv, PyData.eqvAll, isPl]
  | row ts => rw [T.p]; simp [PyData.eqv, PyData.eqvAll, isPl]
theorem eq_pl {t : T} (h : Dn q S k d t.p) (hk : k ≤ 40) : eqD d (.tup [.str "place"]) S = .ok (.bl (isPl t)) S := by
  rw [h.eq (place_dn (q := q) (S := S) (k := 0)) hk (by omega), eqv_pl]
@[simp] theorem ix0 {a b : D} : ixD (.tup [a, b]) (.int 0) S = .ok a S := ix_tup (i := 0) rfl
@[simp] theorem ix1 {a b : D} : ixD (.tup [a, b]) (.int 1) S = .ok b S := ix_tup (i := 1) rfl
@[simp] theorem s_aa : eqD (.str "again") (.str "again") S = .ok (.bl true) S := (eq_str fit_again fit_again).trans (by rw [decide_eq_true rfl])
@[simp] theorem s_rr : eqD (.str "row") (.str "row") S = .ok (.bl true) S := (eq_str fit_row fit_row).trans (by rw [decide_eq_true rfl])
@[simp] theorem s_ra : eqD (.str "row") (.str "again") S = .ok (.bl false) S := (eq_str fit_row fit_again).trans (by rw [decide_eq_false (by decide)])
@[simp] theorem s_ar : eqD (.str "again") (.str "row") S = .ok (.bl false) S := (eq_str fit_again fit_row).trans (by rw [decide_eq_false (by decide)])
theorem two_line : (2 : Nat) ≤ line := by decide
/-! ### what lies in cells of its own, in order -/
inductive Iv (S : Hs) : Nat → D → T → Prop where
  | w {lo : Nat} {x : Str} (h : speltB x = true) : Iv S lo (.str x) (.w x)
  | ag {lo : Nat} {d : D} {t : T} (h : Iv S lo d t) : Iv S lo (.tup [.str "again", d]) (.ag t)
  | row {lo : Nat} {ds : List D} {ts : List T} (g : S.get lo = some (.lst ds)) (l : ds.length = ts.length) (m : ds.length < line) (r : ∀ (i : Nat) d t, ds[i]? = some d → ts[i]? = some t → Iv S (lo + 1 + T.cls (ts.take i)) d t) : Iv S lo (.tup [.str "row", .ref lo]) (.row ts)
theorem cl_row (ts : List T) : (T.row ts).cl = T.cls ts + 1 := rfl
theorem Iv.fr {lo : Nat} {t : T} (h : Iv S lo d t) (f : Fr q S S') (hq : ∀ m, q m → m < lo ∨ lo + t.cl ≤ m) : Iv S' lo d t := by
  induction h with
  | w h => exact .w h
  | ag h ih => exact .ag (ih hq)
  | @row lo ds ts g l m r ih =>
    rw [cl_row] at hq
    refine .row (f.at_ _ _ (fun z => ?_) g) l m fun i d t h1 h2 => ih i d t h1 h2 fun m hm => ?_
    · have := hq _ z
      omega
    · have := cls_le h2
      have := hq _ hm
      omega
theorem Iv.dn {lo : Nat} {t : T} (h : Iv S lo d t) : Dn (fun n => ¬ (lo ≤ n ∧ n < lo + t.cl)) S t.dp d t.p := by
  induction h with
  | w h => exact .str (fit_spelt h)
  | ag h ih => exact mk_ag ih
  | @row lo ds ts g l m r ih =>
    refine mk_row (fun z => z ⟨Nat.le_refl _, by rw [cl_row]; omega⟩) g l m fun i d t h1 h2 => ((ih i d t h1 h2).weak fun n hn z => hn ?_).up (dps_ge (List.mem_of_getElem? h2))
    have := cls_le h2
    rw [cl_row]
    omega
theorem Iv.flat {lo : Nat} {t : T} (h : Iv S lo d t) : MR.free d = true → t.cl = 0 ∧ ∀ S' lo', Iv S' lo' d t := by
  induction h with
  | w h => exact fun _ => ⟨rfl, fun _ _ => .w h⟩
  | ag h ih =>
    intro f
    obtain ⟨a, b⟩ := ih (frees_get (xs := [.str "again", _]) (i := 1) f rfl)
    exact ⟨a, fun S' lo' => .ag (b S' lo')⟩
  | row g l m r ih =>
    intro f
    cases f
/-- what a copy promises -/
def Cp (t : T) (x : D) (S s : Hs) : Prop := Fr No S s ∧ s.n = S.n + t.cl ∧ Iv s S.n x t
theorem pur_cp {F : Fn} {ds : List D} {t : T} (h : ∀ S', (frees ds = false → S' = S) → Ok (fun x s => Cp t x S' s) (F ds S')) : Ok (fun x s => Cp t x S s) (pur F ds S) := pur_gen h
  (fun x s _ fx ⟨_, _, h⟩ => by
    obtain ⟨a, b⟩ := h.flat fx
    exact ⟨Fr.refl, by omega, b _ _⟩) fun n s xs _ ⟨_, _, h⟩ => by cases h
theorem hp_row {ts : List T} (h : (T.row ts).hp = false) {t : T} (ht : t ∈ ts) : t.hp = false := by
  rw [T.hp, hps_any] at h
  cases e : t.hp with
  | false => rfl
  | true => exact absurd (List.any_eq_true.mpr ⟨t, ht, e⟩) (by rw [h]; exact Bool.false_ne_true)
theorem copied_ok : ∀ (k : Nat) {d : D} {t : T} {q : Nat → Prop} {S : Hs}, k ≤ 30 → Dn q S k d t.p → t.ok = true → t.hp = false → Ok (fun x s => Cp t x S s) (F_copied (k + 1) [d] S)
  | k, d, t, q, S, hk, h, ok, hp => by
    have sp := is_spelt_ok h
    have nx := h.noX
    show Ok _ (runB 1 2 (FB_copied (F_copied k)) [d] S)
    refine o_run rfl ?_
    show Wp _ _ (FB_copied (F_copied k) [some d, none] S)
    unfold FB_copied
    cases t with
    | w x =>
      have e := dn_w h
      subst e
      have e : speltP (T.w x).p = true := ok
      simp [sp, e]
      exact ⟨Fr.refl, rfl, .w ok⟩
    | pl => cases hp
    | ag t =>
      obtain ⟨d1, j, rfl, rfl, h1⟩ := dn_ag h
      have e : speltP (T.ag t).p = false := rfl
      simp [sp, e, two_line]
      exact (pur_cp fun S' hS => copied_ok j (by omega) (h1.at_ (ds := [d1]) (fun z => (Bool.and_eq_true_iff.mp z).1) hS) ok hp).mono fun x s ⟨f, n, iv⟩ => ⟨f, n, .ag iv⟩
    | row ts =>
      obtain ⟨n, ds, j, rfl, rfl, hq, g, l, m, r⟩ := dn_row h
      have e : speltP (T.row ts).p = false := rfl
      simp [sp, e, two_line]
      refine o_lcJ No ds (fun i s => s.n = S.n + 1 + T.cls (ts.take i)) (fun S1 i y s => ∃ t, ts[i]? = some t ∧ Iv s (S.n + 1 + T.cls (ts.take i)) y t) ?_
      rw [iter_ixl (n := n) (s := S) (by simp [mOp2, mV, mC, Res.bind, noX]) g]
      refine ⟨itm_lst g id, Nat.le_of_lt m, id, rfl, fun i s c0 c _ hJ => hJ, fun i d hd => ⟨[(1, d)], rfl, fun s fr hn hJ => ?_⟩, fun i y s s' f ⟨t, ht, z⟩ => ⟨t, ht, z.fr f fun m hm => .inl ?_⟩, fun s' zs fr hn hJ g2 l2 hz => ?_⟩
      · obtain ⟨t, ht⟩ := there l.symm hd
        have dn := (((r i d t hd ht).fr fr.any).up (Nat.le_succ j))
        simp [dn.noX]
        refine (pur_cp fun S' hS => copied_ok (j + 1) (by omega) (dn.at_ (ds := [d]) (fun z => (Bool.and_eq_true_iff.mp z).1) hS) (ok_row ok (List.mem_of_getElem? ht)) (hp_row hp (List.mem_of_getElem? ht))).mono fun y s' ⟨f, n', iv⟩ => ⟨f, ?_, t, ht, by rw [← hJ]; exact iv⟩
        rw [cls_take ht, n', hJ]
        omega
      · rcases hm with z | z
        · exact z.elim
        · omega
      · rw [l, List.take_length] at hJ
        refine ⟨fr, ?_, .row g2 (l2.trans l) (by omega) fun i d t h1 h2 => ?_⟩
        · rw [hJ, cl_row]
          omega
        · obtain ⟨t', e, z⟩ := hz i d h1
          rw [h2] at e
          cases e
          exact z
end
end K57

/-! PP12: what is put in; what is open; by the mirror. -/
namespace K57
open PySem MR
section
variable {q q' : Nat → Prop} {S S' s : Hs} {k n : Nat} {d : D} {p : PyData} {pl : Bool}
theorem fr2 {d e : D} (z : frees [d, e] = true) : MR.free d = true ∧ MR.free e = true := by
  obtain ⟨a, b⟩ := Bool.and_eq_true_iff.mp z
  exact ⟨a, (Bool.and_eq_true_iff.mp b).1⟩
theorem fr1 {d : D} (z : frees [d] = true) : MR.free d = true := (Bool.and_eq_true_iff.mp z).1
theorem copied16 {de : D} {e : T} {k2 : Nat} (he : Dn q S k2 de e.p) (hk : k2 ≤ 15) (ok : e.ok = true) (hp : e.hp = false) : Ok (fun x s => Cp e x S s) (pur (F_copied 16) [de] S) :=
  pur_cp fun S' hS => copied_ok 15 (by omega) ((he.up hk).at_ (ds := [de]) fr1 hS) ok hp
theorem filled_ok {e : T} {de : D} {k2 : Nat} (hk2 : k2 ≤ 15) (eok : e.ok = true) (ehp : e.hp = false) : ∀ (k : Nat) {d : D} {t : T} {q q' : Nat → Prop} {S : Hs}, k ≤ 30 → Dn q S k d t.p → Dn q' S k2 de e.p → t.ok = true → Ok (fun x s => Cp (t.put e) x S s) (F_filled (k + 1) [d, de] S)
  | k, d, t, q, q', S, hk, h, he, ok => by
    have sp := is_spelt_ok h
    have nx := h.noX
    have nx2 := he.noX
    have epl := eq_pl h (by omega)
    show Ok _ (runB 2 3 (FB_filled (F_filled k)) [d, de] S)
    refine o_run rfl ?_
    show Wp _ _ (FB_filled (F_filled k) [some d, some de, none] S)
    unfold FB_filled
    cases t with
    | w x =>
      have e := dn_w h
      subst e
      have e : speltP (T.w x).p = true := ok
      simp [sp, e]
      exact ⟨Fr.refl, rfl, .w ok⟩
    | pl =>
      have e := dn_pl h
      subst e
      have e : speltP T.pl.p = false := rfl
      simp [sp, e, epl, isPl, nx2]
      exact copied16 he hk2 eok ehp
    | ag t =>
      obtain ⟨d1, j, rfl, rfl, h1⟩ := dn_ag h
      have e : speltP (T.ag t).p = false := rfl
      simp [sp, e, two_line, epl, isPl, nx2]
      exact (pur_cp fun S' hS => filled_ok hk2 eok ehp j (by omega) (h1.at_ (ds := [d1, de]) (fun z => (fr2 z).1) hS) (he.at_ (ds := [d1, de]) (fun z => (fr2 z).2) hS) ok).mono fun x s ⟨f, n, iv⟩ => ⟨f, n, .ag iv⟩
    | row ts =>
      obtain ⟨n, ds, j, rfl, rfl, hq, g, l, m, r⟩ := dn_row h
      have e0 : speltP (T.row ts).p = false := rfl
      have ep : ∀ {i : Nat} {t : T}, ts[i]? = some t → (T.puts ts e)[i]? = some (t.put e) := fun {i t} h => by rw [puts_map, List.getElem?_map, h]; rfl
      have lp : (T.puts ts e).length = ts.length := by rw [puts_map, List.length_map]
      simp [sp, e0, two_line, epl, isPl]
      refine o_lcJ No ds (fun i s => s.n = S.n + 1 + T.cls ((T.puts ts e).take i)) (fun S1 i y s => ∃ t, (T.puts ts e)[i]? = some t ∧ Iv s (S.n + 1 + T.cls ((T.puts ts e).take i)) y t) ?_
      rw [iter_ixl (n := n) (s := S) (by simp [mOp2, mV, mC, Res.bind, noX]) g]
      refine ⟨itm_lst g id, Nat.le_of_lt m, id, rfl, fun i s c0 c _ hJ => hJ, fun i d hd => ⟨[(2, d)], rfl, fun s fr hn hJ => ?_⟩, fun i y s s' f ⟨t, ht, z⟩ => ⟨t, ht, z.fr f fun m hm => .inl ?_⟩, fun s' zs fr hn hJ g2 l2 hz => ?_⟩
      · obtain ⟨t, ht⟩ := there l.symm hd
        have dn := (((r i d t hd ht).fr fr.any).up (Nat.le_succ j))
        have de' := he.fr fr.any
        simp [dn.noX, nx2]
        refine (pur_cp fun S' hS => filled_ok hk2 eok ehp (j + 1) (by omega) (dn.at_ (ds := [d, de]) (fun z => (fr2 z).1) hS) (de'.at_ (ds := [d, de]) (fun z => (fr2 z).2) hS) (ok_row ok (List.mem_of_getElem? ht))).mono fun y s' ⟨f, n', iv⟩ => ⟨f, ?_, _, ep ht, by rw [← hJ]; exact iv⟩
        rw [cls_take (ep ht), n', hJ]
        omega
      · rcases hm with z | z
        · exact z.elim
        · omega
      · have ll : ds.length = (T.puts ts e).length := l.trans lp.symm
        rw [ll, List.take_length] at hJ
        refine ⟨fr, ?_, .row g2 (l2.trans ll) (by omega) fun i d t h1 h2 => ?_⟩
        · rw [hJ, T.put, cl_row]
          omega
        · obtain ⟨t', e, z⟩ := hz i d h1
          rw [h2] at e
          cases e
          exact z
/-! ### what is open -/
theorem written16 (h : Dn q S k d p) (hk : k ≤ 15) : Ok (fun x s => x = .bl (isWd 16 pl p) ∧ Fr No S s) (pur (F_is_written_as 16) [d, .bl pl] S) := written_pur (fun z => written_ok 15 (by omega) z) (h.up hk)
theorem expr_pur (h : Dn q S k d p) (hk : k ≤ 15) : Ok (fun x s => x = .bl (isWd 16 false p) ∧ Fr No S s) (pur F_is_expression [d] S) := pur_any rfl fun S' hS => by
  have h' := h.at_ (ds := [d]) fr1 hS
  refine o_run rfl ?_
  show Wp _ _ (FB_is_expression [some d] S')
  unfold FB_is_expression
  simp [h'.noX]
  exact written16 h' hk
theorem open_pur (h : Dn q S k d p) (hk : k ≤ 15) : Ok (fun x s => x = .bl (isWd 16 true p && !isWd 16 false p) ∧ Fr No S s) (pur F_is_open [d] S) := pur_any rfl fun S' hS => by
  have h' := h.at_ (ds := [d]) fr1 hS
  refine o_run rfl ?_
  show Wp _ _ (FB_is_open [some d] S')
  unfold FB_is_open
  simp [h'.noX]
  refine (written16 h' hk).mono fun x s ⟨e, f⟩ => ?_
  subst e
  cases e : isWd 16 true p with
  | false => simpa using f
  | true =>
    simp
    refine (written16 (h'.fr f.any) hk).mono fun x s2 ⟨e, f2⟩ => ?_
    subst e
    exact ⟨rfl, f.trans f2⟩
theorem check_pur (h : Dn q S k d p) (hk : k ≤ 15) (hp : isWd 16 pl p = true) : Ok (fun x s => x = .non ∧ Fr No S s) (pur F_check_expression [d, .bl pl] S) := pur_any rfl fun S' hS => by
  have h' := h.at_ (ds := [d, .bl pl]) (fun z => (fr2 z).1) hS
  refine o_run rfl ?_
  show Wp _ _ (FB_check_expression [some d, some (.bl pl)] S')
  unfold FB_check_expression
  simp [h'.noX]
  refine (written16 h' hk).mono fun x s ⟨e, f⟩ => ?_
  subst e
  rw [hp]
  simp
  exact f
theorem wd_t (pl : Bool) {t : T} (ok : t.ok = true) (hd : t.dp ≤ 15) : isWd 16 pl t.p = (pl || !t.hp) := isWd_t pl t ok 16 (by omega)
theorem put_in_ok {f e : T} {de : D} (h : Dn q S f.dp d f.p) (he : Dn q' S e.dp de e.p) (hf : f.dp ≤ 15) (hed : e.dp ≤ 15) (fok : f.ok = true) (eok : e.ok = true) (fhp : f.hp = true) (ehp : e.hp = false) : Ok (fun x s => ∃ lo, S.n ≤ lo ∧ Fr No S s ∧ s.n = lo + (f.put e).cl ∧ Iv s lo x (f.put e)) (F_put_in [d, de] S) := by
  refine o_run rfl ?_
  show Wp _ _ (FB_put_in [some d, some de] S)
  unfold FB_put_in
  simp [h.noX, he.noX]
  refine (open_pur h hf).mono fun x s ⟨e1, f1⟩ => ?_
  subst e1
  rw [wd_t true fok hf, wd_t false fok hf, fhp]
  simp
  refine (check_pur (he.fr f1.any) hed (pl := false) (by rw [wd_t false eok hed, ehp]; rfl)).mono fun x s2 ⟨e2, f2⟩ => ?_
  subst e2
  have f12 := f1.trans f2
  refine (pur_cp fun S' hS => filled_ok (k2 := 15) (by omega) eok ehp 15 (by omega) (((h.fr f12.any).up hf).at_ (ds := [d, de]) (fun z => (fr2 z).1) hS) (((he.fr f12.any).up hed).at_ (ds := [d, de]) (fun z => (fr2 z).2) hS) fok).mono fun x s3 ⟨f3, n3, iv⟩ => ?_
  exact ⟨s2.n, f12.n, f12.trans f3, n3, iv⟩
/-- as others call it -/
def Pi (f e : T) (x : D) (S s : Hs) : Prop := ∃ lo, S.n ≤ lo ∧ Fr No S s ∧ s.n = lo + (f.put e).cl ∧ Iv s lo x (f.put e)
theorem put_in_pur {f e : T} {de : D} (h : Dn q S f.dp d f.p) (he : Dn q' S e.dp de e.p) (hf : f.dp ≤ 15) (hed : e.dp ≤ 15) (fok : f.ok = true) (eok : e.ok = true) (fhp : f.hp = true) (ehp : e.hp = false) : Ok (fun x s => Pi f e x S s) (pur F_put_in [d, de] S) :=
  pur_gen (fun S' hS => put_in_ok (h.at_ (ds := [d, de]) (fun z => (fr2 z).1) hS) (he.at_ (ds := [d, de]) (fun z => (fr2 z).2) hS) hf hed fok eok fhp ehp)
    (fun x s _ fx ⟨lo, _, _, _, iv⟩ => by
      obtain ⟨a, b⟩ := iv.flat fx
      exact ⟨S.n, Nat.le_refl _, Fr.refl, by omega, b _ _⟩) fun n s xs _ ⟨_, _, _, _, iv⟩ => by cases iv
end
end K57

/-! PP13: the parts, the words, the nesting, by the program. -/
namespace K57
open PySem MR
section
variable {q q' : Nat → Prop} {S S' s : Hs} {k n : Nat} {d : D} {p : PyData} {pl : Bool}
/-! ### turns -/
theorem turn_ok {P : D → Hs → Prop} {di : DI} {b : Bnd} {mk : Ex} {env : EnvD} {items : List D} (I : Nat → Hs → Prop)
    (step : ∀ i s d, I i s → items[i]? = some d → di.next i s = some (some d) ∧ ∃ us, b d = some us ∧ Ok (fun _ s' => I (i + 1) s') (mk (apD env us) s)) (stop : ∀ s, I items.length s → di.next items.length s = some none ∧ P .non s) :
    ∀ (j i k : Nat) (s : Hs), i + j = items.length → j < k → I i s → Ok P (mTurn di b mTrue mk env k i s)
  | 0, i, k + 1, s, hij, hk, hI => by
    have hi : i = items.length := by omega
    subst hi
    obtain ⟨h1, h2⟩ := stop s hI
    unfold mTurn
    rw [h1]
    exact h2
  | j + 1, i, k + 1, s, hij, hk, hI => by
    have hi : i < items.length := by omega
    obtain ⟨h1, us, h2, h3⟩ := step i s _ hI (List.getElem?_eq_getElem hi)
    obtain ⟨y, s', e, h4⟩ := h3.eq
    unfold mTurn
    rw [h1]
    simp only [h2]
    show Ok P (match mk (apD env us) s with
      | .ok _ S4 => mTurn di b mTrue mk env k (i + 1) S4
      | _ => .bad)
    rw [e]
    exact turn_ok I step stop j (i + 1) k s' (by omega) (by omega) h4
theorem o_comp {P : D → Hs → Prop} {c0 : Cell} {mi : ExI} {b : Bnd} {mk : Nat → Ex} {vs : List Nat} {env : EnvD} {S : Hs}
    (h : Ok (fun di S1 => ∃ (items : List D) (I : Nat → Hs → Prop), items.length ≤ di.size S1 ∧ I 0 (S1.new c0) ∧ (∀ i s d, I i s → items[i]? = some d → di.next i s = some (some d) ∧ ∃ us, b d = some us ∧ Ok (fun _ s' => I (i + 1) s') (mk S1.n (apD (wipeD env vs) us) s)) ∧
      ∀ s, I items.length s → di.next items.length s = some none ∧ P (.ref S1.n) s) (mi env S)) : Ok P (mComp c0 mi b mTrue mk vs env S) := by
  unfold mComp
  rw [Ok_bind]
  refine h.mono fun di S1 ⟨items, I, hz, h0, step, stop⟩ => ?_
  rw [Ok_bind]
  exact turn_ok I step (P := fun _ s => Ok P (.ok (.ref S1.n) s)) stop items.length 0 _ _ (by omega) (by omega) h0
theorem o_in {P : D → Hs → Prop} {mi : ExI} {b : Bnd} {mk : Nat → Ex} {vs : List Nat} {a : Nat} {env : EnvD} {S : Hs}
    (h : Ok (fun di S1 => ∃ (items : List D) (I : Nat → Hs → Prop), items.length ≤ di.size S1 ∧ I 0 S1 ∧ (∀ i s d, I i s → items[i]? = some d → di.next i s = some (some d) ∧ ∃ us, b d = some us ∧ Ok (fun _ s' => I (i + 1) s') (mk a (apD (wipeD env vs) us) s)) ∧
      ∀ s, I items.length s → di.next items.length s = some none ∧ P .non s) (mi env S)) : Ok P (mIn mi b mTrue mk vs a env S) := by
  unfold mIn
  rw [Ok_bind]
  exact h.mono fun di S1 ⟨items, I, hz, h0, step, stop⟩ => turn_ok I step stop items.length 0 _ _ (by omega) (by omega) h0
theorem o_iterL {P : DI → Hs → Prop} {m : Ex} {env : EnvD} {S : Hs} (h : Ok (fun x s => ∃ n xs, x = .ref n ∧ s.get n = some (.lst xs) ∧ P (.lst n) s) (m env S)) : Ok P (mIter m env S) := by
  obtain ⟨x, s, e, n, xs, hx, g, hp⟩ := h.eq
  subst hx
  unfold mIter
  simp [e, listOf_get g]
  exact hp
theorem o_own1 {P : D → Hs → Prop} {F : Fn} {env : EnvD} {i : Nat} (h : env[i]? = some (some d)) (hx : MR.noX d = true) : Ok P (mOwn F [] (mCons (mV i) mNil) env S) = Ok P (F [d] S) := by
  simp [h, hx]
theorem next_lst {n i : Nat} {xs : List D} (g : S.get n = some (.lst xs)) : (DI.lst n).next i S = some xs[i]? := by
  show (match listOf S n with
    | some xs => some xs[i]?
    | none => none) = _
  rw [listOf_get g]
theorem size_lst {n : Nat} {xs : List D} (g : S.get n = some (.lst xs)) : (DI.lst n).size S = xs.length := by
  show (match listOf S n with
    | some xs => xs.length
    | none => 0) = _
  rw [listOf_get g]
/-! ### the parts -/
def kids : T → List T
  | .row ts => ts
  | .ag t => [t]
  | _ => []
/-- the parts, in a list -/
def Pt (q : Nat → Prop) (k : Nat) (t : T) (x : D) (S s : Hs) : Prop := Fr No S s ∧ ∃ n ds, x = .ref n ∧ s.get n = some (.lst ds) ∧ ds.length = (kids t).length ∧ ds.length < line ∧ ∀ (i : Nat) d u, ds[i]? = some d → (kids t)[i]? = some u → Dn q s (k - 1) d u.p
theorem parts_ok {t : T} (h : Dn q S k d t.p) (hk : k ≤ 30) (ok : t.ok = true) : Ok (fun x s => Pt q k t x S s) (F_parts_of [d] S) := by
  have sp := is_spelt_ok h
  have nx := h.noX
  have epl := eq_pl h (by omega)
  refine o_run rfl ?_
  show Wp _ _ (FB_parts_of [some d] S)
  unfold FB_parts_of
  cases t with
  | w x =>
    have e := dn_w h
    subst e
    have e : speltP (T.w x).p = true := ok
    simp [sp, e]
    exact ⟨Fr.new, _, [], rfl, Hs.get_new _ _, rfl, by decide, fun i d u h1 => by cases h1⟩
  | pl =>
    have e := dn_pl h
    subst e
    have e : speltP T.pl.p = false := rfl
    simp [sp, e, epl, isPl]
    exact ⟨Fr.new, _, [], rfl, Hs.get_new _ _, rfl, by decide, fun i d u h1 => by cases h1⟩
  | ag t =>
    obtain ⟨d1, j, rfl, rfl, h1⟩ := dn_ag h
    have e : speltP (T.ag t).p = false := rfl
    simp [sp, e, epl, isPl]
    refine ⟨by decide, Fr.new, _, [d1], rfl, Hs.get_new _ _, rfl, (show 1 < line by decide), fun i d u h2 h3 => ?_⟩
    match i with
    | 0 => cases h2; cases h3; exact h1.fr Fr.new
    | i + 1 => simp at h2
  | row ts =>
    obtain ⟨n, ds, j, rfl, rfl, hq, g, l, m, r⟩ := dn_row h
    have e : speltP (T.row ts).p = false := rfl
    simp [sp, e, epl, isPl]
    exact ⟨Fr.refl, n, ds, rfl, g, l, m, fun i d u h2 h3 => (r i d u h2 h3).up (by omega)⟩
theorem parts_pur {t : T} (h : Dn q S k d t.p) (hk : k ≤ 30) (ok : t.ok = true) : Ok (fun x s => Pt q k t x S s) (pur F_parts_of [d] S) :=
  pur_gen (fun S' hS => parts_ok (h.at_ (ds := [d]) fr1 hS) hk ok) (fun x s _ fx ⟨_, n, ds, e, _⟩ => by subst e; cases fx) fun n s xs _ ⟨f, n', ds, e, g, l, m, r⟩ gx fx => by
    cases e
    rw [g] at gx
    cases gx
    exact ⟨Fr.new, _, xs, rfl, Hs.get_new _ _, l, m, fun i d u h1 h2 => (r i d u h1 h2).free (frees_get fx h1)⟩
theorem ok_kids {t u : T} (ok : t.ok = true) (h : u ∈ kids t) : u.ok = true := by
  cases t with
  | w x => cases h
  | pl => cases h
  | ag t => cases List.mem_singleton.mp h; exact ok
  | row ts => exact ok_row ok h
theorem sz_kids {t u : T} (h : u ∈ kids t) : u.sz ≤ t.sz := by
  cases t with
  | w x => cases h
  | pl => cases h
  | ag t => cases List.mem_singleton.mp h; exact Nat.le_refl _
  | row ts => exact (sz_row ts).2.1 u h
theorem lv_kids {t : T} (h : ∀ x, t ≠ .w x) : t.lv = T.lvs (kids t) := by
  cases t with
  | w x => exact absurd rfl (h x)
  | pl => rfl
  | ag t => exact (List.append_nil _).symm
  | row ts => rfl
theorem szs_kids (t : T) : T.szs (kids t) ≤ t.sz := by
  cases t with
  | w x => exact Nat.zero_le _
  | pl => exact Nat.zero_le _
  | ag t => exact Nat.le_refl _
  | row ts => exact (sz_row ts).2.2
theorem lvs_take : ∀ {ts : List T} {i : Nat} {t : T}, ts[i]? = some t → T.lvs (ts.take (i + 1)) = T.lvs (ts.take i) ++ t.lv
  | u :: ts, 0, t, h => by
    cases h
    simp [T.lvs]
  | u :: ts, i + 1, t, h => by
    have := lvs_take (ts := ts) (i := i) (t := t) h
    rw [List.take_succ_cons, T.lvs, this, List.take_succ_cons, T.lvs, List.append_assoc]
theorem lvs_pre : ∀ (ts : List T) (i : Nat), (T.lvs (ts.take i)).length ≤ (T.lvs ts).length
  | [], i => by simp
  | t :: ts, 0 => Nat.zero_le _
  | t :: ts, i + 1 => by
    have := lvs_pre ts i
    rw [List.take_succ_cons, T.lvs, T.lvs, List.length_append, List.length_append]
    omega
/-! ### the words -/
def Jb (t : T) (x : D) (S s : Hs) : Prop := ∃ m, x = .ref m ∧ S.n ≤ m ∧ Fr No S s ∧ s.get m = some (.lst ((canon t.lv).map D.str))
theorem pur_jb {F : Fn} {ds : List D} {t : T} (h : ∀ S', (frees ds = false → S' = S) → Ok (fun x s => Jb t x S' s) (F ds S')) : Ok (fun x s => Jb t x S s) (pur F ds S) := pur_gen h
  (fun x s _ fx ⟨_, e, _⟩ => by subst e; cases fx) fun n s xs _ ⟨m, e, _, _, g⟩ gx fx => by
    cases e
    rw [g] at gx
    cases gx
    exact ⟨_, rfl, Nat.le_refl _, Fr.new, Hs.get_new _ _⟩
theorem sortF_set {m : Nat} {ks : List Str} (g : S.get m = some (.set ks)) : sortF [.ref m] S = .ok (.ref S.n) (S.new (.lst ((sortTx ks).map D.str))) := by
  unfold sortF
  simp only [g]
theorem mAdd_ok {m : Nat} {ks : List Str} {env : EnvD} {x : Str} {i : Nat} (h : env[i]? = some (some (.str x))) (g : S.get m = some (.set ks)) (hl : ks.length < 4000) : mAdd (mV i) m env S = .ok .non (S.put m (.set (addT ks x))) := by
  have e : mV i env S = .ok (.str x) S := by unfold mV; rw [h]; rfl
  unfold mAdd
  rw [e]
  simp only [Res.bind, g, hl, if_true]
theorem jobs_ok : ∀ (k : Nat) {d : D} {t : T} {q : Nat → Prop} {S : Hs}, k ≤ 30 → Dn q S k d t.p → t.ok = true → t.sz ≤ 1000 → Ok (fun x s => Jb t x S s) (F_jobs_from (k + 1) [d] S)
  | k, d, t, q, S, hk, h, ok, hz => by
    have sp := is_spelt_ok h
    have nx := h.noX
    show Ok _ (runB 1 3 (FB_jobs_from (F_jobs_from k)) [d] S)
    refine o_run rfl ?_
    show Wp _ _ (FB_jobs_from (F_jobs_from k) [some d, none, none] S)
    unfold FB_jobs_from
    by_cases hw : ∃ x, t = .w x
    · obtain ⟨x, rfl⟩ := hw
      have e := dn_w h
      subst e
      have e : speltP (T.w x).p = true := ok
      simp [sp, e]
      exact ⟨by decide, _, rfl, Nat.le_refl _, Fr.new, Hs.get_new _ _⟩
    · have hw : ∀ x, t ≠ .w x := fun x e => hw ⟨x, e⟩
      have e : speltP t.p = false := by
        cases t with
        | w x => exact absurd rfl (hw x)
        | _ => rfl
      have hs := lv_kids hw
      have hlv : (T.lvs (kids t)).length ≤ 1000 := Nat.le_trans (lvs_le _) (Nat.le_trans (szs_kids t) hz)
      simp [sp, e]
      refine ⟨nx, o_comp (o_iterL ?_)⟩
      rw [o_own1 rfl nx]
      refine (parts_pur h hk ok).mono fun x S1 ⟨f1, n, ds, ex, g, l, m, r⟩ => ?_
      subst ex
      refine ⟨n, ds, rfl, g, ds, fun i s => Fr No S1 s ∧ S1.n < s.n ∧ ∃ ks, s.get S1.n = some (.set ks) ∧ ks.Nodup ∧ ks.length ≤ (T.lvs ((kids t).take i)).length ∧ ∀ x, x ∈ ks ↔ x ∈ T.lvs ((kids t).take i), by rw [size_lst g]; exact Nat.le_refl _, ⟨Fr.new, Nat.lt_succ_self _, [], Hs.get_new _ _, List.nodup_nil, Nat.zero_le _, fun x => Iff.rfl⟩, fun i s d ⟨fr, hn, ks, gs, nd, lk, mem⟩ hd => ?_, fun s ⟨fr, hn, ks, gs, nd, lk, mem⟩ => ?_⟩
      · refine ⟨by rw [next_lst (fr.at_ _ _ id g), hd], [(1, d)], rfl, ?_⟩
        obtain ⟨u, hu⟩ := there l.symm hd
        have um := List.mem_of_getElem? hu
        have dn := (r i d u hd hu).fr fr.any
        have hlt : (T.lvs ((kids t).take (i + 1))).length ≤ 1000 := Nat.le_trans (lvs_pre _ _) hlv
        rw [lvs_take hu, List.length_append] at hlt
        refine o_in (o_iterL ?_)
        rw [o_own1 rfl dn.noX]
        have kpos : 0 < k := by
          cases k with
          | zero =>
            cases t with
            | w x => cases um
            | pl => cases um
            | ag t => obtain ⟨_, _, e, _⟩ := dn_ag h; cases e
            | row ts => obtain ⟨_, _, _, e, _⟩ := dn_row h; cases e
          | succ k => exact Nat.succ_pos _
        obtain ⟨k', rfl⟩ : ∃ k', k = k' + 1 := ⟨k - 1, by omega⟩
        refine (pur_jb (t := u) fun S' hS => jobs_ok k' (by omega) (dn.at_ (ds := [d]) fr1 hS) (ok_kids ok um) (Nat.le_trans (sz_kids um) hz)).mono fun x s1 ⟨m', ex, hm', f2, g2⟩ => ?_
        subst ex
        have fr1' := fr.trans f2
        refine ⟨m', _, rfl, g2, (canon u.lv).map D.str, fun j s' => Fr No S1 s' ∧ S1.n < s'.n ∧ s'.get m' = some (.lst ((canon u.lv).map D.str)) ∧ ∃ ks', s'.get S1.n = some (.set ks') ∧ ks'.Nodup ∧ ks'.length ≤ ks.length + j ∧ ∀ x, x ∈ ks' ↔ x ∈ ks ∨ x ∈ (canon u.lv).take j, by rw [size_lst g2]; exact Nat.le_refl _, ⟨fr1', Nat.lt_of_lt_of_le hn f2.n, g2, ks, f2.at_ _ _ id gs, nd, Nat.le_refl _, fun x => by simp⟩, fun j s' d' ⟨fr', hn', g3, ks', gs', nd', lk', mem'⟩ hd' => ?_, fun s' ⟨fr', hn', g3, ks', gs', nd', lk', mem'⟩ => ?_⟩
        · rw [List.getElem?_map] at hd'
          cases hx : (canon u.lv)[j]? with
          | none => rw [hx] at hd'; cases hd'
          | some x =>
            rw [hx] at hd'
            cases hd'
            refine ⟨by rw [next_lst g3, List.getElem?_map, hx]; rfl, [(2, .str x)], rfl, ?_⟩
            have hj : j < (canon u.lv).length := (List.getElem?_eq_some_iff.mp hx).1
            have := canon_len u.lv
            refine Ok.of (mAdd_ok (x := x) rfl gs' (by omega)) ⟨fr'.put_new gs' (Nat.le_refl _), hn', ?_, addT ks' x, Hs.get_put gs', nd_addT nd', ?_, fun y => ?_⟩
            · rw [Hs.get_put_ne hn' (by omega)]
              exact g3
            · have := addT_len ks' x
              omega
            · rw [mem_addT, mem' y, List.take_add_one, hx, List.mem_append]
              simp [or_assoc]
        · refine ⟨by rw [next_lst g3, List.getElem?_eq_none (Nat.le_refl _)], fr', hn', ks', gs', nd', ?_, fun x => ?_⟩
          · have := canon_len u.lv
            rw [List.length_map] at lk'
            rw [lvs_take hu, List.length_append]
            omega
          · rw [mem' x, mem x, lvs_take hu, List.mem_append, List.length_map, List.take_length, canon_mem]
      · refine ⟨by rw [next_lst (fr.at_ _ _ id g), List.getElem?_eq_none (Nat.le_refl _)], ?_⟩
        rw [sortF_set gs]
        refine ⟨s.n, rfl, Nat.le_trans f1.n fr.n, (f1.trans fr).trans Fr.new, ?_⟩
        rw [Hs.get_new, canon_of nd fun x => (mem x).trans (by rw [l, List.take_length]), ← hs]
theorem jobs_in_ok {t : T} (h : Dn q S k d t.p) (hk : k ≤ 15) (hd : t.dp ≤ 15) (ok : t.ok = true) (hz : t.sz ≤ 1000) : Ok (fun x s => Jb t x S s) (pur F_jobs_in [d] S) := pur_jb fun S' hS => by
  have h' := h.at_ (ds := [d]) fr1 hS
  refine o_run rfl ?_
  show Wp _ _ (FB_jobs_in [some d] S')
  unfold FB_jobs_in
  simp [h'.noX]
  refine (check_pur h' hk (by rw [wd_t true ok hd]; rfl)).mono fun x s ⟨e, f⟩ => ?_
  refine (pur_jb fun S2 hS2 => jobs_ok 15 (by omega) (((h'.fr f.any).up hk).at_ (ds := [d]) fr1 hS2) ok hz).mono fun x s2 ⟨m, e, hm, f2, g⟩ => ⟨m, e, Nat.le_trans f.n hm, f.trans f2, g⟩
end
end K57

/-! PP14: the nesting, by the program and by the law; the law's leaves. -/
namespace K57
open PySem MR
section
variable {q q' : Nat → Prop} {S S' s : Hs} {k n : Nat} {d : D} {p : PyData} {pl : Bool}
theorem mapO_its {ts : List T} : ∀ {zs : List D}, zs.length = ts.length → (∀ (m : Nat) y, zs[m]? = some y → ∃ t, ts[m]? = some t ∧ y = .int t.ns) → mapO intOf zs = some (ts.map T.ns) := by
  induction ts with
  | nil =>
    intro zs h _
    cases zs with
    | nil => rfl
    | cons _ _ => cases h
  | cons t ts ih =>
    intro zs h r
    cases zs with
    | nil => cases h
    | cons z zs =>
      obtain ⟨t', e, hz⟩ := r 0 z rfl
      cases e
      subst hz
      rw [mapO, ih (Nat.succ.inj h) fun m y hy => r (m + 1) y hy]
      rfl
theorem pur_int {F : Fn} {ds : List D} {i : Int} (h : ∀ S', (frees ds = false → S' = S) → Ok (fun x s => x = .int i ∧ Fr No S' s) (F ds S')) : Ok (fun x s => x = .int i ∧ Fr No S s) (pur F ds S) := pur_any rfl h
theorem kid_pos {t u : T} (h : Dn q S k d t.p) (um : u ∈ kids t) : ∃ j, k = j + 1 := by
  cases k with
  | succ k => exact ⟨k, rfl⟩
  | zero =>
    cases t with
    | w x => cases um
    | pl => cases um
    | ag t => obtain ⟨_, _, e, _⟩ := dn_ag h; cases e
    | row ts => obtain ⟨_, _, _, e, _⟩ := dn_row h; cases e
/-- the first of it is "again" or not -/
def isAg : T → Bool
  | .ag _ => true
  | _ => false
theorem head_ok {t : T} (h : Dn q S k d t.p) (ok : t.ok = true) : ∃ x, ixD d (.int 0) S = .ok x S ∧ eqD x (.str "again") S = .ok (.bl (isAg t)) S := by
  cases t with
  | w z =>
    have e := dn_w h
    subst e
    have hz : speltB z = true := ok
    obtain ⟨h0, h9, hl⟩ := spelt_at hz
    have hc : z.cps.toList[0]? = some (z.cps.toList[0]'(by rw [Array.length_toList]; exact h0)) := List.getElem?_eq_getElem _
    refine ⟨_, ix_str (i := 0) (fit_spelt hz).2 hc, ?_⟩
    have hlet := hl _ (List.mem_of_getElem? hc)
    rw [eq_str (fit_spelt (one_spelt hlet)) fit_again, decide_eq_false fun e => ?_]
    · rfl
    · have := congrArg (fun x : Str => x.cps.size) e
      exact absurd (show (1 : Nat) = 5 from this) (by decide)
  | pl =>
    have e := dn_pl h
    subst e
    exact ⟨.str "place", rfl, (eq_str fit_place fit_again).trans (by rw [decide_eq_false (by decide)]; rfl)⟩
  | ag t =>
    obtain ⟨d1, j, rfl, rfl, h1⟩ := dn_ag h
    exact ⟨_, ix0, s_aa⟩
  | row ts =>
    obtain ⟨n, ds, j, rfl, rfl, hq, g, l, m, r⟩ := dn_row h
    exact ⟨_, ix0, s_ra⟩
theorem ns_kids (t : T) : topI 0 ((kids t).map T.ns) + (if isAg t then 1 else 0) = t.ns := by
  cases t with
  | w x => rfl
  | pl => rfl
  | ag t =>
    have := ns_nn t
    show topI 0 [t.ns] + 1 = 1 + t.ns
    rw [topI0 this]
    show t.ns + 1 = _
    omega
  | row ts =>
    show topI 0 (ts.map T.ns) + 0 = topI 0 (T.nss ts)
    rw [nss_map]
    omega
theorem max_kids {m : Nat} {zs : List D} {ts : List T} (g : S.get m = some (.lst zs)) (h : mapO intOf zs = some (ts.map T.ns)) : maxDF [.ref m] [.int 0] S = .ok (.int (topI 0 (ts.map T.ns))) S := by
  unfold maxDF
  simp only [listOf_get g, h]
  cases ts with
  | nil => rfl
  | cons t ts =>
    show Res.ok (D.int (topI t.ns (ts.map T.ns))) S = .ok (.int (topI 0 (t.ns :: ts.map T.ns))) S
    rw [topI0 (ns_nn t)]
theorem o_callK {P : D → Hs → Prop} {f : List D → List D → Hs → Res D} {a : Ex} {z : D} {env : EnvD} : Ok P (mCallK f (mCons a mNil) (mCons (mC z) mNil) env S) = Ok (fun x s => Ok P (f [x] [z] s)) (a env S) := by
  unfold mCallK
  rw [Ok_bind, o_cons]
  rfl
theorem o_lcE {P : D → Hs → Prop} {mi : ExI} {b : Bnd} {me : Ex} {vs : List Nat} {env : EnvD} {S : Hs}
    (h : Ok (fun di S1 => ∃ (q : Nat → Prop) (items : List D) (R : Nat → D → Hs → Prop), Itm q S1 di items ∧ items.length ≤ line ∧ ¬ q S1.n ∧ (∀ i d, items[i]? = some d → ∃ us, b d = some us ∧ ∀ s, Fr q S1 s → S1.n < s.n → Ok (fun y s' => Fr q s s' ∧ R i y s') (me (apD (wipeD env vs) us) s)) ∧
      (∀ i y s s', Fr (fun m => q m ∨ m = S1.n) s s' → R i y s → R i y s') ∧
      ∀ s' zs, Fr q S1 s' → S1.n < s'.n → s'.get S1.n = some (.lst zs) → zs.length = items.length → (∀ m y, zs[m]? = some y → R m y s') → P (.ref S1.n) s') (mi env S)) : Ok P (mLc mi b mTrue me vs env S) := by
  unfold mLc
  rw [Ok_bind]
  refine h.mono fun di S1 ⟨q, items, R, I, hl, hq, body, stab, fin⟩ => ?_
  have hz := I.size
  exact (lcL_ok I hl body hq stab items.length 0 _ (S1.new (.lst [])) [] (by omega) (by omega) Fr.new (Nat.lt_succ_self _) (Hs.get_new _ _) rfl fun m y e => by simp at e).mono fun d s' ⟨e, fr, zs, g, l, r⟩ => by
    subst e
    exact fin s' zs fr (Hs.get_lt g) g l r
theorem nesting_ok : ∀ (k : Nat) {d : D} {t : T} {q : Nat → Prop} {S : Hs}, k ≤ 30 → Dn q S k d t.p → t.ok = true → Ok (fun x s => x = .int t.ns ∧ Fr No S s) (F_nesting_from (k + 1) [d] S)
  | k, d, t, q, S, hk, h, ok => by
    have nx := h.noX
    show Ok _ (runB 1 3 (FB_nesting_from (F_nesting_from k)) [d] S)
    refine o_run rfl ?_
    show Wp _ _ (FB_nesting_from (F_nesting_from k) [some d, none, none] S)
    unfold FB_nesting_from
    rw [Wp_seq, Wp_set, o_callK]
    refine o_lcE (o_iterL ?_)
    rw [o_own1 rfl nx]
    refine (parts_pur h hk ok).mono fun x S1 ⟨f1, n, ds, ex, g, l, m, r⟩ => ?_
    subst ex
    refine ⟨n, ds, rfl, g, No, ds, fun i y _ => ∃ u, (kids t)[i]? = some u ∧ y = .int u.ns, itm_lst g id, Nat.le_of_lt m, id, fun i d hd => ⟨[(2, d)], rfl, fun s fr hn => ?_⟩, fun _ _ _ _ _ z => z, fun s' zs fr hn g2 l2 hz => ?_⟩
    · obtain ⟨u, hu⟩ := there l.symm hd
      have um := List.mem_of_getElem? hu
      have dn := (r i d u hd hu).fr fr.any
      obtain ⟨k', rfl⟩ := kid_pos h um
      rw [o_own1 rfl dn.noX]
      exact (pur_int fun S' hS => nesting_ok k' (by omega) (dn.at_ (ds := [d]) fr1 hS) (ok_kids ok um)).mono fun y s' ⟨e, f⟩ => ⟨f, u, hu, e⟩
    · have fa := f1.trans fr
      obtain ⟨x, e1, e2⟩ := head_ok (h.fr fa.any) ok
      rw [max_kids g2 (mapO_its (l2.trans l) hz)]
      simp [nx, e1, e2, addD]
      cases e : isAg t with
      | true =>
        have := ns_kids t
        rw [e] at this
        simp at this
        simp [intF, addD, this]
        exact fa
      | false =>
        have := ns_kids t
        rw [e] at this
        simp at this
        simp [intF, addD, this]
        exact fa
theorem nesting_pur {t : T} (h : Dn q S k d t.p) (hk : k ≤ 15) (hd : t.dp ≤ 15) (ok : t.ok = true) : Ok (fun x s => x = .int t.ns ∧ Fr No S s) (pur F_nesting [d] S) := pur_int fun S' hS => by
  have h' := h.at_ (ds := [d]) fr1 hS
  refine o_run rfl ?_
  show Wp _ _ (FB_nesting [some d] S')
  unfold FB_nesting
  simp [h'.noX]
  refine (check_pur h' hk (by rw [wd_t true ok hd]; rfl)).mono fun x s ⟨e, f⟩ => ?_
  exact (pur_int fun S2 hS2 => nesting_ok 15 (by omega) (((h'.fr f.any).up hk).at_ (ds := [d]) fr1 hS2) ok).mono fun x s2 ⟨e, f2⟩ => ⟨e, f.trans f2⟩
end
end K57

/-! PP15: the law's own putting in, leaves, nesting; what is spoilt. -/
namespace K57
open PySem MR
section
variable {q q' : Nat → Prop} {S S' s : Hs} {k n : Nat} {d : D} {p : PyData} {pl : Bool}
theorem tight0 : ∀ (t : T) (q : Nat → Prop) (S : Hs) (k : Nat) (d : D), Dn q S k d t.p → Dn q S t.dp d t.p := T.ind (fun x q S k d h => by cases h with | str h => exact .str h) (fun q S k d h => by
    have e := dn_pl h
    subst e
    exact place_dn) (fun t ih q S k d h => by
    obtain ⟨d1, j, rfl, rfl, h1⟩ := dn_ag h
    exact mk_ag (ih q S _ d1 h1)) fun ts ih q S k d h => by
    obtain ⟨n, ds, j, rfl, rfl, hq, g, l, m, r⟩ := dn_row h
    exact mk_row hq g l m fun i d t h1 h2 => (ih t (List.mem_of_getElem? h2) q S _ d (r i d t h1 h2)).up (dps_ge (List.mem_of_getElem? h2))
theorem tight (t : T) (h : Dn q S k d t.p) : Dn q S t.dp d t.p := tight0 t q S k d h
theorem no_ref {t : T} (h : Dn q S k (.ref n) t.p) : False := by
  cases t with
  | w x => cases h
  | pl => cases h
  | ag t => cases h
  | row ts => cases h
def Pl (t : T) (x : D) (S s : Hs) : Prop := Fr No S s ∧ Dn (· < S.n) s t.dp x t.p
theorem pur_pl {F : Fn} {ds : List D} {t : T} (h : ∀ S', (frees ds = false → S' = S) → Ok (fun x s => Pl t x S' s) (F ds S')) : Ok (fun x s => Pl t x S s) (pur F ds S) := pur_gen h
  (fun x s _ fx ⟨_, h⟩ => ⟨Fr.refl, h.free fx⟩) fun n s xs _ ⟨_, h⟩ => (no_ref h).elim
theorem same16 {e : T} {de : D} {k2 : Nat} (he : Dn q S k2 de e.p) (hk : k2 ≤ 15) : Ok (fun x s => Pl e x S s) (pur (F__law_same 16) [de] S) := (same_pur (same_ok 15) (he.up hk)).mono fun x s ⟨f, dn, _⟩ => ⟨f, tight e dn⟩
theorem put_law {e : T} {de : D} {k2 : Nat} (hk2 : k2 ≤ 15) : ∀ (k : Nat) {d : D} {t : T} {q q' : Nat → Prop} {S : Hs}, k ≤ 30 → Dn q S k d t.p → Dn q' S k2 de e.p → Ok (fun x s => Pl (t.put e) x S s) (F__law_put (k + 1) [d, de] S)
  | k, d, t, q, q', S, hk, h, he => by
    have nx := h.noX
    have nx2 := he.noX
    have epl := eq_pl h (by omega)
    have i1 := h.isi (b := "str") (by simp)
    show Ok _ (runB 2 3 (FB__law_put (F__law_put k)) [d, de] S)
    refine o_run rfl ?_
    show Wp _ _ (FB__law_put (F__law_put k) [some d, some de, none] S)
    unfold FB__law_put
    have one : (1 : Nat) ≤ line := by decide
    cases t with
    | w x =>
      have e := dn_w h
      subst e
      simp [epl, isPl, i1, one, T.p, tyOf]
      exact ⟨Fr.refl, by cases h with | str h => exact .str h⟩
    | pl =>
      have e := dn_pl h
      subst e
      simp [epl, isPl, nx2, one]
      exact same16 he hk2
    | ag t =>
      obtain ⟨d1, j, rfl, rfl, h1⟩ := dn_ag h
      simp [two_line, epl, isPl, nx2, i1, T.p, tyOf, one]
      exact (pur_pl fun S' hS => put_law hk2 j (by omega) (h1.at_ (ds := [d1, de]) (fun z => (fr2 z).1) hS) (he.at_ (ds := [d1, de]) (fun z => (fr2 z).2) hS)).mono fun x s ⟨f, dn⟩ => ⟨f, mk_ag dn⟩
    | row ts =>
      obtain ⟨n, ds, j, rfl, rfl, hq, g, l, m, r⟩ := dn_row h
      have ep : ∀ {i : Nat} {t : T}, ts[i]? = some t → (T.puts ts e)[i]? = some (t.put e) := fun {i t} h => by rw [puts_map, List.getElem?_map, h]; rfl
      have lp : (T.puts ts e).length = ts.length := by rw [puts_map, List.length_map]
      simp [two_line, epl, isPl, i1, T.p, tyOf, one]
      refine o_lc No ds (fun S1 i y s => ∃ t, (T.puts ts e)[i]? = some t ∧ Dn (· < S1.n + 1) s t.dp y t.p) ?_
      rw [iter_ixl (n := n) (s := S) (by simp [mOp2, mV, mC, Res.bind, noX]) g]
      refine ⟨itm_lst g id, Nat.le_of_lt m, id, fun i d hd => ⟨[(2, d)], rfl, fun s fr hn => ?_⟩, fun i y s s' f ⟨t, ht, z⟩ => ⟨t, ht, z.fr (f.mono fun n hn => hn.elim (fun z => z.elim) fun z => by omega)⟩, fun s' zs fr hn g2 l2 hz => ?_⟩
      · obtain ⟨t, ht⟩ := there l.symm hd
        have dn := (((r i d t hd ht).fr fr.any).up (Nat.le_succ j))
        have de' := he.fr fr.any
        simp [dn.noX, nx2]
        exact (pur_pl fun S' hS => put_law hk2 (j + 1) (by omega) (dn.at_ (ds := [d, de]) (fun z => (fr2 z).1) hS) (de'.at_ (ds := [d, de]) (fun z => (fr2 z).2) hS)).mono fun y s' ⟨f, dn⟩ => ⟨f, _, ep ht, dn.weak fun n hn => by omega⟩
      · have ll : ds.length = (T.puts ts e).length := l.trans lp.symm
        refine ⟨fr, mk_row (Nat.lt_irrefl _) g2 (l2.trans ll) (by omega) fun i d t h1 h2 => ?_⟩
        obtain ⟨t', e, z⟩ := hz i d h1
        rw [h2] at e
        cases e
        exact (z.weak fun n hn => by omega).up (dps_ge (List.mem_of_getElem? h2))
theorem put16 {t e : T} {de : D} {k2 : Nat} (h : Dn q S k d t.p) (he : Dn q' S k2 de e.p) (hk : k ≤ 15) (hk2 : k2 ≤ 15) : Ok (fun x s => Pl (t.put e) x S s) (pur (F__law_put 16) [d, de] S) :=
  pur_pl fun S' hS => put_law hk2 15 (by omega) ((h.up hk).at_ (ds := [d, de]) (fun z => (fr2 z).1) hS) (he.at_ (ds := [d, de]) (fun z => (fr2 z).2) hS)
/-! ### leaves -/
def Lv (t : T) (x : D) (S s : Hs) : Prop := ∃ m, x = .ref m ∧ S.n ≤ m ∧ Fr No S s ∧ s.get m = some (.lst (t.lv.map D.str))
theorem pur_lv {F : Fn} {ds : List D} {t : T} (h : ∀ S', (frees ds = false → S' = S) → Ok (fun x s => Lv t x S' s) (F ds S')) : Ok (fun x s => Lv t x S s) (pur F ds S) := pur_gen h
  (fun x s _ fx ⟨_, e, _⟩ => by subst e; cases fx) fun n s xs _ ⟨m, e, _, _, g⟩ gx fx => by
    cases e
    rw [g] at gx
    cases gx
    exact ⟨_, rfl, Nat.le_refl _, Fr.new, Hs.get_new _ _⟩
theorem add_lst {a b : Nat} {xs ys : List D} (g : S.get a = some (.lst xs)) (g' : S.get b = some (.lst ys)) (h : xs.length + ys.length ≤ line) : addD (.ref a) (.ref b) S = .ok (.ref S.n) (S.new (.lst (xs ++ ys))) := by
  unfold addD
  simp only [g, g', h, if_true]
theorem big_line : (1000000 : Nat) ≤ line := by decide
/-- the parts that the law walks over -/
def lvI : Ex := mIf (mOp2 eqD (mOp2 ixD (mV 0) (mC (.int 0))) (mC (.str "row"))) (mOp2 ixD (mV 0) (mC (.int 1))) (mLst (mCons (mOp2 ixD (mV 0) (mC (.int 1))) (mNil)))
theorem lvI_ok {t : T} {o1 o2 : Option D} (h : Dn q S k d t.p) (h1 : ∀ x, t ≠ .w x) (h2 : t ≠ .pl) : Ok (fun x s => Fr No S s ∧ ∃ n ds, x = .ref n ∧ s.get n = some (.lst ds) ∧ ds.length = (kids t).length ∧ ds.length < line ∧ ∀ (i : Nat) d u, ds[i]? = some d → (kids t)[i]? = some u → Dn q s (k - 1) d u.p) (lvI [some d, o1, o2] S) := by
  unfold lvI
  cases t with
  | w x => exact absurd rfl (h1 x)
  | pl => exact absurd rfl h2
  | ag t =>
    obtain ⟨d1, j, rfl, rfl, h1⟩ := dn_ag h
    simp
    refine ⟨by decide, Fr.new, [d1], Hs.get_new _ _, rfl, (show 1 < line by decide), fun i d u h2 h3 => ?_⟩
    match i with
    | 0 => cases h2; cases h3; exact h1.fr Fr.new
    | i + 1 => simp at h2
  | row ts =>
    obtain ⟨n, ds, j, rfl, rfl, hq, g, l, m, r⟩ := dn_row h
    simp
    exact ⟨Fr.refl, ds, g, l, m, fun i d u h2 h3 => (r i d u h2 h3).up (by omega)⟩
theorem leaves_ok : ∀ (k : Nat) {d : D} {t : T} {q : Nat → Prop} {S : Hs}, k ≤ 30 → Dn q S k d t.p → t.sz ≤ 100000 → Ok (fun x s => Lv t x S s) (F__law_leaves (k + 1) [d] S)
  | k, d, t, q, S, hk, h, hz => by
    have nx := h.noX
    have epl := eq_pl h (by omega)
    have i1 := h.isi (b := "str") (by simp)
    have one : (1 : Nat) ≤ line := by decide
    show Ok _ (runB 1 3 (FB__law_leaves (F__law_leaves k)) [d] S)
    refine o_run rfl ?_
    show Wp _ _ (FB__law_leaves (F__law_leaves k) [some d, none, none] S)
    unfold FB__law_leaves
    by_cases hw : ∃ x, t = .w x
    · obtain ⟨x, rfl⟩ := hw
      have e := dn_w h
      subst e
      simp [i1, T.p, tyOf, one]
      exact ⟨_, rfl, Nat.le_refl _, Fr.new, Hs.get_new _ _⟩
    by_cases hpl : t = .pl
    · subst hpl
      have e := dn_pl h
      subst e
      simp [i1, T.p, tyOf, one, epl, isPl]
      exact ⟨_, rfl, Nat.le_refl _, Fr.new, Hs.get_new _ _⟩
    have hw : ∀ x, t ≠ .w x := fun x e => hw ⟨x, e⟩
    have e1 : isPl t = false := by
      cases t with
      | pl => exact absurd rfl hpl
      | _ => rfl
    have e2 : (tyOf t.p == "str") = false := by
      cases t with
      | w x => exact absurd rfl (hw x)
      | _ => rfl
    rw [e1] at epl
    rw [e2] at i1
    have hlv : (T.lvs (kids t)).length ≤ 100000 := Nat.le_trans (lvs_le _) (Nat.le_trans (szs_kids t) hz)
    simp [i1, epl, one, nx]
    refine w_forE (o_iterL ?_)
    refine (lvI_ok (q := q) (k := k) (h.fr (Fr.new (q := q))) hw hpl).mono fun x S1 ⟨f1, n, ds, ex, g, l, m, r⟩ => ?_
    subst ex
    have fS : Fr No S S1 := Fr.new.trans f1
    refine ⟨n, ds, rfl, g, ds, fun i e s => Fr No S1 s ∧ ∃ a o, e = [some d, some (.ref a), o] ∧ S.n ≤ a ∧ s.get a = some (.lst ((T.lvs ((kids t).take i)).map D.str)), by rw [size_lst g]; exact Nat.le_refl _, ⟨Fr.refl, S.n, none, rfl, Nat.le_refl _, f1.at_ _ _ id (Hs.get_new _ _)⟩, fun i e s d' ⟨fr, a, o, he, ha, ga⟩ hd => ?_, fun e s ⟨fr, a, o, he, ha, ga⟩ => ?_⟩
    · subst he
      refine ⟨by rw [next_lst (fr.at_ _ _ id g), hd], [(2, d')], rfl, ?_⟩
      obtain ⟨u, hu⟩ := there l.symm hd
      have um := List.mem_of_getElem? hu
      have dn := (r i d' u hd hu).fr fr.any
      obtain ⟨k', rfl⟩ := kid_pos h um
      have hlt := Nat.le_trans (lvs_pre (kids t) (i + 1)) hlv
      rw [lvs_take hu, List.length_append] at hlt
      simp [dn.noX, apD]
      refine (pur_lv (t := u) fun S' hS => leaves_ok k' (by omega) (dn.at_ (ds := [d']) fr1 hS) (Nat.le_trans (sz_kids um) hz)).mono fun x s1 ⟨m', ex, hm', f2, g2⟩ => ?_
      subst ex
      rw [add_lst (f2.at_ _ _ id ga) g2 (by rw [List.length_map, List.length_map]; have := big_line; omega)]
      exact ⟨(fr.trans f2).trans Fr.new, s1.n, rfl, Nat.le_trans fS.n (Nat.le_trans fr.n f2.n), by rw [Hs.get_new, lvs_take hu, List.map_append]⟩
    · subst he
      refine ⟨by rw [next_lst (fr.at_ _ _ id g), List.getElem?_eq_none (Nat.le_refl _)], ?_⟩
      simp
      refine ⟨a, rfl, ha, fS.trans fr, ?_⟩
      rw [ga, l, List.take_length, ← lv_kids hw]
theorem leaves16 {t : T} (h : Dn q S k d t.p) (hk : k ≤ 15) (hz : t.sz ≤ 100000) : Ok (fun x s => Lv t x S s) (pur (F__law_leaves 16) [d] S) := pur_lv fun S' hS => leaves_ok 15 (by omega) ((h.up hk).at_ (ds := [d]) fr1 hS) hz
/-! ### nesting -/
theorem nest_ok : ∀ (k : Nat) {d : D} {t : T} {q : Nat → Prop} {S : Hs}, k ≤ 30 → Dn q S k d t.p → t.sz ≤ 100000 → Ok (fun x s => x = .int t.ns ∧ Fr No S s) (F__law_nest (k + 1) [d] S)
  | k, d, t, q, S, hk, h, hz => by
    have nx := h.noX
    have epl := eq_pl h (by omega)
    have i1 := h.isi (b := "str") (by simp)
    have one : (1 : Nat) ≤ line := by decide
    show Ok _ (runB 1 2 (FB__law_nest (F__law_nest k)) [d] S)
    refine o_run rfl ?_
    show Wp _ _ (FB__law_nest (F__law_nest k) [some d, none] S)
    unfold FB__law_nest
    cases t with
    | w x =>
      have e := dn_w h
      subst e
      simp [i1, T.p, tyOf, one]
      exact ⟨rfl, Fr.refl⟩
    | pl =>
      have e := dn_pl h
      subst e
      simp [i1, T.p, tyOf, one, epl, isPl]
      exact ⟨rfl, Fr.refl⟩
    | ag t =>
      obtain ⟨d1, j, rfl, rfl, h1⟩ := dn_ag h
      simp [i1, T.p, tyOf, one, epl, isPl]
      refine (pur_int fun S' hS => nest_ok j (by omega) (h1.at_ (ds := [d1]) fr1 hS) hz).mono fun x s ⟨e, f⟩ => ?_
      subst e
      exact ⟨rfl, f⟩
    | row ts =>
      obtain ⟨n, ds, j, rfl, rfl, hq, g, l, m, r⟩ := dn_row h
      simp [i1, T.p, tyOf, one, epl, isPl]
      have g0 : (S.new (.lst [.int 0])).get n = some (.lst ds) := Hs.get_old g
      refine o_lc No ds (fun _ i y _ => ∃ u, ts[i]? = some u ∧ y = .int u.ns) ?_
      rw [iter_ixl (n := n) (s := S.new (.lst [.int 0])) (by simp [mOp2, mV, mC, Res.bind, noX]) g0]
      refine ⟨itm_lst g0 id, Nat.le_of_lt m, id, fun i d hd => ⟨[(1, d)], rfl, fun s fr hn => ?_⟩, fun _ _ _ _ _ z => z, fun s' zs fr hn g2 l2 hz2 => ?_⟩
      · obtain ⟨u, hu⟩ := there l.symm hd
        have um := List.mem_of_getElem? hu
        have dn := ((((r i d u hd hu).fr (Fr.new (q := q))).fr fr.any).up (Nat.le_succ j))
        rw [o_own1 rfl dn.noX]
        exact (pur_int fun S' hS => nest_ok (j + 1) (by omega) (dn.at_ (ds := [d]) fr1 hS) (Nat.le_trans (sz_kids (t := .row ts) um) hz)).mono fun y s' ⟨e, f⟩ => ⟨f, u, hu, e⟩
      · have g1 : s'.get S.n = some (.lst [.int 0]) := fr.at_ _ _ id (Hs.get_new _ _)
        have hlen : ts.length ≤ 100000 := Nat.le_trans (sz_row ts).1 hz
        have hb := big_line
        rw [add_lst g1 g2 (by rw [l2, l]; simp; omega)]
        have e : mapO intOf ([.int 0] ++ zs) = some (0 :: ts.map T.ns) := by
          show mapO intOf (.int 0 :: zs) = _
          rw [mapO, mapO_its (l2.trans l) hz2]
          rfl
        have e3 : maxLF [.ref s'.n] (s'.new (.lst ([.int 0] ++ zs))) = .ok (.int (topI 0 (ts.map T.ns))) (s'.new (.lst ([.int 0] ++ zs))) := by
          unfold maxLF
          simp only [listOf_get (Hs.get_new _ _), e]
        have e4 : T.ns (.row ts) = topI 0 (ts.map T.ns) := by rw [T.ns, nss_map]
        rw [e4]
        show Ok _ (maxLF [.ref s'.n] (s'.new (.lst ([.int 0] ++ zs))))
        rw [e3]
        exact ⟨rfl, (Fr.new.trans fr).trans Fr.new⟩
theorem nest16 {t : T} (h : Dn q S k d t.p) (hk : k ≤ 15) (hz : t.sz ≤ 100000) : Ok (fun x s => x = .int t.ns ∧ Fr No S s) (pur (F__law_nest 16) [d] S) := pur_int fun S' hS => nest_ok 15 (by omega) ((h.up hk).at_ (ds := [d]) fr1 hS) hz
end
end K57

/-! PP16: what is spoilt. -/
namespace K57
open PySem MR
section
variable {q q' : Nat → Prop} {S S' s : Hs} {k n : Nat} {d : D} {p : PyData} {pl : Bool}
theorem isi_l2 {xs : List D} (g : S.get n = some (.lst xs)) : isiF [.ref n, .tup [.ty "list", .ty "tuple"]] S = .ok (.bl true) S := by
  have e : tyN (.ref n) S = some "list" := by
    unfold tyN
    simp only [g]
  have e2 := kit2 "list" (by simp)
  unfold isiF
  simp only [e, e2]
  rfl
theorem isi_l1 {xs : List D} (g : S.get n = some (.lst xs)) : isiF [.ref n, .ty "list"] S = .ok (.bl true) S := by
  have e : tyN (.ref n) S = some "list" := by
    unfold tyN
    simp only [g]
  have e2 := kits "list" (by simp) "list" (by simp)
  unfold isiF
  simp only [e, e2]
  rfl
theorem isi_t2 {xs : List D} : isiF [.tup xs, .tup [.ty "list", .ty "tuple"]] S = .ok (.bl true) S := by
  have e : tyN (.tup xs) S = some "tuple" := rfl
  have e2 := kit2 "tuple" (by simp)
  unfold isiF
  simp only [e, e2]
  rfl
theorem isi_t1 {xs : List D} : isiF [.tup xs, .ty "list"] S = .ok (.bl false) S := by
  have e : tyN (.tup xs) S = some "tuple" := rfl
  have e2 := kits "tuple" (by simp) "list" (by simp)
  unfold isiF
  simp only [e, e2]
  rfl
theorem isi_s2 {x : Str} : isiF [.str x, .tup [.ty "list", .ty "tuple"]] S = .ok (.bl false) S := by
  have e : tyN (.str x) S = some "str" := rfl
  have e2 := kit2 "str" (by simp)
  unfold isiF
  simp only [e, e2]
  rfl
theorem isi_s1 {x : Str} : isiF [.str x, .ty "list"] S = .ok (.bl false) S := by
  have e : tyN (.str x) S = some "str" := rfl
  have e2 := kits "str" (by simp) "list" (by simp)
  unfold isiF
  simp only [e, e2]
  rfl
/-- the cells of it -/
def Own2 (lo c : Nat) : Nat → Prop := fun n => lo ≤ n ∧ n < lo + c
def Spd (lo c : Nat) (x : D) (S s : Hs) : Prop := x = .non ∧ Fr (Own2 lo c) S s
theorem pur_spd {F : Fn} {ds : List D} {lo c : Nat} (h : ∀ S', (frees ds = false → S' = S) → Ok (fun x s => Spd lo c x S' s) (F ds S')) : Ok (fun x s => Spd lo c x S s) (pur F ds S) := pur_gen h
  (fun x s _ fx ⟨e, _⟩ => ⟨e, Fr.refl⟩) fun n s xs _ ⟨e, _⟩ => by cases e
theorem spoilt_str (k : Nat) {x : Str} : pur (F__law_spoilt (k + 1)) [.str x] S = .ok .non S := pur_same rfl fun S' _ => by
  show Ok _ (runB 1 2 (FB__law_spoilt (F__law_spoilt k)) [.str x] S')
  refine o_run rfl ?_
  show Wp _ _ (FB__law_spoilt (F__law_spoilt k) [some (.str x), none] S')
  unfold FB__law_spoilt
  simp [isi_s2, isi_s1, two_line]
theorem spoilt_two (k : Nat) {x : Str} {b : D} {lo c : Nat} (hb : MR.noX b = true) (h2 : Ok (fun x s' => Spd lo c x S s') (pur (F__law_spoilt (k + 1)) [b] S)) : Ok (fun x s => Spd lo c x S s) (F__law_spoilt (k + 2) [.tup [.str x, b]] S) := by
  show Ok _ (runB 1 2 (FB__law_spoilt (F__law_spoilt (k + 1))) [.tup [.str x, b]] S)
  refine o_run rfl ?_
  show Wp _ _ (FB__law_spoilt (F__law_spoilt (k + 1)) [some (.tup [.str x, b]), none] S)
  unfold FB__law_spoilt
  simp [isi_t2, two_line]
  refine w_forE ?_
  rw [iter_tup rfl]
  refine ⟨[.str x, b], fun i e s => ∃ o, e = [some (.tup [.str x, b]), o] ∧ Fr (Own2 lo c) S s ∧ (i < 2 → s = S), Nat.le_refl _, ⟨none, rfl, Fr.refl, fun _ => rfl⟩, fun i e s d ⟨o, he, fr, h0⟩ hd => ?_, fun e s ⟨o, he, fr, _⟩ => ?_⟩
  · subst he
    match i with
    | 0 =>
      have := h0 (by omega)
      subst this
      cases hd
      refine ⟨rfl, [(1, .str x)], rfl, ?_⟩
      simp [apD, spoilt_str]
      exact Fr.refl
    | 1 =>
      have := h0 (by omega)
      subst this
      cases hd
      refine ⟨rfl, [(1, b)], rfl, ?_⟩
      simp [apD, hb]
      exact h2.mono fun x s' hx => hx.2
    | i + 2 => simp at hd
  · subst he
    refine ⟨rfl, ?_⟩
    simp [isi_t1]
    exact ⟨rfl, fr⟩
theorem Iv.noX {lo : Nat} {t : T} (h : Iv S lo d t) : MR.noX d = true := by cases h <;> rfl
theorem spoilt_lst (k : Nat) {ds : List D} {ts : List T} {lo : Nat} (g : S.get lo = some (.lst ds)) (l : ds.length = ts.length) (m : ds.length < line) (r : ∀ (i : Nat) d t, ds[i]? = some d → ts[i]? = some t → Iv S (lo + 1 + T.cls (ts.take i)) d t)
    (IH : ∀ {d t lo S}, t ∈ ts → Iv S lo d t → Ok (fun x s => Spd lo t.cl x S s) (pur (F__law_spoilt k) [d] S)) : Ok (fun x s => Spd lo (T.cls ts + 1) x S s) (F__law_spoilt (k + 1) [.ref lo] S) := by
  show Ok _ (runB 1 2 (FB__law_spoilt (F__law_spoilt k)) [.ref lo] S)
  refine o_run rfl ?_
  show Wp _ _ (FB__law_spoilt (F__law_spoilt k) [some (.ref lo), none] S)
  unfold FB__law_spoilt
  simp [isi_l2 g, two_line]
  refine w_forE ?_
  rw [iter_lst rfl g]
  have keep : ∀ {i : Nat} {s : Hs}, Fr (Own2 (lo + 1) (T.cls (ts.take i))) S s → s.get lo = some (.lst ds) := fun fr => fr.at_ _ _ (fun z => by have := z.1; omega) g
  refine ⟨ds, fun i e s => ∃ o, e = [some (.ref lo), o] ∧ Fr (Own2 (lo + 1) (T.cls (ts.take i))) S s, by rw [size_lst g]; exact Nat.le_refl _, ⟨none, rfl, Fr.refl⟩, fun i e s d ⟨o, he, fr⟩ hd => ?_, fun e s ⟨o, he, fr⟩ => ?_⟩
  · subst he
    obtain ⟨t, ht⟩ := there l.symm hd
    have iv := r i d t hd ht
    refine ⟨by rw [next_lst (keep fr), hd], [(1, d)], rfl, ?_⟩
    simp [apD, iv.noX]
    have iv' : Iv s (lo + 1 + T.cls (ts.take i)) d t := iv.fr fr fun m hm => .inl (by have := hm.2; omega)
    refine (IH (List.mem_of_getElem? ht) iv').mono fun x s' hx => ?_
    rw [cls_take ht]
    refine (fr.mono fun n hn => ?_).trans (hx.2.mono fun n hn => ?_)
    · have h1 := hn.1
      have h2 := hn.2
      exact ⟨h1, by omega⟩
    · have h1 := hn.1
      have h2 := hn.2
      exact ⟨by omega, by omega⟩
  · subst he
    have g' := keep fr
    refine ⟨by rw [next_lst g', List.getElem?_eq_none (Nat.le_refl _)], ?_⟩
    rw [l, List.take_length] at fr
    simp [isi_l1 g', tyD_lst g', app_lst g' m]
    refine ⟨rfl, (fr.mono fun n hn => ?_).trans (Fr.put g' ?_)⟩
    · have h1 := hn.1
      have h2 := hn.2
      exact ⟨by omega, by omega⟩
    · exact ⟨Nat.le_refl _, by omega⟩
theorem spoilt_ok : ∀ (k : Nat) {t : T} {d : D} {lo : Nat} {S : Hs}, t.dp ≤ k → Iv S lo d t → Ok (fun x s => Spd lo t.cl x S s) (pur (F__law_spoilt (k + 1)) [d] S)
  | k, t, d, lo, S, hk, h => by
    cases h with
    | @w lo x h =>
      rw [spoilt_str]
      exact ⟨rfl, Fr.refl⟩
    | @ag lo d t h =>
      obtain ⟨j, rfl⟩ : ∃ j, k = j + 1 := ⟨k - 1, by rw [T.dp] at hk; omega⟩
      refine pur_spd fun S' hS => spoilt_two j h.noX (spoilt_ok (t := t) j (by rw [T.dp] at hk; omega) ?_)
      cases hf : frees [D.tup [.str "again", d]] with
      | false => rw [hS hf]; exact h
      | true => exact (h.flat (frees_get (xs := [.str "again", d]) (i := 1) (fr1 hf) rfl)).2 _ _
    | @row lo ds ts g l m r =>
      obtain ⟨j, rfl⟩ : ∃ j, k = j + 2 := ⟨k - 2, by rw [T.dp] at hk; omega⟩
      rw [T.dp] at hk
      rw [pur_raw rfl]
      refine spoilt_two (j + 1) rfl ?_
      rw [pur_raw rfl]
      exact spoilt_lst (j + 1) g l m r fun ht iv => spoilt_ok j (by have := dps_ge ht; omega) iv
end
end K57

/-! PP17: the expressions that are drawn. -/
namespace K57
open PySem MR
open K57D (Pu)
section
variable {q q' : Nat → Prop} {S S' s : Hs} {k n p w : Nat} {d : D} {c0 : Int}
theorem lt_ii {a b : Int} : ltD (.int a) (.int b) S = .ok (.bl (decide (a < b))) S := rfl
theorem gt_ii {a b : Int} : gtD (.int a) (.int b) S = .ok (.bl (decide (a > b))) S := rfl
theorem sub_ii {a b : Int} : subD (.int a) (.int b) S = .ok (.int (a - b)) S := rfl
theorem add_ii {a b : Int} : addD (.int a) (.int b) S = .ok (.int (a + b)) S := rfl
theorem min_ii {a b : Int} : minF [.int a, .int b] S = .ok (.int (if b < a then b else a)) S := rfl
theorem max_ii {a b : Int} : maxF [.int a, .int b] S = .ok (.int (if b > a then b else a)) S := rfl
theorem fdiv_nn {a b : Nat} (hb : 0 < b) (h : b < 1000) : fdivD (.int (a : Int)) (.int (b : Int)) S = .ok (.int ((a / b : Nat) : Int)) S := by
  have e : (b : Int).natAbs.log2 < 9000 := by
    rw [Int.natAbs_natCast]
    have := Nat.log2_le_self b
    omega
  show (if (decide (0 < (b : Int)) && decide ((b : Int).natAbs.log2 < 9000)) = true then Res.ok (D.int ((a : Int) / (b : Int))) S else .bad) = _
  rw [decide_eq_true (by omega), decide_eq_true e]
  rfl
def co : Nat → Nat
  | 0 => 12
  | 1 => 12
  | 2 => 40
  | 3 => 60
  | _ => 100
def lev : Nat → Nat
  | 0 => 0
  | 1 => 0
  | n => n
theorem co_again : ∀ s < 5, 2 ≤ s → 12 + co (s - 1) ≤ co s := by decide
theorem lev_again : ∀ s < 5, 2 ≤ s → 1 + lev (s - 1) ≤ lev s := by decide
theorem co_row : ∀ s < 5, 2 ≤ s → ∀ m < 4, m ≤ s → 12 + m * co (s / max 2 m) ≤ co s := by decide
theorem lev_row : ∀ s < 5, 2 ≤ s → ∀ m < 4, m ≤ s → 2 + lev (s / max 2 m) ≤ lev s := by decide
theorem sz_row_le : ∀ s < 5, 2 ≤ s → ∀ m < 4, m ≤ s → max 1 (m * (s / max 2 m)) ≤ s ∧ 1 ≤ s / max 2 m ∧ s / max 2 m < s := by decide
theorem szs_le {c : Nat} : ∀ {ts : List T}, (∀ t ∈ ts, t.sz ≤ c) → T.szs ts ≤ ts.length * c
  | [], _ => by simp [T.szs]
  | t :: ts, h => by
    have h1 := h t List.mem_cons_self
    have h2 := szs_le (ts := ts) fun x hx => h x (List.mem_cons_of_mem _ hx)
    rw [T.szs, List.length_cons, Nat.succ_mul]
    omega
structure Exd (n : Nat) (t : T) : Prop where
  ok : t.ok = true
  hp : t.hp = false
  sz : t.sz ≤ n
  dp : t.dp ≤ lev n
def Dr (n : Nat) (p : Nat) (c : Int) (x : D) (S s : Hs) : Prop := ∃ t, Exd n t ∧ Dn (· < S.n) s t.dp x t.p ∧ Fr (· = p) S s ∧ Pu s p c
theorem trees_of {G : T → Prop} {A : T → D → Prop} : ∀ {zs : List D}, (∀ (i : Nat) (y : D), zs[i]? = some y → ∃ t, G t ∧ A t y) → ∃ ts : List T, zs.length = ts.length ∧ ∀ (i : Nat) y t, zs[i]? = some y → ts[i]? = some t → G t ∧ A t y
  | [], _ => ⟨[], rfl, fun i y t h => by cases h⟩
  | z :: zs, h => by
    obtain ⟨t, ht⟩ := h 0 z rfl
    obtain ⟨ts, l, r⟩ := trees_of (zs := zs) fun i y hy => h (i + 1) y hy
    refine ⟨t :: ts, by simp [l], fun i y u h1 h2 => ?_⟩
    match i with
    | 0 => cases h1; cases h2; exact ht
    | i + 1 => exact r i y u h1 h2
theorem expr_ok {js : List Str} (hj : ∀ j ∈ js, speltB j = true) (hl : 0 < js.length ∧ js.length < 100) : ∀ (k : Nat) {size : Nat} {nest c0 : Int} {S : Hs}, 1 ≤ size → size ≤ 4 → size ≤ k + 1 → Pu S p c0 → c0 + (co size : Nat) < 800000 → S.get w = some (.lst (wds js)) → w ≠ p → Ok (fun x s => Dr size p (c0 + (co size : Nat)) x S s) (F__law_expression (k + 1) [.ref p, .ref w, .int nest, .int (size : Int)] S)
  | k, size, nest, c0, S, h1, h4, hk, P, hc, gw, hw => by
    show Ok _ (runB 4 7 (FB__law_expression (F__law_expression k)) [.ref p, .ref w, .int nest, .int (size : Int)] S)
    refine o_run rfl ?_
    show Wp _ _ (FB__law_expression (F__law_expression k) [some (.ref p), some (.ref w), some (.int nest), some (.int (size : Int)), none, none, none] S)
    unfold FB__law_expression
    simp
    refine (draw_w (m := 6) P (by omega) (by decide) (by decide)).mono fun x s1 ⟨way, hx, hway, fr1, hn1, P1⟩ => ?_
    subst hx
    have leaf : ∀ {s1 : Hs} {way : Nat}, Fr (· = p) S s1 → Pu s1 p (c0 + 4) → Ok (fun x s => Dr size p (c0 + (co size : Nat)) x S s) (pur F__law_one_of [.ref p, .ref w] s1) := fun {s1 way} fr1 P1 => by
      refine (one_ok P1 (by omega) (fr1.at_ _ _ hw gw) hw (by simp [wds]; omega) (by simp [wds]; omega)).mono fun x s2 ⟨r, hr, fr2, hn2, P2⟩ => ?_
      unfold wds at hr
      rw [List.getElem?_map] at hr
      cases e : js[r]? with
      | none => rw [e] at hr; cases hr
      | some j =>
        rw [e] at hr
        cases hr
        have sj := hj j (List.mem_of_getElem? e)
        refine ⟨.w j, ⟨sj, rfl, h1, Nat.zero_le _⟩, .str (fit_spelt sj), fr1.trans fr2, P2.le ?_⟩
        have : 12 ≤ co size := by
          match size, h4 with
          | 0, _ => decide
          | 1, _ => decide
          | 2, _ => decide
          | 3, _ => decide
          | 4, _ => decide
        omega
    simp [lt_ii, eq_int]
    by_cases hs2 : (size : Int) < 2
    · simp [hs2]
      exact leaf (way := way) fr1 P1
    · have hs : 2 ≤ size := by omega
      obtain ⟨k', rfl⟩ : ∃ k', k = k' + 1 := ⟨k - 1, by omega⟩
      simp [hs2]
      have rowGo : Ok (fun d s => Ok (fun d s => Ok (fun d s => Ok (fun d s => 2 ≤ line ∧ Dr size p (c0 + (co size : Nat)) (.tup [.str "row", d]) S s) (mLc (mRange1 (mCons (mV 5) mNil)) (bName 6) mTrue (mOwn (pur (F__law_expression (k' + 1))) [] (mCons (mV 0) (mCons (mV 1) (mCons (mV 2) (mCons (mOp2 fdivD (mV 3) (mCall maxF (mCons (mC (.int 2)) (mCons (mV 5) mNil)))) mNil))))) [6] [some (.ref p), some (.ref w), some (.int nest), some (.int (size : Int)), some (.int (way : Int)), some d, none] s)) (pur F__law_draw [.ref p, d] s)) (minF [.int 4, d] s)) (addD (.int (size : Int)) (.int 1) s1) := by
        rw [add_ii, Ok_ok, min_ii, Ok_ok]
        have em : (if ((size : Int) + 1) < 4 then ((size : Int) + 1) else 4) = ((min 4 (size + 1) : Nat) : Int) := by split <;> omega
        rw [em]
        refine (draw_w (m := min 4 (size + 1)) P1 (by omega) (by omega) (by omega)).mono fun x s2 ⟨many, hx, hm, fr2, hn2, P2⟩ => ?_
        subst hx
        have hm4 : many < 4 := by omega
        have hms : many ≤ size := by omega
        have zz := sz_row_le size (by omega) hs many hm4 hms
        have z1 := zz.1
        have z2 := zz.2.1
        have z3 := zz.2.2
        have c1 := co_row size (by omega) hs many hm4 hms
        have l1 := lev_row size (by omega) hs many hm4 hms
        have fS := fr1.trans fr2
        have ec : (if (many : Int) > 2 then (many : Int) else 2) = ((max 2 many : Nat) : Int) := by split <;> omega
        generalize hE : [some (D.ref p), some (D.ref w), some (D.int nest), some (D.int (size : Int)), some (D.int (way : Int)), some (D.int (many : Int)), none] = env
        have e0 : env[0]? = some (some (.ref p)) := by rw [← hE]; rfl
        have e1 : env[1]? = some (some (.ref w)) := by rw [← hE]; rfl
        have e2 : env[2]? = some (some (.int nest)) := by rw [← hE]; rfl
        have e3 : env[3]? = some (some (.int (size : Int))) := by rw [← hE]; rfl
        have e5 : env[5]? = some (some (.int (many : Int))) := by rw [← hE]; rfl
        clear hE
        refine o_lcJ (· = p) (rngL 0 many) (fun i s => Pu s p (c0 + 12 + ((i * co (size / max 2 many) : Nat) : Int))) (fun S1 i y s => ∃ t, Exd (size / max 2 many) t ∧ Dn (· < S1.n + 1) s t.dp y t.p) ?_
        refine o_range1 ?_
        have ev : (mCons (mV 5) mNil : Exs) env s2 = .ok [.int (many : Int)] s2 := by
          unfold mCons mV
          rw [e5]
          rfl
        rw [ev]
        refine ⟨by omega, by omega, ?_⟩
        rw [Int.toNat_natCast]
        have hp := P2.lt
        have hne : ¬ s2.n = p := by omega
        refine ⟨itm_rng, by rw [rngL_len]; have := big_line; omega, hne, ?_, fun i s c0' c g hJ => hJ.put g hne, fun i d hd => ⟨[(6, d)], rfl, fun s fr hn hJ => ?_⟩, fun i y s s' f ⟨t, ht, z⟩ => ⟨t, ht, z.fr (f.mono fun n hn => ?_)⟩, fun s' zs fr hn hJ g2 l2 hz => ?_⟩
        · rw [Nat.zero_mul]
          exact (P2.fr (Fr.new (q := No)) id).le (by omega)
        · have hi : i < many := by
            have := (List.getElem?_eq_some_iff.mp hd).1
            rw [rngL_len] at this
            exact this
          simp [max_ii, ec, e0, e1, e2, e3, e5]
          rw [fdiv_nn (by omega) (by omega), Ok_ok, pur_raw rfl]
          have hco : i * co (size / max 2 many) + co (size / max 2 many) ≤ many * co (size / max 2 many) := by
            rw [← Nat.succ_mul]
            exact Nat.mul_le_mul_right _ hi
          refine (expr_ok hj hl k' (size := size / max 2 many) z2 (by omega) (by omega) hJ (by omega) (fr.at_ _ _ hw (fS.at_ _ _ hw gw)) hw).mono fun y s' ⟨t, ht, dn, f, P'⟩ => ⟨f, P'.le ?_, t, ht, dn.weak fun n hn => by omega⟩
          have e9 : ((i : Int) + 1) * ((co (size / max 2 many) : Nat) : Int) = ((i * co (size / max 2 many) : Nat) : Int) + ((co (size / max 2 many) : Nat) : Int) := by rw [Int.add_mul, Int.one_mul, Int.natCast_mul]
          rw [e9]
          omega
        · rcases hn with z | z
          · have z : n = p := z
            show n < s2.n + 1
            omega
          · show n < s2.n + 1
            omega
        · rw [rngL_len] at hJ
          rw [rngL_len] at l2
          have each : ∀ (i : Nat) (y : D), zs[i]? = some y → ∃ t, Exd (size / max 2 many) t ∧ Dn (· < s2.n + 1) s' t.dp y t.p := hz
          obtain ⟨ts, hts, hall⟩ := trees_of (A := fun t y => Dn (· < s2.n + 1) s' t.dp y t.p) each
          refine ⟨two_line, .row ts, ⟨?_, ?_, ?_, ?_⟩, ?_, fS.trans fr, hJ.le (by omega)⟩
          · rw [T.ok, oks_all]
            exact List.all_eq_true.mpr fun t ht => by
              obtain ⟨i, hi, e⟩ := List.mem_iff_getElem.mp ht
              obtain ⟨y, hy⟩ := there hts (show ts[i]? = some t by rw [List.getElem?_eq_getElem hi, e])
              exact (hall i y t hy (by rw [List.getElem?_eq_getElem hi, e])).1.ok
          · rw [T.hp, hps_any]
            cases ea : ts.any T.hp with
            | false => rfl
            | true =>
              obtain ⟨t, ht, h2⟩ := List.any_eq_true.mp ea
              obtain ⟨i, hi, e⟩ := List.mem_iff_getElem.mp ht
              obtain ⟨y, hy⟩ := there hts (show ts[i]? = some t by rw [List.getElem?_eq_getElem hi, e])
              rw [(hall i y t hy (by rw [List.getElem?_eq_getElem hi, e])).1.hp] at h2
              cases h2
          · have hs1 : T.szs ts ≤ ts.length * (size / max 2 many) := szs_le fun t ht => by
              obtain ⟨i, hi, e⟩ := List.mem_iff_getElem.mp ht
              obtain ⟨y, hy⟩ := there hts (show ts[i]? = some t by rw [List.getElem?_eq_getElem hi, e])
              exact (hall i y t hy (by rw [List.getElem?_eq_getElem hi, e])).1.sz
            rw [← hts, l2] at hs1
            rw [T.sz]
            omega
          · have hs1 : T.dps ts ≤ lev (size / max 2 many) := dps_le fun t ht => by
              obtain ⟨i, hi, e⟩ := List.mem_iff_getElem.mp ht
              obtain ⟨y, hy⟩ := there hts (show ts[i]? = some t by rw [List.getElem?_eq_getElem hi, e])
              exact (hall i y t hy (by rw [List.getElem?_eq_getElem hi, e])).1.dp
            rw [T.dp]
            omega
          · have hSn := fS.n
            refine mk_row (show ¬ (s2.n < S.n) by omega) g2 hts (by rw [l2]; have := big_line; omega) fun i y t h1 h2 => ((hall i y t h1 h2).2.weak fun n hn => by omega).up (dps_ge (List.mem_of_getElem? h2))
      by_cases hw0 : way = 0
      · rw [if_pos hw0]
        exact leaf (way := way) fr1 P1
      · rw [if_neg hw0]
        rw [gt_ii, Ok_ok, Bl_bl]
        by_cases hn0 : nest > 0
        · rw [if_pos (decide_eq_true hn0)]
          by_cases hw4 : (way : Int) < 4
          · rw [if_pos hw4]
            rw [sub_ii, Ok_ok, sub_ii, Ok_ok, pur_raw rfl]
            have e1 : (size : Int) - 1 = ((size - 1 : Nat) : Int) := by omega
            rw [e1]
            have c1 := co_again size (by omega) hs
            have l1 := lev_again size (by omega) hs
            refine (expr_ok hj hl k' (size := size - 1) (by omega) (by omega) (by omega) P1 (by omega) (fr1.at_ _ _ hw gw) hw).mono fun y s' ⟨t, ht, dn, f, P'⟩ => ⟨two_line, .ag t, ⟨ht.ok, ht.hp, Nat.le_trans ht.sz (by omega), ?_⟩, mk_ag (dn.weak fun n hn => by omega), fr1.trans f, P'.le (by omega)⟩
            have := ht.dp
            rw [T.dp]
            omega
          · rw [if_neg hw4]
            exact rowGo
        · rw [if_neg (by simpa using hn0)]
          exact rowGo
end
end K57

/-! PP18: the frames that are drawn. -/
namespace K57
open PySem MR
open K57D (Pu)
section
variable {q q' : Nat → Prop} {S S' s : Hs} {k n p w : Nat} {d : D} {c0 : Int}
theorem dn_lt {P : PyData} (h : Dn q S k d P) : Dn (fun n => q n ∨ S.n ≤ n) S k d P := by
  induction h with
  | non => exact .non
  | bl b => exact .bl b
  | int i => exact .int i
  | str h => exact .str h
  | tup l m r ih => exact .tup l m ih
  | lst hq h l m r ih => exact .lst (fun z => z.elim hq fun z => by have := Hs.get_lt h; omega) h l m ih
theorem szs_set {u t : T} : ∀ {ts : List T} {i : Nat}, ts[i]? = some t → T.szs (ts.set i u) + t.sz = T.szs ts + u.sz
  | v :: ts, 0, h => by
    cases h
    rw [List.set_cons_zero, T.szs, T.szs]
    omega
  | v :: ts, i + 1, h => by
    have := szs_set (ts := ts) (i := i) (u := u) h
    rw [List.set_cons_succ, T.szs, T.szs]
    omega
/-- like ts, but for some that are open now -/
structure Alk (ts us : List T) : Prop where
  len : us.length = ts.length
  sz : T.szs us ≤ T.szs ts
  each : ∀ u ∈ us, u.ok = true ∧ u.dp ≤ T.dps ts + 1
theorem Alk.refl {ts : List T} (h : ∀ t ∈ ts, t.ok = true) : Alk ts ts := ⟨rfl, Nat.le_refl _, fun u hu => ⟨h u hu, Nat.le_succ_of_le (dps_ge hu)⟩⟩
theorem Alk.set {ts us : List T} {i : Nat} {t u : T} (a : Alk ts us) (h : us[i]? = some t) (ok : u.ok = true) (sz : u.sz ≤ t.sz) (dp : u.dp ≤ T.dps ts + 1) : Alk ts (us.set i u) := by
  refine ⟨by rw [List.length_set]; exact a.len, ?_, fun v hv => ?_⟩
  · have := szs_set (u := u) h
    have := a.sz
    omega
  · rcases List.mem_or_eq_of_mem_set hv with h | h
    · exact a.each v h
    · rw [h]; exact ⟨ok, dp⟩
theorem Alk.row {ts us : List T} (a : Alk ts us) : (T.row us).ok = true ∧ (T.row us).sz ≤ (T.row ts).sz ∧ (T.row us).dp ≤ (T.row ts).dp + 1 := by
  refine ⟨?_, ?_, ?_⟩
  · rw [T.ok, oks_all]
    exact List.all_eq_true.mpr fun u hu => (a.each u hu).1
  · have := a.sz
    rw [T.sz, T.sz]
    omega
  · have := dps_le fun u hu => (a.each u hu).2
    rw [T.dp, T.dp]
    omega
theorem hp_set {us : List T} {i : Nat} {u : T} (hi : i < us.length) (h : u.hp = true) : (T.row (us.set i u)).hp = true := by
  rw [T.hp, hps_any]
  exact List.any_eq_true.mpr ⟨u, List.mem_iff_getElem.mpr ⟨i, by rw [List.length_set]; exact hi, by simp⟩, h⟩
theorem hp_set2 {us : List T} {i j : Nat} {u v : T} (hi : i < us.length) (h : u.hp = true) (hj : j ≠ i) : (T.row ((us.set i u).set j v)).hp = true := by
  rw [T.hp, hps_any]
  refine List.any_eq_true.mpr ⟨u, List.mem_iff_getElem.mpr ⟨i, by rw [List.length_set, List.length_set]; exact hi, ?_⟩, h⟩
  rw [List.getElem_set_ne hj]
  simp
theorem eqv_nil (ps : List PyData) : PyData.eqv (.list ps) (.list []) = ps.isEmpty := by
  cases ps with
  | nil => simp [PyData.eqv, PyData.eqvAll]
  | cons p ps => simp [PyData.eqv, PyData.eqvAll]
theorem t_nil (t : T) : PyData.eqv t.p (.list []) = false := by
  cases t with
  | w s => rfl
  | pl => rfl
  | ag t => rfl
  | row ts => rfl
theorem nil_dn (g : S.get n = some (.lst [])) : Dn No S 1 (.ref n) (.list []) := .lst id g rfl (by decide) fun i d p h => by cases h
def cp : Nat → Nat
  | 0 => 8
  | k + 1 => 8 + 2 * cp k
def Plc (q : Nat → Prop) (t : T) (p : Nat) (c : Int) (x : D) (S s : Hs) : Prop := ∃ u : T, Dn (fun n => q n ∧ n < S.n) s u.dp x u.p ∧ u.ok = true ∧ u.hp = true ∧ u.sz ≤ t.sz ∧ u.dp ≤ t.dp + 1 ∧ Fr (· = p) S s ∧ Pu s p c
/-- the place before, around -/
def bef (i n : Nat) : Nat := if i = 0 then n - 1 else i - 1
theorem bef_ix {i n : Nat} (hi : i < n) (h1 : 1 < n) : L2.ixN n ((i : Int) - 1) = some (bef i n) ∧ bef i n < n ∧ bef i n ≠ i := by
  unfold bef L2.ixN
  by_cases h : i = 0
  · subst h
    rw [if_pos rfl]
    refine ⟨?_, by omega, by omega⟩
    rw [if_neg (by omega), if_pos (by omega)]
    congr 1
    omega
  · rw [if_neg h]
    refine ⟨?_, by omega, by omega⟩
    rw [if_pos (by omega), if_pos (by omega)]
    congr 1
    omega
@[simp] theorem Wp_put {P : EnvD → Hs → Prop} {Q : D → Hs → Prop} {mo mi mv : Ex} {env : EnvD} : Wp P Q (mPut mo mi mv env S) = Ok (fun v s => Ok (fun o s => Ok (fun i s => match putD o i v s with
    | some s4 => P env s4
    | none => False) (mi env s)) (mo env s)) (mv env S) := by
  unfold mPut
  rw [Wp_toS]
  congr 1
  funext v s1
  rw [Wp_toS]
  congr 1
  funext o s2
  rw [Wp_toS]
  congr 1
  funext i s3
  cases putD o i v s3 <;> rfl
theorem ix_at {b i : Nat} {z : Int} {xs : List D} {x : D} (g : S.get b = some (.lst xs)) (e : L2.ixN xs.length z = some i) (h : xs[i]? = some x) : ixD (.ref b) (.int z) S = .ok x S := by
  unfold ixD L2.atI
  simp only [listOf_get g, e, Option.bind, h]
theorem ixN_nat {i n : Nat} (h : i < n) : L2.ixN n (i : Int) = some i := by
  unfold L2.ixN
  rw [if_pos (by omega), if_pos (by omega)]
  rfl
theorem put_at {b i : Nat} {z : Int} {xs : List D} {v : D} (g : S.get b = some (.lst xs)) (e : L2.ixN xs.length z = some i) : putD (.ref b) (.int z) v S = some (S.put b (.lst (xs.set i v))) := by
  unfold putD
  simp only [g, e]
theorem list_new {xs : List D} (g : S.get n = some (.lst xs)) : listF [.ref n] S = .ok (.ref S.n) (S.new (.lst xs)) := by
  unfold listF
  simp only [listOf_get g]
theorem items_set {A : D → T → Prop} {es : List D} {us : List T} {j : Nat} {x : D} {v : T} (h : ∀ (i : Nat) y u, es[i]? = some y → us[i]? = some u → A y u) (hx : A x v) : ∀ (i : Nat) y u, (es.set j x)[i]? = some y → (us.set j v)[i]? = some u → A y u := fun i y u a b => by
  by_cases e : j = i
  · subst e
    rw [List.getElem?_set] at a b
    simp at a b
    obtain ⟨_, rfl⟩ := a
    obtain ⟨_, rfl⟩ := b
    exact hx
  · rw [List.getElem?_set_ne e] at a b
    exact h i y u a b
theorem placed_ok : ∀ (k : Nat) {t : T} {d : D} {q : Nat → Prop} {S : Hs} {c0 : Int}, Dn q S t.dp d t.p → q p → t.ok = true → t.hp = false → t.sz ≤ 1000 → t.dp ≤ k → k ≤ 30 → Pu S p c0 → c0 + (cp k : Nat) < 800000 → Ok (fun x s => Plc q t p (c0 + (cp k : Nat)) x S s) (F__law_placed (k + 1) [.ref p, d] S)
  | k, t, d, q, S, c0, h, qp, ok, hp, hz, hk, hk30, P, hc => by
    have nx := h.noX
    have i1 := h.isi (b := "str") (by simp)
    have one : (1 : Nat) ≤ line := by decide
    have zero : (0 : Nat) ≤ line := by decide
    have cpp : 8 ≤ cp k := by
      cases k with
      | zero => exact Nat.le_refl _
      | succ k => rw [cp]; omega
    show Ok _ (runB 2 4 (FB__law_placed (F__law_placed k)) [.ref p, d] S)
    refine o_run rfl ?_
    show Wp _ _ (FB__law_placed (F__law_placed k) [some (.ref p), some d, none, none] S)
    unfold FB__law_placed
    cases t with
    | w x =>
      have e := dn_w h
      subst e
      simp [i1, T.p, tyOf, one]
      exact ⟨.pl, place_dn, rfl, rfl, Nat.le_refl _, Nat.le_refl _, Fr.refl, P.le (by omega)⟩
    | pl => cases hp
    | ag t =>
      obtain ⟨d1, j, e, rfl, h1⟩ := dn_ag h
      rw [T.dp] at hk e
      have e := Nat.succ.inj e
      subst e
      obtain ⟨k', rfl⟩ : ∃ k', k = k' + 1 := ⟨k - 1, by omega⟩
      have e1 : eqD d1 (.ref S.n) (S.new (.lst [])) = .ok (.bl false) (S.new (.lst [])) := by
        rw [(h1.fr (Fr.new (q := q))).eq (nil_dn (Hs.get_new _ _)) (by omega) (by omega), t_nil]
      simp [i1, T.p, tyOf, one, zero, two_line, e1]
      rw [pur_raw rfl]
      have P1 := P.fr (Fr.new (q := No) (c := .lst [])) id
      refine (placed_ok k' (h1.fr (Fr.new (q := q))) qp ok hp hz (by omega) (by omega) P1 (by rw [cp] at hc; omega)).mono fun x s ⟨u, dn, uok, uhp, usz, udp, f, P'⟩ => ?_
      refine ⟨.ag u, mk_ag (dn.weak fun n hn => ⟨hn.1, Nat.lt_succ_of_lt hn.2⟩), uok, uhp, usz, ?_, (Fr.new).trans f, P'.le (by rw [cp]; omega)⟩
      rw [T.dp, T.dp]
      omega
    | row ts =>
      obtain ⟨n, ds, j, e, rfl, hq, g, l, m, r⟩ := dn_row h
      rw [T.dp] at hk e
      have e := Nat.succ.inj (Nat.succ.inj e)
      subst e
      obtain ⟨k', rfl⟩ : ∃ k', k = k' + 1 := ⟨k - 1, by omega⟩
      rw [cp] at hc ⊢
      have g1 : (S.new (.lst [])).get n = some (.lst ds) := Hs.get_old g
      have hn : n < S.n := Hs.get_lt g
      have np : n ≠ p := fun z => hq (z ▸ qp)
      have hpS := P.lt
      have hlen : ts.length ≤ 1000 := Nat.le_trans (sz_row ts).1 hz
      have hT : Dn q (S.new (.lst [])) (T.dps ts + 1) (.ref n) (.list (ts.map T.p)) := .lst hq g1 (by rw [l, List.length_map]) m fun i d p a b => by
        rw [List.getElem?_map] at b
        cases e : ts[i]? with
        | none => rw [e] at b; cases b
        | some t => rw [e] at b; cases b; exact (r i d t a e).fr Fr.new
      have e1 : eqD (.ref n) (.ref S.n) (S.new (.lst [])) = .ok (.bl (ts.map T.p).isEmpty) (S.new (.lst [])) := by
        rw [hT.eq (nil_dn (Hs.get_new _ _)) (by omega) (by omega), eqv_nil]
      by_cases hts : ts = []
      · subst hts
        simp [i1, T.p, tyOf, one, zero, e1]
        refine ⟨.pl, place_dn, rfl, rfl, ?_, ?_, Fr.new, (P.fr (Fr.new (q := No)) id).le (by omega)⟩
        · rw [T.sz, T.sz]; exact Nat.le_max_left _ _
        · rw [T.dp, T.dp]; omega
      · have e2 : (ts.map T.p).isEmpty = false := by
          cases ts with
          | nil => exact absurd rfl hts
          | cons _ _ => rfl
        have hpos : 0 < ts.length := by
          cases ts with
          | nil => exact absurd rfl hts
          | cons _ _ => exact Nat.succ_pos _
        rw [e2] at e1
        simp [i1, T.p, tyOf, zero, e1, len_lst g1]
        have P1 := P.fr (Fr.new (q := No) (c := .lst [])) id
        refine (draw_w (m := ds.length) P1 (by omega) (by omega) (by omega)).mono fun x s2 ⟨at_, hx, hat, fr2, hn2, P2⟩ => ?_
        subst hx
        have fr02 : Fr (· = p) S s2 := Fr.new.trans fr2
        have g2 := fr2.at_ _ _ np g1
        simp [list_new g2]
        have hb : S.n ≤ s2.n := fr02.n
        obtain ⟨d0, hd0⟩ : ∃ x, ds[at_]? = some x := ⟨ds[at_], List.getElem?_eq_getElem hat⟩
        obtain ⟨t0, ht0⟩ := there l.symm hd0
        have tm0 := List.mem_of_getElem? ht0
        have orig : ∀ s, Fr (· = p) S s → ∀ (i : Nat) y u, ds[i]? = some y → ts[i]? = some u → Dn (fun n => q n ∧ n < S.n) s u.dp y u.p := fun s f i y u a b => ((tight u (r i y u a b)).fr (f.mono fun n hn => hn ▸ qp)).weak fun n hn => hn.1
        have old : ∀ s, Fr (· = p) S s → ∀ (i : Nat) y u, ds[i]? = some y → ts[i]? = some u → Dn (fun n => q n ∨ S.n ≤ n) s u.dp y u.p := fun s f i y u a b => (dn_lt (tight u (r i y u a b))).fr (f.mono fun n hn => .inl (hn ▸ qp))
        have fin : ∀ (s' : Hs) (es : List D) (us : List T) (c' : Int), Fr (· = p) S s' → s'.get s2.n = some (.lst es) → es.length = us.length → (∀ (i : Nat) y u, es[i]? = some y → us[i]? = some u → Dn (fun n => q n ∧ n < S.n) s' u.dp y u.p) → Alk ts us → (T.row us).hp = true → Pu s' p c' → c' ≤ c0 + (8 + 2 * (cp k' : Int)) → 2 ≤ line ∧ Plc q (.row ts) p (c0 + (8 + 2 * (cp k' : Int))) (.tup [.str "row", .ref s2.n]) S s' := fun s' es us c' f g' le it a hh P' hc' => by
          obtain ⟨a1, a2, a3⟩ := a.row
          have := a.len
          exact ⟨two_line, .row us, mk_row (fun z => by have := z.2; omega) g' le (by have := big_line; omega) (fun i y u h1 h2 => (it i y u h1 h2).up (dps_ge (List.mem_of_getElem? h2))), a1, hh, a2, a3, f, P'.le hc'⟩
        have g3 : (s2.new (.lst ds)).get s2.n = some (.lst ds) := Hs.get_new _ _
        have f03 : Fr (· = p) S (s2.new (.lst ds)) := fr02.trans Fr.new
        rw [ix_at g3 (ixN_nat hat) hd0, Ok_ok, pur_raw rfl]
        have hcp : (2 : Int) * (cp k' : Int) + c0 + 8 < 800000 := by omega
        have hdk : ∀ u ∈ ts, u.dp ≤ k' := fun u hu => by have := dps_ge hu; omega
        refine (placed_ok k' (q := fun n => q n ∨ S.n ≤ n) (old _ f03 at_ d0 t0 hd0 ht0) (.inl qp) (ok_row ok tm0) (hp_row hp tm0) (Nat.le_trans (sz_kids (t := .row ts) tm0) hz) (hdk t0 tm0) (by omega) (P2.fr (Fr.new (q := No)) id) (by omega)).mono fun x0 s4 ⟨u0, dn0, ok0, hp0, sz0, dp0, f34, P4⟩ => ?_
        have hbp : ¬ s2.n = p := by have := P2.lt; omega
        have g4 : s4.get s2.n = some (.lst ds) := f34.at_ _ _ hbp g3
        rw [put_at g4 (ixN_nat hat)]
        have n3 : (s2.new (.lst ds)).n = s2.n + 1 := rfl
        have g5 : (s4.put s2.n (.lst (ds.set at_ x0))).get s2.n = some (.lst (ds.set at_ x0)) := Hs.get_put g4
        have f05 : Fr (· = p) S (s4.put s2.n (.lst (ds.set at_ x0))) := (f03.trans f34).put_new g4 hb
        have f45 : Fr (fun n => n = p ∨ n = s2.n) s4 (s4.put s2.n (.lst (ds.set at_ x0))) := Fr.put g4 (.inr rfl)
        have P5 := P4.put (c := .lst (ds.set at_ x0)) g4 hbp
        have q3 : ∀ n, n = p ∨ n = s2.n → (q n ∨ S.n ≤ n) ∧ n < (s2.new (.lst ds)).n := fun n hn => by
          rcases hn with e | e
          · exact ⟨.inl (e ▸ qp), by have := P2.lt; omega⟩
          · exact ⟨.inr (by omega), by omega⟩
        have keep0 : ∀ s, Fr (fun n => n = p ∨ n = s2.n) s4 s → Dn (fun n => q n ∧ n < S.n) s u0.dp x0 u0.p := fun s f => (dn0.fr (f.mono q3)).weak fun n hn => ⟨.inl hn.1, by omega⟩
        have al0 : Alk ts (ts.set at_ u0) := (Alk.refl fun t ht => ok_row ok ht).set ht0 ok0 sz0 (by have := dps_ge tm0; omega)
        have hpu : (T.row (ts.set at_ u0)).hp = true := hp_set (by omega) hp0
        have it5 : ∀ s, Fr (· = p) S s → Fr (fun n => n = p ∨ n = s2.n) s4 s → ∀ (i : Nat) y u, (ds.set at_ x0)[i]? = some y → (ts.set at_ u0)[i]? = some u → Dn (fun n => q n ∧ n < S.n) s u.dp y u.p := fun s f f' => items_set (A := fun y u => Dn (fun n => q n ∧ n < S.n) s u.dp y u.p) (orig s f) (keep0 s f')
        show Ok _ (lenF [.ref s2.n] (s4.put s2.n (.lst (ds.set at_ x0))))
        rw [len_lst g5, Ok_ok, gt_ii, Ok_ok, Bl_bl, List.length_set]
        by_cases h1 : (ds.length : Int) > 1
        case neg =>
          rw [if_neg (by simpa using h1)]
          exact fin _ _ _ _ f05 g5 (by rw [List.length_set, List.length_set]; exact l) (it5 _ f05 f45) al0 hpu P5 (by omega)
        rw [if_pos (decide_eq_true h1)]
        refine (draw_w (m := 4) P5 (by omega) (by decide) (by decide)).mono fun x s6 ⟨r4, hx, hr4, fr6, hn6, P6⟩ => ?_
        subst hx
        have g6 := fr6.at_ _ _ hbp g5
        have f06 := f05.trans fr6
        have f46 := f45.trans (fr6.mono fun n hn => .inl hn)
        rw [eq_int, Ok_ok]
        by_cases hr0 : (r4 : Int) = 0
        case neg =>
          rw [decide_eq_false hr0]
          exact fin _ _ _ _ f06 g6 (by rw [List.length_set, List.length_set]; exact l) (it5 _ f06 f46) al0 hpu P6 (by omega)
        rw [decide_eq_true hr0]
        show (if true = true then Ok _ (subD (.int (at_ : Int)) (.int 1) s6) else _)
        rw [if_pos rfl, sub_ii, Ok_ok]
        obtain ⟨b1, b2, b3⟩ := bef_ix hat (by omega : 1 < ds.length)
        obtain ⟨d1, hd1⟩ : ∃ x, ds[bef at_ ds.length]? = some x := ⟨ds[bef at_ ds.length], List.getElem?_eq_getElem b2⟩
        obtain ⟨t1, ht1⟩ := there l.symm hd1
        have tm1 := List.mem_of_getElem? ht1
        have hd1' : (ds.set at_ x0)[bef at_ ds.length]? = some d1 := by rw [List.getElem?_set_ne (Ne.symm b3)]; exact hd1
        have ht1' : (ts.set at_ u0)[bef at_ ds.length]? = some t1 := by rw [List.getElem?_set_ne (Ne.symm b3)]; exact ht1
        have b1' : L2.ixN (ds.set at_ x0).length ((at_ : Int) - 1) = some (bef at_ ds.length) := by rw [List.length_set]; exact b1
        rw [ix_at g6 b1' hd1', Ok_ok, pur_raw rfl]
        refine (placed_ok k' (q := fun n => q n ∨ S.n ≤ n) (old _ f06 _ d1 t1 hd1 ht1) (.inl qp) (ok_row ok tm1) (hp_row hp tm1) (Nat.le_trans (sz_kids (t := .row ts) tm1) hz) (hdk t1 tm1) (by omega) P6 (by omega)).mono fun x1 s7 ⟨u1, dn1, ok1, hp1, sz1, dp1, f67, P7⟩ => ?_
        have g7 := f67.at_ _ _ hbp g6
        rw [sub_ii, Ok_ok, put_at g7 b1']
        have g8 : (s7.put s2.n (.lst ((ds.set at_ x0).set (bef at_ ds.length) x1))).get s2.n = some (.lst ((ds.set at_ x0).set (bef at_ ds.length) x1)) := Hs.get_put g7
        have f08 : Fr (· = p) S (s7.put s2.n (.lst ((ds.set at_ x0).set (bef at_ ds.length) x1))) := (f06.trans f67).put_new g7 hb
        have f78 : Fr (fun n => n = p ∨ n = s2.n) s7 (s7.put s2.n (.lst ((ds.set at_ x0).set (bef at_ ds.length) x1))) := Fr.put g7 (.inr rfl)
        have f48 := (f46.trans (f67.mono fun n hn => .inl hn)).trans f78
        have n6 : s2.n < s6.n := Hs.get_lt g6
        have q6 : ∀ n, n = p ∨ n = s2.n → (q n ∨ S.n ≤ n) ∧ n < s6.n := fun n hn => by
          rcases hn with e | e
          · exact ⟨.inl (e ▸ qp), by have := P2.lt; omega⟩
          · exact ⟨.inr (by omega), by omega⟩
        have keep1 : Dn (fun n => q n ∧ n < S.n) (s7.put s2.n (.lst ((ds.set at_ x0).set (bef at_ ds.length) x1))) u1.dp x1 u1.p := (dn1.fr (f78.mono q6)).weak fun n hn => ⟨.inl hn.1, by omega⟩
        exact fin _ _ ((ts.set at_ u0).set (bef at_ ds.length) u1) _ f08 g8 (by rw [List.length_set, List.length_set, List.length_set, List.length_set]; exact l) (items_set (A := fun y u => Dn (fun n => q n ∧ n < S.n) (s7.put s2.n (.lst ((ds.set at_ x0).set (bef at_ ds.length) x1))) u.dp y u.p) (it5 _ f08 f48) keep1) (al0.set ht1' ok1 sz1 (by have := dps_ge tm1; omega)) (hp_set2 (by omega) hp0 b3) (P7.put g7 hbp) (by omega)
end
end K57

/-! PP19: what is bent. -/
namespace K57
open PySem MR
open K57D (Pu)
section
variable {q q' : Nat → Prop} {S S' s : Hs} {k n p w : Nat} {d : D} {c0 : Int}
def Bnt (p l : Nat) (c : Int) (x : D) (S s : Hs) : Prop := ∃ P, Dn (· = p) s l x P ∧ (∀ j, isWd j true P = false) ∧ Fr (· = p) S s ∧ Pu s p c
theorem no_all {P : PyData} (h : ∀ j, isWd (j + 1) true P = false) : ∀ j, isWd j true P = false
  | 0 => rfl
  | j + 1 => h j
theorem cut_to {xs : List D} {i : Nat} (h : i ≤ xs.length) : cutD xs none (some (i : Int)) = xs.take i := by
  unfold cutD
  rw [HT.sIx_nat, Nat.min_eq_left h]
  show (xs.drop 0).take (i - 0) = _
  simp
theorem cut_from {xs : List D} {i : Nat} (h : i ≤ xs.length) : cutD xs (some (i : Int)) none = xs.drop i := by
  unfold cutD
  rw [HT.sIx_nat, Nat.min_eq_left h]
  show (xs.drop i).take (xs.length - i) = _
  rw [List.take_of_length_le (by simp)]
/-- what a leaf is bent to -/
def odds (n : Nat) : List D := [.non, .int 5, .str "", .tup [.str "place", .non], .ref n, .tup [], .tup [.str "places"], .tup [.str "row"], .bl true]
theorem odd_ok {r : Nat} {x : D} (g : S.get n = some (.lst [.str "place"])) (hn : n ≠ p) (h : (odds n)[r]? = some x) : ∃ P, Dn (· = p) S 1 x P ∧ ∀ j, isWd j true P = false := by
  have st : ∀ {k : Nat} {z : Str}, PyData.strOk z = true → z.cps.size ≤ line → Dn (· = p) S k (.str z) (.str z) := fun a b => .str ⟨a, b⟩
  match r, h with
  | 0, h => cases h; exact ⟨.none, .non, no_all fun j => rfl⟩
  | 1, h => cases h; exact ⟨.int 5, .int 5, no_all fun j => rfl⟩
  | 2, h => cases h; exact ⟨.str "", st (by decide +kernel) (by decide +kernel), no_all fun j => rfl⟩
  | 3, h =>
    cases h
    refine ⟨.tuple [.str "place", .none], .tup rfl two_line fun i d p h1 h2 => ?_, no_all fun j => ?_⟩
    · match i with
      | 0 => cases h1; cases h2; exact .str fit_place
      | 1 => cases h1; cases h2; exact .non
      | i + 2 => simp at h1
    · rw [isWd_succ]
      have e : placeB (.tuple [.str "place", .none]) = false := by unfold placeB; simp [PyData.eqv, PyData.eqvAll]
      rw [e]
      rfl
  | 4, h =>
    cases h
    refine ⟨.list [.str "place"], .lst hn g rfl (by decide) fun i d p h1 h2 => ?_, no_all fun j => rfl⟩
    match i with
    | 0 => cases h1; cases h2; exact .str fit_place
    | i + 1 => simp at h1
  | 5, h => cases h; exact ⟨.tuple [], .tup rfl (by decide) (fun i d p h1 => by cases h1), no_all fun j => by rw [isWd_succ]; simp [placeB, speltP, PyData.eqv, PyData.eqvAll, bodyW]⟩
  | 6, h =>
    cases h
    refine ⟨.tuple [.str "places"], .tup rfl (by decide) fun i d p h1 h2 => ?_, no_all fun j => ?_⟩
    · match i with
      | 0 => cases h1; cases h2; exact st (by decide +kernel) (by decide +kernel)
      | i + 1 => simp at h1
    · rw [isWd_succ]
      have e : placeB (.tuple [.str "places"]) = false := by decide +kernel
      rw [e]
      simp [speltP, bodyW]
  | 7, h =>
    cases h
    refine ⟨.tuple [.str "row"], .tup rfl (by decide) fun i d p h1 h2 => ?_, no_all fun j => ?_⟩
    · match i with
      | 0 => cases h1; cases h2; exact .str fit_row
      | i + 1 => simp at h1
    · rw [isWd_succ]
      have e : placeB (.tuple [.str "row"]) = false := by decide +kernel
      rw [e]
      simp [speltP, bodyW]
  | 8, h => cases h; exact ⟨.bool true, .bl true, no_all fun j => rfl⟩
  | r + 9, h => simp [odds] at h
theorem bent_leaf {env : EnvD} {c : Int} (h0 : env[0]? = some (some (.ref p))) (P : Pu S p c) (hc : c < 800000) : Ok (fun x s => Bnt p 1 (c + 4) x S s) (mOwn (pur F__law_one_of) [] (mCons (mV 0) (mCons (mLst (mCons (mC .non) (mCons (mC (.int 5)) (mCons (mC (.str "")) (mCons (mTup (mCons (mC (.str "place")) (mCons (mC .non) (mNil)))) (mCons (mLst (mCons (mC (.str "place")) (mNil))) (mCons (mTup (mNil)) (mCons (mTup (mCons (mC (.str "places")) (mNil))) (mCons (mTup (mCons (mC (.str "row")) (mNil))) (mCons (mC (.bl true)) (mNil))))))))))) (mNil))) env S) := by
  have hp := P.lt
  simp [h0, two_line, show (1 : Nat) ≤ line by decide, show (0 : Nat) ≤ line by decide, show (9 : Nat) ≤ line by decide]
  show Ok _ (pur F__law_one_of [.ref p, .ref (S.n + 1)] ((S.new (.lst [.str "place"])).new (.lst (odds S.n))))
  have f2 : Fr (· = p) S ((S.new (.lst [.str "place"])).new (.lst (odds S.n))) := Fr.new.trans Fr.new
  have P2 := (P.fr (Fr.new (q := No) (c := .lst [.str "place"])) id).fr (Fr.new (q := No) (c := .lst (odds S.n))) id
  have g1 : ((S.new (.lst [.str "place"])).new (.lst (odds S.n))).get S.n = some (.lst [.str "place"]) := Hs.get_old (Hs.get_new _ _)
  refine (one_ok (w := S.n + 1) P2 (by omega) (Hs.get_new _ _) (by omega) (show 0 < 9 by decide) (show 9 < 2 ^ 27 by decide)).mono fun x s ⟨r, hr, fr, hn, P'⟩ => ?_
  obtain ⟨D, dn, no⟩ := odd_ok (n := S.n) (p := p) (fr.at_ _ _ (show ¬ S.n = p by omega) g1) (by omega) hr
  exact ⟨D, dn, no, f2.trans fr, P'⟩
theorem slice_new {xs : List D} {lo hi : Option Int} (g : S.get n = some (.lst xs)) : sliceD (.ref n) lo hi S = .ok (.ref S.n) (S.new (.lst (cutD xs lo hi))) := by
  unfold sliceD
  simp only [listOf_get g]
theorem items_setG {β : Type} {A : D → β → Prop} {es : List D} {us : List β} {j : Nat} {x : D} {v : β} (h : ∀ (i : Nat) y u, es[i]? = some y → us[i]? = some u → A y u) (hx : A x v) : ∀ (i : Nat) y u, (es.set j x)[i]? = some y → (us.set j v)[i]? = some u → A y u := fun i y u a b => by
  by_cases e : j = i
  · subst e
    rw [List.getElem?_set] at a b
    simp at a b
    obtain ⟨_, rfl⟩ := a
    obtain ⟨_, rfl⟩ := b
    exact hx
  · rw [List.getElem?_set_ne e] at a b
    exact h i y u a b
theorem or_yes {a b : Ex} {env : EnvD} (h : a env S = .ok (.bl true) S') : mOr a b env S = .ok (.bl true) S' := by
  unfold mOr
  rw [h]
  rfl
theorem or_no {a b : Ex} {env : EnvD} (h : a env S = .ok (.bl false) S') : mOr a b env S = b env S' := by
  unfold mOr
  rw [h]
  rfl
theorem e_isi {env : EnvD} {i : Nat} {b : String} (h : env[i]? = some (some d)) (nx : MR.noX d = true) : mCall isiF (mCons (mV i) (mCons (mC (.ty b)) mNil)) env S = isiF [d, .ty b] S := by
  simp [mCall, mCons, mV, mC, mNil, Res.bind, h, nx]
theorem e_pl {env : EnvD} {i : Nat} (h : env[i]? = some (some d)) (nx : MR.noX d = true) : mOp2 eqD (mV i) (mTup (mCons (mC (.str "place")) (mNil))) env S = eqD d (.tup [.str "place"]) S := by
  simp [mOp2, mTup, mCons, mV, mC, mNil, Res.bind, h, nx, show (1 : Nat) ≤ line by decide]
theorem Wp_ifyes {P : EnvD → Hs → Prop} {Q : D → Hs → Prop} {m : Ex} {a b : SM} {env : EnvD} (h : m env S = .ok (.bl true) S') : Wp P Q (mIfS m a b env S) = Wp P Q (a env S') := by
  rw [Wp_if, h]
  rfl
theorem Wp_ifno {P : EnvD → Hs → Prop} {Q : D → Hs → Prop} {m : Ex} {a b : SM} {env : EnvD} (h : m env S = .ok (.bl false) S') : Wp P Q (mIfS m a b env S) = Wp P Q (b env S') := by
  rw [Wp_if, h]
  rfl
theorem bent_ok : ∀ (k : Nat) {t : T} {d : D} {S : Hs} {c0 : Int}, Dn (· = p) S t.dp d t.p → t.ok = true → t.sz ≤ 1000 → t.dp ≤ k → k ≤ 20 → Pu S p c0 → c0 + (8 * (k + 1) : Nat) < 800000 → Ok (fun x s => Bnt p (t.dp + 1) (c0 + (8 * (k + 1) : Nat)) x S s) (F__law_bent (k + 1) [.ref p, d] S)
  | k, t, d, S, c0, h, ok, hz, hk, hk30, P, hc => by
    have nx := h.noX
    have i1 := h.isi (b := "str") (by simp)
    have epl := eq_pl h (by omega)
    have one : (1 : Nat) ≤ line := by decide
    have zero : (0 : Nat) ≤ line := by decide
    show Ok _ (runB 2 3 (FB__law_bent (F__law_bent k)) [.ref p, d] S)
    refine o_run rfl ?_
    show Wp _ _ (FB__law_bent (F__law_bent k) [some (.ref p), some d, none] S)
    unfold FB__law_bent
    have leaf : ∀ {l : Nat}, 1 ≤ l → Ok (fun x s => Bnt p l (c0 + (8 * (k + 1) : Nat)) x S s) (mOwn (pur F__law_one_of) [] (mCons (mV 0) (mCons (mLst (mCons (mC .non) (mCons (mC (.int 5)) (mCons (mC (.str "")) (mCons (mTup (mCons (mC (.str "place")) (mCons (mC .non) (mNil)))) (mCons (mLst (mCons (mC (.str "place")) (mNil))) (mCons (mTup (mNil)) (mCons (mTup (mCons (mC (.str "places")) (mNil))) (mCons (mTup (mCons (mC (.str "row")) (mNil))) (mCons (mC (.bl true)) (mNil))))))))))) (mNil))) [some (.ref p), some d, none] S) := fun hl => (bent_leaf rfl P (by omega)).mono fun x s ⟨P1, dn, no, f, P'⟩ => ⟨P1, dn.up hl, no, f, P'.le (by omega)⟩
    cases t with
    | w x =>
      have e := dn_w h
      subst e
      have t1 : mOr (mCall isiF (mCons (mV 1) (mCons (mC (.ty "str")) (mNil)))) (mOp2 eqD (mV 1) (mTup (mCons (mC (.str "place")) (mNil)))) [some (.ref p), some (.str x), none] S = .ok (.bl true) S := or_yes ((e_isi rfl rfl).trans i1)
      rw [Wp_seq, Wp_ifyes t1, Wp_ret]
      exact leaf (Nat.le_refl _)
    | pl =>
      have e := dn_pl h
      subst e
      have t1 : mOr (mCall isiF (mCons (mV 1) (mCons (mC (.ty "str")) (mNil)))) (mOp2 eqD (mV 1) (mTup (mCons (mC (.str "place")) (mNil)))) [some (.ref p), some (.tup [.str "place"]), none] S = .ok (.bl true) S := (or_no ((e_isi rfl rfl).trans i1)).trans ((e_pl rfl rfl).trans epl)
      rw [Wp_seq, Wp_ifyes t1, Wp_ret]
      exact leaf (by decide)
    | ag t =>
      obtain ⟨d1, j, e, rfl, h1⟩ := dn_ag h
      rw [T.dp] at hk e
      have e := Nat.succ.inj e
      subst e
      obtain ⟨k', rfl⟩ : ∃ k', k = k' + 1 := ⟨k - 1, by omega⟩
      have t1 : mOr (mCall isiF (mCons (mV 1) (mCons (mC (.ty "str")) (mNil)))) (mOp2 eqD (mV 1) (mTup (mCons (mC (.str "place")) (mNil)))) [some (.ref p), some (.tup [.str "again", d1]), none] S = .ok (.bl false) S := (or_no ((e_isi rfl rfl).trans i1)).trans ((e_pl rfl rfl).trans epl)
      rw [Wp_seq, Wp_ifno t1, Wp_mNx]
      clear leaf t1
      simp [two_line]
      refine (draw_w (m := 3) P (by omega) (by decide) (by decide)).mono fun x s1 ⟨r, hx, hr, fr1, hn1, P1⟩ => ?_
      subst hx
      rw [gt_ii, Ok_ok, Bl_bl]
      by_cases h0 : (r : Int) > 0
      · rw [if_pos (decide_eq_true h0), pur_raw rfl]
        refine (bent_ok k' (h1.fr fr1) ok hz (by omega) (by omega) P1 (by omega)).mono fun x s ⟨P2, dn, no, f, P'⟩ => ?_
        refine ⟨.tuple [.str "again", P2], .tup rfl two_line fun i d p h1 h2 => ?_, no_all fun j => by rw [isWd_ag]; exact no j, fr1.trans f, P'.le (by omega)⟩
        match i with
        | 0 => cases h1; cases h2; exact .str fit_again
        | 1 => cases h1; cases h2; exact dn
        | i + 2 => simp at h1
      · rw [if_neg (by simpa using h0)]
        have hp := P1.lt
        refine ⟨.list [.str "again", t.p], .lst (show ¬ s1.n = p by omega) (Hs.get_new _ _) rfl (show 2 < line by decide) fun i d p' h3 h4 => ?_, no_all fun j => rfl, fr1.trans Fr.new, (P1.fr (Fr.new (q := No)) id).le (by omega)⟩
        match i with
        | 0 => cases h3; cases h4; exact .str fit_again
        | 1 => cases h3; cases h4; exact ((h1.fr fr1).fr (Fr.new (q := (· = p)))).up (Nat.le_succ _)
        | i + 2 => simp at h3
    | row ts =>
      obtain ⟨n, ds, j, e, rfl, hq, g, l, m, r⟩ := dn_row h
      rw [T.dp] at hk e
      have e := Nat.succ.inj (Nat.succ.inj e)
      subst e
      obtain ⟨k', rfl⟩ : ∃ k', k = k' + 1 := ⟨k - 1, by omega⟩
      have t1 : mOr (mCall isiF (mCons (mV 1) (mCons (mC (.ty "str")) (mNil)))) (mOp2 eqD (mV 1) (mTup (mCons (mC (.str "place")) (mNil)))) [some (.ref p), some (.tup [.str "row", .ref n]), none] S = .ok (.bl false) S := (or_no ((e_isi rfl rfl).trans i1)).trans ((e_pl rfl rfl).trans epl)
      rw [Wp_seq, Wp_ifno t1, Wp_mNx]
      clear leaf t1
      have np : n ≠ p := hq
      have hpS := P.lt
      have hlen : ts.length ≤ 1000 := Nat.le_trans (sz_row ts).1 hz
      have hbl := big_line
      have g1 : (S.new (.lst [])).get n = some (.lst ds) := Hs.get_old g
      have each : ∀ s, Fr (· = p) S s → ∀ (i : Nat) y P, ds[i]? = some y → (ts.map T.p)[i]? = some P → Dn (· = p) s (T.dps ts) y P := fun s f i y P a b => by
        rw [List.getElem?_map] at b
        cases e : ts[i]? with
        | none => rw [e] at b; cases b
        | some t => rw [e] at b; cases b; exact (r i y t a e).fr f
      have lm : ds.length = (ts.map T.p).length := by rw [l, List.length_map]
      have hT : Dn (· = p) (S.new (.lst [])) (T.dps ts + 1) (.ref n) (.list (ts.map T.p)) := .lst hq g1 lm m (each _ Fr.new)
      have e1 : eqD (.ref n) (.ref S.n) (S.new (.lst [])) = .ok (.bl (ts.map T.p).isEmpty) (S.new (.lst [])) := by
        rw [hT.eq (nil_dn (Hs.get_new _ _)) (by omega) (by omega), eqv_nil]
      have P1 := P.fr (Fr.new (q := No) (c := .lst [])) id
      have tupGo : ∀ {s : Hs}, Fr (· = p) S s → Pu s p (c0 + 4) → Ok (fun x s' => 2 ≤ line ∧ Bnt p (T.dps ts + 2 + 1) (c0 + (8 * (k' + 1 + 1) : Nat)) (.tup [.str "row", x]) S s') (tupleF [.ref n] s) := fun {s} f P2 => by
        have gs := f.at_ _ _ np g
        unfold tupleF
        simp only [listOf_get gs]
        refine ⟨two_line, .tuple [.str "row", .tuple (ts.map T.p)], .tup rfl two_line fun i d p' h3 h4 => ?_, no_all fun j => ?_, f, P2.le (by omega)⟩
        · match i with
          | 0 => cases h3; cases h4; exact .str fit_row
          | 1 => cases h3; cases h4; exact .tup lm (Nat.le_of_lt m) fun i y P a b => (each s f i y P a b).up (Nat.le_succ _)
          | i + 2 => simp at h3
        · rw [isWd_succ]
          have e : placeB (.tuple [.str "row", .tuple (ts.map T.p)]) = false := by unfold placeB; simp [PyData.eqv, PyData.eqvAll]
          rw [e]
          rfl
      have edp : (T.row ts).dp + 1 = T.dps ts + 2 + 1 := by rw [T.dp]
      simp [zero, e1, edp]
      have ec : (c0 + 8 * ((k' : Int) + 1 + 1)) = c0 + (8 * (k' + 1 + 1) : Nat) := by omega
      rw [ec]
      by_cases hts : ts = []
      · rw [if_pos hts]
        exact tupGo Fr.new (P1.le (by omega))
      rw [if_neg hts]
      have hpos : 0 < ts.length := by
        cases ts with
        | nil => exact absurd rfl hts
        | cons _ _ => exact Nat.succ_pos _
      refine (draw_w (m := 3) P1 (by omega) (by decide) (by decide)).mono fun x s2 ⟨r3, hx, hr3, fr2, hn2, P2⟩ => ?_
      subst hx
      have f02 : Fr (· = p) S s2 := Fr.new.trans fr2
      rw [eq_int, Ok_ok]
      by_cases hr0 : (r3 : Int) = 0
      · rw [decide_eq_true hr0]
        show (if true = true then Ok _ (tupleF [.ref n] s2) else _)
        rw [if_pos rfl]
        exact tupGo f02 P2
      rw [decide_eq_false hr0]
      show (if false = true then _ else Ok _ (lenF [.ref n] s2))
      rw [if_neg Bool.false_ne_true, len_lst (f02.at_ _ _ np g), Ok_ok]
      refine (draw_w (m := ds.length) P2 (by omega) (by omega) (by omega)).mono fun x s3 ⟨at_, hx, hat, fr3, hn3, P3⟩ => ?_
      subst hx
      have f03 := f02.trans fr3
      have g3 := f03.at_ _ _ np g
      obtain ⟨d0, hd0⟩ : ∃ x, ds[at_]? = some x := ⟨ds[at_], List.getElem?_eq_getElem hat⟩
      obtain ⟨t0, ht0⟩ := there l.symm hd0
      have tm0 := List.mem_of_getElem? ht0
      refine ⟨rfl, ?_⟩
      rw [In_int, slice_new g3, Ok_ok, cut_to (Nat.le_of_lt hat)]
      refine ⟨rfl, ?_⟩
      have f04 : Fr (· = p) S (s3.new (.lst (ds.take at_))) := f03.trans Fr.new
      have g4 := f04.at_ _ _ np g
      rw [ix_at g4 (ixN_nat hat) hd0, Ok_ok, pur_raw rfl]
      have hp3 := P3.lt
      refine (bent_ok k' ((tight t0 (r at_ d0 t0 hd0 ht0)).fr f04) (ok_row ok tm0) (Nat.le_trans (sz_kids (t := .row ts) tm0) hz) (by have := dps_ge tm0; omega) (by omega) (P3.fr (Fr.new (q := No)) id) (by omega)).mono fun x0 s5 ⟨P0, dn0, no0, f45, P5⟩ => ?_
      have hs5 : s3.n < s5.n := Nat.lt_of_lt_of_le (Nat.lt_succ_self _) f45.n
      have gA : s5.get s3.n = some (.lst (ds.take at_)) := f45.at_ _ _ (show ¬ s3.n = p by omega) (Hs.get_new _ _)
      have gA' : (s5.new (.lst [x0])).get s3.n = some (.lst (ds.take at_)) := Hs.get_old gA
      have gB : (s5.new (.lst [x0])).get s5.n = some (.lst [x0]) := Hs.get_new _ _
      refine ⟨one, ?_⟩
      rw [add_lst gA' gB (by rw [List.length_take]; simp; omega), Ok_ok]
      refine ⟨rfl, ?_⟩
      rw [add_ii, Ok_ok, In_int]
      have f05 := f04.trans f45
      have f06 : Fr (· = p) S ((s5.new (.lst [x0])).new (.lst (ds.take at_ ++ [x0]))) := (f05.trans Fr.new).trans Fr.new
      have eat : ((at_ : Int) + 1) = ((at_ + 1 : Nat) : Int) := by omega
      rw [eat, slice_new (f06.at_ _ _ np g), Ok_ok, cut_from (by omega)]
      have gC : (((s5.new (.lst [x0])).new (.lst (ds.take at_ ++ [x0]))).new (.lst (ds.drop (at_ + 1)))).get (s5.new (.lst [x0])).n = some (.lst (ds.take at_ ++ [x0])) := Hs.get_old (Hs.get_new _ _)
      rw [add_lst gC (Hs.get_new _ _) (by rw [List.length_append, List.length_take, List.length_drop]; simp; omega), Ok_ok]
      have eset : (ds.take at_ ++ [x0]) ++ ds.drop (at_ + 1) = ds.set at_ x0 := by
        rw [List.set_eq_take_append_cons_drop, if_pos hat, List.append_assoc]
        rfl
      rw [eset]
      have f67 : ∀ {s : Hs} {a b c d : Cell}, Fr (· = p) s ((((s.new a).new b).new c).new d) := ((Fr.new.trans Fr.new).trans Fr.new).trans Fr.new
      have f07 := f05.trans (f67 (a := .lst [x0]) (b := .lst (ds.take at_ ++ [x0])) (c := .lst (ds.drop (at_ + 1))) (d := .lst (ds.set at_ x0)))
      have P7 := (((P5.fr (Fr.new (q := No) (c := .lst [x0])) id).fr (Fr.new (q := No) (c := .lst (ds.take at_ ++ [x0]))) id).fr (Fr.new (q := No) (c := .lst (ds.drop (at_ + 1)))) id).fr (Fr.new (q := No) (c := .lst (ds.set at_ x0))) id
      refine ⟨two_line, .tuple [.str "row", .list ((ts.map T.p).set at_ P0)], .tup rfl two_line fun i d p' h3 h4 => ?_, no_all fun j => ?_, f07, P7.le (by omega)⟩
      · match i with
        | 0 => cases h3; cases h4; exact .str fit_row
        | 1 =>
          cases h3; cases h4
          refine .lst (show ¬ _ = p from ?_) (Hs.get_new _ _) (by rw [List.length_set, List.length_set]; exact lm) (by rw [List.length_set]; omega) (items_setG (A := fun y P => Dn (· = p) _ (T.dps ts + 1) y P) (fun i y P a b => (each _ f07 i y P a b).up (Nat.le_succ _)) (((dn0.fr f67)).up (by have := dps_ge tm0; omega)))
          show ¬ s5.n + 1 + 1 + 1 = p
          omega
        | i + 2 => simp at h3
      · rw [isWd_row]
        cases e : ((ts.map T.p).set at_ P0).all fun x => isWd j true x with
        | false => rfl
        | true =>
          have hm : P0 ∈ (ts.map T.p).set at_ P0 := List.mem_iff_getElem.mpr ⟨at_, by rw [List.length_set, ← lm]; exact hat, by simp⟩
          have := List.all_eq_true.mp e P0 hm
          rw [no0 j] at this
          cases this
end
end K57

/-! PP20: the text of three expressions; the judgement's words. -/
namespace K57
open PySem MR
open K57D (Pu)
section
variable {q q' : Nat → Prop} {S S' s : Hs} {k n p w : Nat} {d : D} {c0 : Int}
theorem Dn.toS {P : PyData} (h : Dn q S k d P) : MR.toS S k d = some P := by
  induction h with
  | @non k => cases k <;> rfl
  | @bl k b => cases k <;> rfl
  | @int k i => cases k <;> rfl
  | @str k s h => cases k <;> rfl
  | @tup k ds ps l m r ih =>
    show (mapO (MR.toS S k) ds).map PyData.tuple = _
    rw [mapO_at l ih]
    rfl
  | @lst k n ds ps hq h l m r ih =>
    simp only [MR.toS, h]
    rw [mapO_at l ih]
    rfl
theorem spelt_sg {w : Str} (h : speltB w = true) : sgB w = true ∧ w.length ≤ 8 := by
  obtain ⟨h1, h2, h3⟩ := spelt_at h
  refine ⟨List.all_eq_true.mpr fun x hx => ?_, by show w.cps.size ≤ 8; omega⟩
  have := h3 x hx
  unfold letB at this
  simp only [Bool.and_eq_true, decide_eq_true_eq] at this
  exact decide_eq_true (by omega)
theorem pl_sg : sgB (("place" : String) : Str) = true := by decide +kernel
theorem ag_sg : sgB (("again" : String) : Str) = true := by decide +kernel
theorem ro_sg : sgB (("row" : String) : Str) = true := by decide +kernel
theorem pl_len : Str.length (("place" : String) : Str) = 5 := rfl
theorem ag_len : Str.length (("again" : String) : Str) = 5 := rfl
theorem ro_len : Str.length (("row" : String) : Str) = 3 := rfl
theorem siA_all : ∀ ps : List PyData, siA ps = ps.all siP
  | [] => rfl
  | p :: ps => by rw [siA, siA_all ps]; rfl
theorem sho_all : ∀ ps : List PyData, PyData.showableAll ps = ps.all PyData.showable
  | [] => rfl
  | p :: ps => by rw [PyData.showableAll, sho_all ps]; rfl
theorem si_t : ∀ t : T, t.ok = true → siP t.p = true ∧ PyData.showable t.p = true := T.ind (fun x h => ⟨(spelt_sg h).1, rfl⟩) (fun _ => ⟨by decide +kernel, by decide +kernel⟩) (fun t ih h => by
    obtain ⟨a, b⟩ := ih h
    rw [T.p]
    simp [siP, siA, PyData.showable, PyData.showableAll, a, b, ag_sg]) fun ts ih h => by
    rw [p_row]
    have a : (ts.map T.p).all siP = true := by
      rw [List.all_map]
      exact List.all_eq_true.mpr fun t ht => (ih t ht (ok_row h ht)).1
    have b : (ts.map T.p).all PyData.showable = true := by
      rw [List.all_map]
      exact List.all_eq_true.mpr fun t ht => (ih t ht (ok_row h ht)).2
    simp only [siP, siA, siA_all, PyData.showable, PyData.showableAll, sho_all, a, b, ro_sg, Bool.and_self, and_self]
theorem szA_le {D : Nat} : ∀ {ts : List T}, (∀ t ∈ ts, szP t.p ≤ 100 * ((D + 1) * t.sz)) → szA (ts.map T.p) ≤ 100 * ((D + 1) * T.szs ts) + 2 * T.szs ts
  | [], _ => Nat.zero_le _
  | t :: ts, h => by
    have h1 := h t List.mem_cons_self
    have h2 := szA_le (ts := ts) fun x hx => h x (List.mem_cons_of_mem _ hx)
    have h3 := sz_pos t
    rw [List.map_cons, szA, T.szs, Nat.mul_add]
    omega
theorem sz_t : ∀ t : T, t.ok = true → szP t.p ≤ 100 * ((t.dp + 1) * t.sz) := T.ind (fun x h => by
    have := (spelt_sg h).2
    simp only [T.p, szP, T.dp, T.sz]
    omega) (fun _ => by simp only [T.p, szP, szA, T.dp, T.sz, pl_len]; omega) (fun t ih h => by
    have h1 := ih h
    have h2 := sz_pos t
    simp only [T.p, szP, szA, T.dp, T.sz, ag_len]
    have e : (t.dp + 1 + 1) * t.sz = (t.dp + 1) * t.sz + t.sz := Nat.succ_mul _ _
    omega) fun ts ih h => by
    have h1 : szA (ts.map T.p) ≤ 100 * ((T.dps ts + 1) * T.szs ts) + 2 * T.szs ts := szA_le fun t ht => Nat.le_trans (ih t ht (ok_row h ht)) (Nat.mul_le_mul_left _ (Nat.mul_le_mul_right _ (Nat.succ_le_succ (dps_ge ht))))
    have h2 : T.szs ts ≤ max 1 (T.szs ts) := Nat.le_max_right _ _
    have h3 : 1 ≤ max 1 (T.szs ts) := Nat.le_max_left _ _
    have h4 : (T.dps ts + 1) * T.szs ts ≤ (T.dps ts + 1) * max 1 (T.szs ts) := Nat.mul_le_mul_left _ h2
    rw [p_row]
    simp only [szP, szA, T.dp, T.sz, ro_len]
    have e : (T.dps ts + 2 + 1) * max 1 (T.szs ts) = (T.dps ts + 1) * max 1 (T.szs ts) + max 1 (T.szs ts) + max 1 (T.szs ts) := by rw [Nat.succ_mul, Nat.succ_mul]
    rw [e]
    omega
theorem sz_small {t : T} (ok : t.ok = true) (h1 : t.dp ≤ 10) (h2 : t.sz ≤ 10) : szP t.p ≤ 11000 := by
  have := sz_t t ok
  have h3 : (t.dp + 1) * t.sz ≤ 11 * 10 := Nat.mul_le_mul (by omega) h2
  omega
/-- the three of them -/
structure Tri (q : Nat → Prop) (S : Hs) (fd gd ed : D) (f g e : T) : Prop where
  f : Dn q S f.dp fd f.p
  g : Dn q S g.dp gd g.p
  e : Dn q S e.dp ed e.p
theorem Tri.fr {fd gd ed : D} {f g e : T} (h : Tri q S fd gd ed f g e) (a : Fr q S S') : Tri q S' fd gd ed f g e := ⟨h.f.fr a, h.g.fr a, h.e.fr a⟩
structure Gd (f g e : T) : Prop where
  fok : f.ok = true
  gok : g.ok = true
  eok : e.ok = true
  fhp : f.hp = true
  ghp : g.hp = true
  ehp : e.hp = false
  fsz : f.sz ≤ 4
  gsz : g.sz ≤ 4
  esz : e.sz ≤ 4
  fdp : f.dp ≤ 5
  gdp : g.dp ≤ 5
  edp : e.dp ≤ 4
def noted (f g e : T) : Str := (PyData.list [f.p, g.p, e.p]).shown
theorem repr3 {fd gd ed : D} {f g e : T} (h : Tri q S fd gd ed f g e) (G : Gd f g e) : reprF [.ref S.n] (S.new (.lst [fd, gd, ed])) = .ok (.str (noted f g e)) (S.new (.lst [fd, gd, ed])) := by
  have dn : Dn No (S.new (.lst [fd, gd, ed])) 6 (.ref S.n) (.list [f.p, g.p, e.p]) := .lst id (Hs.get_new _ _) rfl (show 3 < line by decide) fun i d P a b => by
    have k : ∀ {x : D} {t : T}, Dn q S t.dp x t.p → t.dp ≤ 5 → Dn No (S.new (.lst [fd, gd, ed])) 5 x t.p := fun hx hd => ((hx.weak fun _ z => z.elim).fr Fr.new).up hd
    match i with
    | 0 => cases a; cases b; exact k h.f G.fdp
    | 1 => cases a; cases b; exact k h.g G.gdp
    | 2 => cases a; cases b; exact k h.e (Nat.le_succ_of_le G.edp)
    | i + 3 => simp at a
  have es := (dn.up (m := 40) (by omega)).toS
  have hs := dn.depth
  obtain ⟨f1, f2⟩ := si_t f G.fok
  obtain ⟨g1, g2⟩ := si_t g G.gok
  obtain ⟨e1, e2⟩ := si_t e G.eok
  have i1 : siP (.list [f.p, g.p, e.p]) = true := by simp [siP, siA, f1, g1, e1]
  have i2 : PyData.showable (.list [f.p, g.p, e.p]) = true := by simp [PyData.showable, PyData.showableAll, f2, g2, e2]
  have a1 := sz_small G.fok (by have := G.fdp; omega) (by have := G.fsz; omega)
  have a2 := sz_small G.gok (by have := G.gdp; omega) (by have := G.gsz; omega)
  have a3 := sz_small G.eok (by have := G.edp; omega) (by have := G.esz; omega)
  have a4 := shown_le _ i1
  have hb := big_line
  have a5 : szP (.list [f.p, g.p, e.p]) ≤ 1000000 := by simp only [szP, szA]; omega
  unfold reprF
  show (match MR.toS (S.new (.lst [fd, gd, ed])) 40 (.ref S.n) with
    | some p => if PyData.showable p && decide (p.shown.length ≤ line) && decide (p.depth ≤ 60) then Res.ok (D.str p.shown) (S.new (.lst [fd, gd, ed])) else .bad
    | none => .bad) = _
  rw [es]
  simp only [i2, Bool.true_and]
  rw [decide_eq_true (by omega), decide_eq_true (by omega)]
  rfl
/-! ### words of the judgement -/
theorem isn_bl {a b : Bool} : isnotD (.bl a) (.bl b) S = .ok (.bl (!decide (a = b))) S := rfl
theorem exact16 {d1 d2 : D} {P : PyData} {k1 k2 : Nat} (h : Dn q S k1 d1 P) (h' : Dn q' S k2 d2 P) (hk : k1 ≤ 15) (hk' : k2 ≤ 15) : Ok (fun x s => x = .bl true ∧ Fr No S s) (pur (F__law_exact 16) [d1, d2] S) := exact_pur (k := 15) (k' := 15) (fun a b => exact_ok 15 (by omega) a b) (h.up hk) (h'.up hk')
theorem setT_ok {m : Nat} {ys : List Str} (g : S.get m = some (.lst (ys.map D.str))) (h : ys.length < 4000) : setTF [.ref m] S = .ok (.ref S.n) (S.new (.set (addTs [] ys))) := by
  have e : mapO strOf (ys.map D.str) = some ys := by
    clear g h
    induction ys with
    | nil => rfl
    | cons y ys ih => rw [List.map_cons, mapO, ih]; rfl
  unfold setTF
  simp only [listOf_get g, e, h, if_true]
theorem strs_dn {m : Nat} {ys : List Str} (g : S.get m = some (.lst (ys.map D.str))) (h : ∀ y ∈ ys, speltB y = true) (hl : ys.length < line) : Dn No S 1 (.ref m) (.list (ys.map .str)) := wds_dn g (fun y hy => fit_spelt (h y hy)) hl
end
end K57

/-! PP21: the judgement of a frame. -/
namespace K57
open PySem MR
open K57D (Pu)
def A1 : SM := mPar 8 9 (mCons (mOwn (pur (F__law_put 16)) [] (mCons (mV 1) (mCons (mV 3) (mNil)))) (mCons (mCall reprF (mCons (mLst (mCons (mV 1) (mCons (mV 2) (mCons (mV 3) (mNil))))) (mNil))) (mNil)))
def A2 : SM := mSet 4 (mOwn (pur (F__law_put 16)) [] (mCons (mOwn (pur (F__law_put 16)) [] (mCons (mV 1) (mCons (mV 2) (mNil)))) (mCons (mV 3) (mNil))))
def A3 : SM := mIfS (mOr (mOp2 gtD (mCall lenF (mCons (mOwn (pur (F__law_leaves 16)) [] (mCons (mV 4) (mNil))) (mNil))) (mC (.int 12))) (mOp2 gtD (mOwn (pur (F__law_nest 16)) [] (mCons (mV 4) (mNil))) (mC (.int 4)))) (mRet (mC (.bl true))) (mNx)
def A4 : SM := mSet 5 (mOwn (pur F_put_in) [] (mCons (mV 1) (mCons (mV 3) (mNil))))
def A5 : SM := mIfS (mOr (mNot (mOwn (pur (F__law_exact 16)) [] (mCons (mV 5) (mCons (mV 8) (mNil))))) (mOr (mOp2 isnotD (mOwn (pur F_is_expression) [] (mCons (mV 5) (mNil))) (mC (.bl true))) (mOp2 isnotD (mOwn (pur F_is_open) [] (mCons (mV 1) (mNil))) (mC (.bl true))))) (mRet (mC (.bl false))) (mNx)
def A6 : SM := mSet 6 (mCall sortF (mCons (mCall setTF (mCons (mOp2 addD (mOwn (pur (F__law_leaves 16)) [] (mCons (mV 1) (mNil))) (mOwn (pur (F__law_leaves 16)) [] (mCons (mV 3) (mNil)))) (mNil))) (mNil)))
def A7 : SM := mIfS (mOr (mOp2 neD (mOwn (pur F_jobs_in) [] (mCons (mV 5) (mNil))) (mV 6)) (mOr (mOp2 neD (mOwn (pur F_nesting) [] (mCons (mV 5) (mNil))) (mOwn (pur (F__law_nest 16)) [] (mCons (mV 8) (mNil)))) (mOp2 isnotD (mOwn (pur F_is_open) [] (mCons (mV 3) (mNil))) (mC (.bl false))))) (mRet (mC (.bl false))) (mNx)
def A8 : SM := mIfS (mNot (mOwn (pur (F__law_exact 16)) [] (mCons (mOwn (pur F_put_in) [] (mCons (mOwn (pur (F__law_put 16)) [] (mCons (mV 1) (mCons (mV 2) (mNil)))) (mCons (mV 3) (mNil)))) (mCons (mOwn (pur (F__law_put 16)) [] (mCons (mV 1) (mCons (mOwn (pur (F__law_put 16)) [] (mCons (mV 2) (mCons (mV 3) (mNil)))) (mNil)))) (mNil))))) (mRet (mC (.bl false))) (mNx)
def A9 : SM := mFor (mRange1 (mCons (mC (.int 3)) (mNil))) (bName 7) (mSeq (mSet 10 (mOwn (pur (F__law_bent 8)) [] (mCons (mV 0) (mCons (mV 1) (mNil))))) (mIfS (mOp2 isnotD (mOwn (pur F_is_open) [] (mCons (mV 10) (mNil))) (mC (.bl false))) (mRet (mC (.bl false))) (mNx)))
def A10 : SM := mExp (mOwn (pur (F__law_spoilt 16)) [] (mCons (mV 5) (mNil)))
def A11 : SM := mRet (mAnd (mOp2 eqSD (mCall reprF (mCons (mLst (mCons (mV 1) (mCons (mV 2) (mCons (mV 3) (mNil))))) (mNil))) (mV 9)) (mOwn (pur (F__law_exact 16)) [] (mCons (mOwn (pur F_put_in) [] (mCons (mV 1) (mCons (mV 3) (mNil)))) (mCons (mV 8) (mNil)))))
theorem fr_eq : FB__law_frame_right = mSeq A1 (mSeq A2 (mSeq A3 (mSeq A4 (mSeq A5 (mSeq A6 (mSeq A7 (mSeq A8 (mSeq A9 (mSeq A10 A11))))))))) := rfl
section
variable {q q' : Nat → Prop} {S S' s B : Hs} {k n p w : Nat} {d : D} {c0 : Int} {fd gd ed : D} {f g e : T} {P : EnvD → Hs → Prop} {Q : D → Hs → Prop}
theorem fr_own {q q' : Nat → Prop} (a : Fr q S S') (b : Fr q' S' s) (h : ∀ n, q' n → S.n ≤ n) : Fr q S s :=
  ⟨fun n c hn e => b.at_ n c (fun z => by have := h n z; have := Hs.get_lt e; omega) (a.at_ n c hn e), Nat.le_trans a.n b.n⟩
theorem a1_ok (h : Tri q S fd gd ed f g e) (G : Gd f g e) (k : ∀ s d1, Fr No S s → Dn (· < S.n) s (f.put e).dp d1 (f.put e).p → P [some (.ref p), some fd, some gd, some ed, none, none, none, none, some d1, some (.str (noted f g e)), none] s) : Wp P Q (A1 [some (.ref p), some fd, some gd, some ed, none, none, none, none, none, none, none] S) := by
  unfold A1
  simp [h.f.noX, h.g.noX, h.e.noX, show (3 : Nat) ≤ line by decide]
  refine (put16 h.f h.e (by have := G.fdp; omega) (by have := G.edp; omega)).mono fun d1 s ⟨f1, dn⟩ => ?_
  rw [repr3 (h.fr f1.any) G]
  exact k _ _ (f1.trans Fr.new) (dn.fr Fr.new)
theorem a2_ok {d1 : D} {z : Str} (h : Tri q S fd gd ed f g e) (G : Gd f g e) (k : ∀ s d2, Fr No S s → (∃ q2, Dn q2 s ((f.put g).put e).dp d2 ((f.put g).put e).p) → P [some (.ref p), some fd, some gd, some ed, some d2, none, none, none, some d1, some (.str z), none] s) : Wp P Q (A2 [some (.ref p), some fd, some gd, some ed, none, none, none, none, some d1, some (.str z), none] S) := by
  have := put_dp g f
  have := G.fdp
  have := G.gdp
  have := G.edp
  unfold A2
  simp [h.f.noX, h.g.noX, h.e.noX]
  refine (put16 h.f h.g (by omega) (by omega)).mono fun d1 s ⟨f1, dn⟩ => ?_
  refine (put16 dn (h.e.fr f1.any) (by omega) (by omega)).mono fun d2 s2 ⟨f2, dn2⟩ => ?_
  exact k _ _ (f1.trans f2) ⟨_, dn2⟩
theorem a3_ok {d1 d2 : D} {z : Str} {t : T} (h2 : Dn q S t.dp d2 t.p) (hd : t.dp ≤ 15) (hz : t.sz ≤ 100000) (r : ∀ s, Fr No S s → Q (.bl true) s) (k : ∀ s, Fr No S s → P [some (.ref p), some fd, some gd, some ed, some d2, none, none, none, some d1, some (.str z), none] s) : Wp P Q (A3 [some (.ref p), some fd, some gd, some ed, some d2, none, none, none, some d1, some (.str z), none] S) := by
  unfold A3
  simp [h2.noX]
  refine (leaves16 h2 hd hz).mono fun x s ⟨m, hx, hm, f1, g1⟩ => ?_
  subst hx
  rw [len_lst g1, Ok_ok, gt_ii, Ok_ok, Bl_bl]
  by_cases h0 : ((t.lv.map D.str).length : Int) > 12
  · rw [if_pos (decide_eq_true h0)]
    exact r s f1
  · rw [if_neg (by simpa using h0)]
    refine (nest16 (h2.fr f1.any) hd hz).mono fun x s2 ⟨hx, f2⟩ => ?_
    subst hx
    rw [gt_ii, Ok_ok]
    by_cases h1 : t.ns > 4
    · rw [decide_eq_true h1]
      exact r s2 (f1.trans f2)
    · rw [decide_eq_false h1]
      exact k s2 (f1.trans f2)
theorem a4_ok {d1 d2 : D} {z : Str} (h : Tri q S fd gd ed f g e) (G : Gd f g e) (k : ∀ s d5, Pi f e d5 S s → P [some (.ref p), some fd, some gd, some ed, some d2, some d5, none, none, some d1, some (.str z), none] s) : Wp P Q (A4 [some (.ref p), some fd, some gd, some ed, some d2, none, none, none, some d1, some (.str z), none] S) := by
  unfold A4
  simp [h.f.noX, h.e.noX]
  exact (put_in_pur h.f h.e (by have := G.fdp; omega) (by have := G.edp; omega) G.fok G.eok G.fhp G.ehp).mono fun x s hx => k _ _ hx
/-- what is known of the whole that is told and the one that is due -/
structure Two (q : Nat → Prop) (S : Hs) (d5 d1 : D) (f e : T) : Prop where
  told : ∃ q2, Dn q2 S (f.put e).dp d5 (f.put e).p
  due : Dn q S (f.put e).dp d1 (f.put e).p
theorem Two.fr {d5 d1 : D} (h : Two q S d5 d1 f e) (a : Fr No S S') : Two q S' d5 d1 f e := ⟨h.told.imp fun _ z => z.fr a.any, h.due.fr a.any⟩
theorem a5_ok {d1 d2 d5 : D} {z : Str} (h : Tri q S fd gd ed f g e) (G : Gd f g e) (h2 : Two q S d5 d1 f e) (k : ∀ s, Fr No S s → P [some (.ref p), some fd, some gd, some ed, some d2, some d5, none, none, some d1, some (.str z), none] s) : Wp P Q (A5 [some (.ref p), some fd, some gd, some ed, some d2, some d5, none, none, some d1, some (.str z), none] S) := by
  obtain ⟨q2, ht⟩ := h2.told
  have := put_dp e f
  have := G.fdp
  have := G.edp
  unfold A5
  simp [h.f.noX, ht.noX, h2.due.noX]
  refine (exact16 ht h2.due (by omega) (by omega)).mono fun x s ⟨hx, f1⟩ => ?_
  subst hx
  simp
  refine (expr_pur (ht.fr f1.any) (by omega)).mono fun x s2 ⟨hx, f2⟩ => ?_
  subst hx
  rw [wd_t false (put_ok G.eok f G.fok) (by omega), put_hp, G.ehp]
  simp [isn_bl]
  have f12 := f1.trans f2
  refine (open_pur (h.f.fr f12.any) (by omega)).mono fun x s3 ⟨hx, f3⟩ => ?_
  subst hx
  rw [wd_t true G.fok (by omega), wd_t false G.fok (by omega), G.fhp]
  simp [isn_bl]
  exact k s3 (f12.trans f3)
theorem a6_ok {d1 d2 d5 : D} {z : Str} (h : Tri q S fd gd ed f g e) (G : Gd f g e) (k : ∀ s m, Fr No S s → s.get m = some (.lst ((canon (f.lv ++ e.lv)).map D.str)) → P [some (.ref p), some fd, some gd, some ed, some d2, some d5, some (.ref m), none, some d1, some (.str z), none] s) : Wp P Q (A6 [some (.ref p), some fd, some gd, some ed, some d2, some d5, none, none, some d1, some (.str z), none] S) := by
  have := G.fsz
  have := G.esz
  have := G.fdp
  have := G.edp
  have lf := lv_le f
  have le := lv_le e
  have hb := big_line
  unfold A6
  simp [h.f.noX, h.e.noX]
  refine (leaves16 h.f (by omega) (by omega)).mono fun x s1 ⟨m1, hx, hm1, f1, g1⟩ => ?_
  subst hx
  refine (leaves16 (h.e.fr f1.any) (by omega) (by omega)).mono fun x s2 ⟨m2, hx, hm2, f2, g2⟩ => ?_
  subst hx
  rw [add_lst (f2.at_ _ _ id g1) g2 (by rw [List.length_map, List.length_map]; omega), Ok_ok]
  have g3 : (s2.new (.lst (f.lv.map D.str ++ e.lv.map D.str))).get s2.n = some (.lst ((f.lv ++ e.lv).map D.str)) := by rw [List.map_append]; exact Hs.get_new _ _
  rw [setT_ok g3 (by rw [List.length_append]; omega), Ok_ok, sortF_set (Hs.get_new _ _), Ok_ok]
  exact k _ _ ((((f1.trans f2).trans Fr.new).trans Fr.new).trans Fr.new) (Hs.get_new _ _)
theorem a7_ok {d1 d2 d5 : D} {z : Str} {m : Nat} (h : Tri q S fd gd ed f g e) (G : Gd f g e) (h2 : Two q S d5 d1 f e) (g6 : S.get m = some (.lst ((canon (f.lv ++ e.lv)).map D.str))) (k : ∀ s, Fr No S s → P [some (.ref p), some fd, some gd, some ed, some d2, some d5, some (.ref m), none, some d1, some (.str z), none] s) : Wp P Q (A7 [some (.ref p), some fd, some gd, some ed, some d2, some d5, some (.ref m), none, some d1, some (.str z), none] S) := by
  obtain ⟨q2, ht⟩ := h2.told
  have := put_dp e f
  have := put_sz e f
  have := G.fdp
  have := G.edp
  have hfs := G.fsz
  have hes := G.esz
  have hm : f.sz * e.sz ≤ 4 * 4 := Nat.mul_le_mul hfs hes
  have pok := put_ok G.eok f G.fok
  have lf := lv_le f
  have le := lv_le e
  have hb := big_line
  have ec : canon (f.put e).lv = canon (f.lv ++ e.lv) := canon_eq fun x => by
    rw [put_mem, List.mem_append, G.fhp]
    simp
  have spl : ∀ y ∈ canon (f.lv ++ e.lv), speltB y = true := fun y hy => by
    rcases List.mem_append.mp (canon_mem.mp hy) with a | a
    · exact ok_lv f G.fok y a
    · exact ok_lv e G.eok y a
  have hcl : (canon (f.lv ++ e.lv)).length < line := by
    have := canon_len (f.lv ++ e.lv)
    rw [List.length_append] at this
    omega
  unfold A7
  simp [h.e.noX, ht.noX, h2.due.noX]
  refine (jobs_in_ok ht (by omega) (by omega) pok (by omega)).mono fun x s1 ⟨m1, hx, hm1, f1, g1⟩ => ?_
  subst hx
  rw [ec] at g1
  have dn1 := strs_dn g1 spl hcl
  have dn2 := strs_dn (f1.at_ _ _ id g6) spl hcl
  rw [dn1.ne dn2 (by omega) (by omega), dn1.refl, Ok_ok, Bl_bl]
  simp
  refine (nesting_pur (ht.fr f1.any) (by omega) (by omega) pok).mono fun x s2 ⟨hx, f2⟩ => ?_
  subst hx
  have f12 := f1.trans f2
  refine (nest16 (h2.due.fr f12.any) (by omega) (by omega)).mono fun x s3 ⟨hx, f3⟩ => ?_
  subst hx
  have f13 := f12.trans f3
  simp [neD, eq_int]
  refine (open_pur (h.e.fr f13.any) (by omega)).mono fun x s4 ⟨hx, f4⟩ => ?_
  subst hx
  rw [wd_t true G.eok (by omega), wd_t false G.eok (by omega), G.ehp]
  simp [isn_bl]
  exact k s4 (f13.trans f4)
theorem a8_ok {d1 d2 d5 d6 : D} {z : Str} (h : Tri q S fd gd ed f g e) (G : Gd f g e) (k : ∀ s, Fr No S s → P [some (.ref p), some fd, some gd, some ed, some d2, some d5, some d6, none, some d1, some (.str z), none] s) : Wp P Q (A8 [some (.ref p), some fd, some gd, some ed, some d2, some d5, some d6, none, some d1, some (.str z), none] S) := by
  have := put_dp g f
  have := put_dp e g
  have := put_dp (g.put e) f
  have := put_dp e (f.put g)
  have := G.fdp
  have := G.gdp
  have := G.edp
  unfold A8
  simp [h.f.noX, h.g.noX, h.e.noX]
  refine (put16 h.f h.g (by omega) (by omega)).mono fun x1 s1 ⟨f1, n1⟩ => ?_
  refine (put_in_pur n1 (h.e.fr f1.any) (by omega) (by omega) (put_ok G.gok f G.fok) G.eok (by rw [put_hp, G.fhp, G.ghp]; rfl) G.ehp).mono fun x2 s2 ⟨lo, hlo, f2, hn, iv⟩ => ?_
  have f12 := f1.trans f2
  refine (put16 (h.g.fr f12.any) (h.e.fr f12.any) (by omega) (by omega)).mono fun x3 s3 ⟨f3, n3⟩ => ?_
  have f13 := f12.trans f3
  refine (put16 (h.f.fr f13.any) n3 (by omega) (by omega)).mono fun x4 s4 ⟨f4, n4⟩ => ?_
  have f14 := f13.trans f4
  have dn := (iv.dn.fr (f3.trans f4).any)
  rw [put_put] at dn
  refine (exact16 dn n4 (by omega) (by omega)).mono fun x s5 ⟨hx, f5⟩ => ?_
  subst hx
  exact k s5 (f14.trans f5)
end
end K57

/-! PP22: the judgement of a frame, to its end. -/
namespace K57
open PySem MR
open K57D (Pu)
section
variable {q q' : Nat → Prop} {S S' s B : Hs} {k n p w : Nat} {d : D} {c0 : Int} {fd gd ed : D} {f g e : T} {P : EnvD → Hs → Prop} {Q : D → Hs → Prop}
theorem range_ev {env : EnvD} {z : Int} (j : Nat) (hz : z = (j : Int)) (hj : j < 1000) : mRange1 (mCons (mC (.int z)) mNil) env S = .ok (.rng 0 j) S := by
  show (if -(2 ^ 62) ≤ z ∧ z < 2 ^ 62 then Res.ok (DI.rng 0 z.toNat) S else .bad) = _
  rw [if_pos ⟨by omega, by omega⟩, hz, Int.toNat_natCast]
theorem a9_ok {d1 d2 d5 d6 : D} {z : Str} {c0 : Int} (h : Dn (· = p) S f.dp fd f.p) (G : Gd f g e) (hP : Pu S p c0) (hc : c0 + 200 < 800000) (k : ∀ s o7 o10, Fr (· = p) S s → Pu s p (c0 + 192) → P [some (.ref p), some fd, some gd, some ed, some d2, some d5, some d6, o7, some d1, some (.str z), o10] s) : Wp P Q (A9 [some (.ref p), some fd, some gd, some ed, some d2, some d5, some d6, none, some d1, some (.str z), none] S) := by
  have nx := h.noX
  have := G.fdp
  have := G.fsz
  unfold A9
  refine w_for (rngL 0 3) (fun _ i env s => ∃ o7 o10, env = [some (.ref p), some fd, some gd, some ed, some d2, some d5, some d6, o7, some d1, some (.str z), o10] ∧ Fr (· = p) S s ∧ Pu s p (c0 + (64 * i : Nat))) ?_
  rw [range_ev (z := 3) 3 rfl (by decide)]
  refine ⟨(itm_rng (q := No) (S := S)).size, ⟨none, none, rfl, Fr.refl, hP.le (by omega)⟩, fun i env s d' ⟨o7, o10, he, fr, P'⟩ hd => ?_, fun env s ⟨o7, o10, he, fr, P'⟩ => ?_⟩
  · subst he
    have hi : i < 3 := by
      have := (List.getElem?_eq_some_iff.mp hd).1
      rw [rngL_len] at this
      exact this
    refine ⟨by rw [(itm_rng (q := No) (S := s)).next i s Fr.refl, hd], [(7, d')], rfl, ?_⟩
    simp [apD, nx]
    rw [pur_raw rfl]
    refine (bent_ok 7 (h.fr fr) G.fok (by omega) (by omega) (by omega) P' (by omega)).mono fun x s2 ⟨P2, dn, no, f2, P3⟩ => ?_
    have fr2 := fr.trans f2
    simp [dn.noX]
    refine (open_pur dn (by omega)).mono fun y s3 ⟨hy, f3⟩ => ?_
    subst hy
    rw [no 16]
    simp [isn_bl]
    refine ⟨fr2.trans f3.any, (P3.fr f3 id).le (by omega)⟩
  · subst he
    rw [rngL_len] at P'
    refine ⟨by rw [(itm_rng (q := No) (S := s)).next _ s Fr.refl, List.getElem?_eq_none (by simp [rngL_len])], k _ _ _ fr (P'.le (by omega))⟩
theorem a10_ok {d1 d2 d5 d6 : D} {z : Str} {o7 o10 : Option D} {lo : Nat} {t : T} (iv : Iv S lo d5 t) (hd : t.dp ≤ 15) (k : ∀ s, Fr (Own2 lo t.cl) S s → P [some (.ref p), some fd, some gd, some ed, some d2, some d5, some d6, o7, some d1, some (.str z), o10] s) : Wp P Q (A10 [some (.ref p), some fd, some gd, some ed, some d2, some d5, some d6, o7, some d1, some (.str z), o10] S) := by
  unfold A10
  simp [iv.noX]
  exact (spoilt_ok 15 hd iv).mono fun x s hx => k _ hx.2
theorem a11_ok {d1 d2 d5 d6 : D} {o7 o10 : Option D} (h : Tri q S fd gd ed f g e) (G : Gd f g e) (hd : Dn q' S (f.put e).dp d1 (f.put e).p) (k : ∀ s, Fr No S s → Q (.bl true) s) : Wp P Q (A11 [some (.ref p), some fd, some gd, some ed, some d2, some d5, some d6, o7, some d1, some (.str (noted f g e)), o10] S) := by
  have := put_dp e f
  have := G.fdp
  have := G.edp
  unfold A11
  simp [h.f.noX, h.g.noX, h.e.noX, hd.noX, show (3 : Nat) ≤ line by decide]
  rw [repr3 h G, Ok_ok]
  have es : eqSD (.str (noted f g e)) (.str (noted f g e)) (S.new (.lst [fd, gd, ed])) = .ok (.bl true) (S.new (.lst [fd, gd, ed])) := by
    show Res.ok (D.bl (decide (noted f g e = noted f g e))) _ = _
    rw [decide_eq_true rfl]
  rw [es, Ok_ok, Bl_bl, if_pos rfl]
  have f0 : Fr No S (S.new (.lst [fd, gd, ed])) := Fr.new
  refine (put_in_pur (h.f.fr f0.any) (h.e.fr f0.any) (by omega) (by omega) G.fok G.eok G.fhp G.ehp).mono fun x s1 ⟨lo, hlo, f1, hn, iv⟩ => ?_
  have f01 := f0.trans f1
  refine (exact16 iv.dn (hd.fr f01.any) (by omega) (by omega)).mono fun x s2 ⟨hx, f2⟩ => ?_
  subst hx
  exact k s2 (f01.trans f2)
theorem frame_ok {c0 : Int} (h : Tri (· = p) S fd gd ed f g e) (G : Gd f g e) (hP : Pu S p c0) (hc : c0 + 200 < 800000) : Ok (fun x s => x = .bl true ∧ Fr (· = p) S s ∧ Pu s p (c0 + 192)) (F__law_frame_right [.ref p, fd, gd, ed] S) := by
  have pe := put_dp e f
  have pg := put_dp g f
  have pge := put_dp e (f.put g)
  have sg := put_sz g f
  have sge := put_sz e (f.put g)
  have := G.fdp
  have := G.gdp
  have := G.edp
  have m1 : f.sz * g.sz ≤ 4 * 4 := Nat.mul_le_mul G.fsz G.gsz
  have m2 : (f.put g).sz * e.sz ≤ 16 * 4 := Nat.mul_le_mul (by omega) G.esz
  have hp := hP.lt
  refine o_run rfl ?_
  show Wp _ _ (FB__law_frame_right [some (.ref p), some fd, some gd, some ed, none, none, none, none, none, none, none] S)
  rw [fr_eq, Wp_seq]
  refine a1_ok h G fun s1 d1 f1 due => ?_
  rw [Wp_seq]
  refine a2_ok (h.fr f1.any) G fun s2 d2 f2 ⟨q2, hw⟩ => ?_
  have f02 := f1.trans f2
  rw [Wp_seq]
  refine a3_ok hw (by omega) (by omega) (fun s f3 => ⟨rfl, (f02.trans f3).any, (hP.fr (f02.trans f3) id).le (by omega)⟩) fun s3 f3 => ?_
  have f03 := f02.trans f3
  -- the state that all the rest leaves as it stands
  have hp3 : p < s3.n := Nat.lt_of_lt_of_le hp f03.n
  let QB : Nat → Prop := fun n => n = p ∨ s3.n ≤ n
  have tB : Tri QB s3 fd gd ed f g e := ⟨dn_lt (h.f.fr f03.any), dn_lt (h.g.fr f03.any), dn_lt (h.e.fr f03.any)⟩
  have dB : Dn QB s3 (f.put e).dp d1 (f.put e).p := dn_lt (q := (· = p)) ((due.weak fun n hn => by have hn : n = p := hn; show n < S.n; omega).fr (f2.trans f3).any)
  rw [Wp_seq]
  refine a4_ok tB G fun s4 d5 ⟨lo, hlo, f4, hn4, iv⟩ => ?_
  have two4 : Two QB s4 d5 d1 f e := ⟨⟨_, iv.dn⟩, dB.fr f4.any⟩
  rw [Wp_seq]
  refine a5_ok (tB.fr f4.any) G two4 fun s5 f5 => ?_
  have f35 := f4.trans f5
  rw [Wp_seq]
  refine a6_ok (tB.fr f35.any) G fun s6 m6 f6 g6 => ?_
  have f36 := f35.trans f6
  rw [Wp_seq]
  refine a7_ok (tB.fr f36.any) G (two4.fr (f5.trans f6)) g6 fun s7 f7 => ?_
  have f37 := f36.trans f7
  rw [Wp_seq]
  refine a8_ok (tB.fr f37.any) G fun s8 f8 => ?_
  have f38 := f37.trans f8
  rw [Wp_seq]
  refine a9_ok (((tB.fr f38.any).f).weak fun n hn => .inl hn) G (hP.fr (f03.trans f38) id) hc fun s9 o7 o10 f9 P9 => ?_
  have iv9 : Iv s9 lo d5 (f.put e) := (iv.fr (q := No) ((f5.trans f6).trans (f7.trans f8)) fun m hm => hm.elim).fr f9 fun m hm => .inl (by have hm : m = p := hm; omega)
  rw [Wp_seq]
  refine a10_ok iv9 (by omega) fun s10 f10 => ?_
  have b10 : Fr QB s3 s10 := ((f38.any (q := QB)).trans (f9.mono fun n hn => .inl hn)).trans (f10.mono fun n hn => .inr (Nat.le_trans hlo hn.1))
  refine a11_ok (tB.fr b10) G (dB.fr b10) fun s11 f11 => ?_
  have fS9 : Fr (· = p) S s9 := ((f03.trans f38).any (q := (· = p))).trans f9
  have fS10 : Fr (· = p) S s10 := fr_own fS9 f10 fun n hn => by have := hn.1; have := f03.n; omega
  exact ⟨rfl, fS10.trans f11.any, (P9.fr f10 fun z => by have := z.1; omega).fr f11 id⟩
end
end K57

/-! PP23: the law answers True. -/
namespace K57
open PySem MR
open K57D (Pu Made refs)
def C1 : SM := mSet 6 (mLc (mRange1 (mCons (mC (.int 3)) (mNil))) (bName 9) (mTrue) (mOwn (pur (F__law_expression 8)) [] (mCons (mV 1) (mCons (mV 2) (mCons (mC (.int 2)) (mCons (mOp2 addD (mC (.int 1)) (mOwn (pur F__law_draw) [] (mCons (mV 1) (mCons (mC (.int 4)) (mNil))))) (mNil)))))) [9])
def C2 : SM := mIfS (mNot (mOwn F__law_frame_right [] (mCons (mV 1) (mCons (mOwn (pur (F__law_placed 8)) [] (mCons (mV 1) (mCons (mOp2 ixD (mV 6) (mC (.int 0))) (mNil)))) (mCons (mOwn (pur (F__law_placed 8)) [] (mCons (mV 1) (mCons (mOp2 ixD (mV 6) (mC (.int 1))) (mNil)))) (mCons (mOp2 ixD (mV 6) (mC (.int 2))) (mNil))))))) (mRet (mC (.bl false))) (mNx)
def B1 : SM := mSet 2 (mOwn (pur F__law_words) [] (mCons (mV 1) (mCons (mC (.int 3)) (mNil))))
def B2 : SM := mFor (mRange1 (mCons (mC (.int 6)) (mNil))) (bName 3) (mSeq C1 C2)
def B3 : SM := mIfS (mOr (mOp2 neD (mOwn (pur F_put_in) [] (mCons (mTup (mCons (mC (.str "place")) (mNil))) (mCons (mTup (mCons (mC (.str "row")) (mCons (mLst (mNil)) (mNil)))) (mNil)))) (mTup (mCons (mC (.str "row")) (mCons (mLst (mNil)) (mNil))))) (mOp2 isnotD (mOwn (pur F_is_open) [] (mCons (mTup (mCons (mC (.str "row")) (mCons (mLst (mNil)) (mNil)))) (mNil))) (mC (.bl false)))) (mRet (mC (.bl false))) (mNx)
def B4 : SM := mSet 4 (mTup (mCons (mC (.str "row")) (mCons (mLst (mCons (mOp2 ixD (mV 2) (mC (.int 0))) (mCons (mOp2 ixD (mV 2) (mC (.int 1))) (mCons (mTup (mCons (mC (.str "again")) (mCons (mOp2 ixD (mV 2) (mC (.int 2))) (mNil)))) (mCons (mOp2 ixD (mV 2) (mC (.int 1))) (mCons (mTup (mCons (mC (.str "place")) (mNil))) (mCons (mTup (mCons (mC (.str "again")) (mCons (mTup (mCons (mC (.str "place")) (mNil))) (mNil)))) (mCons (mOp2 ixD (mV 2) (mC (.int 0))) (mNil))))))))) (mNil))))
def B5 : SM := mPar 7 8 (mCons (mOwn (pur F_put_in) [] (mCons (mV 4) (mCons (mTup (mCons (mC (.str "row")) (mCons (mLst (mCons (mOp2 ixD (mV 2) (mC (.int 2))) (mCons (mOp2 ixD (mV 2) (mC (.int 0))) (mNil)))) (mNil)))) (mNil)))) (mCons (mTup (mCons (mC (.str "row")) (mCons (mLst (mCons (mOp2 ixD (mV 2) (mC (.int 2))) (mCons (mOp2 ixD (mV 2) (mC (.int 0))) (mNil)))) (mNil)))) (mNil)))
def B6 : SM := mSet 5 (mTup (mCons (mC (.str "row")) (mCons (mLst (mCons (mOp2 ixD (mV 2) (mC (.int 0))) (mCons (mOp2 ixD (mV 2) (mC (.int 1))) (mCons (mTup (mCons (mC (.str "again")) (mCons (mOp2 ixD (mV 2) (mC (.int 2))) (mNil)))) (mCons (mOp2 ixD (mV 2) (mC (.int 1))) (mCons (mV 8) (mCons (mTup (mCons (mC (.str "again")) (mCons (mV 8) (mNil)))) (mCons (mOp2 ixD (mV 2) (mC (.int 0))) (mNil))))))))) (mNil))))
def B7 : SM := mIfS (mOr (mNot (mOwn (pur (F__law_exact 16)) [] (mCons (mV 7) (mCons (mV 5) (mNil))))) (mOr (mOp2 isnotD (mOwn (pur F_is_open) [] (mCons (mV 4) (mNil))) (mC (.bl true))) (mOp2 isnotD (mOwn (pur F_is_open) [] (mCons (mV 5) (mNil))) (mC (.bl false))))) (mRet (mC (.bl false))) (mNx)
def bodyL : SM := mSeq B1 (mSeq B2 (mSeq B3 (mSeq B4 (mSeq B5 (mSeq B6 B7)))))
theorem law_eq : FB_law = mSeq (mFor (mIter (mOwn (pur F__law_purses) [] (mCons (mV 0) (mCons (mC (.int 3)) (mNil))))) (bName 1) bodyL) (mRet (mC (.bl true))) := rfl
section
variable {q q' : Nat → Prop} {S S' s : Hs} {k n p w : Nat} {d sc : D} {c0 : Int} {js : List Str} {P : EnvD → Hs → Prop} {Q : D → Hs → Prop}
def drawn3 : Ex := mLc (mRange1 (mCons (mC (.int 3)) (mNil))) (bName 9) (mTrue) (mOwn (pur (F__law_expression 8)) [] (mCons (mV 1) (mCons (mV 2) (mCons (mC (.int 2)) (mCons (mOp2 addD (mC (.int 1)) (mOwn (pur F__law_draw) [] (mCons (mV 1) (mCons (mC (.int 4)) (mNil))))) (mNil)))))) [9]
structure Ex4 (t : T) : Prop where
  ok : t.ok = true
  hp : t.hp = false
  sz : t.sz ≤ 4
  dp : t.dp ≤ 4
theorem co_le : ∀ s < 5, co s ≤ 100 := by decide
theorem lev_le : ∀ s < 5, lev s ≤ 4 := by decide
theorem drawn_ok {env : EnvD} (e1 : env[1]? = some (some (.ref p))) (e2 : env[2]? = some (some (.ref w))) (hj : ∀ j ∈ js, speltB j = true) (hl : js.length = 3) (hP : Pu S p c0) (hc : c0 < 600000) (gw : S.get w = some (.lst (wds js))) (hw : w ≠ p) :
    Ok (fun x s => ∃ m zs ts, x = .ref m ∧ s.get m = some (.lst zs) ∧ zs.length = 3 ∧ List.length ts = 3 ∧ (∀ (i : Nat) y t, zs[i]? = some y → ts[i]? = some t → Ex4 t ∧ Dn (· < S.n) s t.dp y t.p) ∧ S.n ≤ m ∧ Fr (· = p) S s ∧ Pu s p (c0 + 330)) (drawn3 env S) := by
  have hp := hP.lt
  have hne : ¬ S.n = p := by omega
  unfold drawn3
  refine o_lcJ (· = p) (rngL 0 3) (fun i s => Pu s p (c0 + ((i * 110 : Nat) : Int))) (fun S1 i y s => ∃ t, Ex4 t ∧ Dn (· < S1.n + 1) s t.dp y t.p) ?_
  rw [range_ev (z := 3) 3 rfl (by decide)]
  refine ⟨itm_rng, by rw [rngL_len]; decide, hne, (hP.fr (Fr.new (q := No)) id).le (by omega), fun i s c0' c g hJ => hJ.put g hne, fun i d hd => ⟨[(9, d)], rfl, fun s fr hn hJ => ?_⟩, fun i y s s' f ⟨t, ht, z⟩ => ⟨t, ht, z.fr (f.mono fun n hn => ?_)⟩, fun s' zs fr hn hJ g2 l2 hz => ?_⟩
  · have hi : i < 3 := by
      have := (List.getElem?_eq_some_iff.mp hd).1
      rw [rngL_len] at this
      exact this
    simp [e1, e2]
    refine (draw_w (m := 4) hJ (by omega) (by decide) (by decide)).mono fun x s1 ⟨r, hx, hr, fr1, hn1, P1⟩ => ?_
    subst hx
    rw [add_ii, Ok_ok, pur_raw rfl]
    have es : (1 : Int) + (r : Int) = ((1 + r : Nat) : Int) := by omega
    rw [es]
    have c1 := co_le (1 + r) (by omega)
    have l1 := lev_le (1 + r) (by omega)
    refine (expr_ok hj (by omega) 7 (size := 1 + r) (by omega) (by omega) (by omega) P1 (by omega) (fr1.at_ _ _ hw (fr.at_ _ _ hw gw)) hw).mono fun y s2 ⟨t, ht, dn, f2, P2⟩ => ⟨fr1.trans f2, P2.le (by omega), t, ⟨ht.ok, ht.hp, Nat.le_trans ht.sz (by omega), Nat.le_trans ht.dp l1⟩, dn.weak fun n hn => ?_⟩
    show n < s1.n
    have hn : n < S.n + 1 := hn
    omega
  · show n < S.n + 1
    rcases hn with z | z
    · have z : n = p := z
      omega
    · omega
  · rw [rngL_len] at hJ l2
    have each : ∀ (i : Nat) (y : D), zs[i]? = some y → ∃ t, Ex4 t ∧ Dn (· < S.n + 1) s' t.dp y t.p := hz
    obtain ⟨ts, hts, hall⟩ := trees_of (A := fun t y => Dn (· < S.n + 1) s' t.dp y t.p) each
    refine ⟨S.n, zs, ts, rfl, g2, l2, by omega, fun i y t h1 h2 => ?_, Nat.le_refl _, fr, hJ.le (by omega)⟩
    obtain ⟨a, b⟩ := hall i y t h1 h2
    exact ⟨a, b.weak fun n hn => by show n < S.n + 1; have hn : n < S.n := hn; omega⟩
theorem turn_body {o3 o4 o5 o6 o7 o8 : Option D} (hj : ∀ j ∈ js, speltB j = true) (hl : js.length = 3) (hP : Pu S p c0) (hc : c0 < 500000) (gw : S.get w = some (.lst (wds js))) (hw : w ≠ p) (k : ∀ s o6, Fr (· = p) S s → Pu s p (c0 + 5000) → P [some sc, some (.ref p), some (.ref w), o3, o4, o5, o6, o7, o8, none] s) :
    Wp P Q (mSeq C1 C2 [some sc, some (.ref p), some (.ref w), o3, o4, o5, o6, o7, o8, none] S) := by
  rw [Wp_seq]
  show Wp _ _ (mSet 6 drawn3 [some sc, some (.ref p), some (.ref w), o3, o4, o5, o6, o7, o8, none] S)
  rw [Wp_set]
  refine (drawn_ok rfl rfl hj hl hP (by omega) gw hw).mono fun x s1 ⟨m, zs, ts, hx, g, lz, lt, each, hm, f1, P1⟩ => ?_
  subst hx
  match zs, ts, lz, lt, each, g with
  | [z0, z1, z2], [t0, t1, t2], _, _, each, g =>
    obtain ⟨a0, b0⟩ := each 0 z0 t0 rfl rfl
    obtain ⟨a1, b1⟩ := each 1 z1 t1 rfl rfl
    obtain ⟨a2, b2⟩ := each 2 z2 t2 rfl rfl
    have hp := hP.lt
    have mp : ¬ m = p := by omega
    have wk : ∀ {s : Hs} {t : T} {y : D}, Dn (· < S.n) s t.dp y t.p → Dn (· = p) s t.dp y t.p := fun h => h.weak fun n hn => by show n < S.n; have hn : n = p := hn; omega
    have c7 : cp 7 = 2040 := by decide
    show Wp P Q (C2 [some sc, some (.ref p), some (.ref w), o3, o4, o5, some (.ref m), o7, o8, none] s1)
    unfold C2
    have i0 : ∀ {s : Hs}, Fr (· = p) s1 s → ixD (.ref m) (.int 0) s = .ok z0 s := fun f => ix_lst (i := 0) (f.at_ _ _ mp g) rfl
    have i1 : ∀ {s : Hs}, Fr (· = p) s1 s → ixD (.ref m) (.int 1) s = .ok z1 s := fun f => ix_lst (i := 1) (f.at_ _ _ mp g) rfl
    have i2 : ∀ {s : Hs}, Fr (· = p) s1 s → ixD (.ref m) (.int 2) s = .ok z2 s := fun f => ix_lst (i := 2) (f.at_ _ _ mp g) rfl
    simp [i0 Fr.refl]
    rw [pur_raw rfl]
    refine (placed_ok 7 (wk b0) rfl a0.ok a0.hp (by have := a0.sz; omega) (by have := a0.dp; omega) (by omega) P1 (by omega)).mono fun x0 s2 ⟨u0, dn0, ok0, hp0, sz0, dp0, f2, P2⟩ => ?_
    rw [i1 f2, Ok_ok, pur_raw rfl]
    refine (placed_ok 7 ((wk b1).fr f2) rfl a1.ok a1.hp (by have := a1.sz; omega) (by have := a1.dp; omega) (by omega) P2 (by omega)).mono fun x1 s3 ⟨u1, dn1, ok1, hp1, sz1, dp1, f3, P3⟩ => ?_
    have f13 := f2.trans f3
    rw [i2 f13, Ok_ok]
    have hp1' := P1.lt
    have hp2' := P2.lt
    have tri : Tri (· = p) s3 x0 x1 z2 u0 u1 t2 := ⟨(dn0.weak fun n hn => by have hn : n = p := hn; exact ⟨hn, by omega⟩).fr f3, dn1.weak fun n hn => by have hn : n = p := hn; exact ⟨hn, by omega⟩, (wk b2).fr f13⟩
    have gd : Gd u0 u1 t2 := ⟨ok0, ok1, a2.ok, hp0, hp1, a2.hp, Nat.le_trans sz0 a0.sz, Nat.le_trans sz1 a1.sz, a2.sz, by have := a0.dp; omega, by have := a1.dp; omega, a2.dp⟩
    refine (frame_ok tri gd P3 (by omega)).mono fun x s4 ⟨hx, f4, P4⟩ => ?_
    subst hx
    simp
    exact k s4 _ ((f1.trans f13).trans f4) (P4.le (by omega))
end
end K57

/-! PP24: the law answers True, to its end. -/
namespace K57
open PySem MR
open K57D (Pu Made refs)
section
variable {q q' : Nat → Prop} {S S' s : Hs} {k n p w : Nat} {d sc : D} {c0 : Int} {js : List Str} {P : EnvD → Hs → Prop} {Q : D → Hs → Prop} {o3 o4 o5 o6 o7 o8 : Option D} {j0 j1 j2 : Str}
theorem nilrow (g : S.get n = some (.lst [])) : Dn No S 2 (.tup [.str "row", .ref n]) (T.row []).p := mk_row id g rfl (by decide) fun i d t h => by cases h
theorem b1_ok (hP : Pu S p c0) (hc : c0 < 600000) (k : ∀ s w ws, s.get w = some (.lst (wds ws)) → S.n ≤ w → List.length ws = 3 → (∀ v ∈ ws, speltB v = true) → Fr (· = p) S s → Pu s p (c0 + 300) → P [some sc, some (.ref p), some (.ref w), o3, o4, o5, o6, o7, o8, none] s) {o2 : Option D} : Wp P Q (B1 [some sc, some (.ref p), o2, o3, o4, o5, o6, o7, o8, none] S) := by
  unfold B1
  simp
  exact (words_ok (m := 3) (z := 3) rfl hP (by omega) (by decide) (by decide)).mono fun x s ⟨w, ws, hx, g, hw, l, sp, f, P'⟩ => by
    subst hx
    exact k s w ws g hw l sp f P'
theorem b2_ok (hj : ∀ j ∈ js, speltB j = true) (hl : js.length = 3) (hP : Pu S p c0) (hc : c0 < 400000) (gw : S.get w = some (.lst (wds js))) (hw : w ≠ p) (k : ∀ s o3 o6, Fr (· = p) S s → P [some sc, some (.ref p), some (.ref w), o3, o4, o5, o6, o7, o8, none] s) :
    Wp P Q (B2 [some sc, some (.ref p), some (.ref w), o3, o4, o5, o6, o7, o8, none] S) := by
  unfold B2
  refine w_for (rngL 0 6) (fun _ i env s => ∃ o3 o6, env = [some sc, some (.ref p), some (.ref w), o3, o4, o5, o6, o7, o8, none] ∧ Fr (· = p) S s ∧ Pu s p (c0 + (5000 * i : Nat))) ?_
  rw [range_ev (z := 6) 6 rfl (by decide)]
  refine ⟨(itm_rng (q := No) (S := S)).size, ⟨o3, o6, rfl, Fr.refl, hP.le (by omega)⟩, fun i env s d' ⟨o3, o6, he, fr, P'⟩ hd => ?_, fun env s ⟨o3, o6, he, fr, P'⟩ => ?_⟩
  · subst he
    have hi : i < 6 := by
      have := (List.getElem?_eq_some_iff.mp hd).1
      rw [rngL_len] at this
      exact this
    refine ⟨by rw [(itm_rng (q := No) (S := s)).next i s Fr.refl, hd], [(3, d')], rfl, ?_⟩
    rw [apD1]
    refine turn_body (o3 := some d') hj hl P' (by omega) (fr.at_ _ _ hw gw) hw fun s2 o6' f2 P2 => ⟨_, o6', rfl, fr.trans f2, P2.le (by omega)⟩
  · subst he
    refine ⟨by rw [(itm_rng (q := No) (S := s)).next _ s Fr.refl, List.getElem?_eq_none (by simp [rngL_len])], k _ _ _ fr⟩
theorem b3_ok {env : EnvD} (k : ∀ s, Fr No S s → P env s) : Wp P Q (B3 env S) := by
  unfold B3
  simp [two_line, show (1 : Nat) ≤ line by decide, show (0 : Nat) ≤ line by decide]
  have d1 := nilrow (S := S.new (.lst [])) (n := S.n) (Hs.get_new _ _)
  have dp : Dn No (S.new (.lst [])) 1 (.tup [.str "place"]) T.pl.p := place_dn
  refine (put_in_pur (f := .pl) (e := .row []) dp d1 (by decide) (by decide) rfl rfl rfl rfl).mono fun x s2 ⟨lo, hlo, f2, hn, iv⟩ => ?_
  have iv' : Iv s2 lo x (.row []) := iv
  have d2 := iv'.dn.fr (Fr.new (c := .lst []))
  have d3 := nilrow (S := s2.new (.lst [])) (n := s2.n) (Hs.get_new _ _)
  rw [d2.ne d3 (by decide) (by decide), d2.refl, Ok_ok, Bl_bl]
  simp
  have d4 := nilrow (S := (s2.new (.lst [])).new (.lst [])) (n := s2.n + 1) (Hs.get_new _ _)
  refine (open_pur d4 (by decide)).mono fun y s3 ⟨hy, f3⟩ => ?_
  subst hy
  have e1 : isWd 16 true (T.row []).p = true := wd_t true rfl (by decide)
  have e2 : isWd 16 false (T.row []).p = true := wd_t false rfl (by decide)
  rw [e1, e2]
  simp [isn_bl]
  exact k s3 (((Fr.new.trans f2).trans (Fr.new.trans Fr.new)).trans f3)
def wideT (a b c : Str) : T := .row [.w a, .w b, .ag (.w c), .w b, .pl, .ag .pl, .w a]
def wideD (a b c : Str) : List D := [.str a, .str b, .tup [.str "again", .str c], .str b, .tup [.str "place"], .tup [.str "again", .tup [.str "place"]], .str a]
def innT (a c : Str) : T := .row [.w c, .w a]
def dueD (a b c : Str) (x : D) : List D := [.str a, .str b, .tup [.str "again", .str c], .str b, x, .tup [.str "again", x], .str a]
def dueT (a b c : Str) : T := .row [.w a, .w b, .ag (.w c), .w b, innT a c, .ag (innT a c), .w a]
theorem wide_dn (h0 : speltB j0 = true) (h1 : speltB j1 = true) (h2 : speltB j2 = true) (g : S.get n = some (.lst (wideD j0 j1 j2))) : Dn No S (wideT j0 j1 j2).dp (.tup [.str "row", .ref n]) (wideT j0 j1 j2).p := mk_row id g rfl (show 7 < line by decide) fun i d t a b => by
  have st : ∀ {x : Str} {k : Nat}, speltB x = true → Dn No S k (.str x) (T.w x).p := fun h => .str (fit_spelt h)
  match i with
  | 0 => cases a; cases b; exact st h0
  | 1 => cases a; cases b; exact st h1
  | 2 => cases a; cases b; exact mk_ag (st h2)
  | 3 => cases a; cases b; exact st h1
  | 4 => cases a; cases b; exact place_dn
  | 5 => cases a; cases b; exact mk_ag place_dn
  | 6 => cases a; cases b; exact st h0
  | i + 7 => simp [wideD] at a
theorem inn_dn (h0 : speltB j0 = true) (h2 : speltB j2 = true) (g : S.get n = some (.lst [.str j2, .str j0])) : Dn No S (innT j0 j2).dp (.tup [.str "row", .ref n]) (innT j0 j2).p := mk_row id g rfl (show 2 < line by decide) fun i d t a b => by
  match i with
  | 0 => cases a; cases b; exact .str (fit_spelt h2)
  | 1 => cases a; cases b; exact .str (fit_spelt h0)
  | i + 2 => simp at a
theorem due_dn {x : D} (h0 : speltB j0 = true) (h1 : speltB j1 = true) (h2 : speltB j2 = true) (hx : Dn No S (innT j0 j2).dp x (innT j0 j2).p) (g : S.get n = some (.lst (dueD j0 j1 j2 x))) : Dn No S (dueT j0 j1 j2).dp (.tup [.str "row", .ref n]) (dueT j0 j1 j2).p := mk_row id g rfl (show 7 < line by decide) fun i d t a b => by
  have st : ∀ {x : Str} {k : Nat}, speltB x = true → Dn No S k (.str x) (T.w x).p := fun h => .str (fit_spelt h)
  match i with
  | 0 => cases a; cases b; exact st h0
  | 1 => cases a; cases b; exact st h1
  | 2 => cases a; cases b; exact mk_ag (st h2)
  | 3 => cases a; cases b; exact st h1
  | 4 => cases a; cases b; exact hx.up (Nat.le_of_ble_eq_true rfl)
  | 5 => cases a; cases b; exact mk_ag hx
  | 6 => cases a; cases b; exact st h0
  | i + 7 => simp [dueD] at a
theorem b4_ok {o1 : Option D} (g : S.get w = some (.lst [.str j0, .str j1, .str j2])) (k : P [some sc, o1, some (.ref w), o3, some (.tup [.str "row", .ref S.n]), o5, o6, o7, o8, none] (S.new (.lst (wideD j0 j1 j2)))) : Wp P Q (B4 [some sc, o1, some (.ref w), o3, o4, o5, o6, o7, o8, none] S) := by
  have i0 : ixD (.ref w) (.int 0) S = .ok (.str j0) S := ix_lst (i := 0) g rfl
  have i1 : ixD (.ref w) (.int 1) S = .ok (.str j1) S := ix_lst (i := 1) g rfl
  have i2 : ixD (.ref w) (.int 2) S = .ok (.str j2) S := ix_lst (i := 2) g rfl
  unfold B4
  simp [i0, i1, i2, two_line, show (1 : Nat) ≤ line by decide, show (7 : Nat) ≤ line by decide]
  exact k
theorem b5_ok {o1 : Option D} {a : Nat} (h0 : speltB j0 = true) (h1 : speltB j1 = true) (h2 : speltB j2 = true) (g : S.get w = some (.lst [.str j0, .str j1, .str j2])) (gw : S.get a = some (.lst (wideD j0 j1 j2)))
    (k : ∀ s x m, Fr No S s → (∃ q2, Dn q2 s (dueT j0 j1 j2).dp x (dueT j0 j1 j2).p) → s.get m = some (.lst [.str j2, .str j0]) → P [some sc, o1, some (.ref w), o3, some (.tup [.str "row", .ref a]), o5, o6, some x, some (.tup [.str "row", .ref m]), none] s) : Wp P Q (B5 [some sc, o1, some (.ref w), o3, some (.tup [.str "row", .ref a]), o5, o6, o7, o8, none] S) := by
  have i0 : ∀ {s : Hs}, Fr No S s → ixD (.ref w) (.int 0) s = .ok (.str j0) s := fun f => ix_lst (i := 0) (f.at_ _ _ id g) rfl
  have i2 : ∀ {s : Hs}, Fr No S s → ixD (.ref w) (.int 2) s = .ok (.str j2) s := fun f => ix_lst (i := 2) (f.at_ _ _ id g) rfl
  unfold B5
  simp [i0 Fr.refl, i2 Fr.refl, two_line]
  have dw := (wide_dn h0 h1 h2 gw).fr (Fr.new (c := .lst [.str j2, .str j0]))
  have di := inn_dn (S := S.new (.lst [.str j2, .str j0])) h0 h2 (Hs.get_new _ _)
  have okw : (wideT j0 j1 j2).ok = true := by simp [wideT, T.ok, T.oks, h0, h1, h2]
  have oki : (innT j0 j2).ok = true := by simp [innT, T.ok, T.oks, h0, h2]
  refine (put_in_pur (f := wideT j0 j1 j2) (e := innT j0 j2) dw di (Nat.le_of_ble_eq_true rfl) (Nat.le_of_ble_eq_true rfl) okw oki rfl rfl).mono fun x s2 ⟨lo, hlo, f2, hn, iv⟩ => ?_
  have f02 : Fr No S s2 := Fr.new.trans f2
  have iv' : Iv s2 lo x (dueT j0 j1 j2) := iv
  rw [i2 f02, Ok_ok, i0 f02, Ok_ok]
  exact k _ _ _ (f02.trans Fr.new) ⟨_, iv'.dn.fr (Fr.new (c := .lst [.str j2, .str j0]))⟩ (Hs.get_new _ _)
theorem b6_ok {o1 : Option D} {m : Nat} (g : S.get w = some (.lst [.str j0, .str j1, .str j2])) (k : P [some sc, o1, some (.ref w), o3, o4, some (.tup [.str "row", .ref S.n]), o6, o7, some (.tup [.str "row", .ref m]), none] (S.new (.lst (dueD j0 j1 j2 (.tup [.str "row", .ref m]))))) : Wp P Q (B6 [some sc, o1, some (.ref w), o3, o4, o5, o6, o7, some (.tup [.str "row", .ref m]), none] S) := by
  have i0 : ixD (.ref w) (.int 0) S = .ok (.str j0) S := ix_lst (i := 0) g rfl
  have i1 : ixD (.ref w) (.int 1) S = .ok (.str j1) S := ix_lst (i := 1) g rfl
  have i2 : ixD (.ref w) (.int 2) S = .ok (.str j2) S := ix_lst (i := 2) g rfl
  unfold B6
  simp [i0, i1, i2, two_line, show (7 : Nat) ≤ line by decide]
  exact k
theorem b7_ok {o1 o2 : Option D} {q2 : Nat → Prop} {x y z : D} (h0 : speltB j0 = true) (h1 : speltB j1 = true) (h2 : speltB j2 = true) (dx : Dn q2 S (dueT j0 j1 j2).dp x (dueT j0 j1 j2).p) (dy : Dn No S (dueT j0 j1 j2).dp y (dueT j0 j1 j2).p) (dw : Dn No S (wideT j0 j1 j2).dp z (wideT j0 j1 j2).p)
    (k : ∀ s, Fr No S s → P [some sc, o1, o2, o3, some z, some y, o6, some x, o8, none] s) : Wp P Q (B7 [some sc, o1, o2, o3, some z, some y, o6, some x, o8, none] S) := by
  have okw : (wideT j0 j1 j2).ok = true := by simp [wideT, T.ok, T.oks, h0, h1, h2]
  have okd : (dueT j0 j1 j2).ok = true := by simp [dueT, innT, T.ok, T.oks, h0, h1, h2]
  have ew : (wideT j0 j1 j2).hp = true := rfl
  have ed : (dueT j0 j1 j2).hp = false := rfl
  have hw : (wideT j0 j1 j2).dp ≤ 15 := by show 4 ≤ 15; decide
  have hd : (dueT j0 j1 j2).dp ≤ 15 := by show 5 ≤ 15; decide
  unfold B7
  simp [dx.noX, dy.noX, dw.noX]
  refine (exact16 dx dy hd hd).mono fun r s1 ⟨hr, f1⟩ => ?_
  subst hr
  simp
  refine (open_pur (dw.fr f1) hw).mono fun r s2 ⟨hr, f2⟩ => ?_
  subst hr
  rw [wd_t true okw hw, wd_t false okw hw, ew]
  simp [isn_bl]
  have f12 := f1.trans f2
  refine (open_pur (dy.fr f12) hd).mono fun r s3 ⟨hr, f3⟩ => ?_
  subst hr
  rw [wd_t true okd hd, wd_t false okd hd, ed]
  simp [isn_bl]
  exact k s3 (f12.trans f3)
/-- the names of the law, as they stand in the loop -/
def Envs (sc : D) (o1 : Option D) (e : EnvD) : Prop := ∃ o2 o3 o4 o5 o6 o7 o8, e = [some sc, o1, o2, o3, o4, o5, o6, o7, o8, none]
theorem body_ok {e : EnvD} (he : Envs sc (some (.ref p)) e) (hP : Pu S p 0) : Wp (fun e s => Envs sc (some (.ref p)) e ∧ Fr (· = p) S s) (fun _ _ => False) (bodyL e S) := by
  obtain ⟨o2, o3, o4, o5, o6, o7, o8, rfl⟩ := he
  have hp := hP.lt
  unfold bodyL
  rw [Wp_seq]
  refine b1_ok hP (by omega) fun s1 w ws g1 hw lw sp f1 P1 => ?_
  have wp : w ≠ p := by omega
  rw [Wp_seq]
  refine b2_ok sp lw P1 (by omega) g1 wp fun s2 o3 o6 f2 => ?_
  have f02 := f1.trans f2
  have g2 := f2.at_ _ _ wp g1
  match ws, lw, sp, g2 with
  | [j0, j1, j2], _, sp, g2 =>
    have h0 := sp j0 (by simp)
    have h1 := sp j1 (by simp)
    have h2 := sp j2 (by simp)
    rw [Wp_seq]
    refine b3_ok fun s3 f3 => ?_
    have g3 : s3.get w = some (.lst [.str j0, .str j1, .str j2]) := f3.at_ _ _ id g2
    rw [Wp_seq]
    refine b4_ok g3 ?_
    rw [Wp_seq]
    have g4 : (s3.new (.lst (wideD j0 j1 j2))).get w = some (.lst [.str j0, .str j1, .str j2]) := Hs.get_old g3
    refine b5_ok h0 h1 h2 g4 (Hs.get_new _ _) fun s5 x m f5 ⟨q2, dx⟩ gm => ?_
    have g5 := f5.at_ _ _ id g4
    have gW := f5.at_ _ _ id (Hs.get_new s3 (.lst (wideD j0 j1 j2)))
    rw [Wp_seq]
    refine b6_ok g5 ?_
    have fn : ∀ {q : Nat → Prop}, Fr q s5 (s5.new (.lst (dueD j0 j1 j2 (.tup [.str "row", .ref m])))) := Fr.new
    refine b7_ok h0 h1 h2 (dx.fr fn) (due_dn h0 h1 h2 ((inn_dn h0 h2 gm).fr fn) (Hs.get_new _ _)) ((wide_dn h0 h1 h2 gW).fr fn) fun s7 f7 => ?_
    refine ⟨⟨_, _, _, _, _, _, _, rfl⟩, ?_⟩
    have fA : Fr No s2 s7 := (((f3.trans Fr.new).trans f5).trans fn).trans f7
    exact f02.trans fA.any
theorem law_true (ns : List Int) : ∃ S', F_law [.fz (ns.map D.int)] S0 = .ok (.bl true) S' := by
  suffices h : Ok (fun d _ => d = .bl true) (F_law [.fz (ns.map D.int)] S0) by
    obtain ⟨a, S, e, rfl⟩ := h.eq
    exact ⟨S, e⟩
  refine o_run rfl ?_
  show Wp _ _ (FB_law [some (.fz (ns.map D.int)), none, none, none, none, none, none, none, none, none] S0)
  rw [law_eq, Wp_seq]
  obtain ⟨k, S1, hk, e1, M⟩ := K57D.purses_ok ns
  have ei : mIter (mOwn (pur F__law_purses) [] (mCons (mV 0) (mCons (mC (.int 3)) (mNil)))) [some (.fz (ns.map D.int)), none, none, none, none, none, none, none, none, none] S0 = .ok (.lst 0) S1 := by
    have : mOwn (pur F__law_purses) [] (mCons (mV 0) (mCons (mC (.int 3)) (mNil))) [some (.fz (ns.map D.int)), none, none, none, none, none, none, none, none, none] S0 = .ok (.ref 0) S1 := by
      rw [K57D.own2 (d1 := .fz (ns.map D.int)) (d2 := .int 3) rfl rfl]
      exact e1
    unfold mIter
    rw [this]
    simp only [Res.bind, listOf_get M.l]
  refine w_forE ?_
  rw [ei, Ok_ok]
  have hlen : (refs k).length = k := by unfold refs; simp
  refine ⟨refs k, fun i e s => (∃ o1, Envs (.fz (ns.map D.int)) o1 e) ∧ s.get 0 = some (.lst (refs k)) ∧ ∀ j, i ≤ j → j < k → Pu s (j + 1) 0, ?_, ⟨⟨_, _, _, _, _, _, _, _, rfl⟩, M.l, fun j _ hj => M.p j hj⟩, fun i e s d ⟨⟨o1, he⟩, g, hp⟩ hd => ?_, fun e s ⟨⟨o1, he⟩, g, hp⟩ => ⟨?_, ?_⟩⟩
  · exact (itm_lst (q := No) M.l id).size
  · have hi : i < k := by
      have := (List.getElem?_eq_some_iff.mp hd).1
      rwa [hlen] at this
    have ed : d = .ref (i + 1) := by
      unfold refs at hd
      rw [List.getElem?_map, List.getElem?_range hi] at hd
      exact (Option.some.inj hd).symm
    subst ed
    refine ⟨?_, [(1, .ref (i + 1))], rfl, ?_⟩
    · rw [(itm_lst (q := No) g id).next i s .refl, hd]
    · rw [apD1]
      obtain ⟨o2, o3, o4, o5, o6, o7, o8, rfl⟩ := he
      refine (body_ok (sc := .fz (ns.map D.int)) (p := i + 1) (e := [some (.fz (ns.map D.int)), some (.ref (i + 1)), o2, o3, o4, o5, o6, o7, o8, none]) ⟨_, _, _, _, _, _, _, rfl⟩ (hp i (Nat.le_refl _) hi)).mono (fun e s' ⟨he, f⟩ => ⟨⟨_, he⟩, f.at_ _ _ (by omega) g, fun j h1 h2 => (hp j (by omega) h2).fr f (by omega)⟩) fun _ _ z => z.elim
  · rw [hlen, (itm_lst (q := No) g id).next k s .refl, List.getElem?_eq_none (by rw [hlen]; exact Nat.le_refl _)]
  · simp
end
end K57

/-! printed: the head, the end. -/
namespace K57
open PySem PySem.Spec L2 MR He PyProof.Rows
def spLaw (K : PySem.W.Frag) : Sp := fun vs H Q _ => ∃ (a : Addr) (ns : List Int), vs = [.ref a] ∧ Fz K H a (ns.map V.int) ∧ ∀ H', Q (.bl true) H'
theorem fz_of {K : PySem.W.Frag} {H : Hp} {a : Addr} {vs : List V} (hO : Only H) (hS : SqL K H a vs) : Fz K H a vs := by
  rcases hS with (h | h) | h
  · rcases hO a with e | ⟨o, xs, e⟩
    · rw [h] at e; cases e
    · rw [h] at e; cases e
  · exact .inl h
  · exact .inr h
theorem spLaw_spM {w : World} {K : PySem.W.Frag} {ca : Str → Addr} {vs : List V} {H : Hp} {Q : VK} {E : XK} (h : spLaw K vs H Q E) : spM (Tt w K ca) F_law vs H Q E := by
  obtain ⟨a, ns, rfl, hF, k⟩ := h
  obtain ⟨S', e⟩ := law_true ns
  refine ⟨[], S0, [.fz (ns.map D.int)], RS.start, .cons (.fz (vs := ns.map V.int) hF (by rw [List.length_map, List.length_map]) fun i d v h1 h2 => ?_) .nil, ?_⟩
  · rw [List.getElem?_map] at h1 h2
    cases e1 : ns[i]? with
    | none => rw [e1] at h1; cases h1
    | some z =>
      rw [e1] at h1 h2
      cases h1
      cases h2
      exact .int z
  · rw [e]
    intro φ' H' v u R r
    cases r
    exact k H'
def ip0 : IP := ⟨⟨6, 17, 6, 21⟩, ⟨6, 23, 6, 28⟩, ⟨6, 29, 6, 33⟩, ⟨7, 8, 7, 13⟩, ⟨7, 8, 7, 15⟩, ⟨7, 8, 7, 24⟩, ⟨7, 8, 7, 26⟩, ⟨7, 8, 7, 26⟩, ⟨8, 8, 8, 12⟩, ⟨8, 8, 8, 18⟩, ⟨8, 21, 8, 26⟩, ⟨8, 8, 8, 26⟩⟩
def ers_ : List (Str × IP) := [("InvalidExpression", ip0)]
def gl0 : List Str := ["PurseError", "InvalidExpression", "is_spelt", "is_written_as", "is_expression", "check_expression", "parts_of", "jobs_from", "jobs_in", "nesting_from", "nesting", "is_open", "copied", "filled", "put_in", "_law_purse", "_law_mixed", "_law_draw", "_law_purses", "_law_one_of", "_law_same", "_law_exact", "_law_word", "_law_words", "_law_expression", "_law_placed", "_law_put", "_law_leaves", "_law_nest", "_law_bent"]
def gl1 : List Str := ["_law_spoilt", "_law_frame_right", "law"]
def frs : List Str := ["ValueError", "all", "bool", "dict", "int", "isinstance", "len", "list", "max", "min", "range", "repr", "set", "sorted", "str", "sum", "tuple", "zip"]
def gls : List Str := gl0 ++ gl1
def hq : HdQ := ⟨"/claim/cut.py", "PurseError", frs, gls, ers_, [], [("LETTERS", "abcdefghijklmnopqrstuvwxyz")], [], [("PLACE", ["place"])]⟩
def dd0 : DefD := ⟨("is_spelt", none), "is_spelt", "is_spelt", defArgs s_is_spelt, defBody s_is_spelt, defScope s_is_spelt, [], []⟩
def dd1 : DefD := ⟨("is_written_as", none), "is_written_as", "is_written_as", defArgs s_is_written_as, defBody s_is_written_as, defScope s_is_written_as, [], []⟩
def dd2 : DefD := ⟨("is_expression", none), "is_expression", "is_expression", defArgs s_is_expression, defBody s_is_expression, defScope s_is_expression, [], []⟩
def dd3 : DefD := ⟨("check_expression", none), "check_expression", "check_expression", defArgs s_check_expression, defBody s_check_expression, defScope s_check_expression, [], []⟩
def dd4 : DefD := ⟨("parts_of", none), "parts_of", "parts_of", defArgs s_parts_of, defBody s_parts_of, defScope s_parts_of, [], []⟩
def dd5 : DefD := ⟨("jobs_from", none), "jobs_from", "jobs_from", defArgs s_jobs_from, defBody s_jobs_from, defScope s_jobs_from, [], []⟩
def dd6 : DefD := ⟨("jobs_in", none), "jobs_in", "jobs_in", defArgs s_jobs_in, defBody s_jobs_in, defScope s_jobs_in, [], []⟩
def dd7 : DefD := ⟨("nesting_from", none), "nesting_from", "nesting_from", defArgs s_nesting_from, defBody s_nesting_from, defScope s_nesting_from, [], []⟩
def dd8 : DefD := ⟨("nesting", none), "nesting", "nesting", defArgs s_nesting, defBody s_nesting, defScope s_nesting, [], []⟩
def dd9 : DefD := ⟨("is_open", none), "is_open", "is_open", defArgs s_is_open, defBody s_is_open, defScope s_is_open, [], []⟩
def dd10 : DefD := ⟨("copied", none), "copied", "copied", defArgs s_copied, defBody s_copied, defScope s_copied, [], []⟩
def dd11 : DefD := ⟨("filled", none), "filled", "filled", defArgs s_filled, defBody s_filled, defScope s_filled, [], []⟩
def dd12 : DefD := ⟨("put_in", none), "put_in", "put_in", defArgs s_put_in, defBody s_put_in, defScope s_put_in, [], []⟩
def dd13 : DefD := ⟨("_law_purse", none), "_law_purse", "_law_purse", defArgs s__law_purse, defBody s__law_purse, defScope s__law_purse, [], []⟩
def dd14 : DefD := ⟨("_law_mixed", none), "_law_mixed", "_law_mixed", defArgs s__law_mixed, defBody s__law_mixed, defScope s__law_mixed, [], []⟩
def dd15 : DefD := ⟨("_law_draw", none), "_law_draw", "_law_draw", defArgs s__law_draw, defBody s__law_draw, defScope s__law_draw, [], []⟩
def dd16 : DefD := ⟨("_law_purses", none), "_law_purses", "_law_purses", defArgs s__law_purses, defBody s__law_purses, defScope s__law_purses, [], []⟩
def dd17 : DefD := ⟨("_law_one_of", none), "_law_one_of", "_law_one_of", defArgs s__law_one_of, defBody s__law_one_of, defScope s__law_one_of, [], []⟩
def dd18 : DefD := ⟨("_law_same", none), "_law_same", "_law_same", defArgs s__law_same, defBody s__law_same, defScope s__law_same, [], []⟩
def dd19 : DefD := ⟨("_law_exact", none), "_law_exact", "_law_exact", defArgs s__law_exact, defBody s__law_exact, defScope s__law_exact, [], []⟩
def dd20 : DefD := ⟨("_law_word", none), "_law_word", "_law_word", defArgs s__law_word, defBody s__law_word, defScope s__law_word, [], []⟩
def dd21 : DefD := ⟨("_law_words", none), "_law_words", "_law_words", defArgs s__law_words, defBody s__law_words, defScope s__law_words, [], []⟩
def dd22 : DefD := ⟨("_law_expression", none), "_law_expression", "_law_expression", defArgs s__law_expression, defBody s__law_expression, defScope s__law_expression, [], []⟩
def dd23 : DefD := ⟨("_law_placed", none), "_law_placed", "_law_placed", defArgs s__law_placed, defBody s__law_placed, defScope s__law_placed, [], []⟩
def dd24 : DefD := ⟨("_law_put", none), "_law_put", "_law_put", defArgs s__law_put, defBody s__law_put, defScope s__law_put, [], []⟩
def dd25 : DefD := ⟨("_law_leaves", none), "_law_leaves", "_law_leaves", defArgs s__law_leaves, defBody s__law_leaves, defScope s__law_leaves, [], []⟩
def dd26 : DefD := ⟨("_law_nest", none), "_law_nest", "_law_nest", defArgs s__law_nest, defBody s__law_nest, defScope s__law_nest, [], []⟩
def dd27 : DefD := ⟨("_law_bent", none), "_law_bent", "_law_bent", defArgs s__law_bent, defBody s__law_bent, defScope s__law_bent, [], []⟩
def dd28 : DefD := ⟨("_law_spoilt", none), "_law_spoilt", "_law_spoilt", defArgs s__law_spoilt, defBody s__law_spoilt, defScope s__law_spoilt, [], []⟩
def dd29 : DefD := ⟨("_law_frame_right", none), "_law_frame_right", "_law_frame_right", defArgs s__law_frame_right, defBody s__law_frame_right, defScope s__law_frame_right, [], []⟩
def dd30 : DefD := ⟨("law", none), "law", "law", defArgs s_law, defBody s_law, defScope s_law, [], []⟩
def fns : List DefD := [dd0, dd1, dd2, dd3, dd4, dd5, dd6, dd7, dd8, dd9, dd10, dd11, dd12, dd13, dd14, dd15, dd16, dd17, dd18, dd19, dd20, dd21, dd22, dd23, dd24, dd25, dd26, dd27, dd28, dd29, dd30]
abbrev RR : PySem.W.OpenRow := PySem.W.OpenLaw.row PySem.Challenge.rw_withinbooks_k57_whole_expressions_put_in
abbrev hk : PySem.W.Hook := hookX hq fns
def ob (s : PySem.W.SharedT) : AlX := obsXG hq fns (HandSHeadRun.getT s)
theorem ob_eq (s : PySem.W.SharedT) : ob s = hk.obs s.abs := obsXG_eq (HandSHeadRun.getT_eq s)
def lo0 : List Str := ["PurseError", "InvalidExpression", "is_spelt", "is_written_as", "is_expression", "check_expression", "parts_of", "jobs_from", "jobs_in", "nesting_from", "nesting", "is_open", "copied", "filled", "put_in", "_law_purse", "_law_mixed", "_law_draw", "_law_purses", "_law_one_of", "_law_same", "_law_exact", "_law_word", "_law_words", "_law_expression", "_law_placed", "_law_put", "_law_leaves", "_law_nest", "_law_bent"]
def lo1 : List Str := ["_law_spoilt", "_law_frame_right", "LETTERS", "PLACE"]
def loose : List Str := lo0 ++ lo1
set_option maxHeartbeats 0 in
theorem run (w : World) : HandSHeadRun.RunEq RR (PySem.W.view RR.prog [39]) hk ob 20000 loose w := by
  intro os
  kernel_rfl
theorem facts {w : World} {K : PySem.W.Frag} {h : Heap} {mg : Str → Option Value} {f : Addr} (X : K.In h) (G : h.Ns mainGlobals mg) (hfa : mg "law" = some (.ref f)) (c : SaysX hq fns K) :
    ∃ fd : FuncData, (∀ (s : Shared) (u : Value), BindsTo s fd ⟨[u], []⟩ [("_law_script", u)]) ∧ ∀ base : Heap, K.In base → base.Ns mainGlobals mg → FnG RR.prog w K mg base 39 f fd ["_law_script"] (spLaw K) := by
  have hd := c.head
  obtain ⟨fd0, F0⟩ := c.def_ 0 (d := dd0) rfl
  obtain ⟨fd1, F1⟩ := c.def_ 1 (d := dd1) rfl
  obtain ⟨fd2, F2⟩ := c.def_ 2 (d := dd2) rfl
  obtain ⟨fd3, F3⟩ := c.def_ 3 (d := dd3) rfl
  obtain ⟨fd4, F4⟩ := c.def_ 4 (d := dd4) rfl
  obtain ⟨fd5, F5⟩ := c.def_ 5 (d := dd5) rfl
  obtain ⟨fd6, F6⟩ := c.def_ 6 (d := dd6) rfl
  obtain ⟨fd7, F7⟩ := c.def_ 7 (d := dd7) rfl
  obtain ⟨fd8, F8⟩ := c.def_ 8 (d := dd8) rfl
  obtain ⟨fd9, F9⟩ := c.def_ 9 (d := dd9) rfl
  obtain ⟨fd10, F10⟩ := c.def_ 10 (d := dd10) rfl
  obtain ⟨fd11, F11⟩ := c.def_ 11 (d := dd11) rfl
  obtain ⟨fd12, F12⟩ := c.def_ 12 (d := dd12) rfl
  obtain ⟨fd13, F13⟩ := c.def_ 13 (d := dd13) rfl
  obtain ⟨fd14, F14⟩ := c.def_ 14 (d := dd14) rfl
  obtain ⟨fd15, F15⟩ := c.def_ 15 (d := dd15) rfl
  obtain ⟨fd16, F16⟩ := c.def_ 16 (d := dd16) rfl
  obtain ⟨fd17, F17⟩ := c.def_ 17 (d := dd17) rfl
  obtain ⟨fd18, F18⟩ := c.def_ 18 (d := dd18) rfl
  obtain ⟨fd19, F19⟩ := c.def_ 19 (d := dd19) rfl
  obtain ⟨fd20, F20⟩ := c.def_ 20 (d := dd20) rfl
  obtain ⟨fd21, F21⟩ := c.def_ 21 (d := dd21) rfl
  obtain ⟨fd22, F22⟩ := c.def_ 22 (d := dd22) rfl
  obtain ⟨fd23, F23⟩ := c.def_ 23 (d := dd23) rfl
  obtain ⟨fd24, F24⟩ := c.def_ 24 (d := dd24) rfl
  obtain ⟨fd25, F25⟩ := c.def_ 25 (d := dd25) rfl
  obtain ⟨fd26, F26⟩ := c.def_ 26 (d := dd26) rfl
  obtain ⟨fd27, F27⟩ := c.def_ 27 (d := dd27) rfl
  obtain ⟨fd28, F28⟩ := c.def_ 28 (d := dd28) rfl
  obtain ⟨fd29, F29⟩ := c.def_ 29 (d := dd29) rfl
  obtain ⟨fd30, F30⟩ := c.def_ 30 (d := dd30) rfl
  have gl : ∀ x ∈ gls, mg x = some (.ref (ga K x)) := fun x hx => hd.glo X G hx
  have fr : ∀ x ∈ frs, mg x = none := fun x hx => hd.free X G hx
  have er : ∀ x l, (x, l) ∈ ers_ → x ≠ hq.top → x ∈ gls → (l.q3.endLine == l.q4.line) = true → ∃ fI, PySem.ErX.ErrTxt RR.prog K mg x (ga K x) fI := fun x l h1 h2 h3 h4 => ⟨_, c.err X G h1 h2 h3 (by decide +kernel) h4 (by decide +kernel)⟩
  have e := hfa.symm.trans (gl "law" (by decide +kernel))
  cases e
  let faF : Nat → Addr := fun i => match i with | 0 => ga K "is_spelt" | 1 => ga K "is_written_as" | 2 => ga K "is_expression" | 3 => ga K "check_expression" | 4 => ga K "parts_of" | 5 => ga K "jobs_from" | 6 => ga K "jobs_in" | 7 => ga K "nesting_from" | 8 => ga K "nesting" | 9 => ga K "is_open" | 10 => ga K "copied" | 11 => ga K "filled" | 12 => ga K "put_in" | 13 => ga K "_law_purse" | 14 => ga K "_law_mixed" | 15 => ga K "_law_draw" | 16 => ga K "_law_purses" | 17 => ga K "_law_one_of" | 18 => ga K "_law_same" | 19 => ga K "_law_exact" | 20 => ga K "_law_word" | 21 => ga K "_law_words" | 22 => ga K "_law_expression" | 23 => ga K "_law_placed" | 24 => ga K "_law_put" | 25 => ga K "_law_leaves" | 26 => ga K "_law_nest" | 27 => ga K "_law_bent" | 28 => ga K "_law_spoilt" | 29 => ga K "_law_frame_right" | 30 => ga K "law" | _ => 0
  let fdF : Nat → FuncData := fun i => match i with | 0 => fd0 | 1 => fd1 | 2 => fd2 | 3 => fd3 | 4 => fd4 | 5 => fd5 | 6 => fd6 | 7 => fd7 | 8 => fd8 | 9 => fd9 | 10 => fd10 | 11 => fd11 | 12 => fd12 | 13 => fd13 | 14 => fd14 | 15 => fd15 | 16 => fd16 | 17 => fd17 | 18 => fd18 | 19 => fd19 | 20 => fd20 | 21 => fd21 | 22 => fd22 | 23 => fd23 | 24 => fd24 | 25 => fd25 | 26 => fd26 | 27 => fd27 | 28 => fd28 | 29 => fd29 | 30 => fd30 | _ => fd0
  have B : Bas RR.prog K mg (ga K) faF fdF := {
    n_ValueError := fr _ (by decide +kernel)
    n_all := fr _ (by decide +kernel)
    n_bool := fr _ (by decide +kernel)
    n_dict := fr _ (by decide +kernel)
    n_int := fr _ (by decide +kernel)
    n_isinstance := fr _ (by decide +kernel)
    n_len := fr _ (by decide +kernel)
    n_list := fr _ (by decide +kernel)
    n_max := fr _ (by decide +kernel)
    n_min := fr _ (by decide +kernel)
    n_range := fr _ (by decide +kernel)
    n_repr := fr _ (by decide +kernel)
    n_set := fr _ (by decide +kernel)
    n_sorted := fr _ (by decide +kernel)
    n_str := fr _ (by decide +kernel)
    n_sum := fr _ (by decide +kernel)
    n_tuple := fr _ (by decide +kernel)
    n_zip := fr _ (by decide +kernel)
    c_PurseError := gl _ (by decide +kernel)
    c_InvalidExpression := gl _ (by decide +kernel)
    e_InvalidExpression := er _ ip0 (List.mem_of_getElem? (i := 0) rfl) (by decide +kernel) (by decide +kernel) rfl
    ek := hd.ek
    b_PurseError := hd.bare X G (by decide +kernel) (by decide +kernel)
    e2 := fun c hc n hn => by cases (List.mem_singleton.mp hn); exact hd.ve hc
    sysm := hd.sm
    k_LETTERS := hd.str X G (by decide +kernel)
    k_PLACE := hd.tup X G (by decide +kernel)
    d_is_spelt := F0
    g_is_spelt := gl _ (by decide +kernel)
    d_is_written_as := F1
    g_is_written_as := gl _ (by decide +kernel)
    d_is_expression := F2
    g_is_expression := gl _ (by decide +kernel)
    d_check_expression := F3
    g_check_expression := gl _ (by decide +kernel)
    d_parts_of := F4
    g_parts_of := gl _ (by decide +kernel)
    d_jobs_from := F5
    g_jobs_from := gl _ (by decide +kernel)
    d_jobs_in := F6
    g_jobs_in := gl _ (by decide +kernel)
    d_nesting_from := F7
    g_nesting_from := gl _ (by decide +kernel)
    d_nesting := F8
    g_nesting := gl _ (by decide +kernel)
    d_is_open := F9
    g_is_open := gl _ (by decide +kernel)
    d_copied := F10
    g_copied := gl _ (by decide +kernel)
    d_filled := F11
    g_filled := gl _ (by decide +kernel)
    d_put_in := F12
    g_put_in := gl _ (by decide +kernel)
    d__law_purse := F13
    g__law_purse := gl _ (by decide +kernel)
    d__law_mixed := F14
    g__law_mixed := gl _ (by decide +kernel)
    d__law_draw := F15
    g__law_draw := gl _ (by decide +kernel)
    d__law_purses := F16
    g__law_purses := gl _ (by decide +kernel)
    d__law_one_of := F17
    g__law_one_of := gl _ (by decide +kernel)
    d__law_same := F18
    g__law_same := gl _ (by decide +kernel)
    d__law_exact := F19
    g__law_exact := gl _ (by decide +kernel)
    d__law_word := F20
    g__law_word := gl _ (by decide +kernel)
    d__law_words := F21
    g__law_words := gl _ (by decide +kernel)
    d__law_expression := F22
    g__law_expression := gl _ (by decide +kernel)
    d__law_placed := F23
    g__law_placed := gl _ (by decide +kernel)
    d__law_put := F24
    g__law_put := gl _ (by decide +kernel)
    d__law_leaves := F25
    g__law_leaves := gl _ (by decide +kernel)
    d__law_nest := F26
    g__law_nest := gl _ (by decide +kernel)
    d__law_bent := F27
    g__law_bent := gl _ (by decide +kernel)
    d__law_spoilt := F28
    g__law_spoilt := gl _ (by decide +kernel)
    d__law_frame_right := F29
    g__law_frame_right := gl _ (by decide +kernel)
    d_law := F30
    g_law := gl _ (by decide +kernel) }
  refine ⟨fdF 30, fun s u => ?_, fun base _ _ => (ok_law (w := w) (base := base) B).ok.imp fun vs H Q E h => spLaw_spM h⟩
  have b := FunD.bindsA (ps := ["_law_script"]) F30 fun _ _ _ _ _ _ us hl => match us, hl with | [_], _ => rfl
  exact b s [u] rfl
end K57
open PySem PySem.W PySem.Calls PyProof.Rows
set_option maxHeartbeats 0 in
theorem PySem.Challenge.cw_withinbooks_k57_whole_expressions_put_in_holds : PySem.Challenge.rw_withinbooks_k57_whole_expressions_put_in.Holds := by
  w_on; o_law
  refine HandSHeadRun.head_any (r := OpenLaw.row PySem.Challenge.rw_withinbooks_k57_whole_expressions_put_in) (q := view (OpenLaw.row PySem.Challenge.rw_withinbooks_k57_whole_expressions_put_in).prog [39]) (H := K57.hk) (ob := K57.ob) (M := 20000) (loose := K57.loose) (d := HandSHeadRun.topDef (OpenLaw.row PySem.Challenge.rw_withinbooks_k57_whole_expressions_put_in).prog 39) (kwd := []) K57.ob_eq
    (by kernel_rfl) (fun s => by kernel_rfl) K57.run (by kernel_rfl) (by kernel_rfl) (by kernel_rfl) (by rfl) (by first | assumption | decide +kernel) (by decide +kernel) ⟨rfl, rfl, rfl, rfl, rfl, by decide +kernel⟩ ?hw ?hc
  case hw => w_witness2
  case hc =>
    refine MR.walk_G (l := PySem.Challenge.rw_withinbooks_k57_whole_expressions_put_in) (n := 63) (k := 39) (x := "_law_script") rfl (by rw [PySem.sizeLine_eq]; decide) (by kernel_rfl) ⟨rfl, by decide, by decide⟩ ?F
    intro w mg fa h Y G hmg0
    obtain ⟨K, KX, c⟩ := Y
    have hmg : mg ("law" : PySem.Str) = some (.ref fa) := by
      have e : (HandSHeadRun.topDef (OpenLaw.row PySem.Challenge.rw_withinbooks_k57_whole_expressions_put_in).prog 39).name = ("law" : PySem.Str) := by kernel_rfl
      rw [← e]
      exact hmg0
    obtain ⟨fd, hb, hF⟩ := K57.facts (w := w) KX G hmg c
    exact ⟨K, fd, K57.spLaw K, KX, hb, fun H a ns hl hO hS => ⟨a, ns, rfl, K57.fz_of hO hS, fun _ => rfl⟩, hF⟩
