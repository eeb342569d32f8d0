import PyProof.Rows.All
import HandS.Set
import HandS.SetFor
import HandS.Strs
import HandS.List
import PyProof.Rows.SortStr
import HandS.ForMost
import HandS.ForExc
import HandS.IsInst
import HandS.Style
import HandS.Flow
import HandS.Deep
import HandS.StrMore
import HandS.NoneIn
import PyProof.SliceList
import HandS.More
import PyProof.Rows.SeqMore
import HandS.CallRecv
import HandS.WordsExc
import HandS.New0
import HandS.Codes
import HandS.HeadHook4
import HandS.HeadNt
import HandS.Head2
import HandS.HeadEnd
import PySem.Challenge.RW_nameleave_k08_books_by_hand
set_option Elab.async false
set_option linter.all false
set_option maxRecDepth 100000
set_option maxHeartbeats 4000000
namespace NN
open PySem PySem.Spec PyProof.Rows L2

def entT (e : Int × Value) : Str := match e.2 with
  | .str x _ => x
  | _ => Str.empty
structure TabT (w : World) (es : Array (Int × Value)) (t : SetTable) (xs : List Str) : Prop where
  ent : ∀ e ∈ es.toList, ∃ x tk, e = (hashStr w x, Value.str x tk)
  mem : (es.toList.map entT).Perm xs
  nod : xs.Nodup
  few : es.size < scanBound
  fit : t.fits es.size = true
  ris : Ris t.place.toList
  led : w.params.followText "set-order" = true ∨ t.led = true
def TxtSet (w : World) (h : Heap) (a : Addr) (xs : List Str) : Prop :=
  ∃ (o : Obj) (es : Array (Int × Value)) (ep : Nat) (t : SetTable), h.get? a = some o ∧ o.ExactSet ∧ o.data = .set es ep t ∧ TabT w es t xs
section
variable {P : Program} {w : World} {es : Array (Int × Value)} {t : SetTable} {xs : List Str} {x : Str} {tk : Tok}
theorem TabT.elems (T : TabT w es t xs) : ElemsOf (PySem.strKind P w) es.toList := fun e he => by
  obtain ⟨z, k, rfl⟩ := T.ent e he
  exact ⟨⟨z, strKind_is P w z k, rfl⟩, rfl⟩
theorem TabT.size (T : TabT w es t xs) : es.size = xs.length := by
  have := T.mem.length_eq
  rw [List.length_map, Array.length_toList] at this
  exact this
theorem TabT.hit (T : TabT w es t xs) : x ∈ xs ↔ ∃ e ∈ es.toList, (PySem.strKind P w).is x e.2 = true := by
  rw [← T.mem.mem_iff, List.mem_map]
  refine ⟨fun ⟨e, he, q⟩ => ⟨e, he, ?_⟩, fun ⟨e, he, q⟩ => ⟨e, he, ?_⟩⟩
  · obtain ⟨z, k, rfl⟩ := T.ent e he
    have q : z = x := q
    rw [← q]
    exact strKind_is P w z k
  · obtain ⟨z, k, rfl⟩ := T.ent e he
    exact (PySem.strKind P w).inj _ _ _ (strKind_is P w z k) q
theorem TabT.off (T : TabT w es t xs) : TabT w es { t with plain := false } xs := ⟨T.ent, T.mem, T.nod, T.few, SetTable.fits_plain_off T.fit, T.ris, T.led⟩
theorem TabT.anew (T : TabT w es t xs) (n : Nat) : TabT w (relayAll t es n).1 (relayAll t es n).2.1 xs := by
  have p := relayAll_perm t es n
  refine ⟨fun e he => T.ent e (p.mem_iff.mp he), (p.map entT).trans T.mem, T.nod, ?_, relayAll_fits t es n, relayAll_ris t es n, T.led.imp id fun q => by rw [relayAll_led]; exact q⟩
  have q := p.length_eq
  rw [Array.length_toList, Array.length_toList] at q
  rw [q]; exact T.few
theorem TabT.more (T : TabT w es t xs) (hx : x ∉ xs) (hz : xs.length + 1 < scanBound) : TabT w (layNew t es (hashStr w x) (.str x tk)).1 (layNew t es (hashStr w x) (.str x tk)).2.1 (x :: xs) := by
  have p : (layNew t es (hashStr w x) (.str x tk)).1.toList.Perm ((hashStr w x, Value.str x tk) :: es.toList) :=
    (layNew_perm t es _ _).trans (by rw [Array.toList_push]; exact List.perm_append_singleton _ _)
  refine ⟨fun e he => ?_, (p.map entT).trans ?_, List.nodup_cons.mpr ⟨hx, T.nod⟩, ?_, layNew_fits t es _ _, layNew_ris t es _ _ T.ris, T.led.imp id fun q => by rw [layNew_led]; exact q⟩
  · rcases List.mem_cons.mp (p.mem_iff.mp he) with rfl | h
    · exact ⟨x, tk, rfl⟩
    · exact T.ent e h
  · exact T.mem.cons x
  · have q := p.length_eq
    rw [Array.length_toList, List.length_cons, Array.length_toList, T.size] at q
    rw [q]; exact hz
end
section
variable {P : Program} {w : World} {A : Around} {E : Value → Shared → Prop} {s : Shared} {a : Addr} {xs : List Str} {x : Str} {tk : Tok}
theorem txt_store {note : Bool → Sem Unit} (hnote : ∀ (b : Bool) (z : Shared) (R' : Unit → Shared → Prop), R' () z → wpAny (model P w) A (note b) R' E z)
    {o : Obj} {es es1 : Array (Int × Value)} {ep : Nat} {t t1 : SetTable} {was : Bool} {R : Option Bool → Shared → Prop} (ho : s.heap.get? a = some o) (hex : o.ExactSet) (hd : o.data = .set es ep t) (T : TabT w es1 t1 xs)
    (hR : ∀ h', Heap.SameBut a s.heap h' → TxtSet w h' a xs → R (some true) { s with heap := h' }) :
    wpAny (model P w) A (do
      storeSet a es1 t1
      if (!was && t1.tooFull) = true then do
        note (relayAll t1 es1 (SetTable.grown es1.size)).2.2
        storeSet a (relayAll t1 es1 (SetTable.grown es1.size)).1 (relayAll t1 es1 (SetTable.grown es1.size)).2.1
        pure (some true)
      else pure (some true)) R E s := by
  refine wpAny_bind (wpAny_storeSet_of ho hd ?_ (fits_of_scanBound T.few))
  have ho1 := store_at (es' := es1) (t' := t1) ho hd
  have sb := Heap.SameBut.update s.heap a (Obj.putSet es1 t1)
  by_cases c : (!was && t1.tooFull) = true
  · rw [if_pos c]
    have T2 := T.anew (SetTable.grown es1.size)
    refine wpAny_bind (hnote _ _ _ (wpAny_bind (wpAny_storeSet_of ho1 rfl (wpAny_pure (hR _ (sb.trans (Heap.SameBut.update _ a _)) ?_)) (fits_of_scanBound T2.few))))
    exact ⟨_, _, _, _, store_at ho1 rfl, hex, rfl, T2⟩
  · rw [if_neg c]
    exact wpAny_pure (hR _ sb ⟨_, _, _, _, ho1, hex, rfl, T⟩)
theorem txt_add {Q : Bool → Shared → Prop} (S : TxtSet w s.heap a xs) (few : xs.length + 1 < scanBound)
    (hQ : ∀ b h' ys, Heap.SameBut a s.heap h' → TxtSet w h' a ys → (∀ z, z ∈ ys ↔ z = x ∨ z ∈ xs) → ys.length ≤ xs.length + 1 → Q b { s with heap := h' }) :
    wpAny (model P w) A (setAddHashed a (.str x tk) ((PySem.strKind P w).hash x)) Q E s := by
  obtain ⟨o, es, ep, t, ho, hex, hd, T⟩ := S
  have hel := T.elems (P := P)
  unfold setAddHashed setAddHashedIn
  refine wpAny_holding (wpAny_bind (wpAny_setState_of ho hd T.fit ?_))
  show wpAny (model P w) A (if byScan (Value.str x tk) es = true then _ else _) Q E s
  rw [if_pos (byScan_of (show (Value.str x tk).scannable = true from rfl) T.few hel)]
  unfold setAddByScan
  refine wpAny_bind (wpAny_bind (wpAny_rule (wpAny_bind (wpAny_setScan_of (strKind_is P w x tk) ho hd T.fit hel ?_))))
  cases hf : es.toList.findIdx? (fun e => (PySem.strKind P w).is x e.2) with
  | some j =>
    have hin : x ∈ xs := by
      obtain ⟨hj, pj, _⟩ := List.findIdx?_eq_some_iff_getElem.mp hf
      exact (T.hit (P := P)).mpr ⟨_, List.getElem_mem hj, pj⟩
    exact wpAny_pure (wpAny_pure (hQ false s.heap xs (Heap.SameBut.refl a s.heap) ⟨o, es, ep, t, ho, hex, hd, T⟩ (fun z => ⟨.inr, fun q => q.elim (fun e => e ▸ hin) id⟩) (Nat.le_succ _)))
  | none =>
    have hout : x ∉ xs := fun q => by
      obtain ⟨e, he, z⟩ := (T.hit (P := P)).mp q
      have c := List.findIdx?_eq_none_iff.mp hf e he
      rw [z] at c; cases c
    have T1 := T.more (tk := tk) hout few
    have fin : ∀ h', Heap.SameBut a s.heap h' → TxtSet w h' a (x :: xs) → Q true { s with heap := h' } := fun h' sb S1 =>
      hQ true h' _ sb S1 (fun z => List.mem_cons) (Nat.le_of_eq (List.length_cons ..))
    revert T1
    show TabT w (layNew t es ((PySem.strKind P w).hash x) (.str x tk)).1 (layNew t es ((PySem.strKind P w).hash x) (.str x tk)).2.1 (x :: xs) → _
    generalize layNew t es ((PySem.strKind P w).hash x) (.str x tk) = Z
    obtain ⟨es1, t1, was, gave⟩ := Z
    intro T1
    dsimp only at T1 ⊢
    have hnote : ∀ (b : Bool) (z : Shared) (R' : Unit → Shared → Prop), R' () z → wpAny (model P w) A (match b with | true => rule "set.scan.the-table-gave-way" | false => pure ()) R' E z := fun b z R' q => by
      cases b
      · exact wpAny_pure q
      · exact wpAny_rule q
    refine wpAny_bind (hnote gave _ _ ?_)
    split
    · refine wpAny_bind ?_
      rw [hashByValue_scannable 8 (show (Value.str x tk).scannable = true from rfl)]
      refine wpAny_pure (txt_store ?_ ho hex hd (by split; exact T1; exact T1.off) fun h' sb S1 => wpAny_pure (fin h' sb S1))
      exact hnote
    · refine wpAny_bind (wpAny_pure ?_)
      refine txt_store ?_ ho hex hd T1 fun h' sb S1 => wpAny_pure (fin h' sb S1)
      exact hnote
theorem txt_loop {I : Addr} {fp wr : List Addr} {G : Array GenState → Array GenState → Prop} {n : Nat} {Pv : Nat → Value → Prop} {St : Nat → Shared → Prop} {R : Result → Shared → Prop} {zs : List Str}
    (W : WalksS P w A.in1 I fp wr G n Pv St) (hf : a ∉ fp) (hn : n = zs.length) (few : zs.length + 1 < scanBound) (hv : ∀ i v, Pv i v → ∃ z tk, zs[i]? = some z ∧ v = .str z tk) :
    ∀ (d i : Nat) (s : Shared) (ys : List Str), n - i = d → i ≤ n → St i s → TxtSet w s.heap a ys → ys.length ≤ i → (∀ z, z ∈ ys ↔ z ∈ zs.take i) →
      (∀ s' ys, Moved (a :: wr) G s s' → TxtSet w s'.heap a ys → ys.length ≤ n → (∀ z, z ∈ ys ↔ z ∈ zs) → R (.ok (.ret .none)) s') →
      codeAny (model P w) A (.builtin "set.update.loop" ⟨[.ref a, .ref I], []⟩) R s := by
  have hw : a ∉ wr := fun q => hf (W.sub _ q)
  have hs : ∀ b ∈ wr, b ∈ a :: wr := fun b q => List.mem_cons_of_mem _ q
  intro d
  induction d with
  | zero =>
    intro i s ys e hi st S hl hm hR
    refine codeAny_builtin F.entry_set_update_loop ?_
    rw [Around.under_plainId F.plain_set_update_loop _]
    obtain rfl : i = n := by omega
    refine wpAny_bind (W.done s _ _ st fun s' mv => ?_)
    refine wpAny_pure (hR s' ys (mv.mono hs) ?_ hl fun z => ?_)
    · obtain ⟨o, es, ep, t, ho, r⟩ := S
      exact ⟨o, es, ep, t, mv.heap a o hw ho, r⟩
    · rw [hm z, List.take_of_length_le (Nat.le_of_eq hn.symm)]
  | succ d ih =>
    intro i s ys e hi st S hl hm hR
    refine codeAny_builtin F.entry_set_update_loop ?_
    rw [Around.under_plainId F.plain_set_update_loop _]
    have hlt : i < n := by omega
    refine wpAny_bind (W.item i s _ _ hlt st fun v s' pv st' mv => ?_)
    obtain ⟨z, tk, hz, rfl⟩ := hv i v pv
    have S' : TxtSet w s'.heap a ys := by
      obtain ⟨o, es, ep, t, ho, r⟩ := S
      exact ⟨o, es, ep, t, mv.heap a o hw ho, r⟩
    show wpAny _ A.in1 (holding [Value.str z tk] (setAdd a (.str z tk)) >>= _) _ _ s'
    unfold setAdd
    refine wpAny_bind (wpAny_holding (wpAny_holding (wpAny_bind ((PySem.strKind P w).pyHash (k := z) (strKind_is P w z tk) ?_))))
    refine txt_add (s := { s' with toks := s'.toks + 1 }) S' (by omega) fun b h' ys' sb S2 hm2 hl2 => ?_
    refine wpAny_pure ⟨plainId_quiet F.plain_set_update_loop _, ih (i + 1) _ ys' (by omega) hlt (W.frame _ s' _ _ st' (Nat.le_succ _) fun c hc o q => ?_) S2 (by omega) (fun y => ?_) fun s2 ys2 mv2 S3 hl3 hm3 => ?_⟩
    · rw [sb.2 c (by rintro rfl; exact hf hc)]; exact q
    · rw [hm2 y, hm y, List.take_add_one, hz]
      simp [or_comm]
    · refine hR s2 ys2 (Moved.trans W.gtrans ((mv.mono hs).then_heap (Nat.le_succ _) fun c o hc q => ?_) mv2) S3 hl3 hm3
      rw [sb.2 c (by rintro rfl; exact hc List.mem_cons_self)]; exact q
end
end NN

set_option Elab.async false
set_option linter.all false
set_option maxRecDepth 100000
set_option maxHeartbeats 4000000
namespace NN
open PySem PySem.Spec PyProof.Rows L2
abbrev newT (w : World) : Obj := { cls := .type "set", dict := none, data := .set #[] 0 (.fresh 0 0 (!w.params.followText "set-order")) }
section
variable {P : Program} {w : World} {A : Around} {E : Value → Shared → Prop} {s : Shared} {a : Addr} {xs : List Str} {x : Str} {tk : Tok}
theorem txt_none {h : Heap} (e : h.get? a = some (newT w)) : TxtSet w h a [] :=
  ⟨_, #[], 0, _, e, ⟨rfl, rfl, rfl⟩, rfl, ⟨fun e q => by simp at q, .nil, .nil, by decide, rfl, .nil, by
    cases q : w.params.followText "set-order" with
    | true => exact .inl rfl
    | false => exact .inr rfl⟩⟩
def AfterSet (w : World) (s : Shared) (zs : List Str) (s' : Shared) : Prop := ∃ (h' : Heap) (tk : Nat) (ys : List Str), s' = { s with heap := h', toks := tk } ∧ TxtSet w h' s.heap.objs.size ys ∧ ys.length ≤ zs.length ∧ (∀ z, z ∈ ys ↔ z ∈ zs) ∧ ∀ b o, s.heap.get? b = some o → h'.get? b = some o
theorem txt_init {l : Addr} {its : Array Value} {zs : List Str} (hh : A.handled = none) (hl : s.heap.IsList l its) (hz : StrsAre its.toList zs) (few : zs.length + 1 < scanBound) :
    codeAny (model P w) A (.call (.builtin "set.__init__") ⟨[.ref s.heap.objs.size, .ref l], []⟩) (wants (fun r s' => r = .none ∧ AfterSet w s zs s') E) { s with heap := s.heap.push (newT w) } := by
  have at1 : (s.heap.push (newT w)).get? s.heap.objs.size = some (newT w) := Heap.get?_push_size _ rfl
  refine codeAny_call_builtin PySem.F.called_set.init.plain PySem.F.entry_set_init (check_set_init_1 ⟨_, at1, rfl⟩ ?_)
  have hcount : its.size = zs.length := by
    have q := StrsAre.len_eq hz
    rwa [Array.length_toList] at q
  obtain ⟨⟨k1, k2, k3, k4⟩, hol, e1, nl, e2⟩ := id hl
  simp only at e1 e2
  subst e1; subst e2
  have at2 : (s.heap.push (newT w)).get? l = some { cls := .type "list", dict := k2, data := .seq its nl, slots := k4 } := Heap.get?_push_of_some _ hol
  have b1 := PySem.F.sub_list_set
  have b2 := PySem.F.sub_list_frozenset
  have b3 : (Value.type "list" == Value.type "dict") = false := by decide
  have lst1 : (s.heap.push (newT w)).IsList l its := ⟨_, at2, rfl, nl, rfl⟩
  unfold Builtin.«set.__init__» noKeywords Builtin.Frozenset.updateFrom
  generalize hPI : pyIter = PI
  wp_walk
  subst hPI
  refine wpAny_pyIter_list lst1 (wpAny_bind (wpAny_runValue ?_))
  have lt : l < s.heap.objs.size := Heap.lt_size hol
  have sz : (s.heap.push (newT w)).objs.size = s.heap.objs.size + 1 := Heap.size_push ..
  have ne1 : l ≠ (s.heap.push (newT w)).objs.size := by rw [sz]; exact Nat.ne_of_lt (Nat.lt_succ_of_lt lt)
  refine txt_loop (a := s.heap.objs.size) ((Walks.list (by simp [hh]) _ l ne1 its).toS) (fun q => (List.mem_cons.mp q).elim (fun e => absurd (e.trans sz) (Nat.ne_of_lt (Nat.lt_succ_self _))) fun q => absurd (List.mem_singleton.mp q) (Nat.ne_of_gt lt)) hcount few (fun i v hv => ?_) (its.size - 0) 0 _ [] (by omega) (Nat.zero_le _)
    ⟨⟨_, Heap.get?_push_size _ rfl, rfl, rfl⟩, lst1.push _⟩ (txt_none (Heap.get?_push_of_some _ at1)) (Nat.le_refl _) (fun z => by simp) ?_
  · obtain ⟨tk, e⟩ := SS.strs_at hz i v (by rw [Array.getElem?_toList]; exact hv)
    have hi : i < zs.length := by rw [← hcount]; exact (Array.getElem?_eq_some_iff.mp hv).1
    refine ⟨zs[i], tk, List.getElem?_eq_getElem hi, ?_⟩
    rw [e, List.getD_eq_getElem?_getD, List.getElem?_eq_getElem hi]; rfl
  · intro s' ys mv S hn hm
    obtain ⟨h', g', d', t', o'⟩ := s'
    cases (show g' = s.gens from mv.gens)
    cases (show d' = s.drawn from mv.drawn)
    cases (show o' = s.os from mv.os)
    refine wpAny_pure ?_
    show wpAny _ _ (ret Value.none) _ _ _
    rw [hcount] at hn
    refine wpAny_pure ⟨rfl, h', t', ys, rfl, S, hn, hm, fun b o q => ?_⟩
    have hb : b < s.heap.objs.size := Heap.lt_size q
    exact mv.heap b o (fun q => (List.mem_cons.mp q).elim (fun e => absurd e (Nat.ne_of_lt hb)) fun q => absurd ((List.mem_singleton.mp q).trans sz) (Nat.ne_of_lt (Nat.lt_succ_of_lt hb))) (Heap.get?_push_of_some _ (Heap.get?_push_of_some _ q))
theorem txt_set {l : Addr} {its : Array Value} {zs : List Str} {Q : Value → Shared → Prop} (hh : A.handled = none) (hl : s.heap.IsList l its) (hz : StrsAre its.toList zs) (few : zs.length + 1 < scanBound)
    (hQ : ∀ s', AfterSet w s zs s' → Q (.ref s.heap.objs.size) s') : wpAny (model P w) A (call (.type "set") [.ref l]) Q E s := by
  obtain ⟨_, _, m1⟩ := PySem.F.called_set.mro
  have m2 := PySem.F.called_set.made
  have m3 := PySem.F.called_set.sub
  refine wpAny_call (codeAny_of_tree ?_)
  show wpAny _ _ (callAny (.type "set") _) _ _ _
  refine wpAny_pure ⟨Code.quiet_builtin _ (by decide +kernel), codeAny_builtin PySem.F.entry_type_call ?_⟩
  rw [Around.under_plain (weight_type_call_type "set" [.ref l] []) rfl]
  have m4 := PySem.F.called_set.notType
  have m5 := PySem.F.called_set.canCreate
  have m6 := PySem.F.typeCall_set_1 (.ref l)
  repeat (any_goals (first | assumption | wp_step))
  refine codeAny_mono (code_set_led1 (.ref l) (E := E) (Q₁ := fun v s1 => v = .ref s.heap.objs.size ∧ s1 = { s with heap := s.heap.push (newT w) }) ⟨rfl, rfl⟩) fun r s1 hr => ?_
  cases r with
  | error e => exact hr
  | ok fl =>
    cases fl with
    | ret obj =>
      obtain ⟨rfl, rfl⟩ := hr
      have at1 : (s.heap.push (newT w)).get? s.heap.objs.size = some (newT w) := Heap.get?_push_size _ rfl
      have m7 : Shared.TypeIs { s with heap := s.heap.push (newT w) } (.ref s.heap.objs.size) "set" := ⟨_, at1, rfl⟩
      have m8 := PySem.F.called_set.init.lookup
      have m9 := PySem.F.called_set.init.bind (.ref s.heap.objs.size)
      repeat (any_goals (first | assumption | wp_step))
      refine codeAny_mono (txt_init (P := P) (E := E) (by simp [hh]) hl hz few) fun r2 s2 h2 => ?_
      cases r2 with
      | error e => exact h2
      | ok f2 =>
        cases f2 with
        | ret v =>
          obtain ⟨rfl, h2⟩ := h2
          repeat (any_goals (first | assumption | wp_step))
          exact hQ _ h2
        | _ => exact h2.elim
    | _ => exact hr.elim
theorem txt_sorted {Q : Value → Shared → Prop} (S : TxtSet w s.heap a xs) (hh : A.handled = none) (few : xs.length < 64)
    (hQ : ∀ s' p (out : Array Value) (c : Nat) (ys : List Str), (∀ b o, s.heap.get? b = some o → s'.heap.get? b = some o) → s'.gens = s.gens → s'.os = s.os → s.heap.objs.size ≤ p →
      s'.heap.get? p = some (seqObj "list" out c) → StrsAre out.toList ys → ys.Perm xs → sortedS ys = true → Q (.ref p) s') :
    wpAny (model P w) A (call (.builtin "sorted") [.ref a]) Q E s := by
  obtain ⟨o, es, ep, t, ho, hex, hd, T⟩ := S
  refine Calls.call_function_entry kind_sorted plain_sorted entry_sorted (args_sorted1 _) ?_
  unfold Builtin.«sorted»
  refine wpAny_bind (m := checkCount "sorted" 1 1 _) (wpAny_pure (wpAny_bind (collect_set (A := A.in1) hh ⟨o, ho, hex.1, hd⟩ T.fit T.few T.ris T.led fun s1 vs k1 z1 g1 o1 pm => ?_)))
  have lv : vs.length = xs.length := by rw [pm.length_eq, List.length_map, Array.length_toList, T.size]
  have sv : ∀ v ∈ vs, ∃ x tk, v = Value.str x tk := fun v hv => by
    obtain ⟨e, he, rfl⟩ := List.mem_map.mp (pm.mem_iff.mp hv)
    obtain ⟨x, tk, rfl⟩ := T.ent e he
    exact ⟨x, tk, rfl⟩
  have hS : StrsAre vs (vs.map strOf) := strsAre_map vs sv
  have hP : (vs.map strOf).Perm xs := by
    refine (pm.map strOf).trans ?_
    rw [List.map_map]
    have e : es.toList.map (strOf ∘ (·.2)) = es.toList.map entT := List.map_congr_left fun e he => by
      obtain ⟨x, tk, rfl⟩ := T.ent e he
      rfl
    rw [e]; exact T.mem
  refine wpAny_bind (wpAny_newList ?_ (by rw [lv, sizeLine_eq]; omega))
  have at1 : (s1.heap.push (seqObj "list" vs.toArray 0)).get? s1.heap.objs.size = some (seqObj "list" vs.toArray 0) := Heap.get?_push_size _ rfl
  refine wpAny_bind (wpAny_holding (wpAny_call_entry slot_list_sort ⟨_, at1, rfl⟩ entry_list_sort (list_sort_treeK strKind_oneLt at1 hS.keysOf (fun v1 v2 r e => keyKind_strs (by rw [← e]; exact hS)) (by rw [lv]; exact few) fun st hp hs => ⟨_, rfl, ?_⟩) (args_list_sort _)))
  obtain ⟨ys, y1, y2, y3⟩ := sorted_out_str hS hp hs
  obtain ⟨c, hc⟩ := sortedHeap_at (vs := vs) (out := (arrOf st).map (·.2)) at1
  refine wpAny_pure ⟨_, rfl, hQ _ s1.heap.objs.size _ c ys (fun b u q => ?_) g1 o1 z1 hc y1 (y2.trans hP) y3⟩
  have lt := Heap.lt_size (k1 b u q)
  show (sortedHeap _ _ _ _).get? b = some u
  rw [sortedHeap_old (Nat.ne_of_lt lt) (by rw [size_push']; exact Nat.lt_succ_of_lt lt)]
  exact Heap.get?_push_of_some _ (k1 b u q)
end
end NN

set_option Elab.async false
set_option linter.all false
set_option maxRecDepth 100000
namespace NN
open PySem

inductive T where
  | non | bl (b : Bool) | int (i : Int) | str (s : Str) | typ (n : String)
  | tup (ts : List T) | lst (ts : List T) | dic (k : Nat) (ks vs : List T)
  | ins (C : Str) (ns : List Str) (ts : List T) | obj (i : Nat)

inductive Own where
  | lst (ts : List T)
  | dic (k : Nat) (ks vs : List T)
def Own.tree : Own → T
  | .lst ts => .lst ts
  | .dic k ks vs => .dic k ks vs
inductive FV where
  | val (t : T) | own (c : Own)
structure Cell where
  cls : Option Str
  ns : List Str
  fs : List FV
abbrev Sto := List Cell
inductive Slot where
  | val (t : T) | own (c : Own)
abbrev Env := List (Option Slot)
inductive Place where
  | slot (i : Nat) | fld (o : Nat) (f : Str)
inductive RV where
  | val (t : T) | fresh (c : Own) | at (p : Place)
structure Ex where
  cls : Str
  fld : Option (Str × T)
inductive Oc (α : Type) where
  | ok (a : α) (st : Sto) | exc (x : Ex) (st : Sto) | bad
def Oc.bind {α β : Type} (o : Oc α) (f : α → Sto → Oc β) : Oc β :=
  match o with
  | .ok a st => f a st
  | .exc x st => .exc x st
  | .bad => .bad
def Oc.of {α : Type} (o : Option α) (st : Sto) : Oc α :=
  match o with
  | some a => .ok a st
  | none => .bad
def Oc.nox {α : Type} : Oc α → Oc α
  | .exc _ _ => .bad
  | o => o
abbrev G := List T → Sto → Oc RV

def frz : RV → Option T
  | .val t => some t
  | .fresh c => some c.tree
  | .at _ => none
def Sto.fld (st : Sto) (o : Nat) (f : Str) : Option FV :=
  match st[o]? with
  | some c => (c.ns.zip c.fs).lookup f
  | none => none
def view (env : Env) (st : Sto) : RV → Option T
  | .val t => some t
  | .fresh c => some c.tree
  | .at (.slot i) => match env[i]? with
    | some (some (.own c)) => some c.tree
    | _ => none
  | .at (.fld o f) => match st.fld o f with
    | some (.own c) => some c.tree
    | _ => none

def viewL (env : Env) (st : Sto) : List RV → Option (List T)
  | [] => some []
  | r :: rs => (view env st r).bind fun t => (viewL env st rs).bind fun ts => some (t :: ts)

inductive BO where
  | add | sub | mul | fdiv | mod | pow | shl | shr | band | bor | bxor
  deriving DecidableEq
inductive CO where
  | eq | ne | lt | le | gt | ge | mem | nmem | is | isn
  deriving DecidableEq

def LIM : Nat := 16777216
def bigOk (i : Int) : Bool := decide (-(2 ^ 64) < i) && decide (i < 2 ^ 64)

def binop : BO → T → T → Option RV
  | .add, .int i, .int j => some (.val (.int (i + j)))
  | .add, .str x, .str y => if x.length + y.length ≤ LIM then some (.val (.str (x ++ y))) else none
  | .add, .lst xs, .lst ys => if xs.length + ys.length ≤ LIM then some (.fresh (.lst (xs ++ ys))) else none
  | .add, .tup (x :: xs), .tup [] => if (x :: xs).length ≤ LIM then some (.val (.tup (x :: xs))) else none
  | .add, .tup (x :: xs), .tup (y :: ys) => if (x :: xs).length + (y :: ys).length ≤ LIM then some (.val (.tup ((x :: xs) ++ (y :: ys)))) else none
  | .sub, .int i, .int j => some (.val (.int (i - j)))
  | .mul, .int i, .int j => if bigOk i || bigOk j then some (.val (.int (i * j))) else none
  | .fdiv, .int i, .int j => if decide (0 < j) && decide (j < 1073741824) then some (.val (.int (i / j))) else none
  | .mod, .int i, .int j => if 0 < j then some (.val (.int (i % j))) else none
  | .pow, .int i, .int j => if decide (0 ≤ j) && decide (j ≤ 1000000) && decide (i.natAbs < 2 ^ 64) then some (.val (.int (i ^ j.toNat))) else none
  | .shl, .int i, .int j => if decide (0 ≤ j) && decide (j ≤ 1000000) && decide (i.natAbs < 2 ^ 64) then some (.val (.int (i * 2 ^ j.toNat))) else none
  | .shr, .int i, .int j => if 0 ≤ j then some (.val (.int (i / 2 ^ j.toNat))) else none
  | .band, .int i, .int j => some (.val (.int (Builtin.bitAnd i j)))
  | .bor, .int i, .int j => some (.val (.int (Builtin.bitOr i j)))
  | .bxor, .int i, .int j => some (.val (.int (Builtin.bitXor i j)))
  | _, _, _ => none

def T.flat : T → Bool
  | .non => true | .bl _ => true | .int _ => true | .str _ => true | _ => false
def eqF : T → T → Bool
  | .non, .non => true
  | .bl a, .bl b => a == b
  | .bl a, .int b => (if a then 1 else 0) == b
  | .int a, .bl b => a == (if b then 1 else 0)
  | .int a, .int b => a == b
  | .str a, .str b => a == b
  | _, _ => false
def scal : T → T → Bool
  | .non, .non => true | .non, .int _ => true | .int _, .non => true | .non, .bl _ => true | .bl _, .non => true | .non, .str _ => true | .str _, .non => true
  | .int _, .int _ => true | .bl _, .bl _ => true | .str _, .str _ => true
  | .int _, .str _ => true | .str _, .int _ => true | .bl _, .str _ => true | .str _, .bl _ => true
  | _, _ => false
def eqS : T → T → Bool
  | .non, .non => true
  | .int a, .int b => a == b
  | .bl a, .bl b => a == b
  | .str a, .str b => a == b
  | _, _ => false
mutual
def T.pd : T → PyData
  | .non => .none
  | .bl b => .bool b
  | .int i => .int i
  | .str s => .str s
  | .tup ts => .tuple (T.pds ts)
  | .lst ts => .list (T.pds ts)
  | _ => .none
def T.pds : List T → List PyData
  | [] => []
  | t :: ts => t.pd :: T.pds ts
end
mutual
def T.pdOk : T → Bool
  | .non => true | .bl _ => true | .int _ => true | .str _ => true
  | .tup ts => T.pdsOk ts
  | .lst ts => T.pdsOk ts
  | _ => false
def T.pdsOk : List T → Bool
  | [] => true
  | t :: ts => t.pdOk && T.pdsOk ts
end
def eqD (a b : T) : Option Bool :=
  if a.pdOk && b.pdOk && SeqAt.shaped a.pd && SeqAt.shaped b.pd then some (PyData.eqv a.pd b.pd) else none
def eqT (a b : T) : Option Bool := if scal a b then some (eqS a b) else eqD a b

def cmpop : CO → T → T → Option Bool
  | .eq, a, b => eqT a b
  | .ne, a, b => (eqT a b).map (!·)
  | .lt, .int i, .int j => some (decide (i < j))
  | .le, .int i, .int j => some (decide (i ≤ j))
  | .gt, .int i, .int j => some (decide (j < i))
  | .ge, .int i, .int j => some (decide (j ≤ i))
  | .mem, .str x, .str y => match x.cps.toList with
    | [c] => some (decide (c ∈ y.cps.toList))
    | _ => none
  | .nmem, .str x, .str y => match x.cps.toList with
    | [c] => some (!decide (c ∈ y.cps.toList))
    | _ => none
  | .mem, x, .lst ys => if x.flat && ys.all T.flat then some (ys.any fun y => eqF y x) else none
  | .mem, x, .tup ys => if x.flat && ys.all T.flat then some (ys.any fun y => eqF y x) else none
  | .nmem, x, .lst ys => if x.flat && ys.all T.flat then some (!ys.any fun y => eqF y x) else none
  | .nmem, x, .tup ys => if x.flat && ys.all T.flat then some (!ys.any fun y => eqF y x) else none
  | .is, .bl a, .bl b => some (decide (a = b))
  | .isn, .bl a, .bl b => some (!decide (a = b))
  | .is, .non, .non => some true
  | .is, .bl _, .non => some false | .is, .int _, .non => some false | .is, .str _, .non => some false | .is, .tup _, .non => some false | .is, .lst _, .non => some false | .is, .ins _ _ _, .non => some false
  | .isn, .non, .non => some false
  | .isn, .bl _, .non => some true | .isn, .int _, .non => some true | .isn, .str _, .non => some true | .isn, .tup _, .non => some true | .isn, .lst _, .non => some true | .isn, .ins _ _ _, .non => some true
  | _, _, _ => none

def ixN (n : Nat) (i : Int) : Option Nat :=
  if 0 ≤ i then (if i < n then some i.toNat else none) else (if -(n : Int) ≤ i then some (i + n).toNat else none)
def index : T → T → Option T
  | .lst xs, .int i => (ixN xs.length i).bind fun j => xs[j]?
  | .tup xs, .int i => (ixN xs.length i).bind fun j => xs[j]?
  | .str x, .int i => if x.length ≤ LIM then ((ixN x.length i).bind fun j => x.cps.toList[j]?).map fun c => .str ⟨#[c]⟩ else none
  | _, _ => none
def sIx (n d : Nat) : Option Int → Nat
  | none => d
  | some v => if v < 0 then (v + (n : Int)).toNat else min v.toNat n
def cut {α : Type} (xs : List α) (lo hi : Option Int) : List α := (xs.drop (sIx xs.length 0 lo)).take (sIx xs.length xs.length hi - sIx xs.length 0 lo)
def stepL {α : Type} (xs : List α) (lo hi st : Option Int) : List α := (sliceRange (sliceBounds lo hi st xs.length).1 (sliceBounds lo hi st xs.length).2.1 (sliceBounds lo hi st xs.length).2.2).filterMap (xs[·]?)
def stepT : T → Option Int → Option Int → Option RV
  | .lst xs, lo, some st => if st = 0 then none else some (.fresh (.lst (stepL xs lo none (some st))))
  | _, _, _ => none
def keyT : T → Option (Option L2.Key)
  | .non => some none
  | .int i => some (some (.inl i))
  | .str x => some (some (.inr x))
  | _ => none
def eqK (a b : T) : Bool := decide (keyT a = keyT b)
def dput (ks vs : List T) (t x : T) : List T × List T :=
  if ks.any (eqK · t) then (ks, List.zipWith (fun k v => if eqK k t then x else v) ks vs) else (ks ++ [t], vs ++ [x])
def slice : T → Option Int → Option Int → Option RV
  | .lst xs, lo, hi => some (.fresh (.lst (cut xs lo hi)))
  | .tup xs, lo, hi => if sIx xs.length 0 lo = 0 ∧ sIx xs.length xs.length hi = xs.length then none else some (.val (.tup (cut xs lo hi)))
  | _, _, _ => none
end NN
namespace NN
open PySem

inductive Tg where
  | nm (i : Nat) | tp (is : List Nat)
inductive BI where
  | len | all | any | sum | abs | max | min | list | sorted | ssorted | lenset
  deriving DecidableEq
inductive ME where
  | join | split | index
  deriving DecidableEq
inductive N where
  | nil | cons (a r : N)
  | var (i : Nat) | lit (t : T) | glb (x : Str) (t : T)
  | bin (o : BO) (a b : N) | neg (a : N)
  | cmp (o : CO) (a b : N) | chain (o p : CO) (a b c : N)
  | and (a b : N) | or (a b : N) | not (a : N) | ite (c a b : N)
  | tup (r : N) | lst (r : N) | dnew
  | ix (a i : N) | sl (a lo hi : N) | slst (a lo st : N)
  | attr (a : N) (f : Str) (cs : List Str)
  | bi (f : BI) (a : N) | bi2 (f : BI) (a b : N) | me (f : ME) (a b : N)
  | isT (a : N) (ty : String) | isC (a : N) (D : Str) (cs subs : List Str)
  | call (x : Str) (n : Nat) (g : G) (r : N) | om (m : Str) (n : Nat) (tb : List (Str × G)) (a r : N)
  | comp (tg : Tg) (own : List Nat) (it c e : N)
  -- what is walked
  | rng1 (a : N) | rng2 (a b : N) | enm (a : N) | zp (a b : N)
  -- statements
  | pass | seq (a b : N) | asg (tg : Tg) (e : N) | set2 (i j : Nat) (a b : N) | set3 (i j k : Nat) (a b c : N)
  | drop (e : N) | ap (i : Nat) (e : N) | xt (i : Nat) (e : N) | put (i : Nat) (k v : N)
  | iff (c a b : N) | for_ (tg : Tg) (it b : N) | while_ (c b : N)
  | ret (e : N) | retN | brk | cont | frz (i : Nat) | nev

inductive SR where
  | nx (env : Env) | rt (rv : RV) | bk (env : Env) | ct (env : Env)

def setMany (env : Env) : List Nat → List T → Option Env
  | [], [] => some env
  | i :: is, t :: ts => setMany (env.set i (some (.val t))) is ts
  | _, _ => none
def bindTg (env : Env) : Tg → T → Option Env
  | .nm i, t => some (env.set i (some (.val t)))
  | .tp is, .tup ts => setMany env is ts
  | .tp _, _ => none
def wipeE (env : Env) : List Nat → Env
  | [] => env
  | v :: vs => (wipeE env vs).set v none

def itemsOf : T → Option (List T)
  | .lst ts => some ts
  | .tup ts => some ts
  | .str s => some (s.cps.toList.map fun c => .str ⟨#[c]⟩)
  | _ => none
def rangeT (lo : Int) (n : Nat) : List T := (List.range n).map fun (k : Nat) => T.int (lo + (k : Int))
def enumT : Nat → List T → List T
  | _, [] => []
  | i, t :: ts => .tup [.int i, t] :: enumT (i + 1) ts
def zipT : List T → List T → List T
  | a :: as, b :: bs => .tup [a, b] :: zipT as bs
  | _, _ => []

def ints? : List T → Option (List Int)
  | [] => some []
  | .int i :: ts => (ints? ts).map (i :: ·)
  | _ => none
def bls? : List T → Option (List Bool)
  | [] => some []
  | .bl i :: ts => (bls? ts).map (i :: ·)
  | _ => none
def strs? : List T → Option (List Str)
  | [] => some []
  | .str i :: ts => (strs? ts).map (i :: ·)
  | _ => none
def strLe (a b : Str) : Bool := !PySem.Spec.ltCps b.cps.toList a.cps.toList
def insStr (x : Str) : List Str → List Str
  | [] => [x]
  | y :: ys => if strLe x y then x :: y :: ys else y :: insStr x ys
def sortStr : List Str → List Str
  | [] => []
  | x :: xs => insStr x (sortStr xs)
def uniqS : List Str → List Str
  | [] => []
  | x :: xs => if x ∈ xs then uniqS xs else x :: uniqS xs
def minI (x : Int) : List Int → Int
  | [] => x
  | y :: ys => minI (if y < x then y else x) ys

def builtin : BI → List T → Option RV
  | .len, [.lst ts] => some (.val (.int ts.length))
  | .len, [.tup ts] => some (.val (.int ts.length))
  | .len, [.str s] => if s.length ≤ LIM then some (.val (.int s.length)) else none
  | .all, [.lst ts] => (bls? ts).map fun bs => .val (.bl (bs.all id))
  | .any, [.lst ts] => (bls? ts).map fun bs => .val (.bl (bs.any id))
  | .sum, [.lst ts] => (ints? ts).map fun is => .val (.int is.sum)
  | .abs, [.int i] => some (.val (.int (if i < 0 then -i else i)))
  | .max, [.int i, .int j] => some (.val (.int (if j > i then j else i)))
  | .min, [.int i, .int j] => some (.val (.int (if j < i then j else i)))
  | .min, [.lst (.int i :: ts)] => (ints? ts).map fun is => .val (.int (minI i is))
  | .list, [.lst ts] => some (.fresh (.lst ts))
  | .list, [.tup ts] => some (.fresh (.lst ts))
  | .list, [.dic 0 ks _] => some (.fresh (.lst ks))
  | .sorted, [.lst ts] => (strs? ts).bind fun ss => if ss.length < 64 then some (.fresh (.lst ((sortStr ss).map .str))) else none
  | .ssorted, [.lst ts] => (strs? ts).bind fun ss => if ss.length < 64 then some (.fresh (.lst ((sortStr (uniqS ss)).map .str))) else none
  | _, _ => none
def method : ME → Str → T → Option RV
  | .join, a, .lst ts => (strs? ts).bind fun ss => if (ss.map Str.length).sum + ss.length * a.length ≤ LIM then some (.val (.str (Txt.join a ss))) else none
  | .split, a, .str b => if b.length = 0 ∨ LIM < a.length + 2 then none else some (.fresh (.lst ((Txt.split a b).map .str)))
  | .index, a, .str b => (Txt.index0 a b).map fun j => .val (.int j)
  | _, _, _ => none
def tyName : T → Option String
  | .non => some "NoneType" | .bl _ => some "bool" | .int _ => some "int" | .str _ => some "str" | .tup _ => some "tuple" | .lst _ => some "list" | _ => none
def isTy (ty : String) (t : T) : Option Bool := (tyName t).map fun a => a == ty || (a == "bool" && ty == "int")
def isCl (cs subs : List Str) : T → Option Bool
  | .ins C _ _ => if cs.contains C then some (subs.contains C) else none
  | _ => none
def fldOf (f : Str) (cs : List Str) : T → Option T
  | .ins C ns ts => if cs.contains C then (ns.zip ts).lookup f else none
  | _ => none
def slotOf (env : Env) (st : Sto) : RV → Option Slot
  | .val t => some (.val t)
  | .fresh c => some (.own c)
  | .at _ => none
def retOf (env : Env) : RV → Option RV
  | .val t => some (.val t)
  | .fresh c => some (.fresh c)
  | .at (.slot i) => match env[i]? with
    | some (some (.own c)) => some (.fresh c)
    | _ => none
  | .at _ => none
def loopS (step : T → Env → Sto → Oc SR) : List T → Env → Sto → Oc SR
  | [], env, st => .ok (.nx env) st
  | x :: xs, env, st => (step x env st).bind fun r st1 => match r with
    | .nx env1 => loopS step xs env1 st1
    | .ct env1 => loopS step xs env1 st1
    | .bk env1 => .ok (.nx env1) st1
    | .rt rv => .ok (.rt rv) st1
def loopC (step : T → Sto → Oc (Option T)) : List T → List T → Sto → Oc (List T)
  | [], acc, st => .ok acc st
  | x :: xs, acc, st => (step x st).bind fun r st1 => match r with
    | some y => if acc.length < LIM then loopC step xs (acc ++ [y]) st1 else .bad
    | none => loopC step xs acc st1
def loopW (c : Env → Sto → Oc Bool) (b : Env → Sto → Oc SR) : Nat → Env → Sto → Oc SR
  | 0, _, _ => .bad
  | n + 1, env, st => (c env st).bind fun t st1 => if t then (b env st1).bind fun r st2 => match r with
      | .nx env1 => loopW c b n env1 st2
      | .ct env1 => loopW c b n env1 st2
      | .bk env1 => .ok (.nx env1) st2
      | .rt rv => .ok (.rt rv) st2
    else .ok (.nx env) st1
def viewQ (q : Bool) (env : Env) (st : Sto) (rv : RV) : Option T :=
  match q, rv with
  | true, .at (.slot i) => view env st (.at (.slot i))
  | _, rv => frz rv
def viewS (q : Bool) (env : Env) (st : Sto) (rv : RV) : Option T :=
  match rv with
  | .fresh _ => none
  | rv => viewQ q env st rv
def tr (o : Oc RV) : Oc T := o.bind fun rv st => .of (frz rv) st
def truthB (o : Oc RV) : Oc Bool := o.bind fun rv st => match rv with
  | .val (.bl b) => .ok b st
  | _ => .bad
def stepC (env : Env) (own : List Nat) (tg : Tg) (fc : Env → Sto → Oc Bool) (fe : Env → Sto → Oc RV) (x : T) (st : Sto) : Oc (Option T) :=
  match bindTg (wipeE env own) tg x with
  | some env1 => ((fc env1 st).bind fun b st1 => if b then (tr (fe env1 st1)).bind fun y st2 => .ok (some y) st2 else .ok none st1).nox
  | none => .bad
def stepS (tg : Tg) (b : Env → Sto → Oc SR) (x : T) (env : Env) (st : Sto) : Oc SR :=
  match bindTg env tg x with
  | some env1 => b env1 st
  | none => .bad
def FUEL : Nat := 100000

mutual
def ev : N → Env → Sto → Oc RV
  | .var i, env, st => match env[i]? with
    | some (some (.val t)) => .ok (.val t) st
    | some (some (.own _)) => .ok (.at (.slot i)) st
    | _ => .bad
  | .lit t, _, st => .ok (.val t) st
  | .glb _ t, _, st => .ok (.val t) st
  | .bin o a b, env, st => (ev a env st).bind fun ra st1 => (ev b env st1).bind fun rb st2 =>
      .of ((view env st2 ra).bind fun x => (view env st2 rb).bind fun y => binop o x y) st2
  | .neg a, env, st => (ev a env st).bind fun ra st1 => match ra with
      | .val (.int i) => .ok (.val (.int (-i))) st1
      | _ => .bad
  | .cmp o a b, env, st => (ev a env st).bind fun ra st1 => (ev b env st1).bind fun rb st2 =>
      .of (((view env st2 ra).bind fun x => (view env st2 rb).bind fun y => cmpop o x y).map fun c => .val (.bl c)) st2
  | .chain o p a b c, env, st => (ev a env st).bind fun ra st1 => (ev b env st1).bind fun rb st2 =>
      (Oc.of ((view env st2 ra).bind fun x => (view env st2 rb).bind fun y => cmpop o x y) st2).bind fun d st2 =>
        if d then (ev c env st2).bind fun rc st3 => .of (((view env st3 rb).bind fun y => (view env st3 rc).bind fun z => cmpop p y z).map fun c => .val (.bl c)) st3
        else .ok (.val (.bl false)) st2
  | .and a b, env, st => (truthB (ev a env st)).bind fun c st1 => if c then ev b env st1 else .ok (.val (.bl false)) st1
  | .or a b, env, st => (truthB (ev a env st)).bind fun c st1 => if c then .ok (.val (.bl true)) st1 else ev b env st1
  | .not a, env, st => (truthB (ev a env st)).bind fun c st1 => .ok (.val (.bl (!c))) st1
  | .ite c a b, env, st => (truthB (ev c env st)).bind fun d st1 => if d then ev a env st1 else ev b env st1
  | .tup r, env, st => (evs r env st).bind fun ts st1 => if ts.length ≤ LIM then .ok (.val (.tup ts)) st1 else .bad
  | .lst r, env, st => (evs r env st).bind fun ts st1 => if ts.length ≤ LIM then .ok (.fresh (.lst ts)) st1 else .bad
  | .dnew, _, st => .ok (.fresh (.dic 0 [] [])) st
  | .slst a lo c, env, st => (ev a env st).bind fun ra st1 => (evP lo env st1).bind fun l st2 => (evP c env st2).bind fun d st3 =>
      .of ((view env st3 ra).bind fun x => stepT x l d) st3
  | .ix a i, env, st => (ev a env st).bind fun ra st1 => (ev i env st1).bind fun ri st2 =>
      .of (((view env st2 ra).bind fun x => (view env st2 ri).bind fun y => index x y).map .val) st2
  | .sl a lo hi, env, st => (ev a env st).bind fun ra st1 => (evP lo env st1).bind fun l st2 => (evP hi env st2).bind fun h st3 =>
      .of ((view env st3 ra).bind fun x => slice x l h) st3
  | .attr a f cs, env, st => (ev a env st).bind fun ra st1 => match ra with
      | .val t => .of ((fldOf f cs t).map .val) st1
      | _ => .bad
  | .bi f a, env, st => (ev a env st).bind fun ra st1 => .of ((view env st1 ra).bind fun x => builtin f [x]) st1
  | .bi2 f a b, env, st => (ev a env st).bind fun ra st1 => (ev b env st1).bind fun rb st2 => .of ((view env st2 ra).bind fun x => (view env st2 rb).bind fun y => builtin f [x, y]) st2
  | .me f a b, env, st => (ev a env st).bind fun ra st1 => match ra with
      | .val (.str x) => (ev b env st1).bind fun rb st2 => .of ((view env st2 rb).bind fun y => method f x y) st2
      | _ => .bad
  | .isT a ty, env, st => (ev a env st).bind fun ra st1 => .of (((view env st1 ra).bind fun x => isTy ty x).map fun b => .val (.bl b)) st1
  | .isC a _ cs subs, env, st => (ev a env st).bind fun ra st1 => match ra with
      | .val t => .of ((isCl cs subs t).map fun b => .val (.bl b)) st1
      | _ => .bad
  | .call _ n g r, env, st => (evs r env st).bind fun ts st1 => if ts.length = n then g ts st1 else .bad
  | .om m n tb a r, env, st => (ev a env st).bind fun ra st1 => match ra with
      | .val (.ins C ns ts) => if ns.contains m then .bad else match tb.lookup C with
        | some g => (evs r env st1).bind fun us st2 => if us.length + 1 = n then g (.ins C ns ts :: us) st2 else .bad
        | none => .bad
      | _ => .bad
  | .comp tg own it c e, env, st => (evI true it env st).bind fun xs st1 =>
      (loopC (stepC env own tg (evc c) (ev e)) xs [] st1).bind fun ys st2 => .ok (.fresh (.lst ys)) st2
  | _, _, _ => .bad
def evP : N → Env → Sto → Oc (Option Int)
  | .nil, _, st => .ok none st
  | .cons a _, env, st => (ev a env st).bind fun ra st1 => match ra with
      | .val (.int i) => .ok (some i) st1
      | _ => .bad
  | _, _, _ => .bad
def evs : N → Env → Sto → Oc (List T)
  | .nil, _, st => .ok [] st
  | .cons a r, env, st => (tr (ev a env st)).bind fun t st1 => (evs r env st1).bind fun ts st2 => .ok (t :: ts) st2
  | _, _, _ => .bad
def evc : N → Env → Sto → Oc Bool
  | .nil, _, st => .ok true st
  | .cons a _, env, st => truthB (ev a env st)
  | _, _, _ => .bad
def evI (q : Bool) : N → Env → Sto → Oc (List T)
  | .rng1 a, env, st => (ev a env st).bind fun ra st1 => match ra with
      | .val (.int n) => if decide (-(2 ^ 62) ≤ n) && decide (n < 2 ^ 62) then .ok (rangeT 0 n.toNat) st1 else .bad
      | _ => .bad
  | .rng2 a b, env, st => (ev a env st).bind fun ra st1 => (ev b env st1).bind fun rb st2 => match ra, rb with
      | .val (.int i), .val (.int j) => if decide (-(2 ^ 62) ≤ i) && decide (i < 2 ^ 62) && decide (-(2 ^ 62) ≤ j) && decide (j < 2 ^ 62) then .ok (rangeT i (j - i).toNat) st2 else .bad
      | _, _ => .bad
  | .enm a, env, st => (ev a env st).bind fun ra st1 => .of ((viewQ q env st1 ra).bind fun t => match t with
      | .lst ts => some (enumT 0 ts)
      | _ => none) st1
  | .zp a b, env, st => (ev a env st).bind fun ra st1 => (ev b env st1).bind fun rb st2 => .of ((viewS q env st2 ra).bind fun x => (viewQ q env st2 rb).bind fun y => match x, y with
      | .lst xs, .lst ys => if xs.length = ys.length then some (zipT xs ys) else none
      | _, _ => none) st2
  | .cons a _, env, st => (ev a env st).bind fun ra st1 => .of ((viewQ q env st1 ra).bind itemsOf) st1
  | _, _, _ => .bad
end

def ex : N → Env → Sto → Oc SR
  | .pass, env, st => .ok (.nx env) st
  | .nil, env, st => .ok (.nx env) st
  | .seq a b, env, st => (ex a env st).bind fun r st1 => match r with
      | .nx env1 => ex b env1 st1
      | r => .ok r st1
  | .asg (.nm i) e, env, st => (ev e env st).bind fun rv st1 => match slotOf env st1 rv with
      | some s => .ok (.nx (env.set i (some s))) st1
      | none => .bad
  | .asg (.tp is) e, env, st => (tr (ev e env st)).bind fun t st1 => match bindTg env (.tp is) t with
      | some env1 => .ok (.nx env1) st1
      | none => .bad
  | .set2 i j a b, env, st => (ev a env st).bind fun ra st1 => (ev b env st1).bind fun rb st2 => match slotOf env st2 ra, slotOf env st2 rb with
      | some s, some s' => .ok (.nx ((env.set i (some s)).set j (some s'))) st2
      | _, _ => .bad
  | .set3 i j k a b c, env, st => (ev a env st).bind fun ra st1 => (ev b env st1).bind fun rb st2 => (ev c env st2).bind fun rc st3 => match slotOf env st3 ra, slotOf env st3 rb, slotOf env st3 rc with
      | some s, some s', some s'' => .ok (.nx (((env.set i (some s)).set j (some s')).set k (some s''))) st3
      | _, _, _ => .bad
  | .drop e, env, st => (ev e env st).bind fun _ st1 => .ok (.nx env) st1
  | .ap i e, env, st => match env[i]? with
      | some (some (.own (.lst ts))) => (tr (ev e env st)).bind fun t st1 => if ts.length < LIM then .ok (.nx (env.set i (some (.own (.lst (ts ++ [t])))))) st1 else .bad
      | _ => .bad
  | .xt i e, env, st => match env[i]? with
      | some (some (.own (.lst ts))) => (ev e env st).bind fun t st1 => match t with
        | .fresh (.lst us) => if ts.length + us.length ≤ LIM then .ok (.nx (env.set i (some (.own (.lst (ts ++ us)))))) st1 else .bad
        | _ => .bad
      | _ => .bad
  | .put i k e, env, st => (tr (ev e env st)).bind fun x st1 => match env[i]? with
      | some (some (.own (.dic 0 ks vs))) => (tr (ev k env st1)).bind fun t st2 => if (keyT t).isSome && decide (ks.length < LIM) then .ok (.nx (env.set i (some (.own (.dic 0 (dput ks vs t x).1 (dput ks vs t x).2))))) st2 else .bad
      | _ => .bad
  | .iff c a b, env, st => (truthB (ev c env st)).bind fun d st1 => if d then ex a env st1 else ex b env st1
  | .for_ tg it b, env, st => (evI false it env st).bind fun xs st1 => loopS (stepS tg (ex b)) xs env st1
  | .while_ c b, env, st => loopW (fun env st => truthB (ev c env st)) (ex b) FUEL env st
  | .ret e, env, st => (ev e env st).bind fun rv st1 => match retOf env rv with
      | some r => .ok (.rt r) st1
      | none => .bad
  | .retN, _, st => .ok (.rt (.val .non)) st
  | .brk, env, st => .ok (.bk env) st
  | .cont, env, st => .ok (.ct env) st
  | .frz i, env, st => match env[i]? with
      | some (some (.own c)) => .ok (.nx (env.set i (some (.val c.tree)))) st
      | some (some (.val t)) => .ok (.nx env) st
      | _ => .bad
  | _, _, _ => .bad

def startE (n : Nat) (ts : List T) : Env := ts.map (fun t => some (.val t)) ++ List.replicate (n - ts.length) none
def runDef (n : Nat) (b : N) (ts : List T) (st : Sto) : Oc RV :=
  (ex b (startE n ts) st).bind fun r st1 => match r with
  | .nx _ => .ok (.val .non) st1
  | .rt rv => .ok rv st1
  | _ => .bad
end NN

set_option Elab.async false
set_option linter.all false
set_option maxRecDepth 100000
set_option maxHeartbeats 4000000
namespace NN
open PySem PySem.Spec PyProof.Rows L2

inductive Kd where
  | fz (t : T) | obj (i : Nat) | fld (i : Nat) (f : Str)
abbrev Mp := Addr → Option Kd
structure Gx where
  K : PySem.W.Frag
  cad : Str → Addr
  P : Program
  w : World
def NDic (P : Program) (w : World) (a : Addr) (kvs : List (Option Key × V)) : HO := .ext fun h => kvs.length ≤ sizeLine ∧ (a == sysModules) = false ∧ ∃ us, KV kvs us ∧ h.DictOf (noneKind P w) a us
def kN : Option Key → V
  | none => .non
  | some k => kV k
def tN : Option Key → T
  | none => .non
  | some (.inl i) => .int i
  | some (.inr x) => .str x

def RepS (v : V) : T → Prop
  | .non => v = .non | .bl b => v = .bl b | .int i => v = .int i | .str s => v = .str s
  | _ => False
def noH : Hp := fun _ => none
def StatT (K : PySem.W.Frag) (a : Addr) (ts : List T) : Prop := ∃ vs, SqT K noH a vs ∧ Paired RepS vs ts
def StatL (K : PySem.W.Frag) (a : Addr) (ts : List T) : Prop := ∃ vs, SqL K noH a vs ∧ Paired RepS vs ts
def RepV (X : Gx) (M : Mp) (v : V) : T → Prop
  | .non => v = .non | .bl b => v = .bl b | .int i => v = .int i | .str s => v = .str s | .typ n => v = .ty n
  | .tup ts => ∃ a, v = .ref a ∧ (M a = some (.fz (.tup ts)) ∨ StatT X.K a ts)
  | .lst ts => ∃ a, v = .ref a ∧ (M a = some (.fz (.lst ts)) ∨ StatL X.K a ts)
  | .dic k ks vs => ∃ a, v = .ref a ∧ M a = some (.fz (.dic k ks vs))
  | .ins C ns ts => ∃ a, v = .ref a ∧ M a = some (.fz (.ins C ns ts))
  | .obj i => ∃ a, v = .ref a ∧ M a = some (.obj i)
abbrev RepVs (X : Gx) (M : Mp) : List V → List T → Prop := Paired (RepV X M)

def DicC (X : Gx) (M : Mp) (H : Hp) (a : Addr) (k : Nat) (ks vs : List T) : Prop := k = 0 ∧ ∃ kvs : List (Option Key × V), H a = some (NDic X.P X.w a kvs) ∧ ks = kvs.map (fun p => tN p.1) ∧ RepVs X M (kvs.map (·.2)) vs
def OwnC (X : Gx) (M : Mp) (H : Hp) (a : Addr) : Own → Prop
  | .lst ts => ∃ vs, H a = some (.lst vs) ∧ RepVs X M vs ts
  | .dic k ks vs => DicC X M H a k ks vs
def FzC (X : Gx) (M : Mp) (H : Hp) (a : Addr) : T → Prop
  | .tup ts => ∃ vs, H a = some (.tup vs) ∧ RepVs X M vs ts
  | .lst ts => ∃ vs, Rd H a (.lst vs) ∧ RepVs X M vs ts
  | .dic k ks vs => DicC X M H a k ks vs
  | .ins C ns ts => ∃ dx fs, H a = some (.ins (X.cad C) dx fs) ∧ fs.map (·.1) = ns ∧ RepVs X M (fs.map (·.2)) ts
  | _ => False
def FVC (X : Gx) (M : Mp) (i : Nat) (f : Str) (v : V) : FV → Prop
  | .val t => RepV X M v t
  | .own _ => ∃ b, v = .ref b ∧ M b = some (.fld i f)
def CellC (X : Gx) (M : Mp) (H : Hp) (a : Addr) (i : Nat) (c : Cell) : Prop :=
  match c.cls with
  | some C => ∃ dx fs, H a = some (.ins (X.cad C) dx fs) ∧ fs.map (·.1) = c.ns ∧ Paired (fun (p : Str × V) (q : FV) => FVC X M i p.1 p.2 q) fs c.fs
  | none => False
structure Rel (X : Gx) (M : Mp) (st : Sto) (H : Hp) : Prop where
  dom : ∀ a, M a ≠ none → H a ≠ none
  fz : ∀ a t, M a = some (.fz t) → FzC X M H a t
  obj : ∀ a i, M a = some (.obj i) → ∃ c, st[i]? = some c ∧ CellC X M H a i c
  objU : ∀ a b i, M a = some (.obj i) → M b = some (.obj i) → a = b
  fld : ∀ a i f, M a = some (.fld i f) → ∃ c, st.fld i f = some (.own c) ∧ OwnC X M H a c
  fldU : ∀ a b i f, M a = some (.fld i f) → M b = some (.fld i f) → a = b
structure Ext (M : Mp) (H : Hp) (M' : Mp) (H' : Hp) : Prop where
  keep : ∀ a k, M a = some k → M' a = some k
  frame : ∀ a, M a = none → H a ≠ none → H' a = H a ∧ M' a = none
  alive : ∀ a, H a ≠ none → H' a ≠ none
theorem Ext.refl (M : Mp) (H : Hp) : Ext M H M H := ⟨fun _ _ h => h, fun _ h _ => ⟨rfl, h⟩, fun _ h => h⟩
theorem Ext.trans {M H M1 H1 M2 H2} (a : Ext M H M1 H1) (b : Ext M1 H1 M2 H2) : Ext M H M2 H2 :=
  ⟨fun x k h => b.keep x k (a.keep x k h), fun x h n => by
    obtain ⟨e1, e2⟩ := a.frame x h n
    obtain ⟨e3, e4⟩ := b.frame x e2 (by rw [e1]; exact n)
    exact ⟨e3.trans e1, e4⟩, fun x h => b.alive x (a.alive x h)⟩
theorem Ext.free {M H M1 H1} (a : Ext M H M1 H1) {x : Addr} (h : H1 x = none) : H x = none := by
  cases q : H x with
  | none => rfl
  | some o => exact absurd h (a.alive x (by rw [q]; simp))

section
variable {X : Gx} {M M' : Mp} {H H' : Hp} {st : Sto} {v : V} {t : T} {a : Addr}
theorem RepV.mono (k : ∀ a x, M a = some x → M' a = some x) (r : RepV X M v t) : RepV X M' v t := by
  cases t with
  | tup ts => obtain ⟨a, e, h⟩ := r; exact ⟨a, e, h.imp (k a _) id⟩
  | lst ts => obtain ⟨a, e, h⟩ := r; exact ⟨a, e, h.imp (k a _) id⟩
  | dic _ _ _ => obtain ⟨a, e, h⟩ := r; exact ⟨a, e, k a _ h⟩
  | ins _ _ _ => obtain ⟨a, e, h⟩ := r; exact ⟨a, e, k a _ h⟩
  | obj _ => obtain ⟨a, e, h⟩ := r; exact ⟨a, e, k a _ h⟩
  | _ => exact r
theorem RepVs.mono {vs : List V} {ts : List T} (k : ∀ a x, M a = some x → M' a = some x) (r : RepVs X M vs ts) : RepVs X M' vs ts := Paired.mapP r fun _ _ q => q.mono k
theorem DicC.mono {k : Nat} {ks vs : List T} (k' : ∀ a x, M a = some x → M' a = some x) (h : H' a = H a) (r : DicC X M H a k ks vs) : DicC X M' H' a k ks vs := by
  obtain ⟨e0, kvs, e, e1, r⟩ := r
  exact ⟨e0, kvs, h.trans e, e1, RepVs.mono k' r⟩
theorem OwnC.mono {c : Own} (k : ∀ a x, M a = some x → M' a = some x) (h : H' a = H a) (r : OwnC X M H a c) : OwnC X M' H' a c := by
  cases c with
  | lst ts => obtain ⟨vs, e, r⟩ := r; exact ⟨vs, h.trans e, RepVs.mono k r⟩
  | dic _ _ _ => exact DicC.mono k h r
theorem FzC.mono (k : ∀ a x, M a = some x → M' a = some x) (h : H' a = H a) (r : FzC X M H a t) : FzC X M' H' a t := by
  cases t with
  | tup ts => obtain ⟨vs, e, r⟩ := r; exact ⟨vs, h.trans e, RepVs.mono k r⟩
  | lst ts =>
    obtain ⟨vs, e, r⟩ := r
    refine ⟨vs, ?_, RepVs.mono k r⟩
    rcases e with e | ⟨o, e⟩
    · exact .inl (h.trans e)
    · exact .inr ⟨o, h.trans e⟩
  | ins C ns ts => obtain ⟨dx, fs, e, e2, r⟩ := r; exact ⟨dx, fs, h.trans e, e2, RepVs.mono k r⟩
  | dic _ _ _ => exact DicC.mono k h r
  | _ => exact r
theorem FVC.mono {i : Nat} {f : Str} {q : FV} (k : ∀ a x, M a = some x → M' a = some x) (r : FVC X M i f v q) : FVC X M' i f v q := by
  cases q with
  | val t => exact RepV.mono k r
  | own c => obtain ⟨b, e, h⟩ := r; exact ⟨b, e, k b _ h⟩
theorem CellC.mono {i : Nat} {c : Cell} (k : ∀ a x, M a = some x → M' a = some x) (h : H' a = H a) (r : CellC X M H a i c) : CellC X M' H' a i c := by
  unfold CellC at *
  cases hc : c.cls with
  | none => rw [hc] at r; exact r
  | some C =>
    rw [hc] at r
    obtain ⟨dx, fs, e, e2, r⟩ := r
    exact ⟨dx, fs, h.trans e, e2, Paired.mapP r fun _ _ q => q.mono k⟩
theorem ne_no {α β : Type} {H : α → Option β} {a b : α} (n : H b ≠ none) (h : H a = none) : b ≠ a := by
  rintro rfl; exact n h
theorem Rel.grow (R : Rel X M st H) (k : ∀ a x, M a = some x → M' a = some x) (h : ∀ a, M a ≠ none → H' a = H a)
    (new : ∀ a, M a = none → ∀ x, M' a = some x → ∃ t, x = .fz t ∧ FzC X M' H' a t ∧ H' a ≠ none) : Rel X M' st H' := by
  have old : ∀ {a x}, M' a = some x → (∀ t, x ≠ .fz t) → M a = some x := fun {a x} e n => by
    cases q : M a with
    | none => obtain ⟨t, e2, _⟩ := new a q x e; exact absurd e2 (n t)
    | some y => rw [k a y q] at e; exact e
  refine ⟨fun a e => ?_, fun a t e => ?_, fun a i e => ?_, fun a b i e e2 => ?_, fun a i f e => ?_, fun a b i f e e2 => ?_⟩
  · cases q : M a with
    | none =>
      cases q2 : M' a with
      | none => exact absurd q2 e
      | some x => obtain ⟨_, _, _, z⟩ := new a q x q2; exact z
    | some y => rw [h a (by rw [q]; simp)]; exact R.dom a (by rw [q]; simp)
  · cases q : M a with
    | none => obtain ⟨t', e2, z, _⟩ := new a q _ e; cases e2; exact z
    | some y =>
      have e3 := k a y q
      rw [e] at e3; cases e3
      exact (R.fz a t q).mono k (h a (by rw [q]; simp))
  · have q := old e (fun t z => nomatch z)
    obtain ⟨c, e1, r⟩ := R.obj a i q
    exact ⟨c, e1, r.mono k (h a (by rw [q]; simp))⟩
  · exact R.objU a b i (old e fun t z => nomatch z) (old e2 fun t z => nomatch z)
  · have q := old e (fun t z => nomatch z)
    obtain ⟨c, e1, r⟩ := R.fld a i f q
    exact ⟨c, e1, r.mono k (h a (by rw [q]; simp))⟩
  · exact R.fldU a b i f (old e fun t z => nomatch z) (old e2 fun t z => nomatch z)

def updM (M : Mp) (a : Addr) (k : Kd) : Mp := fun b => if b = a then some k else M b
theorem updM_same {k : Kd} : updM M a k a = some k := by unfold updM; rw [if_pos rfl]
theorem updM_ne {k : Kd} {b : Addr} (h : b ≠ a) : updM M a k b = M b := by unfold updM; rw [if_neg h]
theorem updM_keep {k : Kd} (h : M a = none) : ∀ b x, M b = some x → updM M a k b = some x := fun b x e => by
  rw [updM_ne]; exact e
  rintro rfl; rw [h] at e; cases e
theorem Rel.nom (R : Rel X M st H) (h : H a = none) : M a = none := by
  cases q : M a with
  | none => rfl
  | some x => exact absurd h (R.dom a (by rw [q]; simp))
theorem Rel.lay (R : Rel X M st H) (h : H a = none) (o : HO) : Rel X M st (upd H a o) ∧ Ext M H M (upd H a o) := by
  have hm := R.nom h
  refine ⟨R.grow (fun _ _ e => e) (fun b e => upd_ne (ne_no e hm)) fun b e x e2 => (by rw [e] at e2; cases e2), fun _ _ e => e, fun b e n => ⟨upd_ne (ne_no n h), e⟩, fun b n => ?_⟩
  rw [upd_ne (ne_no n h)]; exact n
theorem Rel.freeze (R : Rel X M st H) (h : M a = none) (ho : H a ≠ none) (f : FzC X M H a t) : Rel X (updM M a (.fz t)) st H := by
  refine R.grow (updM_keep h) (fun _ _ => rfl) fun b e x e2 => ?_
  by_cases hb : b = a
  · subst hb
    rw [updM_same] at e2; cases e2
    exact ⟨t, rfl, f.mono (updM_keep h) rfl, ho⟩
  · rw [updM_ne hb, e] at e2; cases e2
theorem Ext.fz {M0 : Mp} {H0 : Hp} {k : Kd} (E : Ext M0 H0 M H) (h : M a = none) (h0 : H0 a = none) : Ext M0 H0 (updM M a k) H :=
  ⟨fun b x e => updM_keep h b x (E.keep b x e), fun b e n => by
    obtain ⟨e1, e2⟩ := E.frame b e n
    refine ⟨e1, ?_⟩
    rw [updM_ne]; exact e2
    rintro rfl; exact n h0, E.alive⟩
theorem Rel.poke (R : Rel X M st H) (h : M a = none) (o : HO) : Rel X M st (upd H a o) :=
  R.grow (fun _ _ e => e) (fun b e => upd_ne (ne_no e h)) fun b e x e2 => by rw [e] at e2; cases e2
theorem Ext.poke {M0 : Mp} {H0 : Hp} (E : Ext M0 H0 M H) (h0 : H0 a = none) (o : HO) : Ext M0 H0 M (upd H a o) :=
  ⟨E.keep, fun b e n => by
    obtain ⟨e1, e2⟩ := E.frame b e n
    exact ⟨(upd_ne (ne_no n h0)).trans e1, e2⟩, fun b n => by
    rw [upd_ne (ne_no n h0)]; exact E.alive b n⟩
theorem Rel.new (R : Rel X M st H) (h : H a = none) (o : HO) (f : FzC X M (upd H a o) a t) : Rel X (updM M a (.fz t)) st (upd H a o) ∧ Ext M H (updM M a (.fz t)) (upd H a o) := by
  obtain ⟨R1, E1⟩ := R.lay h o
  exact ⟨R1.freeze (R.nom h) (by rw [upd_same]; simp) f, E1.fz (R.nom h) h⟩
end

def See (X : Gx) (M : Mp) (H : Hp) (v : V) : T → Prop
  | .non => v = .non | .bl b => v = .bl b | .int i => v = .int i | .str s => v = .str s | .typ n => v = .ty n
  | .tup ts => ∃ a vs, v = .ref a ∧ SqT X.K H a vs ∧ RepVs X M vs ts
  | .lst ts => ∃ a vs, v = .ref a ∧ SqL X.K H a vs ∧ RepVs X M vs ts
  | .dic k ks vs => ∃ a, v = .ref a ∧ DicC X M H a k ks vs
  | .ins C ns ts => ∃ a dx fs, v = .ref a ∧ H a = some (.ins (X.cad C) dx fs) ∧ fs.map (·.1) = ns ∧ RepVs X M (fs.map (·.2)) ts
  | .obj i => ∃ a, v = .ref a ∧ M a = some (.obj i)
section
variable {X : Gx} {M M' : Mp} {H H' : Hp} {st : Sto} {v : V} {t : T} {a : Addr}
theorem RepS.rep (r : RepS v t) : RepV X M v t := by
  cases t with
  | non => exact r
  | bl _ => exact r
  | int _ => exact r
  | str _ => exact r
  | _ => exact r.elim
theorem sqT_stat {K : PySem.W.Frag} {vs : List V} (h : SqT K noH a vs) : SqT K H a vs := by
  rcases h with h | h
  · rcases h with h | ⟨o, h⟩ <;> cases h
  · exact .inr h
theorem sqL_stat {K : PySem.W.Frag} {vs : List V} (h : SqL K noH a vs) : SqL K H a vs := by
  rcases h with h | h
  · rcases h with h | ⟨o, h⟩ <;> cases h
  · exact .inr h
theorem RepV.see (R : Rel X M st H) (r : RepV X M v t) : See X M H v t := by
  cases t with
  | tup ts =>
    obtain ⟨a, e, h | ⟨vs, h, p⟩⟩ := r
    · obtain ⟨vs, h1, h2⟩ := R.fz a _ h
      exact ⟨a, vs, e, SqT.of h1, h2⟩
    · exact ⟨a, vs, e, sqT_stat h, Paired.mapP p fun _ _ q => q.rep⟩
  | lst ts =>
    obtain ⟨a, e, h | ⟨vs, h, p⟩⟩ := r
    · obtain ⟨vs, h1, h2⟩ := R.fz a _ h
      exact ⟨a, vs, e, .inl h1, h2⟩
    · exact ⟨a, vs, e, sqL_stat h, Paired.mapP p fun _ _ q => q.rep⟩
  | dic _ _ _ => obtain ⟨a, e, h⟩ := r; exact ⟨a, e, R.fz a _ h⟩
  | ins _ _ _ =>
    obtain ⟨a, e, h⟩ := r
    obtain ⟨dx, fs, h1, h2, h3⟩ := R.fz a _ h
    exact ⟨a, dx, fs, e, h1, h2, h3⟩
  | obj _ => exact r
  | _ => exact r

def RepR (X : Gx) (H₀ : Hp) (M : Mp) (H : Hp) (σ : L2.St) (v : V) : RV → Prop
  | .val t => RepV X M v t
  | .fresh c => ∃ a, v = .ref a ∧ H₀ a = none ∧ M a = none ∧ OwnC X M H a c
  | .at (.slot i) => σ[i]? = some (some v)
  | .at (.fld o f) => ∃ a, v = .ref a ∧ M a = some (.fld o f)

def foot (a : Addr) (_ : Own) : List Addr := [a]
def SlotC (X : Gx) (H₀ : Hp) (M : Mp) (H : Hp) (v : V) : Slot → Prop
  | .val t => RepV X M v t
  | .own c => ∃ a, v = .ref a ∧ OwnC X M H a c ∧ ∀ x ∈ foot a c, M x = none ∧ H x ≠ none ∧ H₀ x = none
structure EnvRel (X : Gx) (H₀ : Hp) (M : Mp) (H : Hp) (σ : L2.St) (env : Env) : Prop where
  len : σ.length = env.length
  at' : ∀ (i : Nat) (s : Slot), env[i]? = some (some s) → ∃ v, σ[i]? = some (some v) ∧ SlotC X H₀ M H v s
  one : ∀ (i j : Nat) (a b : Addr) (c c' : Own) (x : Addr), env[i]? = some (some (.own c)) → env[j]? = some (some (.own c')) → σ[i]? = some (some (.ref a)) → σ[j]? = some (some (.ref b)) → x ∈ foot a c → x ∈ foot b c' → i = j
theorem SlotC.ext {H₀ : Hp} {s : Slot} (r : SlotC X H₀ M H v s) (E : Ext M H M' H') : SlotC X H₀ M' H' v s := by
  cases s with
  | val t => exact RepV.mono E.keep r
  | own c =>
    obtain ⟨a, e2, r, h2⟩ := r
    obtain ⟨f1, f2, _⟩ := h2 a (by simp [foot])
    refine ⟨a, e2, r.mono E.keep (E.frame a f1 f2).1, fun x hx => ?_⟩
    obtain ⟨f1, f2, f3⟩ := h2 x hx
    obtain ⟨e1, e2⟩ := E.frame x f1 f2
    exact ⟨e2, by rw [e1]; exact f2, f3⟩
theorem EnvRel.ext {H₀ : Hp} {σ : L2.St} {env : Env} (r : EnvRel X H₀ M H σ env) (E : Ext M H M' H') : EnvRel X H₀ M' H' σ env :=
  ⟨r.len, fun i s e => let ⟨v, e1, q⟩ := r.at' i s e; ⟨v, e1, q.ext E⟩, r.one⟩
theorem OwnC.see {c : Own} (h : OwnC X M H a c) : See X M H (.ref a) c.tree := by
  cases c with
  | lst ts => obtain ⟨vs, e, r⟩ := h; exact ⟨a, vs, rfl, SqL.of e, r⟩
  | dic _ _ _ => exact ⟨a, rfl, h⟩
theorem OwnC.fz {c : Own} (h : OwnC X M H a c) : FzC X M H a c.tree := by
  cases c with
  | lst ts => obtain ⟨vs, e, r⟩ := h; exact ⟨vs, .inl e, r⟩
  | dic _ _ _ => exact h
theorem OwnC.there {c : Own} (h : OwnC X M H a c) : H a ≠ none := by
  cases c with
  | lst ts => obtain ⟨vs, e, r⟩ := h; rw [e]; simp
  | dic _ _ _ => obtain ⟨_, kvs, e, _⟩ := h; rw [e]; simp
theorem RepR.ext {H₀ : Hp} {σ : L2.St} {rv : RV} (r : RepR X H₀ M H σ v rv) (E : Ext M H M' H') : RepR X H₀ M' H' σ v rv := by
  cases rv with
  | val t => exact RepV.mono E.keep r
  | fresh c =>
    obtain ⟨a, e, h0, hm, h⟩ := r
    obtain ⟨e1, e2⟩ := E.frame a hm h.there
    exact ⟨a, e, h0, e2, h.mono E.keep e1⟩
  | «at» p =>
    cases p with
    | slot i => exact r
    | fld o f => obtain ⟨a, e, h⟩ := r; exact ⟨a, e, E.keep a _ h⟩
theorem RepR.earlier {H₀ H1 : Hp} {σ : L2.St} {rv : RV} (r : RepR X H1 M H σ v rv) (E : ∀ a, H1 a = none → H₀ a = none) : RepR X H₀ M H σ v rv := by
  cases rv with
  | val t => exact r
  | fresh c => obtain ⟨a, e, h0, hm, h⟩ := r; exact ⟨a, e, E a h0, hm, h⟩
  | «at» p => cases p <;> exact r
theorem RepR.see {H₀ Hs : Hp} {σ : L2.St} {env : Env} {rv : RV} (R : Rel X M st H) (e : EnvRel X H₀ M H σ env) (r : RepR X Hs M H σ v rv) (h : view env st rv = some t) : See X M H v t := by
  cases rv with
  | val t' => cases h; exact RepV.see R r
  | fresh c => obtain ⟨a, e, h0, hm, q⟩ := r; cases h; subst e; exact q.see
  | «at» p =>
    cases p with
    | slot i =>
      have h : (match env[i]? with
        | some (some (.own c)) => some c.tree
        | _ => none) = some t := h
      split at h
      · rename_i c hc
        cases h
        obtain ⟨v', e1, a, e2, q, _⟩ := e.at' i _ hc
        have r : σ[i]? = some (some v) := r
        rw [r] at e1; cases e1
        subst e2
        exact q.see
      · cases h
    | fld o f =>
      obtain ⟨a, e1, hm⟩ := r
      have h : (match st.fld o f with
        | some (.own c) => some c.tree
        | _ => none) = some t := h
      obtain ⟨c, e2, q⟩ := R.fld a o f hm
      rw [e2] at h
      cases h
      subst e1
      exact q.see
theorem RepR.frz {H₀ : Hp} {σ : L2.St} {rv : RV} (R : Rel X M st H) (r : RepR X H₀ M H σ v rv) (h : NN.frz rv = some t) :
    ∃ M', Rel X M' st H ∧ RepV X M' v t ∧ (∀ M0 H0, Ext M0 H0 M H → (∀ a, H₀ a = none → H0 a = none) → Ext M0 H0 M' H) ∧ (∀ a k, M a = some k → M' a = some k) ∧ ∀ a, H₀ a ≠ none → M' a = M a := by
  cases rv with
  | val t' => cases h; exact ⟨M, R, r, fun _ _ E _ => E, fun _ _ e => e, fun _ _ => rfl⟩
  | fresh c =>
    obtain ⟨a, e, h0, hm, q⟩ := r
    cases h
    refine ⟨updM M a (.fz c.tree), R.freeze hm q.there q.fz, ?_, fun M0 H0 E z => E.fz hm (z a h0), updM_keep hm, fun b n => updM_ne (ne_no n h0)⟩
    subst e
    cases c with
    | lst ts => exact ⟨a, rfl, .inl updM_same⟩
    | dic _ _ _ => exact ⟨a, rfl, updM_same⟩
  | «at» p => cases h
theorem Paired.map2 {α β γ δ : Type} {F : α → β → Prop} {G : γ → δ → Prop} {f : α → γ} {g : β → δ} : ∀ {as : List α} {bs : List β}, Paired F as bs → (∀ a b, F a b → G (f a) (g b)) → Paired G (as.map f) (bs.map g)
  | _, _, .nil, _ => .nil
  | _, _, .cons r t, h => .cons (h _ _ r) (Paired.map2 t h)
theorem Paired.app {α β : Type} {F : α → β → Prop} : ∀ {as cs : List α} {bs ds : List β}, Paired F as bs → Paired F cs ds → Paired F (as ++ cs) (bs ++ ds)
  | _, _, _, _, .nil, s => s
  | _, _, _, _, .cons r t, s => .cons r (Paired.app t s)
theorem Paired.take {α β : Type} {F : α → β → Prop} : ∀ {as : List α} {bs : List β} (n : Nat), Paired F as bs → Paired F (as.take n) (bs.take n)
  | _, _, 0, _ => .nil
  | _, _, _ + 1, .nil => .nil
  | _, _, n + 1, .cons r t => .cons r (Paired.take n t)
theorem Paired.drop {α β : Type} {F : α → β → Prop} : ∀ {as : List α} {bs : List β} (n : Nat), Paired F as bs → Paired F (as.drop n) (bs.drop n)
  | _, _, 0, r => r
  | _, _, _ + 1, .nil => .nil
  | _, _, n + 1, .cons r t => Paired.drop n t
theorem Paired.get {α β : Type} {F : α → β → Prop} : ∀ {as : List α} {bs : List β} {i : Nat} {b : β}, Paired F as bs → bs[i]? = some b → ∃ a, as[i]? = some a ∧ F a b
  | _, _, _, _, .nil, e => by simp at e
  | _, _, 0, b, .cons r t, e => by simp at e; subst e; exact ⟨_, rfl, r⟩
  | _, _, i + 1, b, .cons r t, e => by
    obtain ⟨a, e1, e2⟩ := Paired.get (i := i) t (by simpa using e)
    exact ⟨a, by simpa using e1, e2⟩
theorem Paired.getL {α β : Type} {F : α → β → Prop} : ∀ {as : List α} {bs : List β} {i : Nat} {a : α}, Paired F as bs → as[i]? = some a → ∃ b, bs[i]? = some b ∧ F a b
  | _, _, _, _, .nil, e => by simp at e
  | _, _, 0, b, .cons r t, e => by simp at e; subst e; exact ⟨_, rfl, r⟩
  | _, _, i + 1, b, .cons r t, e => by
    obtain ⟨a, e1, e2⟩ := Paired.getL (i := i) t (by simpa using e)
    exact ⟨a, by simpa using e1, e2⟩
end
end NN

set_option Elab.async false
set_option linter.all false
set_option maxRecDepth 100000
set_option maxHeartbeats 4000000
namespace NN
open PySem PySem.Spec PyProof.Rows L2

theorem kN_is {P : Program} {w : World} {k : Option Key} {u : Value} (r : RelV (kN k) u) : (noneKind P w).is k u = true := by
  cases k with
  | none => cases (show u = Value.none from r); rfl
  | some k => exact kV_is (P := P) (w := w) r
theorem kN_rel {P : Program} {w : World} : ∀ {us : List Value} {ps : List (Option Key × Value)}, us.length = ps.length → (∀ (j : Nat) (v : Value), us[j]? = some v → ∃ k x, ps[j]? = some (k, x) ∧ (noneKind P w).is k v = true) → Vals (ps.map fun p => kN p.1) us
  | [], [], _, _ => .nil
  | u :: us, p :: ps, e, h => by
    obtain ⟨k, x, e1, e2⟩ := h 0 u rfl
    cases (Option.some.inj e1)
    refine .cons ?_ (kN_rel (P := P) (w := w) (us := us) (ps := ps) (by simpa using e) fun j v q => h (j + 1) v q)
    cases k with
    | none => exact nk_none e2
    | some k =>
      rcases keyIs_shape e2 with ⟨i, t, rfl, rfl⟩ | ⟨z, t, rfl, rfl⟩
      · exact ⟨t, rfl⟩
      · exact ⟨t, rfl⟩
section
variable {P : Program} {w : World} {H : Hp} {h h' : Heap} {a : Addr} {kvs : List (Option Key × V)}
theorem ndic_ok (z : kvs.length ≤ sizeLine) (n : (a == sysModules) = false) {us : List (Option Key × Value)} (r : KV kvs us) (d : h.DictOf (noneKind P w) a us) : ObjOk P w H h a (NDic P w a kvs) := by
  obtain ⟨o, es, ep, ho, q⟩ := d
  exact ⟨⟨z, n, us, r, o, es, ep, ho, q⟩, ⟨o, ho⟩, fun h1 h2 ⟨z, n, us, r, d⟩ k => ⟨z, n, us, r, d.at k⟩⟩
theorem ndic_get (ok : HOk P w H h) (e : H a = some (NDic P w a kvs)) : kvs.length ≤ sizeLine ∧ (a == sysModules) = false ∧ ∃ us, KV kvs us ∧ h.DictOf (noneKind P w) a us := (ok a _ e).1
end
section
variable {X : Cx} {o i value e a : Expr} {td ty tv ta : TE} {pos pos' : Pos}
def tNNew (P : Program) (w : World) : TE := fun _ H Q => ∀ p, H p = none → Q (.ref p) (upd H p (NDic P w p []))
theorem pe_nnew : PE X (.Dict [] [] pos) (tNNew X.prog X.w) := ⟨fun pins s σ H Q I h =>
  wpAny_Dict_empty ⟨.ref s.heap.objs.size, _, I.laid (a := s.heap.objs.size) (o := NDic X.prog X.w s.heap.objs.size []) (t' := s.toks) (fun _ _ q => Heap.get?_push_of_some _ q) (Nat.le_refl _)
    (ndic_ok (Nat.zero_le _) (beq_eq_false_iff_ne.mpr (Ne.symm (Nat.ne_of_lt I.big))) .nil (Heap.DictOf.new s.heap)), rfl, h _ (I.hok.fresh (Nat.le_refl _))⟩⟩
def sNPut (P : Program) (w : World) (td ty tv : TE) : TS := fun D σ H => tv σ H fun v H1 => td σ H1 fun x H2 => ty σ H2 fun y H3 => ∃ a kvs k, x = .ref a ∧ y = kN k ∧ H3 a = some (NDic P w a kvs) ∧ kvs.length < sizeLine ∧ D.nx σ (upd H3 a (NDic P w a (putK kvs k v)))
theorem ps_nput (ho : PE X o td) (hi : PE X i ty) (hv : PE X value tv) (hs : swapsWith value (some (.Subscript o i pos')) pos.line X.env = pure false) :
    PS X (.Assign [.Subscript o i pos'] value pos) (sNPut X.prog X.w td ty tv) := by
  refine ⟨fun pins s σ H D I h => ?_⟩
  refine wpAny_Assign_Subscript (thn (hv.run pins s σ H _ I h) fun r s1 ⟨v, H1, I1, rv, q1⟩ => thn (ho.run pins s1 σ H1 _ I1 q1) fun u s2 ⟨x, H2, I2, rx, q2⟩ => thn (hi.run pins s2 σ H2 _ I2 q2) fun iv s3 ⟨y, H3, I3, ry, a, kvs, k, ex, ey, hH, hz, q3⟩ => ?_) hs
  subst ex; subst ey
  cases (show u = Value.ref a from rx)
  obtain ⟨z, n, us, rel, d⟩ := ndic_get I3.hok hH
  refine wpAny_setItem_pairs (hsz := by rw [← rel.length]; exact z) (kN_is ry) d fun h' d' sb => ?_
  have hl := length_putK kvs k v
  refine ⟨σ, upd H3 a (NDic X.prog X.w a (putK kvs k v)), I3.write (x := a) (e := a) (t' := s3.toks + 1) (by rw [hH]; exact True.intro) (.inl rfl) (fun b q hb z => (sb.2 b hb).trans z) ?_ (ndic_ok (by omega) n (rel.put k rv) d'), q3⟩
  obtain ⟨q, _, _, hq, _⟩ := d'
  exact ⟨q, hq⟩
theorem call_listN (hc : X.calm = true) : CallR X (.type "list") (fun xs H Q => ∃ (a : Addr) (kvs : List (Option Key × V)), xs = [.ref a] ∧ H a = some (NDic X.prog X.w a kvs) ∧ ∀ p, H p = none → Q (.ref p) (upd H p (.lst (kvs.map fun q => kN q.1)))) := by
  intro pins s σ H xs us Q I r ⟨a, kvs, ex, hH, q⟩
  subst ex
  obtain ⟨u, eu, rx⟩ := vals1 r
  subst eu
  cases rx
  obtain ⟨z, n, vs, rel, d⟩ := ndic_get I.hok hH
  obtain ⟨ep, at1⟩ := d.dictAt
  have ek : (kvs.map fun q => kN q.1) = vs.map fun p => kN p.1 := by
    have e := congrArg (List.map kN) rel.keys
    rw [List.map_map, List.map_map] at e
    exact e
  refine PySem.W.kdl_call (PySem.W.kdl_dict (knd := noneKind X.prog X.w) (kvs := vs) (ep := ep) n) (I.ok.hd hc) at1 (by rw [← rel.length]; exact z) fun h' tk acc c' hk hD hacc => ?_
  have hv : Vals (vs.map fun p => kN p.1) acc.toList := kN_rel (P := X.prog) (w := X.w) (by rw [Array.length_toList]; exact hacc.1) fun j v e => hacc.2 j v (by rw [← Array.getElem?_toList]; exact e)
  exact ⟨.ref s.heap.objs.size, upd H s.heap.objs.size (.lst (kvs.map fun q => kN q.1)), I.laid (t' := tk) hk (Nat.le_refl _)
    (show ObjOk X.prog X.w _ _ _ (.lst (kvs.map fun q => kN q.1)) from ⟨by rw [List.length_map]; exact z, acc.toList, c', by rw [ek]; exact hv, by rw [Array.toArray_toList]; exact hD⟩), rfl, q _ (I.hok.fresh (Nat.le_refl _))⟩

def tSSet (K : PySem.W.Frag) (ta : TE) : TE := fun σ H Q => ta σ H fun x H1 => ∃ l, ∃ zs : List Str, x = .ref l ∧ SqL K H1 l (zs.map V.str) ∧ zs.length < 64 ∧
  ∀ (ys : List Str) (p : Addr), (∃ xs : List Str, xs.Nodup ∧ (∀ z, z ∈ xs ↔ z ∈ zs) ∧ ys.Perm xs) → sortedS ys = true → H1 p = none → Q (.ref p) (upd H1 p (.lst (ys.map V.str)))
theorem TxtSet.nodup {w : World} {h : Heap} {a : Addr} {xs : List Str} (S : TxtSet w h a xs) : xs.Nodup := let ⟨_, _, _, _, _, _, _, T⟩ := S; T.nod
theorem pe_sset {p p2 q : Pos} (hc : X.calm = true) (hg : Gl X "sorted") (hm : X.mg "sorted" = none) (hg2 : Gl X "set") (hm2 : X.mg "set" = none) (ha : PE X a ta)
    (na : starEach [a] X.env = (false, eval a X.env) :: starEach [] X.env) : PE X (.Call (.Name "sorted" p) [.Call (.Name "set" p2) [a] [] q] [] pos) (tSSet X.K ta) := by
  refine ⟨fun pins s σ H Q I h => ?_⟩
  refine Call_ (ld_blt I hg hm (show bootBuiltins "sorted" = some (.builtin "sorted") by decide +kernel) ?_)
  refine PyProof.Rows.callWith_builtin1 (PyProof.Rows.args_cons ?_ rfl) rfl rfl
  refine Call_ (ld_blt I hg2 hm2 boot_set ?_)
  refine PyProof.Rows.callWith_type1 (PyProof.Rows.args_cons (thn (ha.run pins s σ H _ I h) fun v s1 ⟨x, H1, I1, r1, q1⟩ => PyProof.Rows.args_nil ?_) na) na rfl
  obtain ⟨l, zs, ex, hq, h64, q1⟩ := q1
  subst ex
  cases r1
  obtain ⟨its, r, pl, hz⟩ := I1.list hq
  refine txt_set (zs := zs) (I1.ok.hd hc) pl.isList (by simpa using strsAre_of r) (by unfold scanBound; omega) fun s2 ⟨h', tk, xs, e2, S, hl, hm3, hk⟩ => ?_
  subst e2
  have I2 : Inv X pins σ H1 { s1 with heap := h', toks := tk } := I1.kept fun b o e => hk b o e
  refine PyProof.Rows.args_nil ?_
  refine txt_sorted (s := { s1 with heap := h', toks := tk }) S (I2.ok.hd hc) (by omega) fun s' p out c ys k g o hp hat hi pm so => ?_
  have hlen : (ys.map V.str).length ≤ sizeLine := by rw [List.length_map, pm.length_eq, sizeLine_eq]; omega
  have hn : H1 p = none := I2.hok.fresh hp
  generalize hs2 : ({ s1 with heap := h', toks := tk } : Shared) = s2 at I2 k g o hp
  have e : s' = { s2 with heap := s'.heap, gens := s'.gens, drawn := s'.drawn, toks := s'.toks } := by
    cases s'
    cases s2
    cases o
    rfl
  have J : Inv X pins σ (upd H1 p (.lst (ys.map V.str))) { s2 with heap := s'.heap, gens := s'.gens, drawn := s'.drawn, toks := s'.toks } :=
    I2.call (ch := []) (Un.laid k hp hn) (I2.hok.laid k hp ⟨hlen, out.toList, c, vals_of_strs hi, hat⟩) (by rw [g]; exact I2.bare) (fun _ z => nomatch z)
  rw [e]
  exact ⟨.ref p, _, J, rfl, q1 ys p ⟨xs, S.nodup, hm3, pm⟩ so hn⟩
end
end NN

set_option Elab.async false
set_option linter.all false
set_option maxRecDepth 100000
set_option maxHeartbeats 4000000
namespace NN
open PySem PySem.Spec PyProof.Rows L2

def BO.op : BO → Operator
  | .add => .Add | .sub => .Sub | .mul => .Mult | .fdiv => .FloorDiv | .mod => .Mod | .pow => .Pow | .shl => .LShift | .shr => .RShift | .band => .BitAnd | .bor => .BitOr | .bxor => .BitXor
def CO.op : CO → CmpOp
  | .eq => .Eq | .ne => .NotEq | .lt => .Lt | .le => .LtE | .gt => .Gt | .ge => .GtE | .mem => .In | .nmem => .NotIn | .is => .Is | .isn => .IsNot

def PostV (Y : Gx) (M : Mp) (st : Sto) (H : Hp) (rv : RV) (Q : VK) : Prop :=
  ∀ v M' H', Ext M H M' H' → Rel Y M' st H' → RepR Y H M' H' [] v rv → Q v H'
section
variable {Y : Gx} {M : Mp} {H : Hp} {st : Sto} {Q : VK} {t : T} {v : V}
theorem PostV.val (P : PostV Y M st H (.val t) Q) (R : Rel Y M st H) (r : RepV Y M v t) : Q v H := P v M H (Ext.refl _ _) R r
theorem PostV.newL {ts : List T} {vs : List V} (P : PostV Y M st H (.fresh (.lst ts)) Q) (R : Rel Y M st H) (r : RepVs Y M vs ts) {p : Addr} (hp : H p = none) : Q (.ref p) (upd H p (.lst vs)) := by
  obtain ⟨R1, E1⟩ := R.lay hp (.lst vs)
  exact P _ M _ E1 R1 ⟨p, rfl, hp, R.nom hp, vs, upd_same, r⟩
theorem PostV.newT {ts : List T} {vs : List V} (P : PostV Y M st H (.val (.tup ts)) Q) (R : Rel Y M st H) (r : RepVs Y M vs ts) {p : Addr} (hp : H p = none) : Q (.ref p) (upd H p (.tup vs)) := by
  obtain ⟨R1, E1⟩ := R.new (t := .tup ts) hp (.tup vs) ⟨vs, upd_same, RepVs.mono (fun _ _ e => e) r⟩
  exact P _ _ _ E1 R1 ⟨p, rfl, .inl updM_same⟩
theorem PostV.valT {ts : List T} {a : Addr} {vs : List V} (P : PostV Y M st H (.val (.tup ts)) Q) (R : Rel Y M st H) (r : RepV Y M (.ref a) (.tup ts)) : Q (.ref a) H := P _ M H (Ext.refl _ _) R r
end

section
variable {X : Cx}
def rCatL (K : PySem.W.Frag) : R2 := fun x y H Q => ∃ l b xs zs, x = .ref l ∧ y = .ref b ∧ SqL K H l xs ∧ SqL K H b zs ∧ xs.length + zs.length ≤ sizeLine ∧ ∀ p, H p = none → Q (.ref p) (upd H p (.lst (xs ++ zs)))
theorem op_catL : OpR X (binaryOp .Add) (rCatL X.K) := by
  intro pins s σ H x y v u Q I rx ry h
  obtain ⟨l, b, xs, zs, rfl, rfl, hH, hB, hz, q⟩ := h
  cases rx
  cases ry
  obtain ⟨its, r, ⟨⟨cls, dd, data, sl⟩, n, ho, hc, hdd, hd⟩, _⟩ := I.list hH
  obtain ⟨its2, r2, ⟨⟨cls2, dd2, data2, sl2⟩, n2, ho2, hc2, hdd2, hd2⟩, _⟩ := I.list hB
  simp only at hc hd hc2 hd2
  subst hc hd hc2 hd2
  have hl := r.length
  have hl2 := r2.length
  refine concat_meets ⟨_, ho, rfl⟩ ⟨_, ho2, rfl⟩ noFill_list_add seq_list_add PySem.F.slot_list_add PySem.F.entry_list_add (PySem.F.args_list_add_2 _ _) (list_addW l b its.toArray its2.toArray n n2 dd dd2 sl sl2 (by simp; omega)) ⟨ho, ho2, ?_⟩
  have ea : its.toArray ++ its2.toArray = (its ++ its2).toArray := by simp
  rw [ea]
  exact ⟨.ref _, _, I.lnew (t' := s.toks) (r.append r2) (by rw [List.length_append]; omega), rfl, q _ I.fresh⟩

abbrev rStr2 : R2 := fun x y H Q => ∃ i j, x = .str i ∧ y = .str j ∧ i.length + j.length ≤ sizeLine ∧ Q (.str (i ++ j)) H
def rB (K : PySem.W.Frag) : BO → R2
  | .add => fun x y H Q => ((rI0 (fun i j => .int (i + j)) x y H Q ∨ rStr2 x y H Q) ∨ rCatL K x y H Q) ∨ rCatT K x y H Q
  | .sub => rI0 fun i j => .int (i - j)
  | .mul => rI CMul fun i j => .int (i * j)
  | .fdiv => rI CDiv fun i j => .int (i / j)
  | .mod => rI (fun _ j => 0 < j) fun i j => .int (i % j)
  | .pow => rI CPow fun i j => .int (i ^ j.toNat)
  | .shl => rI CPow fun i j => .int (i * 2 ^ j.toNat)
  | .shr => rI (fun _ j => 0 ≤ j) fun i j => .int (i / 2 ^ j.toNat)
  | .band => rI0 fun i j => .int (Builtin.bitAnd i j)
  | .bor => rI0 fun i j => .int (Builtin.bitOr i j)
  | .bxor => rI0 fun i j => .int (Builtin.bitXor i j)
theorem op_b (o : BO) : OpR X (binaryOp o.op) (rB X.K o) := by
  cases o with
  | add => exact ((op_add.or op_add_str).or op_catL).or op_catT
  | sub => exact op_sub
  | mul => exact op_mul
  | fdiv => exact op_fdiv
  | mod => exact op_mod
  | pow => exact op_pow
  | shl => exact op_shl
  | shr => exact op_shr
  | band => exact op_and
  | bor => exact op_or
  | bxor => exact op_xor
end
theorem op_bY {X : Cx} {K : PySem.W.Frag} (h : X.K = K) (o : BO) : OpR X (binaryOp o.op) (rB K o) := h ▸ op_b o
theorem lim_line {n : Nat} (h : n ≤ LIM) : n ≤ sizeLine := by rw [sizeLine_eq]; exact h
theorem line_lim : (LIM : Nat) = sizeLine := by rw [sizeLine_eq]; rfl
theorem bigOk_iff {i : Int} (h : bigOk i = true) : -(2 ^ 64) < i ∧ i < 2 ^ 64 := by
  unfold bigOk at h
  simpa using h

section
variable {Y : Gx} {M : Mp} {H : Hp} {st : Sto} {Q : VK} {a b : T} {v u : V} {rv : RV}
theorem binop_ok {o : BO} (h : binop o a b = some rv) (R : Rel Y M st H) (ra : See Y M H v a) (rb : See Y M H u b) (P : PostV Y M st H rv Q)
    (keepA : ∀ ts, a = .tup ts → RepV Y M v a) : rB Y.K o v u H Q := by
  unfold binop at h
  split at h
  · cases h; cases ra; cases rb; exact .inl (.inl (.inl ⟨_, _, rfl, rfl, P.val R rfl⟩))
  · split at h
    · rename_i hz
      cases h; cases ra; cases rb; exact .inl (.inl (.inr ⟨_, _, rfl, rfl, lim_line hz, P.val R rfl⟩))
    · cases h
  · rename_i xs ys
    split at h
    · rename_i hz
      cases h
      obtain ⟨l, vs, rfl, h1, r1⟩ := ra
      obtain ⟨l2, us, rfl, h2, r2⟩ := rb
      refine .inl (.inr ⟨l, l2, vs, us, rfl, rfl, h1, h2, ?_, fun p hp => P.newL R (Paired.app r1 r2) hp⟩)
      rw [r1.length, r2.length]; exact lim_line hz
    · cases h
  · rename_i x xs
    split at h
    · rename_i hz
      cases h
      obtain ⟨l, vs, rfl, h1, r1⟩ := ra
      obtain ⟨l2, us, rfl, h2, r2⟩ := rb
      cases r2
      refine .inr ⟨l, l2, vs, [], rfl, rfl, h1, h2, ?_, ?_, fun _ => P.val R (keepA _ rfl), fun z => absurd rfl z⟩
      · rintro rfl; cases r1
      · rw [r1.length]; exact lim_line hz
    · cases h
  · rename_i x xs y ys
    split at h
    · rename_i hz
      cases h
      obtain ⟨l, vs, rfl, h1, r1⟩ := ra
      obtain ⟨l2, us, rfl, h2, r2⟩ := rb
      refine .inr ⟨l, l2, vs, us, rfl, rfl, h1, h2, ?_, ?_, ?_, fun _ p hp => P.newT R (Paired.app r1 r2) hp⟩
      · rintro rfl; cases r1
      · rw [r1.length, r2.length]; exact lim_line hz
      · rintro rfl; cases r2
    · cases h
  · cases h; cases ra; cases rb; exact ⟨_, _, rfl, rfl, P.val R rfl⟩
  · split at h
    · rename_i hz
      cases h; cases ra; cases rb
      refine ⟨_, _, rfl, rfl, ?_, P.val R rfl⟩
      rcases Bool.or_eq_true _ _ ▸ hz with z | z
      · exact .inl (bigOk_iff z)
      · exact .inr (bigOk_iff z)
    · cases h
  · split at h
    · rename_i hz
      cases h; cases ra; cases rb
      refine ⟨_, _, rfl, rfl, ?_, P.val R rfl⟩
      simpa [CDiv] using hz
    · cases h
  · split at h
    · rename_i hz
      cases h; cases ra; cases rb
      exact ⟨_, _, rfl, rfl, hz, P.val R rfl⟩
    · cases h
  · split at h
    · rename_i hz
      cases h; cases ra; cases rb
      refine ⟨_, _, rfl, rfl, ?_, P.val R rfl⟩
      simp only [Bool.and_eq_true, decide_eq_true_eq] at hz
      exact ⟨hz.1.1, hz.1.2, hz.2⟩
    · cases h
  · split at h
    · rename_i hz
      cases h; cases ra; cases rb
      refine ⟨_, _, rfl, rfl, ?_, P.val R rfl⟩
      simp only [Bool.and_eq_true, decide_eq_true_eq] at hz
      exact ⟨hz.1.1, hz.1.2, hz.2⟩
    · cases h
  · split at h
    · rename_i hz
      cases h; cases ra; cases rb
      exact ⟨_, _, rfl, rfl, hz, P.val R rfl⟩
    · cases h
  · cases h; cases ra; cases rb; exact ⟨_, _, rfl, rfl, P.val R rfl⟩
  · cases h; cases ra; cases rb; exact ⟨_, _, rfl, rfl, P.val R rfl⟩
  · cases h; cases ra; cases rb; exact ⟨_, _, rfl, rfl, P.val R rfl⟩
  · cases h
end
end NN

set_option Elab.async false
set_option linter.all false
set_option maxRecDepth 100000
set_option maxHeartbeats 4000000
namespace NN
open PySem PySem.Spec PyProof.Rows L2
section
variable {Y : Gx} {M : Mp} {H : Hp} {st : Sto}
mutual
theorem dp_of (R : Rel Y M st H) : ∀ (t : T) (v : V), t.pdOk = true → See Y M H v t → Dp Y.K H v t.pd
  | .non, v, _, s => by cases (show v = .non from s); exact .non
  | .bl b, v, _, s => by cases (show v = .bl b from s); exact .bl b
  | .int i, v, _, s => by cases (show v = .int i from s); exact .int i
  | .str x, v, _, s => by cases (show v = .str x from s); exact .str x
  | .tup ts, v, h, s => by
    obtain ⟨a, vs, rfl, h1, r⟩ := s
    exact .tup h1 (dps_of R ts vs h r)
  | .lst ts, v, h, s => by
    obtain ⟨a, vs, rfl, h1, r⟩ := s
    exact .lst h1 (dps_of R ts vs h r)
  | .typ _, _, h, _ => by cases h
  | .dic _ _ _, _, h, _ => by cases h
  | .ins _ _ _, _, h, _ => by cases h
  | .obj _, _, h, _ => by cases h
theorem dps_of (R : Rel Y M st H) : ∀ (ts : List T) (vs : List V), T.pdsOk ts = true → RepVs Y M vs ts → DpAll Y.K H vs (T.pds ts)
  | [], vs, _, r => by cases r; exact .nil
  | t :: ts, vs, h, r => by
    cases r with
    | cons r1 r2 =>
      have h : (t.pdOk && T.pdsOk ts) = true := h
      rw [Bool.and_eq_true] at h
      exact .cons (dp_of R t _ h.1 (r1.see R)) (dps_of R ts _ h.2 r2)
end
theorem flat_see {t : T} {v : V} (r : RepV Y M v t) (h : t.flat = true) : flatV v = true ∧ ∀ {y : T} {w : V}, RepV Y M w y → y.flat = true → eqV w v = eqF y t := by
  cases t with
  | non => cases (show v = .non from r); exact ⟨rfl, fun {y w} r2 h2 => by
      cases y with
      | non => cases (show w = .non from r2); rfl
      | bl _ => cases (show w = .bl _ from r2); rfl
      | int _ => cases (show w = .int _ from r2); rfl
      | str _ => cases (show w = .str _ from r2); rfl
      | _ => cases h2⟩
  | bl _ => cases (show v = .bl _ from r); exact ⟨rfl, fun {y w} r2 h2 => by
      cases y with
      | non => cases (show w = .non from r2); rfl
      | bl _ => cases (show w = .bl _ from r2); rfl
      | int _ => cases (show w = .int _ from r2); rfl
      | str _ => cases (show w = .str _ from r2); rfl
      | _ => cases h2⟩
  | int _ => cases (show v = .int _ from r); exact ⟨rfl, fun {y w} r2 h2 => by
      cases y with
      | non => cases (show w = .non from r2); rfl
      | bl _ => cases (show w = .bl _ from r2); rfl
      | int _ => cases (show w = .int _ from r2); rfl
      | str _ => cases (show w = .str _ from r2); rfl
      | _ => cases h2⟩
  | str _ => cases (show v = .str _ from r); exact ⟨rfl, fun {y w} r2 h2 => by
      cases y with
      | non => cases (show w = .non from r2); rfl
      | bl _ => cases (show w = .bl _ from r2); rfl
      | int _ => cases (show w = .int _ from r2); rfl
      | str _ => cases (show w = .str _ from r2); rfl
      | _ => cases h2⟩
  | _ => cases h
theorem see_flat {t : T} {v : V} (s : See Y M H v t) (h : t.flat = true) : RepV Y M v t := by
  cases t with
  | non => exact s
  | bl _ => exact s
  | int _ => exact s
  | str _ => exact s
  | _ => cases h
theorem flats_see {t : T} {v : V} (r : RepV Y M v t) (h : t.flat = true) : ∀ {ys : List T} {us : List V}, RepVs Y M us ys → ys.all T.flat = true → us.all flatV = true ∧ inV v us = ys.any fun y => eqF y t
  | _, _, .nil, _ => ⟨rfl, rfl⟩
  | y :: ys, u :: us, .cons r1 r2, hh => by
    rw [List.all_cons, Bool.and_eq_true] at hh
    obtain ⟨e1, e2⟩ := flats_see r h r2 hh.2
    have f1 := (flat_see r1 hh.1).1
    have f2 := (flat_see r h).2 r1 hh.1
    refine ⟨by rw [List.all_cons, f1, e1]; rfl, ?_⟩
    unfold inV at e2 ⊢
    rw [List.any_cons, List.any_cons, f2, e2]
theorem scal_see {a b : T} {v u : V} (h : NN.scal a b = true) (ra : See Y M H v a) (rb : See Y M H u b) : L2.scal v u = true ∧ decide (v = u) = eqS a b := by
  cases a <;> cases b <;> first
    | (exact absurd (show false = true from h) Bool.false_ne_true)
    | (cases ra; cases rb; refine ⟨rfl, ?_⟩; simp [eqS]; done)
    | (cases ra; cases rb; refine ⟨rfl, ?_⟩; simp [eqS, Bool.beq_eq_decide_eq])
end

section
variable {X : Cx}
def rC (K : PySem.W.Frag) : CO → R2
  | .eq => fun x y H Q => rEq x y H Q ∨ rEqD K x y H Q
  | .ne => fun x y H Q => rNe x y H Q ∨ rNeD K x y H Q
  | .lt => rI0 fun i j => .bl (decide (i < j))
  | .le => rI0 fun i j => .bl (decide (i ≤ j))
  | .gt => rI0 fun i j => .bl (decide (j < i))
  | .ge => rI0 fun i j => .bl (decide (j ≤ i))
  | .mem => fun x y H Q => (∃ (c : Nat) (z : Str), x = .str ⟨#[c]⟩ ∧ y = .str z ∧ Q (.bl (decide (c ∈ z.cps.toList))) H) ∨ rIn K false x y H Q
  | .nmem => fun x y H Q => (∃ (c : Nat) (z : Str), x = .str ⟨#[c]⟩ ∧ y = .str z ∧ Q (.bl (!decide (c ∈ z.cps.toList))) H) ∨ rIn K true x y H Q
  | .is => fun x y H Q => rIsB x y H Q ∨ (y = .non ∧ Q (.bl (decide (x = .non))) H)
  | .isn => fun x y H Q => rNotB x y H Q ∨ (y = .non ∧ Q (.bl (!decide (x = .non))) H)
theorem op_c (hu : X.A.units + 64 < cLine) (o : CO) : OpR X (compareOp o.op) (rC X.K o) := by
  cases o with
  | eq => exact op_eq.or (op_eqD hu)
  | ne => exact op_ne.or (op_neD hu)
  | lt => exact op_lt
  | le => exact op_le
  | gt => exact op_gt
  | ge => exact op_ge
  | mem => exact op_in_sign.or op_in_seq
  | nmem => exact op_notIn_sign.or op_notIn_seq
  | is => exact op_isBl.or op_isN
  | isn => exact op_notBl.or op_notN
theorem op_cY {K : PySem.W.Frag} (h : X.K = K) (hu : X.A.units + 64 < cLine) (o : CO) : OpR X (compareOp o.op) (rC K o) := h ▸ op_c hu o
end
section
variable {Y : Gx} {M : Mp} {H : Hp} {st : Sto} {Q : VK} {a b : T} {v u : V} {c : Bool}
theorem str_sign {x : Str} {c : Nat} (h : x.cps.toList = [c]) : x = ⟨#[c]⟩ := by
  cases x with
  | mk cps =>
    have h : cps.toList = [c] := h
    have : cps = #[c] := by
      apply Array.toList_inj.mp
      rw [h]
    rw [this]
theorem eqT_ok (h : eqT a b = some c) (R : Rel Y M st H) (ra : See Y M H v a) (rb : See Y M H u b) :
    (L2.scal v u = true ∧ decide (v = u) = c) ∨ ∃ d e, Dp Y.K H v d ∧ Dp Y.K H u e ∧ SeqAt.shaped d = true ∧ SeqAt.shaped e = true ∧ PyData.eqv d e = c := by
  unfold eqT at h
  split at h
  · rename_i hs
    obtain ⟨h1, h2⟩ := scal_see hs ra rb
    exact .inl ⟨h1, h2.trans (Option.some.inj h)⟩
  · unfold eqD at h
    split at h
    · rename_i hh
      simp only [Bool.and_eq_true] at hh
      exact .inr ⟨_, _, dp_of R _ _ hh.1.1.1 ra, dp_of R _ _ hh.1.1.2 rb, hh.1.2, hh.2, Option.some.inj h⟩
    · cases h
theorem cmpop_ok {o : CO} (h : cmpop o a b = some c) (R : Rel Y M st H) (ra : See Y M H v a) (rb : See Y M H u b) (P : Q (.bl c) H) : rC Y.K o v u H Q := by
  unfold cmpop at h
  split at h
  · rcases eqT_ok h R ra rb with ⟨h1, h2⟩ | ⟨d, e, h1, h2, h3, h4, h5⟩
    · exact .inl ⟨h1, by rw [h2]; exact P⟩
    · exact .inr ⟨d, e, h1, h2, h3, h4, by rw [h5]; exact P⟩
  · cases q : eqT a b with
    | none => rw [q] at h; cases h
    | some k =>
      rw [q] at h
      have hk : (!k) = c := Option.some.inj h
      rcases eqT_ok q R ra rb with ⟨h1, h2⟩ | ⟨d, e, h1, h2, h3, h4, h5⟩
      · exact .inl ⟨h1, by rw [h2, hk]; exact P⟩
      · exact .inr ⟨d, e, h1, h2, h3, h4, by rw [h5, hk]; exact P⟩
  · cases h; cases ra; cases rb; exact ⟨_, _, rfl, rfl, P⟩
  · cases h; cases ra; cases rb; exact ⟨_, _, rfl, rfl, P⟩
  · cases h; cases ra; cases rb; exact ⟨_, _, rfl, rfl, P⟩
  · cases h; cases ra; cases rb; exact ⟨_, _, rfl, rfl, P⟩
  · split at h
    · rename_i e
      cases h; cases ra; cases rb
      exact .inl ⟨_, _, by rw [str_sign e], rfl, P⟩
    · cases h
  · split at h
    · rename_i e
      cases h; cases ra; cases rb
      exact .inl ⟨_, _, by rw [str_sign e], rfl, P⟩
    · cases h
  · split at h
    · rename_i hh
      simp only [Bool.and_eq_true] at hh
      cases h
      obtain ⟨l, us, rfl, h1, r1⟩ := rb
      have ra' := see_flat ra hh.1
      obtain ⟨e1, e2⟩ := flats_see ra' hh.1 r1 hh.2
      exact .inr ⟨l, us, rfl, .inl h1, (flat_see ra' hh.1).1, e1, by rw [if_neg Bool.false_ne_true, e2]; exact P⟩
    · cases h
  · split at h
    · rename_i hh
      simp only [Bool.and_eq_true] at hh
      cases h
      obtain ⟨l, us, rfl, h1, r1⟩ := rb
      have ra' := see_flat ra hh.1
      obtain ⟨e1, e2⟩ := flats_see ra' hh.1 r1 hh.2
      exact .inr ⟨l, us, rfl, .inr h1, (flat_see ra' hh.1).1, e1, by rw [if_neg Bool.false_ne_true, e2]; exact P⟩
    · cases h
  · split at h
    · rename_i hh
      simp only [Bool.and_eq_true] at hh
      cases h
      obtain ⟨l, us, rfl, h1, r1⟩ := rb
      have ra' := see_flat ra hh.1
      obtain ⟨e1, e2⟩ := flats_see ra' hh.1 r1 hh.2
      exact .inr ⟨l, us, rfl, .inl h1, (flat_see ra' hh.1).1, e1, by rw [if_pos rfl, e2]; exact P⟩
    · cases h
  · split at h
    · rename_i hh
      simp only [Bool.and_eq_true] at hh
      cases h
      obtain ⟨l, us, rfl, h1, r1⟩ := rb
      have ra' := see_flat ra hh.1
      obtain ⟨e1, e2⟩ := flats_see ra' hh.1 r1 hh.2
      exact .inr ⟨l, us, rfl, .inr h1, (flat_see ra' hh.1).1, e1, by rw [if_pos rfl, e2]; exact P⟩
    · cases h
  · cases h; cases ra; cases rb; exact .inl ⟨_, _, rfl, rfl, P⟩
  · cases h; cases ra; cases rb; exact .inl ⟨_, _, rfl, rfl, P⟩
  all_goals first
    | (cases h; cases ra; cases rb; exact .inr ⟨rfl, P⟩)
    | (cases h; cases rb; cases ra; exact .inr ⟨rfl, P⟩)
    | (cases h; cases rb; obtain ⟨a, vs, rfl, _⟩ := ra; exact .inr ⟨rfl, P⟩)
    | (cases h; cases rb; obtain ⟨a, dx, fs, rfl, _⟩ := ra; exact .inr ⟨rfl, P⟩)
    | cases h
end

theorem ixN_eq (n : Nat) (i : Int) : NN.ixN n i = L2.ixN n i := rfl
section
variable {X : Cx}
theorem ix_any : IxR X (fun x y H Q => rIxL X.K x y H Q ∨ (rIxT X.K x y H Q ∨ rIxS x y H Q)) := ix_list.or (ix_tup.or ix_str)
def rIx3 (K : PySem.W.Frag) : R2 := fun x y H Q => rIxL K x y H Q ∨ (rIxT K x y H Q ∨ rIxS x y H Q)
theorem atI_of {α : Type} {xs : List α} {i : Int} {z : α} (h : ((NN.ixN xs.length i).bind fun j => xs[j]?) = some z) : atI xs i = some z := h
theorem sIx_eq (n d : Nat) (o : Option Int) : NN.sIx n d o = HT.sIx n d o := rfl
def rSl2 (K : PySem.W.Frag) : V → Option Int → Option Int → Hp → VK → Prop := fun x lo hi H Q => rSlL K x lo hi H Q ∨ rSlT K x lo hi H Q
theorem sl_any : SlR X (rSl2 X.K) := sl_list.or sl_tup
theorem ix_anyY {K : PySem.W.Frag} (h : X.K = K) : IxR X (rIx3 K) := h ▸ ix_any
theorem sl_anyY {K : PySem.W.Frag} (h : X.K = K) : SlR X (rSl2 K) := h ▸ sl_any
end
section
variable {Y : Gx} {M : Mp} {H : Hp} {st : Sto} {Q : VK} {a b t : T} {v u : V} {rv : RV}
theorem index_ok (h : index a b = some t) (R : Rel Y M st H) (ra : See Y M H v a) (rb : See Y M H u b) (P : ∀ w, RepV Y M w t → Q w H) : rIx3 Y.K v u H Q := by
  unfold index at h
  split at h
  · rename_i xs i
    obtain ⟨l, vs, rfl, h1, r1⟩ := ra
    cases rb
    cases e : NN.ixN xs.length i with
    | none => rw [e] at h; cases h
    | some j =>
      rw [e] at h
      obtain ⟨w, e1, rw1⟩ := Paired.get r1 (show xs[j]? = some t from h)
      refine .inl ⟨l, vs, i, w, rfl, rfl, h1, ?_, P w rw1⟩
      unfold atI
      rw [r1.length, ← ixN_eq, e]
      exact e1
  · rename_i xs i
    obtain ⟨l, vs, rfl, h1, r1⟩ := ra
    cases rb
    cases e : NN.ixN xs.length i with
    | none => rw [e] at h; cases h
    | some j =>
      rw [e] at h
      obtain ⟨w, e1, rw1⟩ := Paired.get r1 (show xs[j]? = some t from h)
      refine .inr (.inl ⟨l, vs, i, w, rfl, rfl, h1, ?_, P w rw1⟩)
      unfold atI
      rw [r1.length, ← ixN_eq, e]
      exact e1
  · rename_i x i
    cases ra; cases rb
    split at h
    · rename_i hz
      cases e : NN.ixN x.length i with
      | none => rw [e] at h; cases h
      | some j =>
        rw [e] at h
        cases e2 : x.cps.toList[j]? with
        | none => simp only [Option.bind_some, e2] at h; cases h
        | some c =>
          simp only [Option.bind_some, e2, Option.map_some] at h
          cases h
          refine .inr (.inr ⟨x, i, c, rfl, rfl, lim_line hz, ?_, P _ rfl⟩)
          unfold atI
          have hl : x.cps.toList.length = x.length := by simp [Str.length]
          rw [hl, ← ixN_eq, e]
          exact e2
    · cases h
  · cases h
theorem cut_paired {vs : List V} {ts : List T} (r : RepVs Y M vs ts) (lo hi : Option Int) : RepVs Y M (cutV vs lo hi) (NN.cut ts lo hi) := by
  unfold cutV NN.cut
  rw [r.length, sIx_eq, sIx_eq]
  exact NN.Paired.take _ (NN.Paired.drop _ r)
theorem slice_ok {lo hi : Option Int} (h : slice a lo hi = some rv) (R : Rel Y M st H) (ra : See Y M H v a) (P : PostV Y M st H rv Q) : rSl2 Y.K v lo hi H Q := by
  unfold slice at h
  split at h
  · cases h
    obtain ⟨l, vs, rfl, h1, r1⟩ := ra
    exact .inl ⟨l, vs, rfl, h1, fun p hp => P.newL R (cut_paired r1 _ _) hp⟩
  · split at h
    · cases h
    · rename_i hn
      cases h
      obtain ⟨l, vs, rfl, h1, r1⟩ := ra
      refine .inr ⟨l, vs, rfl, h1, ?_, fun p hp => P.newT R (cut_paired r1 _ _) hp⟩
      rw [r1.length]
      exact hn
  · cases h
end
end NN

set_option Elab.async false
set_option linter.all false
set_option maxRecDepth 100000
set_option maxHeartbeats 4000000
namespace NN
open PySem PySem.Spec PyProof.Rows L2

def PostX (Y : Gx) (E : XK) (M : Mp) (H : Hp) (x : Ex) (st : Sto) : Prop :=
  ∀ d M' H', Ext M H M' H' → Rel Y M' st H' → (match x.fld with
    | none => d = none
    | some (f, t) => ∃ p v, d = some p ∧ H p = none ∧ M' p = none ∧ H' p = some (.xd [(f, v)]) ∧ RepV Y M' v t) → E (.ref (Y.cad x.cls)) d H'
def PostO {α : Type} (Y : Gx) (E : XK) (M : Mp) (H : Hp) (o : Oc α) (k : α → Sto → Prop) : Prop :=
  match o with
  | .ok a st => k a st
  | .exc x st => PostX Y E M H x st
  | .bad => False
section
variable {Y : Gx} {E : XK} {M M1 : Mp} {H H1 : Hp} {α β : Type}
theorem PostX.later {x : Ex} {st : Sto} (P : PostX Y E M H x st) (e : Ext M H M1 H1) : PostX Y E M1 H1 x st := fun d M' H' e1 R h => by
  refine P d M' H' (e.trans e1) R ?_
  cases q : x.fld with
  | none => rw [q] at h; exact h
  | some p =>
    obtain ⟨f, t⟩ := p
    rw [q] at h
    obtain ⟨p, v, h1, h2, h3⟩ := h
    exact ⟨p, v, h1, e.free h2, h3⟩
theorem PostO.bind {o : Oc α} {f : α → Sto → Oc β} {k : β → Sto → Prop} : PostO Y E M H (o.bind f) k ↔ PostO Y E M H o fun a st => PostO Y E M H (f a st) k := by
  cases o <;> exact Iff.rfl
theorem PostO.imp {o : Oc α} {k k' : α → Sto → Prop} (P : PostO Y E M H o k) (e : Ext M H M1 H1) (h : ∀ a st, k a st → k' a st) : PostO Y E M1 H1 o k' := by
  cases o with
  | ok a st => exact h a st P
  | exc x st => exact PostX.later P e
  | bad => exact P
theorem PostO.of {o : Option α} {st : Sto} {k : α → Sto → Prop} (P : PostO Y E M H (Oc.of o st) k) : ∃ a, o = some a ∧ k a st := by
  cases o with
  | none => exact False.elim P
  | some a => exact ⟨a, rfl, P⟩
end
abbrev KE (Y : Gx) (M : Mp) (H : Hp) (σ : L2.St) (Q : VK) : RV → Sto → Prop := fun rv st => ∀ v M' H', Ext M H M' H' → Rel Y M' st H' → RepR Y H M' H' σ v rv → Q v H'
abbrev KT (Y : Gx) (M : Mp) (H : Hp) (Q : VK) : T → Sto → Prop := fun t st => ∀ v M' H', Ext M H M' H' → Rel Y M' st H' → RepV Y M' v t → Q v H'
abbrev KTs (Y : Gx) (M : Mp) (H : Hp) (Q : List V → Hp → Prop) : List T → Sto → Prop := fun t st => ∀ v M' H', Ext M H M' H' → Rel Y M' st H' → RepVs Y M' v t → Q v H'
abbrev KB (Y : Gx) (M : Mp) (H : Hp) (Q : Bool → Hp → Prop) : Bool → Sto → Prop := fun b st => ∀ M' H', Ext M H M' H' → Rel Y M' st H' → Q b H'
def NE (C : Cx → Prop) (Y : Gx) (E : XK) (e : Expr) (f : Env → Sto → Oc RV) : Prop :=
  ∃ t : TE, (∀ X, C X → PE X e t) ∧ ∀ (M : Mp) (st : Sto) (H H₀ : Hp) (σ : L2.St) (env : Env) (Q : VK), Rel Y M st H → EnvRel Y H₀ M H σ env → PostO Y E M H (f env st) (KE Y M H σ Q) → t σ H Q
def NT (C : Cx → Prop) (Y : Gx) (E : XK) (e : Expr) (f : Env → Sto → Oc T) : Prop :=
  ∃ t : TE, (∀ X, C X → PE X e t) ∧ ∀ (M : Mp) (st : Sto) (H H₀ : Hp) (σ : L2.St) (env : Env) (Q : VK), Rel Y M st H → EnvRel Y H₀ M H σ env → PostO Y E M H (f env st) (KT Y M H Q) → t σ H Q
def NB (C : Cx → Prop) (Y : Gx) (E : XK) (e : Expr) (f : Env → Sto → Oc Bool) : Prop :=
  ∃ t : TT, (∀ X, C X → PT X e t) ∧ ∀ (M : Mp) (st : Sto) (H H₀ : Hp) (σ : L2.St) (env : Env) (Q : Bool → Hp → Prop), Rel Y M st H → EnvRel Y H₀ M H σ env → PostO Y E M H (f env st) (KB Y M H Q) → t σ H Q
def NW (C : Cx → Prop) (Y : Gx) (E : XK) (e : Expr) (f : Env → Sto → Oc Bool) : Prop :=
  ∃ t : TT, (∀ X, C X → PW X e t) ∧ ∀ (M : Mp) (st : Sto) (H H₀ : Hp) (σ : L2.St) (env : Env) (Q : Bool → Hp → Prop), Rel Y M st H → EnvRel Y H₀ M H σ env → PostO Y E M H (f env st) (KB Y M H Q) → t σ H Q
def NA (C : Cx → Prop) (Y : Gx) (E : XK) (es : List Expr) (f : Env → Sto → Oc (List T)) : Prop :=
  ∃ t : TA, (∀ X, C X → PA X es t) ∧ ∀ (M : Mp) (st : Sto) (H H₀ : Hp) (σ : L2.St) (env : Env) (Q : List V → Hp → Prop), Rel Y M st H → EnvRel Y H₀ M H σ env → PostO Y E M H (f env st) (KTs Y M H Q) → t σ H Q

section
variable {C : Cx → Prop} {Y : Gx} {E : XK} {e a b c : Expr} {fa fb fc : Env → Sto → Oc RV} {pos : Pos} {M M' : Mp} {H H₀ H' : Hp} {σ : L2.St} {v : V}
theorem RepR.noslot {Hs : Hp} {rv : RV} (r : RepR Y Hs M H [] v rv) : RepR Y Hs M H σ v rv := by
  cases rv with
  | «at» p =>
    cases p with
    | slot i => exact absurd (show ([] : L2.St)[i]? = some (some v) from r) (by simp)
    | fld o f => exact r
  | val _ => exact r
  | fresh _ => exact r
theorem NE.nt (h : NE C Y E e fa) : NT C Y E e (fun env st => tr (fa env st)) := by
  obtain ⟨t, p, h⟩ := h
  refine ⟨t, p, fun M st H H₀ σ env Q R r P => h M st H H₀ σ env Q R r ?_⟩
  have P := PostO.bind.mp P
  refine P.imp (Ext.refl _ _) fun rv st1 P v M' H' e R' rr => ?_
  obtain ⟨t, e2, P⟩ := PostO.of P
  obtain ⟨M2, R2, r2, e3, _⟩ := RepR.frz R' rr e2
  exact P v M2 H' (e3 M H e (fun _ z => z)) R2 r2
theorem NT.ne {f : Env → Sto → Oc T} (h : NT C Y E e f) : NE C Y E e (fun env st => (f env st).bind fun t st => .ok (.val t) st) := by
  obtain ⟨t, p, h⟩ := h
  refine ⟨t, p, fun M st H H₀ σ env Q R r P => h M st H H₀ σ env Q R r ?_⟩
  exact (PostO.bind.mp P).imp (Ext.refl _ _) fun t st1 P v M' H' e R' rr => P v M' H' e R' rr

theorem ne_var {i : Nat} {x : Str} {pos : Pos} (p : ∀ X, C X → PE X (.Name x pos) (tVar i)) : NE C Y E (.Name x pos) (ev (.var i)) := by
  refine ⟨tVar i, p, fun M st H H₀ σ env Q R r P => ?_⟩
  unfold ev at P
  split at P
  · rename_i t ht
    obtain ⟨v, e1, s1⟩ := r.at' i _ ht
    exact ⟨v, e1, P v M H (Ext.refl _ _) R s1⟩
  · rename_i c hc
    obtain ⟨v, e1, s1⟩ := r.at' i _ hc
    exact ⟨v, e1, P v M H (Ext.refl _ _) R e1⟩
  · exact False.elim P
theorem ne_con {t : T} {v : V} (p : ∀ X, C X → PE X e (tC v)) (r : ∀ M, RepV Y M v t) : NE C Y E e (fun _ st => .ok (.val t) st) :=
  ⟨tC v, p, fun M st H H₀ σ env Q R _ P => P v M H (Ext.refl _ _) R (r M)⟩

theorem ne_two {r : R2} {g : T → T → Option RV} {k : Env → Sto → RV → RV → Oc RV} (p : ∀ X, C X → ∀ {ta tb}, PE X a ta → PE X b tb → PE X e (tOp r ta tb)) (A : NE C Y E a fa) (B : NE C Y E b fb)
    (hg : ∀ {M st H x y v u rv Q}, Rel Y M st H → See Y M H v x → See Y M H u y → (∀ ts, x = .tup ts → RepV Y M v x) → g x y = some rv → PostV Y M st H rv Q → r v u H Q) :
    NE C Y E e (fun env st => (fa env st).bind fun ra st1 => (fb env st1).bind fun rb st2 => .of ((view env st2 ra).bind fun x => (view env st2 rb).bind fun y => g x y) st2) := by
  obtain ⟨ta, pa, ha⟩ := A
  obtain ⟨tb, pb, hb⟩ := B
  refine ⟨_, fun X hX => p X hX (pa X hX) (pb X hX), fun M st H H₀ σ env Q R r0 P => ha M st H H₀ σ env _ R r0 ?_⟩
  refine (PostO.bind.mp P).imp (Ext.refl _ _) fun ra st1 P v M1 H1 e1 R1 rr1 => ?_
  refine hb M1 st1 H1 H₀ σ env _ R1 (r0.ext e1) ?_
  refine (PostO.bind.mp P).imp e1 fun rb st2 P u M2 H2 e2 R2 rr2 => ?_
  obtain ⟨rv, hrv, P⟩ := PostO.of P
  have env2 := (r0.ext e1).ext e2
  have rr1' := rr1.ext e2
  cases hx : view env st2 ra with
  | none => rw [hx] at hrv; cases hrv
  | some x =>
    cases hy : view env st2 rb with
    | none => rw [hx, hy] at hrv; cases hrv
    | some y =>
      rw [hx, hy] at hrv
      refine hg R2 (RepR.see R2 env2 rr1' hx) (RepR.see R2 env2 rr2 hy) (fun ts ex => ?_) hrv fun w M3 H3 e3 R3 rr3 => ?_
      · subst ex
        cases ra with
        | val t => cases hx; exact rr1'
        | fresh c => cases c <;> cases hx
        | «at» p =>
          cases p with
          | slot i =>
            have hx : (match env[i]? with
              | some (some (.own c)) => some c.tree
              | _ => none) = some (T.tup ts) := hx
            split at hx
            · rename_i c _; cases c <;> cases hx
            · cases hx
          | fld o f =>
            have hx : (match st2.fld o f with
              | some (.own c) => some c.tree
              | _ => none) = some (T.tup ts) := hx
            split at hx
            · rename_i c _; cases c <;> cases hx
            · cases hx
      · exact P w M3 H3 ((e1.trans e2).trans e3) R3 (rr3.noslot.earlier fun z hz => (e1.trans e2).free hz)
theorem ne_bin {o : BO} {na nb : N} (hK : ∀ X, C X → X.K = Y.K) (A : NE C Y E a (ev na)) (B : NE C Y E b (ev nb)) : NE C Y E (.BinOp a o.op b pos) (ev (.bin o na nb)) := by
  refine ne_two (r := rB Y.K o) (g := binop o) (k := fun _ _ _ _ => .bad) (fun X hX _ _ pa pb => pe_op (op_bY (hK X hX) o) pa pb) A B fun R ra rb kA hg P => ?_
  exact binop_ok hg R ra rb P kA
theorem ne_cmp {o : CO} {na nb : N} (hK : ∀ X, C X → X.K = Y.K) (hu : ∀ X, C X → X.A.units + 64 < cLine) (hm : behindInMarks o.op b = false) (A : NE C Y E a (ev na)) (B : NE C Y E b (ev nb)) : NE C Y E (.Compare a [o.op] [b] pos) (ev (.cmp o na nb)) := by
  have h := ne_two (C := C) (Y := Y) (E := E) (e := .Compare a [o.op] [b] pos) (r := rC Y.K o) (g := fun x y => (cmpop o x y).map fun c => .val (.bl c)) (k := fun _ _ _ _ => .bad) (fun X hX _ _ pa pb => pe_cmpR (op_cY (hK X hX) (hu X hX) o) pa pb hm) A B fun {M st H x y v u rv Q} R ra rb kA hg P => by
    cases q : cmpop o x y with
    | none => rw [q] at hg; cases hg
    | some c =>
      rw [q] at hg
      cases hg
      exact cmpop_ok q R ra rb (P.val R rfl)
  obtain ⟨t, p, h⟩ := h
  refine ⟨t, p, fun M st H H₀ σ env Q R r P => h M st H H₀ σ env Q R r ?_⟩
  unfold ev at P
  refine PostO.bind.mpr ((PostO.bind.mp P).imp (Ext.refl _ _) fun ra st1 P => PostO.bind.mpr ((PostO.bind.mp P).imp (Ext.refl _ _) fun rb st2 P => ?_))
  obtain ⟨rv, e, P⟩ := PostO.of P
  cases hx : view env st2 ra with
  | none => rw [hx] at e; cases e
  | some x =>
    cases hy : view env st2 rb with
    | none => rw [hx, hy] at e; cases e
    | some y =>
      rw [hx, hy] at e
      show PostO Y E M H (Oc.of ((some x).bind fun x => (some y).bind fun y => (cmpop o x y).map fun c => RV.val (.bl c)) st2) _
      rw [show ((some x).bind fun x => (some y).bind fun y => (cmpop o x y).map fun c => RV.val (.bl c)) = some rv from e]
      exact P
theorem ne_ix {na nb : N} (hK : ∀ X, C X → X.K = Y.K) (hs : PlainIx b) (A : NE C Y E a (ev na)) (B : NE C Y E b (ev nb)) : NE C Y E (.Subscript a b pos) (ev (.ix na nb)) := by
  have h := ne_two (C := C) (Y := Y) (E := E) (e := .Subscript a b pos) (r := rIx3 Y.K) (g := fun x y => (index x y).map .val) (k := fun _ _ _ _ => .bad) (fun X hX _ _ pa pb => pe_ix (ix_anyY (hK X hX)) pa pb hs) A B fun {M st H x y v u rv Q} R ra rb kA hg P => by
    cases q : index x y with
    | none => rw [q] at hg; cases hg
    | some c =>
      rw [q] at hg
      cases hg
      exact index_ok q R ra rb fun w rw' => P.val R rw'
  obtain ⟨t, p, h⟩ := h
  refine ⟨t, p, fun M st H H₀ σ env Q R r P => h M st H H₀ σ env Q R r ?_⟩
  unfold ev at P
  refine PostO.bind.mpr ((PostO.bind.mp P).imp (Ext.refl _ _) fun ra st1 P => PostO.bind.mpr ((PostO.bind.mp P).imp (Ext.refl _ _) fun rb st2 P => ?_))
  obtain ⟨rv, e, P⟩ := PostO.of P
  cases hx : view env st2 ra with
  | none => rw [hx] at e; cases e
  | some x =>
    cases hy : view env st2 rb with
    | none => rw [hx, hy] at e; cases e
    | some y =>
      rw [hx, hy] at e
      show PostO Y E M H (Oc.of ((some x).bind fun x => (some y).bind fun y => (index x y).map RV.val) st2) _
      rw [show ((some x).bind fun x => (some y).bind fun y => (index x y).map RV.val) = some rv from e]
      exact P

theorem NE.nb (h : NE C Y E e fa) (he : ∀ (env : PySem.Env) whole, isTrue e env whole = (do let v ← whole; standAt e.pos; holding [v] (truthy v))) : NB C Y E e (fun env st => truthB (fa env st)) := by
  obtain ⟨t, p, h⟩ := h
  refine ⟨_, fun X hX => pt_val (p X hX) (he X.env), fun M st H H₀ σ env Q R r P => h M st H H₀ σ env _ R r ?_⟩
  refine (PostO.bind.mp P).imp (Ext.refl _ _) fun rv st1 P v M1 H1 e1 R1 rr => ?_
  split at P
  · rename_i b
    exact ⟨b, rr, P M1 H1 e1 R1⟩
  · exact False.elim P
theorem nb_cmp {o : CO} {na nb : N} (hK : ∀ X, C X → X.K = Y.K) (hu : ∀ X, C X → X.A.units + 64 < cLine) (hm : behindInMarks o.op b = false) (A : NE C Y E a (ev na)) (B : NE C Y E b (ev nb)) : NB C Y E (.Compare a [o.op] [b] pos) (fun env st => truthB (ev (.cmp o na nb) env st)) := by
  obtain ⟨ta, pa, ha⟩ := A
  obtain ⟨tb, pb, hb⟩ := B
  refine ⟨_, fun X hX => pt_cmpR (op_cY (hK X hX) (hu X hX) o) (pa X hX) (pb X hX) hm, fun M st H H₀ σ env Q R r0 P => ha M st H H₀ σ env _ R r0 ?_⟩
  have P := PostO.bind.mp P
  unfold ev at P
  refine (PostO.bind.mp P).imp (Ext.refl _ _) fun ra st1 P v M1 H1 e1 R1 rr1 => ?_
  refine hb M1 st1 H1 H₀ σ env _ R1 (r0.ext e1) ?_
  refine (PostO.bind.mp P).imp e1 fun rb st2 P u M2 H2 e2 R2 rr2 => ?_
  obtain ⟨rv, hrv, P⟩ := PostO.of P
  have env2 := (r0.ext e1).ext e2
  have rr1' := rr1.ext e2
  cases hx : view env st2 ra with
  | none => rw [hx] at hrv; cases hrv
  | some x =>
    cases hy : view env st2 rb with
    | none => rw [hx, hy] at hrv; cases hrv
    | some y =>
      rw [hx, hy] at hrv
      have hrv : (cmpop o x y).map (fun c => RV.val (.bl c)) = some rv := hrv
      cases q : cmpop o x y with
      | none => rw [q] at hrv; cases hrv
      | some c =>
        rw [q] at hrv
        cases hrv
        exact cmpop_ok q R2 (RepR.see R2 env2 rr1' hx) (RepR.see R2 env2 rr2 hy) ⟨c, rfl, P M2 H2 (e1.trans e2) R2⟩
theorem nb_not {fa : Env → Sto → Oc Bool} (A : NB C Y E a fa) : NB C Y E (.UnaryOp .Not a pos) (fun env st => (fa env st).bind fun c st1 => .ok (!c) st1) := by
  obtain ⟨ta, pa, ha⟩ := A
  refine ⟨_, fun X hX => pt_not (pa X hX), fun M st H H₀ σ env Q R r0 P => ha M st H H₀ σ env _ R r0 ?_⟩
  exact (PostO.bind.mp P).imp (Ext.refl _ _) fun c st1 P M1 H1 e1 R1 => P M1 H1 e1 R1
theorem nw_one {op : BoolOp} {fa : Env → Sto → Oc Bool} (A : NB C Y E a fa) : NW C Y E (.BoolOp op [a] pos) fa := by
  obtain ⟨ta, pa, ha⟩ := A
  cases op with
  | And => exact ⟨_, fun X hX => pw_and1 (pa X hX), ha⟩
  | Or => exact ⟨_, fun X hX => pw_or1 (pa X hX), ha⟩
theorem nw_and {rest : List Expr} {fa fb : Env → Sto → Oc Bool} (A : NB C Y E a fa) (B : NW C Y E (.BoolOp .And (b :: rest) pos) fb) :
    NW C Y E (.BoolOp .And (a :: b :: rest) pos) (fun env st => (fa env st).bind fun c st1 => if c then fb env st1 else .ok false st1) := by
  obtain ⟨ta, pa, ha⟩ := A
  obtain ⟨tb, pb, hb⟩ := B
  refine ⟨_, fun X hX => pw_and (pa X hX) (pb X hX), fun M st H H₀ σ env Q R r0 P => ha M st H H₀ σ env _ R r0 ?_⟩
  refine (PostO.bind.mp P).imp (Ext.refl _ _) fun c st1 P M1 H1 e1 R1 => ?_
  cases c with
  | true => exact iteT (hb M1 st1 H1 H₀ σ env _ R1 (r0.ext e1) (P.imp e1 fun b st2 P M2 H2 e2 R2 => P M2 H2 (e1.trans e2) R2))
  | false => exact iteF (P M1 H1 e1 R1)
theorem nw_or {rest : List Expr} {fa fb : Env → Sto → Oc Bool} (A : NB C Y E a fa) (B : NW C Y E (.BoolOp .Or (b :: rest) pos) fb) :
    NW C Y E (.BoolOp .Or (a :: b :: rest) pos) (fun env st => (fa env st).bind fun c st1 => if c then .ok true st1 else fb env st1) := by
  obtain ⟨ta, pa, ha⟩ := A
  obtain ⟨tb, pb, hb⟩ := B
  refine ⟨_, fun X hX => pw_or (pa X hX) (pb X hX), fun M st H H₀ σ env Q R r0 P => ha M st H H₀ σ env _ R r0 ?_⟩
  refine (PostO.bind.mp P).imp (Ext.refl _ _) fun c st1 P M1 H1 e1 R1 => ?_
  cases c with
  | false => exact iteF (hb M1 st1 H1 H₀ σ env _ R1 (r0.ext e1) (P.imp e1 fun b st2 P M2 H2 e2 R2 => P M2 H2 (e1.trans e2) R2))
  | true => exact iteT (P M1 H1 e1 R1)
theorem NW.nb {f : Env → Sto → Oc Bool} (A : NW C Y E e f) : NB C Y E e f := let ⟨t, p, h⟩ := A; ⟨t, fun X hX => (p X hX).pt, h⟩
theorem ne_one {op : BoolOp} (A : NE C Y E a fa) : NE C Y E (.BoolOp op [a] pos) fa := let ⟨t, p, h⟩ := A; ⟨t, fun X hX => pe_one (p X hX), h⟩
theorem ne_and {rest : List Expr} (A : NE C Y E a fa) (B : NE C Y E (.BoolOp .And (b :: rest) pos) fb) :
    NE C Y E (.BoolOp .And (a :: b :: rest) pos) (fun env st => (truthB (fa env st)).bind fun c st1 => if c then fb env st1 else .ok (.val (.bl false)) st1) := by
  obtain ⟨ta, pa, ha⟩ := A
  obtain ⟨tb, pb, hb⟩ := B
  refine ⟨_, fun X hX => pe_and (pa X hX) (pb X hX), fun M st H H₀ σ env Q R r0 P => ha M st H H₀ σ env _ R r0 ?_⟩
  refine (PostO.bind.mp (PostO.bind.mp P)).imp (Ext.refl _ _) fun ra st1 P v M1 H1 e1 R1 rr => ?_
  split at P
  · rename_i c
    refine ⟨c, rr, ?_⟩
    cases c with
    | true => exact iteT (hb M1 st1 H1 H₀ σ env _ R1 (r0.ext e1) (PostO.imp (show PostO Y E M H (fb env st1) _ from P) e1 fun b st2 P w M2 H2 e2 R2 r2 => P w M2 H2 (e1.trans e2) R2 (r2.earlier fun z hz => e1.free hz)))
    | false => exact iteF ((show KE Y M H σ Q (.val (.bl false)) st1 from P) _ M1 H1 e1 R1 rfl)
  · exact False.elim P
theorem ne_or {rest : List Expr} (A : NE C Y E a fa) (B : NE C Y E (.BoolOp .Or (b :: rest) pos) fb) :
    NE C Y E (.BoolOp .Or (a :: b :: rest) pos) (fun env st => (truthB (fa env st)).bind fun c st1 => if c then .ok (.val (.bl true)) st1 else fb env st1) := by
  obtain ⟨ta, pa, ha⟩ := A
  obtain ⟨tb, pb, hb⟩ := B
  refine ⟨_, fun X hX => pe_or (pa X hX) (pb X hX), fun M st H H₀ σ env Q R r0 P => ha M st H H₀ σ env _ R r0 ?_⟩
  refine (PostO.bind.mp (PostO.bind.mp P)).imp (Ext.refl _ _) fun ra st1 P v M1 H1 e1 R1 rr => ?_
  split at P
  · rename_i c
    refine ⟨c, rr, ?_⟩
    cases c with
    | false => exact iteF (hb M1 st1 H1 H₀ σ env _ R1 (r0.ext e1) (PostO.imp (show PostO Y E M H (fb env st1) _ from P) e1 fun b st2 P w M2 H2 e2 R2 r2 => P w M2 H2 (e1.trans e2) R2 (r2.earlier fun z hz => e1.free hz)))
    | true => exact iteT ((show KE Y M H σ Q (.val (.bl true)) st1 from P) _ M1 H1 e1 R1 rfl)
  · exact False.elim P
theorem ne_not (A : NE C Y E a fa) : NE C Y E (.UnaryOp .Not a pos) (fun env st => (truthB (fa env st)).bind fun c st1 => .ok (.val (.bl (!c))) st1) := by
  obtain ⟨ta, pa, ha⟩ := A
  refine ⟨_, fun X hX => pe_not (pa X hX), fun M st H H₀ σ env Q R r0 P => ha M st H H₀ σ env _ R r0 ?_⟩
  refine (PostO.bind.mp (PostO.bind.mp P)).imp (Ext.refl _ _) fun ra st1 P v M1 H1 e1 R1 rr => ?_
  split at P
  · rename_i c
    exact ⟨c, rr, (show KE Y M H σ Q (.val (.bl (!c))) st1 from P) _ M1 H1 e1 R1 rfl⟩
  · exact False.elim P
theorem ne_ite {ft : Env → Sto → Oc Bool} (D : NB C Y E c ft) (A : NE C Y E a fa) (B : NE C Y E b fb) : NE C Y E (.IfExp c a b pos) (fun env st => (ft env st).bind fun d st1 => if d then fa env st1 else fb env st1) := by
  obtain ⟨tc, pc, hc⟩ := D
  obtain ⟨ta, pa, ha⟩ := A
  obtain ⟨tb, pb, hb⟩ := B
  refine ⟨_, fun X hX => pe_ifExp (pc X hX) (pa X hX) (pb X hX), fun M st H H₀ σ env Q R r0 P => hc M st H H₀ σ env _ R r0 ?_⟩
  refine (PostO.bind.mp P).imp (Ext.refl _ _) fun d st1 P M1 H1 e1 R1 => ?_
  cases d with
  | true => exact iteT (ha M1 st1 H1 H₀ σ env _ R1 (r0.ext e1) (PostO.imp (show PostO Y E M H (fa env st1) _ from P) e1 fun b st2 P w M2 H2 e2 R2 r2 => P w M2 H2 (e1.trans e2) R2 (r2.earlier fun z hz => e1.free hz)))
  | false => exact iteF (hb M1 st1 H1 H₀ σ env _ R1 (r0.ext e1) (PostO.imp (show PostO Y E M H (fb env st1) _ from P) e1 fun b st2 P w M2 H2 e2 R2 r2 => P w M2 H2 (e1.trans e2) R2 (r2.earlier fun z hz => e1.free hz)))

theorem na_nil : NA C Y E [] (evs .nil) := ⟨_, fun X hX => pa_nil, fun M st H H₀ σ env Q R r0 P => P [] M H (Ext.refl _ _) R .nil⟩
theorem na_cons {es : List Expr} {fr : Env → Sto → Oc (List T)} (hs : ∀ env : PySem.Env, starEach (e :: es) env = (false, eval e env) :: starEach es env) (A : NE C Y E e fa) (B : NA C Y E es fr) :
    NA C Y E (e :: es) (fun env st => (tr (fa env st)).bind fun t st1 => (fr env st1).bind fun ts st2 => .ok (t :: ts) st2) := by
  obtain ⟨ta, pa, ha⟩ := A.nt
  obtain ⟨tb, pb, hb⟩ := B
  refine ⟨_, fun X hX => pa_cons (pa X hX) (pb X hX) (hs X.env), fun M st H H₀ σ env Q R r0 P => ha M st H H₀ σ env _ R r0 ?_⟩
  refine (PostO.bind.mp P).imp (Ext.refl _ _) fun t st1 P v M1 H1 e1 R1 r1 => ?_
  refine hb M1 st1 H1 H₀ σ env _ R1 (r0.ext e1) ?_
  refine (PostO.bind.mp P).imp e1 fun ts st2 P vs M2 H2 e2 R2 r2 => ?_
  exact P (v :: vs) M2 H2 (e1.trans e2) R2 (.cons (r1.mono e2.keep) r2)
theorem ne_tup {es : List Expr} {k : Nat} {fr : Env → Sto → Oc (List T)} (A : NA C Y E es fr) : NE C Y E (.Tuple es k pos) (fun env st => (fr env st).bind fun ts st1 => if ts.length ≤ LIM then .ok (.val (.tup ts)) st1 else .bad) := by
  obtain ⟨ta, pa, ha⟩ := A
  refine ⟨_, fun X hX => pe_tup (pa X hX), fun M st H H₀ σ env Q R r0 P => ha M st H H₀ σ env _ R r0 ?_⟩
  refine (PostO.bind.mp P).imp (Ext.refl _ _) fun ts st1 P vs M1 H1 e1 R1 r1 => ?_
  split at P
  · rename_i hz
    refine ⟨by rw [r1.length]; exact lim_line hz, fun p hp => ?_⟩
    exact PostV.newT (st := st1) (fun v M' H' e R rr => (show KE Y M H σ Q (.val (.tup ts)) st1 from P) v M' H' (e1.trans e) R rr) R1 r1 hp
  · exact False.elim P
theorem ne_lst {es : List Expr} {fr : Env → Sto → Oc (List T)} (A : NA C Y E es fr) : NE C Y E (.List es pos) (fun env st => (fr env st).bind fun ts st1 => if ts.length ≤ LIM then .ok (.fresh (.lst ts)) st1 else .bad) := by
  obtain ⟨ta, pa, ha⟩ := A
  refine ⟨_, fun X hX => pe_lst (pa X hX), fun M st H H₀ σ env Q R r0 P => ha M st H H₀ σ env _ R r0 ?_⟩
  refine (PostO.bind.mp P).imp (Ext.refl _ _) fun ts st1 P vs M1 H1 e1 R1 r1 => ?_
  split at P
  · rename_i hz
    refine ⟨by rw [r1.length]; exact lim_line hz, fun p hp => ?_⟩
    exact PostV.newL (st := st1) (fun v M' H' e R rr => (show KE Y M H σ Q (.fresh (.lst ts)) st1 from P) v M' H' (e1.trans e) R (rr.noslot.earlier fun z hz => e1.free hz)) R1 r1 hp
  · exact False.elim P
end
end NN

set_option Elab.async false
set_option linter.all false
set_option maxRecDepth 100000
set_option maxHeartbeats 4000000
namespace NN
open PySem PySem.Spec PyProof.Rows L2

def noStar : Expr → Bool
  | .Starred _ _ => false
  | _ => true
theorem starEach_cons {e : Expr} {es : List Expr} {env : PySem.Env} (h : noStar e = true) : starEach (e :: es) env = (false, eval e env) :: starEach es env := by
  cases e <;> first
    | rfl
    | cases h
theorem stars_no {env : PySem.Env} {pos : Pos} : ∀ {es : List Expr}, es.all noStar = true → (backTo pos (starEach es env)).any (·.1) = false
  | [], _ => rfl
  | e :: es, h => by
    rw [List.all_cons, Bool.and_eq_true] at h
    have ih := stars_no (env := env) (pos := pos) h.2
    rw [starEach_cons h.1]
    exact ih
theorem stars_all {env : PySem.Env} {pos : Pos} : ∀ {es : List Expr}, es.all noStar = true → (backTo pos (starEach es env)).all (fun x => !x.1) = true
  | [], _ => rfl
  | e :: es, h => by
    rw [List.all_cons, Bool.and_eq_true] at h
    have ih := stars_all (env := env) (pos := pos) h.2
    rw [starEach_cons h.1]
    exact ih
def noSuper : Expr → Bool
  | .Call (.Name id _) [] [] _ => id != ("super" : Str)
  | _ => true
theorem abase {o : Expr} {f : Str} {env : PySem.Env} {whole : Sem Value} (h : noSuper o = true) : attributeBase o f env whole = whole := by
  cases o with
  | Call g args kws pos =>
    cases g with
    | Name id p =>
      cases args with
      | nil =>
        cases kws with
        | nil => exact abase_call h
        | cons _ _ => rfl
      | cons _ _ => rfl
    | _ => rfl
  | _ => rfl
theorem mcall_eq {o : Expr} {m : Str} {apos pos : Pos} {es : List Expr} {env : PySem.Env} (hb : noSuper o = true) (hs : es.all noStar = true) (hl : es.length < 30) (hp : (apos.endLine == pos.line) = true) :
    eval (.Call (.Attribute o m apos) es [] pos) env = (do
      let ov ← eval o env
      standAt apos.atName
      let (f, first) ← holding [ov] (getMethod ov m (do return (← importBound o env).getD true))
      callWith pos f first (backTo pos (starEach es env)) (backToKw pos (keywordEach [] env))) := by
  rw [arm_eval_Call, abase hb]
  have hf : methodCallForm (es.length + ([] : List Keyword).length) (backTo pos (starEach es env)) (backToKw pos (keywordEach [] env)) = true := by
    unfold methodCallForm
    rw [stars_all hs]
    show (true && true && decide (es.length + 0 + 0 < 30)) = true
    simp [hl]
  have hq : methodCallPos true o env apos pos = pure pos := by
    unfold methodCallPos
    rw [hp]
    simp
  unfold methodCall
  rw [hf, hq]
  simp only [calleeOf, if_true, pure_bind]

def spN (Y : Gx) (n : Nat) (g : G) : Sp := fun vs H Q E => ∃ (M : Mp) (st : Sto) (ts : List T), Rel Y M st H ∧ RepVs Y M vs ts ∧ ts.length = n ∧ PostO Y E M H (g ts st) (KE Y M H [] Q)
theorem spN.len {Y : Gx} {n : Nat} {g : G} {vs : List V} {H : Hp} {Q : VK} {E : XK} (h : spN Y n g vs H Q E) : vs.length = n := by
  obtain ⟨M, st, ts, R, r, e, _⟩ := h
  rw [r.length]; exact e
structure CallOk (X : Cx) (E : XK) (x : Str) (sp : Sp) : Prop where
  more : ∀ (e : Expr) (es : List Expr) (ta : TA) (p pos : Pos), PA X (e :: es) ta → (e :: es).all noStar = true → PE X (.Call (.Name x p) (e :: es) [] pos) (tCall sp [] E ta)
  none : ∀ (p pos : Pos), PE X (.Call (.Name x p) [] [] pos) (tCall sp [] E tNil)
section
variable {X : Cx} {C : Cx → Prop} {Y : Gx} {E : XK} {e a b c o : Expr} {pos p : Pos} {CX : CXT} {na nb nr : N} {x m : Str} {es : List Expr}
theorem callOk_def {k : Nat} {f : Addr} {fd : FuncData} {ps : List Str} {sp : Sp} (F : FnOk X.prog X.w X.K X.mg X.base CX k f fd ps sp) (hr : Room k X.A) (hg : Gl X x) (hm : X.mg x = some (.ref f)) (hk : PySem.W.keepIn X.K (.ref f) = true) (hb : Binds X.K fd ps [])
    (hx : Passes CX X E) (hdb : (x == ("__debug__" : Str)) = false) : CallOk X E x sp := by
  refine ⟨fun e es ta p pos pa hs => ?_, fun p pos => pe_call0 F hr hg hm hk hb .nil hx hdb⟩
  rw [List.all_cons, Bool.and_eq_true] at hs
  exact pe_call F hr hg hm hk hb .nil hx pa hdb (starEach_cons hs.1) (stars_no hs.2)
theorem post_call {n : Nat} {g : G} {M M1 : Mp} {H H1 : Hp} {σ : L2.St} {Q : VK} {st1 : Sto} {ts : List T} {vs : List V} (e1 : Ext M H M1 H1) (R1 : Rel Y M1 st1 H1) (r1 : RepVs Y M1 vs ts) (P : PostO Y E M H (if ts.length = n then g ts st1 else .bad) (KE Y M H σ Q)) :
    spN Y n g (vs ++ []) H1 Q E := by
  rw [List.append_nil]
  split at P
  · rename_i hl
    refine ⟨M1, st1, ts, R1, r1, hl, P.imp e1 fun rv st2 P v M' H' e R' rr => ?_⟩
    exact P v M' H' (e1.trans e) R' (rr.noslot.earlier fun z hz => e1.free hz)
  · exact False.elim P
theorem ne_call {n : Nat} {g : G} (cok : ∀ X, C X → CallOk X E x (spN Y n g)) (hs : (e :: es).all noStar = true) (A : NA C Y E (e :: es) (evs nr)) : NE C Y E (.Call (.Name x p) (e :: es) [] pos) (ev (.call x n g nr)) := by
  obtain ⟨ta, pa, ha⟩ := A
  refine ⟨_, fun X hX => (cok X hX).more e es ta p pos (pa X hX) hs, fun M st H H₀ σ env Q R r0 P => ha M st H H₀ σ env _ R r0 ?_⟩
  unfold ev at P
  exact (PostO.bind.mp P).imp (Ext.refl _ _) fun ts st1 P vs M1 H1 e1 R1 r1 => post_call e1 R1 r1 P
theorem ne_call0 {n : Nat} {g : G} (cok : ∀ X, C X → CallOk X E x (spN Y n g)) : NE C Y E (.Call (.Name x p) [] [] pos) (ev (.call x n g .nil)) := by
  refine ⟨_, fun X hX => (cok X hX).none p pos, fun M st H H₀ σ env Q R r0 P => ?_⟩
  unfold ev evs at P
  exact post_call (σ := σ) (Ext.refl _ _) R .nil P

def MOk (C : Cx → Prop) (E : XK) (m : Str) (cl : Addr) (sp : Sp) : Prop :=
  ∀ X, C X → ∃ (CX : CXT) (k : Nat) (f : Addr) (fd : FuncData) (ps : List Str), Cls X.K cl ∧ Meth X.K cl m f ∧ FnOk X.prog X.w X.K X.mg X.base CX k f fd ps sp ∧ Room k X.A ∧ Binds X.K fd ps [] ∧ Passes CX X E
def tOm (C : Cx → Prop) (E : XK) (m : Str) (ta : TE) (t : TA) : TE := fun σ H Q => ta σ H fun x H1 => ∃ a cl dx fs sp, x = .ref a ∧ H1 a = some (.ins cl dx fs) ∧ fs.lookup m = none ∧ MOk C E m cl sp ∧ t σ H1 fun vs H2 => sp (x :: vs) H2 Q E
theorem pe_om (hX : C X) {ta : TE} {t : TA} (he : PE X o ta) (pa : PA X (e :: es) t) (hb : noSuper o = true) (hs : (e :: es).all noStar = true) (hl : (e :: es).length < 30) {apos : Pos} (hp : (apos.endLine == pos.line) = true) :
    PE X (.Call (.Attribute o m apos) (e :: es) [] pos) (tOm C E m ta t) := by
  refine ⟨fun pins s σ H Q I h => ?_⟩
  refine PySem.W.methodCall_KW (pl := (do return (← importBound o X.env).getD true)) (thn (he.run pins s σ H _ I h) fun u s1 ⟨x, H1, I1, rx, a, cl, dx, fs, sp, ex, ea, l, mo, q⟩ => ?_) (mcall_eq hb hs hl hp)
  subst ex
  obtain rfl : u = Value.ref a := rx
  obtain ⟨CX, k, f, fd, ps, c, hm, F, hr, hbn, hx⟩ := mo X hX
  refine getmeth_ok I1 ea c hm l ?_
  rw [List.all_cons, Bool.and_eq_true] at hs
  exact PySem.W.callWith_K (first := [.ref a]) (h₀ := X.base) I1.ok.mod.kin hm.kp (thn (pa.run pos pins s1 σ H1 _ I1 q) fun us s2 ⟨vs, H2, I2, r, q2⟩ => ⟨I2.kIn, run_fn (us := .ref a :: us) (vs := .ref a :: vs) F hr hbn .nil hx I2 (.cons rfl r) (by rw [List.append_nil]; exact q2)⟩) (starEach_cons hs.1) (stars_no hs.2)
def tOm0 (C : Cx → Prop) (E : XK) (m : Str) (ta : TE) : TE := fun σ H Q => ta σ H fun x H1 => ∃ a cl dx fs sp, x = .ref a ∧ H1 a = some (.ins cl dx fs) ∧ fs.lookup m = none ∧ MOk C E m cl sp ∧ sp [x] H1 Q E
theorem pe_om0 (hX : C X) {ta : TE} (he : PE X o ta) (hb : noSuper o = true) {apos : Pos} (hp : (apos.endLine == pos.line) = true) :
    PE X (.Call (.Attribute o m apos) [] [] pos) (tOm0 C E m ta) := by
  refine ⟨fun pins s σ H Q I h => ?_⟩
  refine PySem.W.methodCall_KW (pl := (do return (← importBound o X.env).getD true)) (thn (he.run pins s σ H _ I h) fun u s1 ⟨x, H1, I1, rx, a, cl, dx, fs, sp, ex, ea, l, mo, q⟩ => ?_) (mcall_eq hb rfl (by decide) hp)
  subst ex
  obtain rfl : u = Value.ref a := rx
  obtain ⟨CX, k, f, fd, ps, c, hm, F, hr, hbn, hx⟩ := mo X hX
  refine getmeth_ok I1 ea c hm l ?_
  exact PySem.W.callWith_K0 (first := [.ref a]) I1.kIn hm.kp (run_fn (us := [.ref a]) (vs := [.ref a]) F hr hbn .nil hx I1 (.cons rfl .nil) q)

theorem lookup_no {ns : List Str} {fs : List (Str × V)} {m : Str} (h : fs.map (·.1) = ns) (hn : ns.contains m = false) : fs.lookup m = none := by
  subst h
  induction fs with
  | nil => rfl
  | cons p fs ih =>
    obtain ⟨k, v⟩ := p
    have hn : (m == k || (fs.map (·.1)).contains m) = false := hn
    rw [Bool.or_eq_false_iff] at hn
    rw [List.lookup_cons, hn.1]
    exact ih hn.2
def MethOk (C : Cx → Prop) (Y : Gx) (E : XK) (m : Str) (n : Nat) (tb : List (Str × G)) : Prop := ∀ D g, tb.lookup D = some g → MOk C E m (Y.cad D) (spN Y n g)
theorem post_om {n : Nat} {g : G} {M M1 : Mp} {H H1 : Hp} {σ : L2.St} {Q : VK} {st1 : Sto} {t : T} {ts : List T} {v : V} {vs : List V} (e1 : Ext M H M1 H1) (R1 : Rel Y M1 st1 H1) (rv : RepV Y M1 v t) (r1 : RepVs Y M1 vs ts) (P : PostO Y E M H (if ts.length + 1 = n then g (t :: ts) st1 else .bad) (KE Y M H σ Q)) :
    spN Y n g (v :: vs) H1 Q E := by
  split at P
  · rename_i hl
    refine ⟨M1, st1, t :: ts, R1, .cons rv r1, hl, P.imp e1 fun rv st2 P v M' H' e R' rr => ?_⟩
    exact P v M' H' (e1.trans e) R' (rr.noslot.earlier fun z hz => e1.free hz)
  · exact False.elim P
theorem ne_om {n : Nat} {tb : List (Str × G)} (cok : MethOk C Y E m n tb) (O : NE C Y E o (ev na)) (A : NA C Y E (e :: es) (evs nr)) (hb : noSuper o = true) (hs : (e :: es).all noStar = true) (hl : (e :: es).length < 30) {apos : Pos} (hp : (apos.endLine == pos.line) = true) :
    NE C Y E (.Call (.Attribute o m apos) (e :: es) [] pos) (ev (.om m n tb na nr)) := by
  obtain ⟨to, po, ho⟩ := O
  obtain ⟨ta, pa, ha⟩ := A
  refine ⟨_, fun X hX => pe_om (E := E) hX (po X hX) (pa X hX) hb hs hl hp, fun M st H H₀ σ env Q R r0 P => ho M st H H₀ σ env _ R r0 ?_⟩
  unfold ev at P
  refine (PostO.bind.mp P).imp (Ext.refl _ _) fun ro st1 P v M1 H1 e1 R1 r1 => ?_
  split at P
  · rename_i D ns ts
    split at P
    · exact False.elim P
    · rename_i hn
      split at P
      · rename_i g hg
        obtain ⟨a, ea, hm⟩ := id r1
        obtain ⟨dx, fs, h1, h2, h3⟩ := R1.fz a _ hm
        refine ⟨a, Y.cad D, dx, fs, spN Y n g, ea, h1, lookup_no h2 (by simpa using hn), cok D g hg, ?_⟩
        refine ha M1 st1 H1 H₀ σ env _ R1 (r0.ext e1) ?_
        refine (PostO.bind.mp P).imp e1 fun us st2 P vs M2 H2 e2 R2 r2 => ?_
        exact post_om (σ := σ) (e1.trans e2) R2 (RepV.mono (t := .ins D ns ts) e2.keep r1) r2 P
      · exact False.elim P
  · exact False.elim P
theorem ne_om0 {n : Nat} {tb : List (Str × G)} (cok : MethOk C Y E m n tb) (O : NE C Y E o (ev na)) (hb : noSuper o = true) {apos : Pos} (hp : (apos.endLine == pos.line) = true) :
    NE C Y E (.Call (.Attribute o m apos) [] [] pos) (ev (.om m n tb na .nil)) := by
  obtain ⟨to, po, ho⟩ := O
  refine ⟨_, fun X hX => pe_om0 (E := E) hX (po X hX) hb hp, fun M st H H₀ σ env Q R r0 P => ho M st H H₀ σ env _ R r0 ?_⟩
  unfold ev at P
  refine (PostO.bind.mp P).imp (Ext.refl _ _) fun ro st1 P v M1 H1 e1 R1 r1 => ?_
  split at P
  · rename_i D ns ts
    split at P
    · exact False.elim P
    · rename_i hn
      split at P
      · rename_i g hg
        obtain ⟨a, ea, hm⟩ := id r1
        obtain ⟨dx, fs, h1, h2, h3⟩ := R1.fz a _ hm
        refine ⟨a, Y.cad D, dx, fs, spN Y n g, ea, h1, lookup_no h2 (by simpa using hn), cok D g hg, ?_⟩
        unfold evs at P
        exact post_om (σ := σ) (t := .ins D ns ts) e1 R1 r1 .nil P
      · exact False.elim P
  · exact False.elim P

theorem lookup_fld {Y : Gx} {M : Mp} {f : Str} : ∀ {fs : List (Str × V)} {ts : List T} {t : T}, RepVs Y M (fs.map (·.2)) ts → ((fs.map (·.1)).zip ts).lookup f = some t → ∃ v, fs.lookup f = some v ∧ RepV Y M v t
  | [], _, _, _, h => by simp at h
  | (k, v) :: fs, ts, t, r, h => by
    cases r with
    | cons r1 r2 =>
      rename_i u us
      simp only [List.map_cons, List.zip_cons_cons, List.lookup_cons] at h
      rw [List.lookup_cons]
      cases q : f == k with
      | true => rw [q] at h; cases h; exact ⟨v, rfl, r1⟩
      | false => rw [q] at h; exact lookup_fld r2 h
def FldOk (Y : Gx) (f : Str) (cs : List Str) : Prop := ∀ D, cs.contains D = true → Cls Y.K (Y.cad D) ∧ NoAttr Y.K (Y.cad D) f
theorem pe_fldY {K : PySem.W.Frag} {f : Str} {ta : TE} (hK : X.K = K) (he : PE X e ta) (hb : noSuper e = true) : PE X (.Attribute e f pos) (tFld K ta f) := hK ▸ pe_fld he (abase hb)
theorem ne_attr {f : Str} {cs : List Str} (hK : ∀ X, C X → X.K = Y.K) (cok : FldOk Y f cs) (O : NE C Y E o (ev na)) (hb : noSuper o = true) : NE C Y E (.Attribute o f pos) (ev (.attr na f cs)) := by
  obtain ⟨to, po, ho⟩ := O
  refine ⟨_, fun X hX => pe_fldY (hK X hX) (po X hX) hb, fun M st H H₀ σ env Q R r0 P => ho M st H H₀ σ env _ R r0 ?_⟩
  unfold ev at P
  refine (PostO.bind.mp P).imp (Ext.refl _ _) fun ro st1 P v M1 H1 e1 R1 r1 => ?_
  split at P
  · rename_i t
    obtain ⟨rv, hv, P2⟩ := PostO.of P
    cases q : fldOf f cs t with
    | none => rw [q] at hv; cases hv
    | some z =>
      rw [q] at hv
      cases hv
      cases t with
      | ins D ns ts =>
        have q : (if cs.contains D = true then (ns.zip ts).lookup f else none) = some z := q
        split at q
        · rename_i hc
          obtain ⟨a, ea, hm⟩ := id r1
          obtain ⟨dx, fs, h1, h2, h3⟩ := R1.fz a _ hm
          subst h2
          obtain ⟨w, hw, rw'⟩ := lookup_fld h3 q
          obtain ⟨c1, c2⟩ := cok D hc
          exact ⟨a, Y.cad D, dx, fs, w, ea, h1, c1, c2, hw, P2 w M1 H1 e1 R1 rw'⟩
        · cases q
      | _ => cases q
  · exact False.elim P
end

section
variable {C : Cx → Prop} {Y : Gx} {E : XK} {e a b c o : Expr} {pos p2 : Pos} {na nb nc nl nh : N} {lo hi : Option Expr}
def NP (C : Cx → Prop) (Y : Gx) (E : XK) (e : Option Expr) (f : Env → Sto → Oc (Option Int)) : Prop :=
  ∃ t : TO, (∀ X, C X → PO X e t) ∧ ∀ (M : Mp) (st : Sto) (H H₀ : Hp) (σ : L2.St) (env : Env) (Q : Option Int → Hp → Prop), Rel Y M st H → EnvRel Y H₀ M H σ env → PostO Y E M H (f env st) (fun o st' => ∀ M' H', Ext M H M' H' → Rel Y M' st' H' → Q o H') → t σ H Q
theorem np_none : NP C Y E none (evP .nil) := ⟨_, fun X hX => po_none, fun M st H H₀ σ env Q R r0 P => P M H (Ext.refl _ _) R⟩
theorem np_some (A : NE C Y E a (ev na)) : NP C Y E (some a) (evP (.cons na .nil)) := by
  obtain ⟨ta, pa, ha⟩ := A
  refine ⟨_, fun X hX => po_some (pa X hX), fun M st H H₀ σ env Q R r0 P => ha M st H H₀ σ env _ R r0 ?_⟩
  unfold evP at P
  refine (PostO.bind.mp P).imp (Ext.refl _ _) fun ro st1 P v M1 H1 e1 R1 r1 => ?_
  split at P
  · rename_i i
    exact ⟨i, r1, P M1 H1 e1 R1⟩
  · exact False.elim P
theorem ne_sl (hK : ∀ X, C X → X.K = Y.K) (A : NE C Y E a (ev na)) (L : NP C Y E lo (evP nl)) (U : NP C Y E hi (evP nh)) : NE C Y E (.Subscript a (.Slice lo hi none p2) pos) (ev (.sl na nl nh)) := by
  obtain ⟨ta, pa, ha⟩ := A
  obtain ⟨tl, pl, hl⟩ := L
  obtain ⟨tu, pu, hu⟩ := U
  refine ⟨_, fun X hX => pe_slice (sl_anyY (hK X hX)) (pa X hX) (pl X hX) (pu X hX), fun M st H H₀ σ env Q R r0 P => ha M st H H₀ σ env _ R r0 ?_⟩
  unfold ev at P
  refine (PostO.bind.mp P).imp (Ext.refl _ _) fun ra st1 P v M1 H1 e1 R1 r1 => ?_
  refine hl M1 st1 H1 H₀ σ env _ R1 (r0.ext e1) ?_
  refine (PostO.bind.mp P).imp e1 fun l st2 P M2 H2 e2 R2 => ?_
  refine hu M2 st2 H2 H₀ σ env _ R2 ((r0.ext e1).ext e2) ?_
  refine (PostO.bind.mp P).imp (e1.trans e2) fun u st3 P M3 H3 e3 R3 => ?_
  obtain ⟨rv, hv, P⟩ := PostO.of P
  have env3 := ((r0.ext e1).ext e2).ext e3
  have r3 := (r1.ext e2).ext e3
  have e13 := (e1.trans e2).trans e3
  cases hx : view env st3 ra with
  | none => rw [hx] at hv; cases hv
  | some x =>
    rw [hx] at hv
    exact slice_ok hv R3 (RepR.see R3 env3 r3 hx) fun w M4 H4 e4 R4 r4 => P w M4 H4 (e13.trans e4) R4 (r4.noslot.earlier fun z hz => e13.free hz)
theorem ne_neg (A : NE C Y E a (ev na)) : NE C Y E (.UnaryOp .USub a pos) (ev (.neg na)) := by
  obtain ⟨ta, pa, ha⟩ := A
  refine ⟨_, fun X hX => pe_un un_neg (pa X hX), fun M st H H₀ σ env Q R r0 P => ha M st H H₀ σ env _ R r0 ?_⟩
  unfold ev at P
  refine (PostO.bind.mp P).imp (Ext.refl _ _) fun ro st1 P v M1 H1 e1 R1 r1 => ?_
  split at P
  · rename_i i
    exact ⟨i, r1, (show KE Y M H σ Q (.val (.int (-i))) st1 from P) _ M1 H1 e1 R1 rfl⟩
  · exact False.elim P
abbrev Rd1 (Y : Gx) (E : XK) (na : N) (ta : TE) : Prop := ∀ (M : Mp) (st : Sto) (H H₀ : Hp) (σ : L2.St) (env : Env) (Q : VK), Rel Y M st H → EnvRel Y H₀ M H σ env → PostO Y E M H (ev na env st) (KE Y M H σ Q) → ta σ H Q
theorem chain_rd {oo pp : CO} {ta tb tc : TE} (ha : Rd1 Y E na ta) (hb : Rd1 Y E nb tb) (hc : Rd1 Y E nc tc) : Rd1 Y E (.chain oo pp na nb nc) (tChain (rC Y.K oo) (rC Y.K pp) ta tb tc) := by
  intro M st H H₀ σ env Q R r0 P
  refine ha M st H H₀ σ env _ R r0 ?_
  unfold ev at P
  refine (PostO.bind.mp P).imp (Ext.refl _ _) fun ra st1 P v M1 H1 e1 R1 rr1 => ?_
  refine hb M1 st1 H1 H₀ σ env _ R1 (r0.ext e1) ?_
  refine (PostO.bind.mp P).imp e1 fun rb st2 P u M2 H2 e2 R2 rr2 => ?_
  have P := PostO.bind.mp P
  obtain ⟨d, hd, P⟩ := PostO.of P
  have env2 := (r0.ext e1).ext e2
  have rr1' := rr1.ext e2
  have e12 := e1.trans e2
  cases hx : view env st2 ra with
  | none => rw [hx] at hd; cases hd
  | some x =>
    cases hy : view env st2 rb with
    | none => rw [hx, hy] at hd; cases hd
    | some y =>
      rw [hx, hy] at hd
      have hd : cmpop oo x y = some d := hd
      refine cmpop_ok hd R2 (RepR.see R2 env2 rr1' hx) (RepR.see R2 env2 rr2 hy) ⟨d, rfl, ?_⟩
      cases d with
      | false => exact iteF ((show KE Y M H σ Q (.val (.bl false)) st2 from P) _ M2 H2 e12 R2 rfl)
      | true =>
        refine iteT (hc M2 st2 H2 H₀ σ env _ R2 env2 ?_)
        have P : PostO Y E M H ((ev nc env st2).bind fun rc st3 => .of (((view env st3 rb).bind fun y => (view env st3 rc).bind fun z => cmpop pp y z).map fun c => .val (.bl c)) st3) (KE Y M H σ Q) := P
        refine (PostO.bind.mp P).imp e12 fun rc st3 P w M3 H3 e3 R3 rr3 => ?_
        obtain ⟨rv, hv, P⟩ := PostO.of P
        have env3 := env2.ext e3
        have rr2' := rr2.ext e3
        cases hy3 : view env st3 rb with
        | none => rw [hy3] at hv; cases hv
        | some y3 =>
          cases hz : view env st3 rc with
          | none => rw [hy3, hz] at hv; cases hv
          | some z =>
            rw [hy3, hz] at hv
            have hv : (cmpop pp y3 z).map (fun c => RV.val (.bl c)) = some rv := hv
            cases q : cmpop pp y3 z with
            | none => rw [q] at hv; cases hv
            | some k =>
              rw [q] at hv
              cases hv
              exact cmpop_ok q R3 (RepR.see R3 env3 rr2' hy3) (RepR.see R3 env3 rr3 hz) (P _ M3 H3 (e12.trans e3) R3 rfl)
theorem ne_chain {oo pp : CO} (hK : ∀ X, C X → X.K = Y.K) (hu : ∀ X, C X → X.A.units + 64 < cLine) (hm : lastMarks [oo.op, pp.op] [b, c] = false) (A : NE C Y E a (ev na)) (B : NE C Y E b (ev nb)) (D : NE C Y E c (ev nc)) :
    NE C Y E (.Compare a [oo.op, pp.op] [b, c] pos) (ev (.chain oo pp na nb nc)) := by
  obtain ⟨ta, pa, ha⟩ := A
  obtain ⟨tb, pb, hb⟩ := B
  obtain ⟨tc, pc, hc⟩ := D
  exact ⟨_, fun X hX => pe_chain (op_cY (hK X hX) (hu X hX) oo) (op_cY (hK X hX) (hu X hX) pp) (pa X hX) (pb X hX) (pc X hX) hm, chain_rd ha hb hc⟩
theorem nb_chain {oo pp : CO} (hK : ∀ X, C X → X.K = Y.K) (hu : ∀ X, C X → X.A.units + 64 < cLine) (hm : lastMarks [oo.op, pp.op] [b, c] = false) (A : NE C Y E a (ev na)) (B : NE C Y E b (ev nb)) (D : NE C Y E c (ev nc)) :
    NB C Y E (.Compare a [oo.op, pp.op] [b, c] pos) (fun env st => truthB (ev (.chain oo pp na nb nc) env st)) := by
  obtain ⟨ta, pa, ha⟩ := A
  obtain ⟨tb, pb, hb⟩ := B
  obtain ⟨tc, pc, hc⟩ := D
  refine ⟨_, fun X hX => pt_chain (op_cY (hK X hX) (hu X hX) oo) (op_cY (hK X hX) (hu X hX) pp) (pa X hX) (pb X hX) (pc X hX) hm, fun M st H H₀ σ env Q R r0 P => chain_rd ha hb hc M st H H₀ σ env _ R r0 ?_⟩
  refine (PostO.bind.mp P).imp (Ext.refl _ _) fun rv st1 P v M1 H1 e1 R1 rr => ?_
  split at P
  · rename_i k
    exact ⟨k, rr, P M1 H1 e1 R1⟩
  · exact False.elim P
end
end NN

set_option Elab.async false
set_option linter.all false
set_option maxRecDepth 100000
set_option maxHeartbeats 4000000
namespace NN
open PySem PySem.Spec PyProof.Rows L2

theorem getElem?_set_ite {α : Type} (l : List α) (i j : Nat) (x : α) : (l.set i x)[j]? = if i = j then (if j < l.length then some x else none) else l[j]? := by
  by_cases h : i = j
  · subst h
    rw [if_pos rfl]
    by_cases hl : i < l.length
    · rw [if_pos hl, List.getElem?_set_self hl]
    · rw [if_neg hl, List.getElem?_eq_none (by simpa using hl)]
  · rw [if_neg h, List.getElem?_set_ne h]
section
variable {Y : Gx} {M M' : Mp} {H H' H₀ : Hp} {st : Sto} {σ : L2.St} {env : Env} {v : V} {t : T}
theorem EnvRel.set {i : Nat} {s : Slot} (r : EnvRel Y H₀ M H σ env) (h : SlotC Y H₀ M H v s)
    (h2 : ∀ c a, s = .own c → v = .ref a → ∀ j c' b x, j ≠ i → env[j]? = some (some (.own c')) → σ[j]? = some (some (.ref b)) → x ∈ foot a c → x ∈ foot b c' → False) :
    EnvRel Y H₀ M H (σ.set i (some v)) (env.set i (some s)) := by
  have slot : ∀ j s', (env.set i (some s))[j]? = some (some s') → (j = i ∧ s' = s ∧ (σ.set i (some v))[j]? = some (some v)) ∨ (j ≠ i ∧ env[j]? = some (some s') ∧ (σ.set i (some v))[j]? = σ[j]?) := by
    intro j s' e
    rw [getElem?_set_ite] at e
    by_cases hj : i = j
    · subst hj
      rw [if_pos rfl] at e
      split at e
      · rename_i hlt
        cases e
        exact .inl ⟨rfl, rfl, by rw [getElem?_set_ite, if_pos rfl, if_pos (by rw [r.len]; exact hlt)]⟩
      · cases e
    · rw [if_neg hj] at e
      exact .inr ⟨fun z => hj z.symm, e, by rw [getElem?_set_ite, if_neg hj]⟩
  refine ⟨by simpa using r.len, fun j s' e => ?_, fun j k a b c c' x e1 e2 e3 e4 m1 m2 => ?_⟩
  · rcases slot j s' e with ⟨_, rfl, e1⟩ | ⟨_, e1, e2⟩
    · exact ⟨v, e1, h⟩
    · rw [e2]; exact r.at' j s' e1
  · rcases slot j _ e1 with ⟨h3, h4, h5⟩ | ⟨h3, h4, h5⟩ <;> rcases slot k _ e2 with ⟨h6, h7, h8⟩ | ⟨h6, h7, h8⟩
    · exact h3.trans h6.symm
    · rw [h5] at e3; cases e3
      rw [h8] at e4
      exact (h2 c a h4.symm rfl k c' b x h6 h7 e4 m1 m2).elim
    · rw [h8] at e4; cases e4
      rw [h5] at e3
      exact (h2 c' b h7.symm rfl j c a x h3 h4 e3 m2 m1).elim
    · rw [h5] at e3; rw [h8] at e4
      exact r.one j k a b c c' x h4 h7 e3 e4 m1 m2
theorem EnvRel.setV {i : Nat} (r : EnvRel Y H₀ M H σ env) (h : RepV Y M v t) : EnvRel Y H₀ M H (σ.set i (some v)) (env.set i (some (.val t))) := r.set (s := .val t) h (fun c a e => nomatch e)
theorem wipe_get (σ : L2.St) (vs : List Nat) (j : Nat) : (L2.wipe σ vs)[j]? = if j ∈ vs then (if j < σ.length then some none else none) else σ[j]? := by
  induction vs with
  | nil => simp [L2.wipe]
  | cons v vs ih =>
    show ((L2.wipe σ vs).set v none)[j]? = _
    rw [getElem?_set_ite, L2.wipe_length]
    by_cases h : v = j
    · subst h
      simp
    · rw [if_neg h, ih]
      have hvj : ¬ j = v := fun z => h z.symm
      simp [hvj]
theorem wipe_set {σ : L2.St} {vs : List Nat} {i : Nat} {x : Option V} (h : i ∈ vs) : L2.wipe (σ.set i x) vs = L2.wipe σ vs := by
  apply List.ext_getElem?
  intro j
  rw [wipe_get, wipe_get, List.length_set, getElem?_set_ite]
  by_cases hj : j ∈ vs
  · rw [if_pos hj, if_pos hj]
  · rw [if_neg hj, if_neg hj, if_neg (fun e : i = j => hj (e ▸ h))]
theorem wipe_wipe {σ : L2.St} {vs : List Nat} : L2.wipe (L2.wipe σ vs) vs = L2.wipe σ vs := by
  apply List.ext_getElem?
  intro j
  rw [wipe_get, wipe_get, L2.wipe_length]
  by_cases hj : j ∈ vs
  · rw [if_pos hj, if_pos hj]
  · rw [if_neg hj]
theorem wipeE_len (env : Env) : ∀ vs : List Nat, (wipeE env vs).length = env.length
  | [] => rfl
  | v :: vs => by
    show ((wipeE env vs).set v none).length = _
    rw [List.length_set, wipeE_len env vs]
theorem wipeE_get (env : Env) (vs : List Nat) (j : Nat) : (wipeE env vs)[j]? = if j ∈ vs then (if j < env.length then some none else none) else env[j]? := by
  induction vs with
  | nil => simp [wipeE]
  | cons v vs ih =>
    show ((wipeE env vs).set v none)[j]? = _
    rw [getElem?_set_ite, wipeE_len]
    by_cases h : v = j
    · subst h
      simp
    · rw [if_neg h, ih]
      have hvj : ¬ j = v := fun z => h z.symm
      simp [hvj]
theorem EnvRel.wipe (r : EnvRel Y H₀ M H σ env) (vs : List Nat) : EnvRel Y H₀ M H (L2.wipe σ vs) (wipeE env vs) := by
  have slot : ∀ (j : Nat) (s : Slot), (wipeE env vs)[j]? = some (some s) → env[j]? = some (some s) ∧ (L2.wipe σ vs)[j]? = σ[j]? := by
    intro j s e
    rw [wipeE_get] at e
    by_cases hj : j ∈ vs
    · rw [if_pos hj] at e
      split at e <;> cases e
    · rw [if_neg hj] at e
      exact ⟨e, by rw [wipe_get, if_neg hj]⟩
  refine ⟨by rw [L2.wipe_length, wipeE_len, r.len], fun j s e => ?_, fun i j a b c c' x e1 e2 e3 e4 => ?_⟩
  · obtain ⟨h1, h2⟩ := slot j s e
    rw [h2]; exact r.at' j s h1
  · obtain ⟨h1, h2⟩ := slot i _ e1
    obtain ⟨h3, h4⟩ := slot j _ e2
    rw [h2] at e3; rw [h4] at e4
    exact r.one i j a b c c' x h1 h3 e3 e4
end
def Tg.slots : Tg → List Nat
  | .nm i => [i]
  | .tp is => is
def NG (C : Cx → Prop) (Y : Gx) (e : Expr) (tg : Tg) : Prop :=
  ∃ g : TG, (∀ X, C X → PG X e g) ∧ ∀ (M : Mp) (st : Sto) (H H₀ : Hp) (σ : L2.St) (env env' : Env) (v : V) (t : T) (Q : L2.St → Hp → Prop), Rel Y M st H → EnvRel Y H₀ M H σ env → RepV Y M v t → bindTg env tg t = some env' →
    (∀ σ', EnvRel Y H₀ M H σ' env' → (∀ vs : List Nat, (∀ i ∈ tg.slots, i ∈ vs) → L2.wipe σ' vs = L2.wipe σ vs) → Q σ' H) → g v σ H Q
def NGs (C : Cx → Prop) (Y : Gx) (es : List Expr) (is : List Nat) : Prop :=
  ∃ g : TGs, (∀ X, C X → PGs X es g) ∧ ∀ (M : Mp) (H H₀ : Hp) (σ : L2.St) (env env' : Env) (vs : List V) (ts : List T) (Q : L2.St → Hp → Prop), EnvRel Y H₀ M H σ env → RepVs Y M vs ts → setMany env is ts = some env' →
    (∀ σ', EnvRel Y H₀ M H σ' env' → (∀ vs : List Nat, (∀ i ∈ is, i ∈ vs) → L2.wipe σ' vs = L2.wipe σ vs) → Q σ' H) → g vs σ H Q
section
variable {C : Cx → Prop} {Y : Gx} {e : Expr} {es : List Expr} {pos : Pos}
theorem ng_name {i : Nat} (h : ∀ X, C X → PG X e (gName i)) : NG C Y e (.nm i) := by
  refine ⟨gName i, h, fun M st H H₀ σ env env' v t Q R r rv hb k => ?_⟩
  cases hb
  exact k _ (r.setV rv) fun vs hv => wipe_set (hv i (by simp [Tg.slots]))
theorem ngs_nil : NGs C Y [] [] := by
  refine ⟨gNil, fun X _ => pgs_nil, fun M H H₀ σ env env' vs ts Q r rv hb k => ?_⟩
  cases rv with
  | nil => cases hb; exact ⟨rfl, k σ r fun _ _ => rfl⟩
  | cons _ _ => cases hb
theorem ngs_cons {i : Nat} {is : List Nat} (h : ∀ X, C X → PG X e (gName i)) (hs : ∀ env : PySem.Env, (assignEach (e :: es) env).map (·.2) = assign e env :: (assignEach es env).map (·.2)) (A : NGs C Y es is) : NGs C Y (e :: es) (i :: is) := by
  obtain ⟨g, pg, hg⟩ := A
  refine ⟨gCons (gName i) g, fun X hX => pgs_cons (h X hX) (pg X hX) (hs X.env), fun M H H₀ σ env env' vs ts Q r rv hb k => ?_⟩
  cases rv with
  | nil => cases hb
  | cons r1 r2 =>
    rename_i v t vs ts
    refine ⟨v, vs, rfl, ?_⟩
    refine hg M H H₀ _ _ env' vs ts Q (r.setV (i := i) r1) r2 hb fun σ' r' hw => k σ' r' fun ws hws => ?_
    rw [hw ws fun j hj => hws j (List.mem_cons_of_mem _ hj)]
    exact wipe_set (hws i List.mem_cons_self)
theorem pg_tupY {X : Cx} {K : PySem.W.Frag} {k : Nat} {t : TGs} {n : Nat} (hK : X.K = K) (hc : X.calm = true) (h : PGs X es t)
    (hn : (assignEach es X.env).length = n) (hst : (assignEach es X.env).findIdx? (·.1) = none) : PG X (.Tuple es k pos) (gTup K n t) := hK ▸ pg_tup hc h hn hst
theorem ng_tup {is : List Nat} {k : Nat} (hK : ∀ X, C X → X.K = Y.K) (hc : ∀ X, C X → X.calm = true) (A : NGs C Y es is) (hn : ∀ env : PySem.Env, (assignEach es env).length = is.length) (hst : ∀ env : PySem.Env, (assignEach es env).findIdx? (·.1) = none) : NG C Y (.Tuple es k pos) (.tp is) := by
  obtain ⟨g, pg, hg⟩ := A
  refine ⟨gTup Y.K is.length g, fun X hX => pg_tupY (hK X hX) (hc X hX) (pg X hX) (hn X.env) (hst X.env), fun M st H H₀ σ env env' v t Q R r rv hb k => ?_⟩
  cases t with
  | tup ts =>
    obtain ⟨a, vs, e1, h1, r1⟩ := RepV.see R rv
    have hlen : ∀ {is : List Nat} {ts : List T} {env env' : Env}, setMany env is ts = some env' → ts.length = is.length := by
      intro is
      induction is with
      | nil => intro ts env env' h; cases ts with
        | nil => rfl
        | cons _ _ => cases h
      | cons i is ih => intro ts env env' h; cases ts with
        | nil => cases h
        | cons t ts => exact congrArg (· + 1) (ih h)
    exact ⟨a, vs, e1, h1, by rw [r1.length]; exact hlen hb, hg M H H₀ σ env env' vs ts Q r r1 hb k⟩
  | _ => cases hb
end

def Walks (Y : Gx) (L : Mp → Hp → Mp → Hp → Prop) (M : Mp) (H : Hp) (J : It) (xs : List T) : Prop :=
  ∀ M1 st1 H1, L M H M1 H1 → Rel Y M1 st1 H1 → (∀ i x, xs[i]? = some x → J.go i H1 ∧ ∀ v H2, J.yld i H1 v H2 → ∃ M2, Ext M1 H1 M2 H2 ∧ Rel Y M2 st1 H2 ∧ RepV Y M2 v x) ∧ J.stop xs.length H1
def Kp (M : Mp) (_ : Hp) (M' : Mp) (_ : Hp) : Prop := ∀ a k, M a = some k → M' a = some k
def LL (q : Bool) : Mp → Hp → Mp → Hp → Prop := if q then Ext else Kp
theorem LL.of_ext {q : Bool} {M M' : Mp} {H H' : Hp} (e : Ext M H M' H') : LL q M H M' H' := by
  cases q with
  | true => exact e
  | false => exact e.keep
def NI (C : Cx → Prop) (Y : Gx) (E : XK) (q : Bool) (tg e : Expr) (f : Env → Sto → Oc (List T)) : Prop :=
  ∃ wi : TI, (∀ X, C X → PI X tg e wi) ∧ ∀ (M : Mp) (st : Sto) (H H₀ : Hp) (σ : L2.St) (env : Env) (R : It → Hp → Prop), Rel Y M st H → EnvRel Y H₀ M H σ env →
    PostO Y E M H (f env st) (fun xs st' => ∀ J M' H', Ext M H M' H' → Rel Y M' st' H' → Walks Y (LL q) M' H' J xs → R J H') → wi σ H R

def iAny (K : PySem.W.Frag) (te : TE) : TI := fun σ H R => te σ H fun x H1 => (∃ a, x = .ref a ∧ (∃ xs, SqL K H1 a xs) ∧ R (Itl K a) H1) ∨ (∃ a, x = .ref a ∧ (∃ xs, SqT K H1 a xs) ∧ R (Itt K a) H1) ∨ ∃ s, x = .str s ∧ R (Its s) H1
theorem pi_any {X : Cx} {tg e : Expr} {te : TE} (he : PE X e te) : PI X tg e (iAny X.K te) := by
  refine ⟨fun pins s σ H R I h => ?_⟩
  refine thn (he.run pins s σ H _ I h) fun v s1 ⟨y, H1, I1, r1, q⟩ => ?_
  rcases q with ⟨a, ey, ⟨xs, hq⟩, q⟩ | ⟨a, ey, ⟨xs, hq⟩, q⟩ | ⟨x, ey, q⟩
  · subst ey
    cases r1
    obtain ⟨its, rv, p, hz⟩ := I1.list hq
    refine wpAny_pyIter_list p.isList ?_
    refine ⟨s1.heap.objs.size, [s1.heap.objs.size], _, _, H1, rfl, I1.kept (t' := s1.toks) fun b o e => Heap.get?_push_of_some _ e, turn_list a _, ⟨_, Heap.get?_push_size _ rfl, rfl, rfl⟩, fun b hb => ?_, q⟩
    have e : b = s1.heap.objs.size := by simpa using hb
    subst e
    exact I1.fpOk (Nat.le_refl _) (I1.hok.fresh (Nat.le_refl _))
  · subst ey
    cases r1
    obtain ⟨its, rv, p, hz⟩ := I1.tuple hq
    refine wpAny_pyIter_tuple (show s1.heap.IsTuple a its.toArray from p) ?_
    refine ⟨s1.heap.objs.size, [s1.heap.objs.size], _, _, H1, rfl, I1.kept (t' := s1.toks) fun b o e => Heap.get?_push_of_some _ e, turn_tuple a _, ⟨_, Heap.get?_push_size _ rfl, rfl, rfl⟩, fun b hb => ?_, q⟩
    have e : b = s1.heap.objs.size := by simpa using hb
    subst e
    exact I1.fpOk (Nat.le_refl _) (I1.hok.fresh (Nat.le_refl _))
  · subst ey
    obtain ⟨t, rfl⟩ := r1
    cases ha : x.cps.all (· < 128)
    · exact wpAny_pyIter_wide ha (pi_one (tk := s1.toks) I1 _ (turn_str _ x t "str_iterator" (.inr rfl)) ⟨_, Heap.get?_push_size _ rfl, rfl, rfl⟩ q)
    · exact wpAny_pyIter_ascii ha (pi_one (tk := s1.toks) I1 _ (turn_str _ x t "str_ascii_iterator" (.inl rfl)) ⟨_, Heap.get?_push_size _ rfl, rfl, rfl⟩ q)
theorem pi_anyY {X : Cx} {K : PySem.W.Frag} {tg e : Expr} {te : TE} (hK : X.K = K) (he : PE X e te) : PI X tg e (iAny K te) := hK ▸ pi_any he

section
variable {C : Cx → Prop} {Y : Gx} {E : XK} {q : Bool} {tg e a b : Expr} {na nb : N} {M M1 M' : Mp} {H H1 H' H₀ : Hp} {st : Sto} {σ : L2.St} {env : Env} {v : V} {t : T} {pos p : Pos}
def SeeL (Y : Gx) (L : Mp → Hp → Mp → Hp → Prop) (M : Mp) (H : Hp) (v : V) (t : T) : Prop := ∀ M1 st1 H1, L M H M1 H1 → Rel Y M1 st1 H1 → See Y M1 H1 v t
theorem RepV.seeL {q : Bool} (r : RepV Y M v t) : SeeL Y (LL q) M H v t := fun M1 st1 H1 l R1 => by
  refine RepV.see R1 (RepV.mono ?_ r)
  cases q with
  | true => exact (show Ext M H M1 H1 from l).keep
  | false => exact l
theorem RepR.seeL {Hs : Hp} {rv : RV} (R : Rel Y M st H) (e : EnvRel Y H₀ M H σ env) (r : RepR Y Hs M H σ v rv) (h : viewQ q env st rv = some t) :
    ∃ M', Rel Y M' st H ∧ SeeL Y (LL q) M' H v t ∧ (∀ M0 H0, Ext M0 H0 M H → (∀ a, Hs a = none → H0 a = none) → Ext M0 H0 M' H) ∧ (∀ a k, M a = some k → M' a = some k) ∧ ∀ a, Hs a ≠ none → M' a = M a := by
  cases q with
  | false =>
    cases rv with
    | val t' => cases h; exact ⟨M, R, RepV.seeL (q := false) r, fun _ _ e _ => e, fun _ _ e => e, fun _ _ => rfl⟩
    | fresh c =>
      obtain ⟨M', R', r', e', k', m'⟩ := RepR.frz (t := t) R r h
      exact ⟨M', R', r'.seeL, e', k', m'⟩
    | «at» pl => cases pl <;> cases h
  | true =>
    cases rv with
    | val t' => cases h; exact ⟨M, R, RepV.seeL (q := true) r, fun _ _ e _ => e, fun _ _ e => e, fun _ _ => rfl⟩
    | fresh c =>
      obtain ⟨M', R', r', e', k', m'⟩ := RepR.frz (t := t) R r h
      exact ⟨M', R', r'.seeL, e', k', m'⟩
    | «at» pl =>
      cases pl with
      | slot i =>
        refine ⟨M, R, fun M1 st1 H1 l R1 => ?_, fun _ _ e _ => e, fun _ _ e => e, fun _ _ => rfl⟩
        refine RepR.see (Hs := Hs) (env := env) (rv := .at (.slot i)) R1 (e.ext (show Ext M H M1 H1 from l)) (r.ext (show Ext M H M1 H1 from l)) ?_
        exact h
      | fld o f => cases h

theorem walks_see {L : Mp → Hp → Mp → Hp → Prop} {xs : List T} {a : Addr} (h : SeeL Y L M H (.ref a) (.lst xs)) : Walks Y L M H (Itl Y.K a) xs := fun M1 st1 H1 l R1 => by
  obtain ⟨a', vs, e, hs, r⟩ := h M1 st1 H1 l R1
  cases e
  refine ⟨fun i x hx => ?_, ⟨vs, hs, by rw [r.length]; exact Nat.le_refl _⟩⟩
  obtain ⟨v, hv, rv⟩ := Paired.get r hx
  refine ⟨⟨vs, v, hs, hv⟩, fun w H2 y => ?_⟩
  obtain ⟨e1, e2⟩ := y
  subst e1
  have := e2 vs hs
  rw [hv] at this; cases this
  exact ⟨M1, Ext.refl _ _, R1, rv⟩
theorem walks_seeT {L : Mp → Hp → Mp → Hp → Prop} {xs : List T} {a : Addr} (h : SeeL Y L M H (.ref a) (.tup xs)) : Walks Y L M H (Itt Y.K a) xs := fun M1 st1 H1 l R1 => by
  obtain ⟨a', vs, e, hs, r⟩ := h M1 st1 H1 l R1
  cases e
  refine ⟨fun i x hx => ?_, ⟨vs, hs, by rw [r.length]; exact Nat.le_refl _⟩⟩
  obtain ⟨v, hv, rv⟩ := Paired.get r hx
  refine ⟨⟨vs, v, hs, hv⟩, fun w H2 y => ?_⟩
  obtain ⟨e1, e2⟩ := y
  subst e1
  have := e2 vs hs
  rw [hv] at this; cases this
  exact ⟨M1, Ext.refl _ _, R1, rv⟩
theorem walks_str {L : Mp → Hp → Mp → Hp → Prop} (x : Str) : Walks Y L M H (Its x) (x.cps.toList.map fun c => .str ⟨#[c]⟩) := fun M1 st1 H1 l R1 => by
  refine ⟨fun i y hy => ?_, by simp [Its]⟩
  rw [List.getElem?_map] at hy
  cases e : x.cps.toList[i]? with
  | none => rw [e] at hy; cases hy
  | some c =>
    rw [e] at hy
    cases hy
    have hi : i < x.cps.size := by
      have := (List.getElem?_eq_some_iff.mp e).1
      simpa using this
    refine ⟨hi, fun w H2 y => ?_⟩
    obtain ⟨e1, d, e2, e3⟩ := y
    subst e1 e3
    have : x.cps[i]? = some c := by rw [← Array.getElem?_toList]; exact e
    rw [this] at e2; cases e2
    exact ⟨M1, Ext.refl _ _, R1, rfl⟩
theorem walks_rng {L : Mp → Hp → Mp → Hp → Prop} (lo : Int) (n : Nat) : Walks Y L M H (Itr lo n) (rangeT lo n) := fun M1 st1 H1 l R1 => by
  unfold rangeT
  refine ⟨fun i y hy => ?_, by simp [Itr]⟩
  rw [List.getElem?_map] at hy
  cases e : (List.range n)[i]? with
  | none => rw [e] at hy; cases hy
  | some c =>
    rw [e] at hy
    cases hy
    obtain ⟨hi, e2⟩ := List.getElem?_eq_some_iff.mp e
    rw [List.getElem_range] at e2
    subst e2
    refine ⟨by simpa [Itr] using hi, fun w H2 y => ?_⟩
    obtain ⟨e1, e2⟩ := y
    subst e1 e2
    exact ⟨M1, Ext.refl _ _, R1, rfl⟩
theorem enumT_get : ∀ (xs : List T) (k i : Nat), (enumT k xs)[i]? = (xs[i]?).map fun x => T.tup [.int ((k + i : Nat) : Int), x]
  | [], _, _ => by simp [enumT]
  | x :: xs, k, 0 => by simp [enumT]
  | x :: xs, k, i + 1 => by
    show (enumT (k + 1) xs)[i]? = _
    rw [enumT_get xs (k + 1) i]
    simp [Nat.add_assoc, Nat.add_comm 1 i]
theorem enumT_len : ∀ (xs : List T) (k : Nat), (enumT k xs).length = xs.length
  | [], _ => rfl
  | x :: xs, k => congrArg (· + 1) (enumT_len xs (k + 1))
theorem walks_enum {L : Mp → Hp → Mp → Hp → Prop} {xs : List T} {a : Addr} (h : SeeL Y L M H (.ref a) (.lst xs)) : Walks Y L M H (Ite Y.K a) (enumT 0 xs) := fun M1 st1 H1 l R1 => by
  obtain ⟨a', vs, e, hs, r⟩ := h M1 st1 H1 l R1
  cases e
  refine ⟨fun i x hx => ?_, ⟨vs, hs, by rw [r.length, enumT_len]; exact Nat.le_refl _⟩⟩
  rw [enumT_get] at hx
  cases e : xs[i]? with
  | none => rw [e] at hx; cases hx
  | some x0 =>
    rw [e] at hx
    cases hx
    obtain ⟨v, hv, rv⟩ := Paired.get r e
    refine ⟨⟨vs, v, hs, hv⟩, fun w H2 y => ?_⟩
    obtain ⟨p, x2, e1, hp, e2, e3⟩ := y
    subst e1 e2
    have := e3 vs hs
    rw [hv] at this; cases this
    obtain ⟨R2, E2⟩ := R1.new (t := .tup [.int ((0 + i : Nat) : Int), x0]) hp (.tup [.int (i : Nat), v]) ⟨_, upd_same, .cons (by rw [Nat.zero_add]; rfl) (.cons rv .nil)⟩
    exact ⟨_, E2, R2, p, rfl, .inl updM_same⟩
theorem zipT_get : ∀ (xs ys : List T) (i : Nat), (zipT xs ys)[i]? = (match xs[i]?, ys[i]? with
    | some x, some y => some (T.tup [x, y])
    | _, _ => none)
  | [], _, _ => by simp [zipT]
  | x :: xs, [], i => by
    simp [zipT]
  | x :: xs, y :: ys, 0 => by simp [zipT]
  | x :: xs, y :: ys, i + 1 => by
    show (zipT xs ys)[i]? = _
    rw [zipT_get xs ys i]
    simp
theorem zipT_len : ∀ (xs ys : List T), xs.length = ys.length → (zipT xs ys).length = xs.length
  | [], [], _ => rfl
  | x :: xs, y :: ys, h => congrArg (· + 1) (zipT_len xs ys (Nat.succ.inj h))
theorem walks_zip {L : Mp → Hp → Mp → Hp → Prop} {xs ys : List T} {a b : Addr} (hl : xs.length = ys.length) (h : SeeL Y L M H (.ref a) (.lst xs)) (h2 : SeeL Y L M H (.ref b) (.lst ys)) : Walks Y L M H (Itz Y.K a b) (zipT xs ys) := fun M1 st1 H1 l R1 => by
  obtain ⟨a', vs, e, hs, r⟩ := h M1 st1 H1 l R1
  cases e
  obtain ⟨b', us, e, hs2, r2⟩ := h2 M1 st1 H1 l R1
  cases e
  refine ⟨fun i x hx => ?_, ⟨vs, us, hs, hs2, .inl (by rw [r.length, zipT_len xs ys hl]; exact Nat.le_refl _)⟩⟩
  rw [zipT_get] at hx
  cases e : xs[i]? with
  | none => rw [e] at hx; cases hx
  | some x0 =>
    cases e2 : ys[i]? with
    | none => rw [e, e2] at hx; cases hx
    | some y0 =>
      rw [e, e2] at hx
      cases hx
      obtain ⟨v, hv, rv⟩ := Paired.get r e
      obtain ⟨u, hu, ru⟩ := Paired.get r2 e2
      refine ⟨⟨vs, us, v, u, hs, hs2, hv, hu⟩, fun w H2 y => ?_⟩
      obtain ⟨p, x2, y2, e1, hp, e2, e3, e4⟩ := y
      subst e1 e2
      have := e3 vs hs
      rw [hv] at this; cases this
      have := e4 us hs2
      rw [hu] at this; cases this
      obtain ⟨R2, E2⟩ := R1.new (t := .tup [x0, y0]) hp (.tup [v, u]) ⟨_, upd_same, .cons rv (.cons ru .nil)⟩
      exact ⟨_, E2, R2, p, rfl, .inl updM_same⟩

theorem ni_any (hK : ∀ X, C X → X.K = Y.K) (A : NE C Y E a (ev na)) : NI C Y E q tg a (evI q (.cons na .nil)) := by
  obtain ⟨ta, pa, ha⟩ := A
  refine ⟨_, fun X hX => pi_anyY (hK X hX) (pa X hX), fun M st H H₀ σ env R Rl r0 P => ha M st H H₀ σ env _ Rl r0 ?_⟩
  unfold evI at P
  refine (PostO.bind.mp P).imp (Ext.refl _ _) fun ra st1 P v M1 H1 e1 R1 rr => ?_
  obtain ⟨xs, hx, P⟩ := PostO.of P
  cases hv : viewQ q env st1 ra with
  | none => rw [hv] at hx; cases hx
  | some t =>
    rw [hv] at hx
    obtain ⟨M2, R2, s2, e2, _⟩ := RepR.seeL R1 (r0.ext e1) rr hv
    have e2 := e2 M H e1 fun _ z => z
    have hx : itemsOf t = some xs := hx
    have see := s2 M2 st1 H1 (LL.of_ext (Ext.refl _ _)) R2
    unfold itemsOf at hx
    split at hx
    · cases hx
      obtain ⟨l, vs, rfl, hs, _⟩ := id see
      exact .inl ⟨l, rfl, ⟨vs, hs⟩, P _ M2 H1 e2 R2 (walks_see s2)⟩
    · cases hx
      obtain ⟨l, vs, rfl, hs, _⟩ := id see
      exact .inr (.inl ⟨l, rfl, ⟨vs, hs⟩, P _ M2 H1 e2 R2 (walks_seeT s2)⟩)
    · cases hx
      cases see
      exact .inr (.inr ⟨_, rfl, P _ M2 H1 e2 R2 (walks_str _)⟩)
    · cases hx
theorem ni_rng1 (hp : ∀ X, C X → ∀ {ta}, PE X a ta → PI X tg e (iRng1 (tCons ta tNil))) (A : NE C Y E a (ev na)) : NI C Y E q tg e (evI q (.rng1 na)) := by
  obtain ⟨ta, pa, ha⟩ := A
  refine ⟨_, fun X hX => hp X hX (pa X hX), fun M st H H₀ σ env R Rl r0 P => ha M st H H₀ σ env _ Rl r0 ?_⟩
  unfold evI at P
  refine (PostO.bind.mp P).imp (Ext.refl _ _) fun ra st1 P v M1 H1 e1 R1 rr => ?_
  split at P
  · rename_i n
    split at P
    · rename_i hb
      rw [Bool.and_eq_true] at hb
      exact ⟨n, by rw [show v = .int n from rr], of_decide_eq_true hb.1, of_decide_eq_true hb.2, P _ M1 H1 e1 R1 (walks_rng 0 n.toNat)⟩
    · exact False.elim P
  · exact False.elim P
theorem ni_rng2 (hp : ∀ X, C X → ∀ {ta tb}, PE X a ta → PE X b tb → PI X tg e (iRng2 (tCons ta (tCons tb tNil)))) (A : NE C Y E a (ev na)) (B : NE C Y E b (ev nb)) : NI C Y E q tg e (evI q (.rng2 na nb)) := by
  obtain ⟨ta, pa, ha⟩ := A
  obtain ⟨tb, pb, hb⟩ := B
  refine ⟨_, fun X hX => hp X hX (pa X hX) (pb X hX), fun M st H H₀ σ env R Rl r0 P => ha M st H H₀ σ env _ Rl r0 ?_⟩
  unfold evI at P
  refine (PostO.bind.mp P).imp (Ext.refl _ _) fun ra st1 P v M1 H1 e1 R1 rr => ?_
  refine hb M1 st1 H1 H₀ σ env _ R1 (r0.ext e1) ?_
  refine (PostO.bind.mp P).imp e1 fun rb st2 P u M2 H2 e2 R2 rr2 => ?_
  split at P
  · split at P
    · rename_i hb
      simp only [Bool.and_eq_true, decide_eq_true_eq] at hb
      cases (show v = .int _ from rr)
      cases (show u = .int _ from rr2)
      exact ⟨_, _, rfl, ⟨hb.1.1.1, hb.1.1.2, hb.1.2, hb.2⟩, P _ M2 H2 (e1.trans e2) R2 (walks_rng _ _)⟩
    · exact False.elim P
  · exact False.elim P
theorem ni_enum (hp : ∀ X, C X → ∀ {ta}, PE X a ta → PI X tg e (iEnum Y.K (tCons ta tNil))) (A : NE C Y E a (ev na)) : NI C Y E q tg e (evI q (.enm na)) := by
  obtain ⟨ta, pa, ha⟩ := A
  refine ⟨_, fun X hX => hp X hX (pa X hX), fun M st H H₀ σ env R Rl r0 P => ha M st H H₀ σ env _ Rl r0 ?_⟩
  unfold evI at P
  refine (PostO.bind.mp P).imp (Ext.refl _ _) fun ra st1 P v M1 H1 e1 R1 rr => ?_
  obtain ⟨xs, hx, P⟩ := PostO.of P
  cases hv : viewQ q env st1 ra with
  | none => rw [hv] at hx; cases hx
  | some t =>
    rw [hv] at hx
    obtain ⟨M2, R2, s2, e2, _⟩ := RepR.seeL R1 (r0.ext e1) rr hv
    have e2 := e2 M H e1 fun _ z => z
    have see := s2 M2 st1 H1 (LL.of_ext (Ext.refl _ _)) R2
    cases t with
    | lst ts =>
      cases hx
      obtain ⟨l, vs, rfl, hs, _⟩ := id see
      exact ⟨l, vs, rfl, hs, P _ M2 H1 e2 R2 (walks_enum s2)⟩
    | _ => cases hx
theorem ni_zip (hp : ∀ X, C X → ∀ {ta tb}, PE X a ta → PE X b tb → PI X tg e (iZip Y.K (tCons ta (tCons tb tNil)))) (A : NE C Y E a (ev na)) (B : NE C Y E b (ev nb)) : NI C Y E q tg e (evI q (.zp na nb)) := by
  obtain ⟨ta, pa, ha⟩ := A
  obtain ⟨tb, pb, hb⟩ := B
  refine ⟨_, fun X hX => hp X hX (pa X hX) (pb X hX), fun M st H H₀ σ env R Rl r0 P => ha M st H H₀ σ env _ Rl r0 ?_⟩
  unfold evI at P
  refine (PostO.bind.mp P).imp (Ext.refl _ _) fun ra st1 P v M1 H1 e1 R1 rr => ?_
  refine hb M1 st1 H1 H₀ σ env _ R1 (r0.ext e1) ?_
  refine (PostO.bind.mp P).imp e1 fun rb st2 P u M2 H2 e2 R2 rr2 => ?_
  obtain ⟨xs, hx, P⟩ := PostO.of P
  cases hv0 : viewS q env st2 ra with
  | none => rw [hv0] at hx; cases hx
  | some t =>
    cases hv2 : viewQ q env st2 rb with
    | none => rw [hv0, hv2] at hx; cases hx
    | some t2 =>
      rw [hv0, hv2] at hx
      obtain ⟨M4, R4, s4, e4, k4, m4⟩ := RepR.seeL R2 ((r0.ext e1).ext e2) rr2 hv2
      have e4' := e4 M H (e1.trans e2) fun x hx => e1.free hx
      have s3 : SeeL Y (LL q) M4 H2 v t := by
        cases ra with
        | fresh c => cases hv0
        | val t' =>
          have r3 : RepV Y M4 v t' := RepV.mono k4 (RepV.mono e2.keep rr)
          have ht : t' = t := by cases q <;> exact Option.some.inj hv0
          subst ht
          exact RepV.seeL r3
        | «at» pl =>
          cases q with
          | false => cases pl <;> cases hv0
          | true =>
            cases pl with
            | fld _ _ => cases hv0
            | slot i =>
              intro M5 st5 H5 l R5
              have l : Ext M4 H2 M5 H5 := l
              have hv0 : (match env[i]? with
                | some (some (.own c)) => some c.tree
                | _ => none) = some t := hv0
              split at hv0
              · rename_i c hc
                cases hv0
                obtain ⟨w, h1, a, e5, h3, h4⟩ := (r0.ext e1).at' i _ hc
                have rr : σ[i]? = some (some v) := rr
                rw [rr] at h1; cases h1
                subst e5
                obtain ⟨f1, f2, _⟩ := h4 a (by simp [foot])
                obtain ⟨g1, g2⟩ := e2.frame a f1 f2
                have g3 : M4 a = none := (m4 a f2).trans g2
                have g4 : H2 a ≠ none := by rw [g1]; exact f2
                have h5 : OwnC Y M5 H5 a c := (h3.mono (H' := H2) (M' := M2) e2.keep g1).mono (fun b k e => l.keep b k (k4 b k e)) (l.frame a g3 g4).1
                exact h5.see
              · cases hv0
      have see := s3 M4 st2 H2 (LL.of_ext (Ext.refl _ _)) R4
      have see2 := s4 M4 st2 H2 (LL.of_ext (Ext.refl _ _)) R4
      cases t with
      | lst xs' =>
        cases t2 with
        | lst ys' =>
          have hx : (if xs'.length = ys'.length then some (zipT xs' ys') else none) = some xs := hx
          split at hx
          · rename_i hl
            cases hx
            obtain ⟨l, vs, rfl, hs, _⟩ := id see
            obtain ⟨l2, us, rfl, hs2, _⟩ := id see2
            exact ⟨l, l2, vs, us, rfl, hs, hs2, P _ M4 H2 e4' R4 (walks_zip hl s3 s4)⟩
          · cases hx
        | _ => cases hx
      | _ => cases hx
end
end NN

set_option Elab.async false
set_option linter.all false
set_option maxRecDepth 100000
set_option maxHeartbeats 4000000
namespace NN
open PySem PySem.Spec PyProof.Rows L2

def noSet : Expr → Bool
  | .Set _ _ _ => false
  | _ => true
theorem folded_no {e : Expr} {env : PySem.Env} (h : noSet e = true) : ∀ x, foldedSetIterable e env x = pure x := by
  intro x
  cases e <;> first
    | rfl
    | cases h
def XE0 : XK := fun _ _ _ => False
def Blk (C : Cx → Prop) (scope : Scope) : Cx → Prop := fun X' => ∃ (X : Cx) (s : Shared) (H : Hp) (D : Addr) (cl : List (Str × Addr)) (fp : List Addr), C X ∧ X' = X.blk s H scope (compEnvC scope cl D X.env) fp
def NTs (C : Cx → Prop) (Y : Gx) (E : XK) (es : List Expr) (f : Env → Sto → Oc Bool) : Prop :=
  ∃ t : TT, (∀ X, C X → PTs X es t) ∧ ∀ (M : Mp) (st : Sto) (H H₀ : Hp) (σ : L2.St) (env : Env) (Q : Bool → Hp → Prop), Rel Y M st H → EnvRel Y H₀ M H σ env → PostO Y E M H (f env st) (KB Y M H Q) → t σ H Q
section
variable {C : Cx → Prop} {Y : Gx} {E : XK} {e : Expr} {M : Mp} {H : Hp}
theorem nts_nil : NTs C Y E [] (evc .nil) := ⟨_, fun X hX => pts_nil, fun M st H H₀ σ env Q R r0 P => P M H (Ext.refl _ _) R⟩
theorem nts_one {f : Env → Sto → Oc Bool} (A : NB C Y E e f) : NTs C Y E [e] f := let ⟨t, p, h⟩ := A; ⟨t, fun X hX => pts_one (p X hX), h⟩
theorem PostO.nox {α : Type} {o : Oc α} {k : α → Sto → Prop} {E' : XK} (P : PostO Y E M H o.nox k) : PostO Y E' M H o k := by
  cases o with
  | ok a st => exact P
  | exc x st => exact False.elim P
  | bad => exact P
abbrev RdI (Y : Gx) (E : XK) (f : Env → Sto → Oc (List T)) (wi : TI) : Prop := ∀ (M : Mp) (st : Sto) (H H₀ : Hp) (σ : L2.St) (env : Env) (R : It → Hp → Prop), Rel Y M st H → EnvRel Y H₀ M H σ env →
    PostO Y E M H (f env st) (fun xs st' => ∀ J M' H', Ext M H M' H' → Rel Y M' st' H' → Walks Y (LL true) M' H' J xs → R J H') → wi σ H R
abbrev RdG (Y : Gx) (tg : Tg) (g : TG) : Prop := ∀ (M : Mp) (st : Sto) (H H₀ : Hp) (σ : L2.St) (env env' : Env) (v : V) (t : T) (Q : L2.St → Hp → Prop), Rel Y M st H → EnvRel Y H₀ M H σ env → RepV Y M v t → bindTg env tg t = some env' →
    (∀ σ', EnvRel Y H₀ M H σ' env' → (∀ vs : List Nat, (∀ i ∈ tg.slots, i ∈ vs) → L2.wipe σ' vs = L2.wipe σ vs) → Q σ' H) → g v σ H Q
abbrev RdB (Y : Gx) (E : XK) (f : Env → Sto → Oc Bool) (t : TT) : Prop := ∀ (M : Mp) (st : Sto) (H H₀ : Hp) (σ : L2.St) (env : Env) (Q : Bool → Hp → Prop), Rel Y M st H → EnvRel Y H₀ M H σ env → PostO Y E M H (f env st) (KB Y M H Q) → t σ H Q
abbrev RdT (Y : Gx) (E : XK) (f : Env → Sto → Oc T) (t : TE) : Prop := ∀ (M : Mp) (st : Sto) (H H₀ : Hp) (σ : L2.St) (env : Env) (Q : VK), Rel Y M st H → EnvRel Y H₀ M H σ env → PostO Y E M H (f env st) (KT Y M H Q) → t σ H Q
theorem lc_rd {tgN : Tg} {it c en : N} {vs : List Nat} {wi : TI} {g : TG} {tt : TT} {te : TE} (hi : RdI Y E (evI true it) wi) (hg : RdG Y tgN g) (ht : RdB Y XE0 (evc c) tt) (he : RdT Y XE0 (fun env st => tr (ev en env st)) te) (hsl : ∀ i ∈ tgN.slots, i ∈ vs) :
    Rd1 Y E (.comp tgN vs it c en) (tLc wi g tt te vs) := by
  intro M st H H₀ σ env Q R r0 P
  refine hi M st H H₀ σ env _ R r0 ?_
  unfold ev at P
  refine (PostO.bind.mp P).imp (Ext.refl _ _) fun xs st1 P J M1 H1 e1 R1 W1 D hD => ?_
  have P := PostO.bind.mp P
  -- the loop's state: what is known, the list made so far
  refine ⟨fun i m H' => m = xs.length - i ∧ i ≤ xs.length ∧ ∃ (M' : Mp) (st' : Sto) (acc : List T) (vacc : List V), Ext M1 H1 M' H' ∧ Rel Y M' st' H' ∧ M' D = none ∧ H' D = some (.lst vacc) ∧ RepVs Y M' vacc acc ∧
    PostO Y E M H (loopC (stepC env vs tgN (evc c) (ev en)) (xs.drop i) acc st') (fun ys st2 => KE Y M H σ Q (.fresh (.lst ys)) st2), ⟨xs.length, rfl, Nat.zero_le _, M1, st1, [], [], ?_⟩, ?_⟩
  · obtain ⟨R2, E2⟩ := R1.lay hD (.lst [])
    exact ⟨E2, R2, R1.nom hD, upd_same, .nil, P⟩
  rintro i m H' ⟨rfl, hi, M', st', acc, vacc, E', R', mD, hHD, racc, P⟩
  obtain ⟨w1, w2⟩ := W1 M' st' H' E' R'
  by_cases hlt : i < xs.length
  · obtain ⟨hgo, hy⟩ := w1 i xs[i] (by simp [hlt])
    refine .inr ⟨hgo, fun H2 => ∃ (M' : Mp) (st' : Sto) (acc : List T) (vacc : List V), Ext M1 H1 M' H2 ∧ Rel Y M' st' H2 ∧ M' D = none ∧ H2 D = some (.lst vacc) ∧ RepVs Y M' vacc acc ∧
      PostO Y E M H (loopC (stepC env vs tgN (evc c) (ev en)) (xs.drop (i + 1)) acc st') (fun ys st2 => KE Y M H σ Q (.fresh (.lst ys)) st2), fun H2 h2 => ⟨xs.length - (i + 1), by omega, rfl, hlt, h2⟩, fun v H2 y => ?_⟩
    obtain ⟨M2, E2, R2, rv⟩ := hy v H2 y
    have keepD : ∀ {M3 : Mp} {H3 : Hp}, Ext M' H' M3 H3 → M3 D = none ∧ H3 D = some (.lst vacc) := fun {M3 H3} e => by
      obtain ⟨a, b⟩ := e.frame D mD (by rw [hHD]; simp)
      exact ⟨b, a.trans hHD⟩
    rw [List.drop_eq_getElem_cons hlt] at P
    have P : PostO Y E M H ((stepC env vs tgN (evc c) (ev en) xs[i] st').bind _) _ := P
    have P := PostO.bind.mp P
    unfold stepC at P
    have env2 : EnvRel Y H₀ M2 H2 (L2.wipe σ vs) (wipeE env vs) := ((r0.ext e1).ext (E'.trans E2)).wipe _
    cases hb : bindTg (wipeE env vs) tgN xs[i] with
    | none => simp only [hb] at P; exact False.elim P
    | some env1 =>
      simp only [hb] at P
      refine hg M2 st' H2 H₀ _ _ env1 v xs[i] _ R2 env2 rv hb fun σ' r1 hw => ⟨(hw _ hsl).trans wipe_wipe, ?_⟩
      refine ht M2 st' H2 H₀ σ' env1 _ R2 r1 ?_
      have P2 := PostO.bind.mp (PostO.nox (E' := XE0) P)
      refine (P2.imp (e1.trans (E'.trans E2)) fun b st3 P3 => ?_)
      intro M3 H3 e3 R3
      obtain ⟨k1, k2⟩ := keepD (E2.trans e3)
      have r3 := r1.ext e3
      cases b with
      | false =>
        refine iteF ⟨M3, st3, acc, vacc, E'.trans (E2.trans e3), R3, k1, k2, racc.mono (E2.trans e3).keep, ?_⟩
        exact P3
      | true =>
        refine iteT (he M3 st3 H3 H₀ σ' env1 _ R3 r3 ?_)
        have P3 : PostO Y XE0 M H ((tr (ev en env1 st3)).bind fun y st2 => .ok (some y) st2) _ := P3
        refine (PostO.bind.mp P3).imp (e1.trans (E'.trans (E2.trans e3))) fun y st4 P4 u M4 H4 e4 R4 ru => ?_
        obtain ⟨k3, k4⟩ := keepD ((E2.trans e3).trans e4)
        have P4 : PostO Y E M H (if acc.length < LIM then loopC _ (xs.drop (i + 1)) (acc ++ [y]) st4 else .bad) _ := P4
        split at P4
        · rename_i hz
          have hD1 : H1 D = none := hD
          have E4 : Ext M1 H1 M4 H4 := (E'.trans (E2.trans e3)).trans e4
          refine ⟨vacc, k4, ?_, M4, st4, acc ++ [y], vacc ++ [u], E4.poke hD1 _, R4.poke k3 _, k3, upd_same, Paired.app (racc.mono ((E2.trans e3).trans e4).keep) (.cons ru .nil), P4⟩
          rw [racc.length, ← line_lim]; exact hz
        · exact False.elim P4
  · have e : i = xs.length := by omega
    subst e
    rw [List.drop_length] at P
    exact .inl ⟨w2, (show KE Y M H σ Q (.fresh (.lst acc)) st' from P) _ M' H' (e1.trans E') R' ⟨D, rfl, e1.free hD, mD, vacc, hHD, racc⟩⟩
theorem ne_comp {tg iter elt : Expr} {ifs : List Expr} {scope : Scope} {pos : Pos} {own : List (Str × Nat)} {tgN : Tg} {it c en : N} (hc : ∀ X, C X → X.calm = true) (hN : ∀ X, C X → X.N.Nodup) (ok : ∀ X, C X → BlkOk X.N X.env.scope scope own) (hno : noSet iter = true)
    (I : NI C Y E true tg iter (evI true it)) (Gt : NG (Blk C scope) Y tg tgN) (Ts : NTs (Blk C scope) Y XE0 ifs (evc c)) (El : NE (Blk C scope) Y XE0 elt (ev en)) (hsl : ∀ i ∈ tgN.slots, i ∈ own.map (·.2)) :
    NE C Y E (.ListComp elt [⟨tg, iter, ifs, 0⟩] scope pos) (ev (.comp tgN (own.map (·.2)) it c en)) := by
  obtain ⟨wi, pi, hi⟩ := I
  obtain ⟨g, pg, hg⟩ := Gt
  obtain ⟨tt, pt, ht⟩ := Ts
  obtain ⟨te, pe, he⟩ := El.nt
  exact ⟨_, fun X hX => pe_lc (hc X hX) (hN X hX) (pi X hX) (ok X hX) (fun s H D cl fp => pg _ ⟨X, s, H, D, cl, fp, hX, rfl⟩) (fun s H D cl fp => pt _ ⟨X, s, H, D, cl, fp, hX, rfl⟩) (fun s H D cl fp => pe _ ⟨X, s, H, D, cl, fp, hX, rfl⟩) (folded_no hno),
    lc_rd hi hg ht he hsl⟩
end
end NN

set_option Elab.async false
set_option linter.all false
set_option maxRecDepth 100000
set_option maxHeartbeats 4000000
namespace NN
open PySem PySem.Spec PyProof.Rows L2

theorem ex_seq {a b : N} {env : Env} {st : Sto} : ex (.seq a b) env st = (ex a env st).bind fun r st1 => match r with
      | .nx env1 => ex b env1 st1
      | r => .ok r st1 := by
  (conv => lhs; unfold ex)
  try rfl
theorem ex_frz {i : Nat} {env : Env} {st : Sto} : ex (.frz i) env st = match env[i]? with
      | some (some (.own c)) => .ok (.nx (env.set i (some (.val c.tree)))) st
      | some (some (.val t)) => .ok (.nx env) st
      | _ => .bad := by
  (conv => lhs; unfold ex)
  try rfl
def KS (Y : Gx) (M₀ : Mp) (H₀ : Hp) (M : Mp) (D : Ends) : SR → Sto → Prop := fun r st => match r with
  | .nx env' => ∀ σ' M' H', Ext M₀ H₀ M' H' → Kp M H₀ M' H' → Rel Y M' st H' → EnvRel Y H₀ M' H' σ' env' → D.nx σ' H'
  | .bk env' => ∀ σ' M' H', Ext M₀ H₀ M' H' → Kp M H₀ M' H' → Rel Y M' st H' → EnvRel Y H₀ M' H' σ' env' → D.bk σ' H'
  | .ct env' => ∀ σ' M' H', Ext M₀ H₀ M' H' → Kp M H₀ M' H' → Rel Y M' st H' → EnvRel Y H₀ M' H' σ' env' → D.ct σ' H'
  | .rt rv => ∀ v M' H', Ext M₀ H₀ M' H' → Rel Y M' st H' → RepR Y H₀ M' H' [] v rv → D.rt v H'
abbrev RdS (Y : Gx) (E : XK) (f : Env → Sto → Oc SR) (t : TS) : Prop := ∀ (M₀ : Mp) (H₀ : Hp) (M : Mp) (st : Sto) (H : Hp) (σ : L2.St) (env : Env) (D : Ends), Ext M₀ H₀ M H → Rel Y M st H → EnvRel Y H₀ M H σ env →
    PostO Y E M₀ H₀ (f env st) (KS Y M₀ H₀ M D) → t D σ H
def NS (C : Cx → Prop) (Y : Gx) (E : XK) (s : Stmt) (f : Env → Sto → Oc SR) : Prop := ∃ t : TS, (∀ X, C X → PS X s t) ∧ RdS Y E f t
def NSs (C : Cx → Prop) (Y : Gx) (E : XK) (s : List Stmt) (f : Env → Sto → Oc SR) : Prop := ∃ t : TS, (∀ X, C X → PSs X s t) ∧ RdS Y E f t

theorem KS.mono {Y : Gx} {M₀ M M1 : Mp} {H₀ H H1 : Hp} {D : Ends} {r : SR} {st : Sto} (h : KS Y M₀ H₀ M D r st) (k : Kp M H M1 H1) : KS Y M₀ H₀ M1 D r st := by
  cases r with
  | nx env => exact fun σ' M' H' e k2 R r => h σ' M' H' e (fun a x q => k2 a x (k a x q)) R r
  | bk env => exact fun σ' M' H' e k2 R r => h σ' M' H' e (fun a x q => k2 a x (k a x q)) R r
  | ct env => exact fun σ' M' H' e k2 R r => h σ' M' H' e (fun a x q => k2 a x (k a x q)) R r
  | rt rv => exact h
section
variable {C : Cx → Prop} {Y : Gx} {E : XK} {e a b c : Expr} {s : Stmt} {ss rest : List Stmt} {f g : Env → Sto → Oc SR} {pos : Pos} {na nb nc : N}
theorem nss_nil : NSs C Y E [] (ex .nil) := ⟨_, fun X _ => pss_nil, fun M₀ H₀ M st H σ env D e R r P => P σ M H e (fun _ _ h => h) R r⟩
theorem nss_cons {na nb : N} (A : NS C Y E s (ex na)) (B : NSs C Y E rest (ex nb)) : NSs C Y E (s :: rest) (ex (.seq na nb)) := by
  obtain ⟨ta, pa, ha⟩ := A
  obtain ⟨tb, pb, hb⟩ := B
  refine ⟨_, fun X hX => pss_cons (pa X hX) (pb X hX), fun M₀ H₀ M st H σ env D e R r P => ha M₀ H₀ M st H σ env _ e R r ?_⟩
  rw [ex_seq] at P
  refine (PostO.bind.mp P).imp (Ext.refl _ _) fun q st1 P => ?_
  cases q with
  | nx env1 => exact fun σ' M' H' e' k' R' r' => hb M₀ H₀ M' st1 H' σ' env1 D e' R' r' (PostO.imp (show PostO Y E M₀ H₀ (ex nb env1 st1) _ from P) (Ext.refl _ _) fun _ _ q => q.mono (H := H) (H1 := H') k')
  | bk env1 => exact P
  | ct env1 => exact P
  | rt rv => exact P
theorem nss_frz {i : Nat} {nb : N} (B : NSs C Y E rest (ex nb)) : NSs C Y E rest (ex (.seq (.frz i) nb)) := by
  obtain ⟨tb, pb, hb⟩ := B
  refine ⟨tb, pb, fun M₀ H₀ M st H σ env D e R r P => ?_⟩
  rw [ex_seq, ex_frz] at P
  have P := PostO.bind.mp P
  split at P
  · rename_i c hc
    have P : PostO Y E M₀ H₀ (ex nb (env.set i (some (.val c.tree))) st) (KS Y M₀ H₀ M D) := P
    obtain ⟨v, e1, a, e2, h1, h2⟩ := r.at' i _ hc
    obtain ⟨f1, f2, f3⟩ := h2 a (by simp [foot])
    subst e2
    refine hb M₀ H₀ (updM M a (.fz c.tree)) st H σ _ D (e.fz f1 f3) (R.freeze f1 f2 h1.fz) ?_ (P.imp (Ext.refl _ _) fun _ _ q => q.mono (H := H) (H1 := H) (updM_keep f1))
    -- the slots behind it
    have hi : i < env.length := (List.getElem?_eq_some_iff.mp hc).1
    have slot : ∀ (j : Nat) (s : Slot), (env.set i (some (.val c.tree)))[j]? = some (some s) → (j = i ∧ s = .val c.tree) ∨ (j ≠ i ∧ env[j]? = some (some s)) := by
      intro j s q
      rw [getElem?_set_ite] at q
      by_cases hj : i = j
      · rw [if_pos hj] at q
        split at q
        · cases q; exact .inl ⟨hj.symm, rfl⟩
        · cases q
      · rw [if_neg hj] at q; exact .inr ⟨fun z => hj z.symm, q⟩
    refine ⟨by simpa using r.len, fun j s q => ?_, fun j k a' b' c1 c2 x q1 q2 q3 q4 m1 m2 => ?_⟩
    · rcases slot j s q with ⟨rfl, rfl⟩ | ⟨hj, q⟩
      · refine ⟨_, e1, ?_⟩
        cases c with
        | lst ts => exact ⟨a, rfl, .inl updM_same⟩
        | dic _ _ _ => exact ⟨a, rfl, updM_same⟩
      · obtain ⟨w, e3, h3⟩ := r.at' j s q
        refine ⟨w, e3, ?_⟩
        cases s with
        | val t => exact RepV.mono (updM_keep f1) h3
        | own c' =>
          obtain ⟨a', e4, h4, h5⟩ := h3
          subst e4
          refine ⟨a', rfl, h4.mono (updM_keep f1) rfl, fun x hx => ?_⟩
          obtain ⟨g1, g2, g3⟩ := h5 x hx
          refine ⟨?_, g2, g3⟩
          rw [updM_ne]
          · exact g1
          · rintro rfl
            exact hj (r.one j i a' x c' c x q hc e3 e1 hx (by simp [foot]))
    · rcases slot j _ q1 with ⟨_, z⟩ | ⟨_, q1⟩
      · cases z
      · rcases slot k _ q2 with ⟨_, z⟩ | ⟨_, q2⟩
        · cases z
        · exact r.one j k a' b' c1 c2 x q1 q2 q3 q4 m1 m2
  · exact hb M₀ H₀ M st H σ env D e R r P
  · exact False.elim P
theorem ns_pass : NS C Y E (.Pass pos) (ex .pass) := ⟨_, fun X _ => ps_pass, fun M₀ H₀ M st H σ env D e R r P => P σ M H e (fun _ _ h => h) R r⟩
theorem ns_brk : NS C Y E (.Break pos) (ex .brk) := ⟨_, fun X _ => ps_break, fun M₀ H₀ M st H σ env D e R r P => P σ M H e (fun _ _ h => h) R r⟩
theorem ns_cont : NS C Y E (.Continue pos) (ex .cont) := ⟨_, fun X _ => ps_continue, fun M₀ H₀ M st H σ env D e R r P => P σ M H e (fun _ _ h => h) R r⟩
theorem ns_nev : NS C Y E s (ex .nev) := ⟨_, fun X _ => ps_never, fun M₀ H₀ M st H σ env D e R r P => False.elim P⟩
theorem ns_doc {x j pos'} : NS C Y E (.Expr (.Constant (.str x) j pos') pos) (ex .pass) := ⟨_, fun X _ => ps_doc, fun M₀ H₀ M st H σ env D e R r P => P σ M H e (fun _ _ h => h) R r⟩
theorem ns_retN : NS C Y E (.Return none pos) (ex .retN) := ⟨_, fun X _ => ps_retN, fun M₀ H₀ M st H σ env D e R r P => P _ M H e R rfl⟩
def noComp : Expr → Bool
  | .ListComp _ _ _ _ => false
  | .SetComp _ _ _ _ => false
  | .DictComp _ _ _ _ _ => false
  | _ => true
theorem swaps_no {e : Expr} {tg : Option Expr} {l : Nat} {env : PySem.Env} (h : noComp e = true) : swapsWith e tg l env = pure false := by
  cases e <;> first
    | rfl
    | cases h
theorem ns_drop (hn : noComp e = true) (A : NE C Y E e (ev na)) : NS C Y E (.Expr e pos) (ex (.drop na)) := by
  obtain ⟨ta, pa, ha⟩ := A
  refine ⟨_, fun X hX => ps_expr (pa X hX) (swaps_no hn), fun M₀ H₀ M st H σ env D e0 R r P => ha M st H H₀ σ env _ R r ?_⟩
  unfold ex at P
  exact (PostO.bind.mp P).imp e0 fun rv st1 P v M1 H1 e1 R1 _ => P σ M1 H1 (e0.trans e1) e1.keep R1 (r.ext e1)
theorem ns_ret (A : NE C Y E e (ev na)) : NS C Y E (.Return (some e) pos) (ex (.ret na)) := by
  obtain ⟨ta, pa, ha⟩ := A
  refine ⟨_, fun X hX => ps_ret (pa X hX), fun M₀ H₀ M st H σ env D e0 R r P => ha M st H H₀ σ env _ R r ?_⟩
  unfold ex at P
  refine (PostO.bind.mp P).imp e0 fun rv st1 P v M1 H1 e1 R1 rr => ?_
  split at P
  · rename_i q hq
    refine (show KS Y M₀ H₀ M D (.rt q) st1 from P) v M1 H1 (e0.trans e1) R1 ?_
    cases rv with
    | val t => cases hq; exact rr
    | fresh c =>
      cases hq
      obtain ⟨a, h1, h2, h3, h4⟩ := rr
      exact ⟨a, h1, e0.free h2, h3, h4⟩
    | «at» p =>
      cases p with
      | fld _ _ => cases hq
      | slot i =>
        have hq : (match env[i]? with
          | some (some (.own c)) => some (RV.fresh c)
          | _ => none) = some q := hq
        split at hq
        · rename_i c hc
          cases hq
          obtain ⟨w, g1, a, g2, g3, g4⟩ := (r.ext e1).at' i _ hc
          obtain ⟨f1, f2, f3⟩ := g4 a (by simp [foot])
          have rr : σ[i]? = some (some v) := rr
          rw [rr] at g1; cases g1
          exact ⟨a, g2, f3, f1, g3⟩
        · cases hq
  · exact False.elim P

theorem slot_rd {M M1 : Mp} {H H1 H₀ : Hp} {σ : L2.St} {env : Env} {st : Sto} {v : V} {rv : RV} {s : Slot} {i : Nat} (R1 : Rel Y M1 st H1) (r : EnvRel Y H₀ M H σ env) (e1 : Ext M H M1 H1) (h0 : ∀ a, H a = none → H₀ a = none) (rr : RepR Y H M1 H1 σ v rv) (hs : slotOf env st rv = some s) :
    EnvRel Y H₀ M1 H1 (σ.set i (some v)) (env.set i (some s)) := by
  have r1 := r.ext e1
  cases rv with
  | val t => cases hs; exact r1.setV rr
  | fresh c =>
    cases hs
    obtain ⟨a, h1, h2, h3, h4⟩ := rr
    subst h1
    refine r1.set (s := .own c) ⟨a, rfl, h4, fun x hx => ?_⟩ fun c' a' q1 q2 j c2 b x hj q3 q4 m1 m2 => ?_
    · have : x = a := by simpa [foot] using hx
      subst this
      exact ⟨h3, h4.there, h0 x h2⟩
    · cases q1
      cases q2
      have : x = a := by simpa [foot] using m1
      subst this
      obtain ⟨w, g1, b', g2, g3, g4⟩ := r.at' j _ q3
      rw [q4] at g1; cases g1
      cases g2
      obtain ⟨_, f2, _⟩ := g4 x m2
      exact f2 h2
  | «at» p => cases hs
theorem ns_set {i : Nat} (hp : ∀ X, C X → ∀ {te}, PE X e te → PS X s (tAsg te (gName i))) (A : NE C Y E e (ev na)) : NS C Y E s (ex (.asg (.nm i) na)) := by
  obtain ⟨ta, pa, ha⟩ := A
  refine ⟨_, fun X hX => hp X hX (pa X hX), fun M₀ H₀ M st H σ env D e0 R r P => ha M st H H₀ σ env _ R r ?_⟩
  unfold ex at P
  refine (PostO.bind.mp P).imp e0 fun rv st1 P v M1 H1 e1 R1 rr => ?_
  split at P
  · rename_i sl hs
    exact (show KS Y M₀ H₀ M D (.nx (env.set i (some sl))) st1 from P) _ M1 H1 (e0.trans e1) e1.keep R1 (slot_rd R1 r e1 (fun a h => e0.free h) rr hs)
  · exact False.elim P
theorem ns_setC {i : Nat} {tg iter elt : Expr} {ifs : List Expr} {scope : Scope} {pos spos py : Pos} {y : Str} {own : List (Str × Nat)} {tgN : Tg} {it c en : N} (hc : ∀ X, C X → X.calm = true) (hN : ∀ X, C X → X.N.Nodup) (ok : ∀ X, C X → BlkOk X.N X.env.scope scope own) (hno : noSet iter = true)
    (hy : ∀ X, C X → X.N[i]? = some y ∧ X.env.scope.names.lookup y = some .local ∧ swapsWith (.ListComp elt [⟨tg, iter, ifs, 0⟩] scope pos) (some (.Name y py)) spos.line X.env = pure true)
    (I : NI C Y E true tg iter (evI true it)) (Gt : NG (Blk C scope) Y tg tgN) (Ts : NTs (Blk C scope) Y XE0 ifs (evc c)) (El : NE (Blk C scope) Y XE0 elt (ev en)) (hsl : ∀ i ∈ tgN.slots, i ∈ own.map (·.2)) :
    NS C Y E (.Assign [.Name y py] (.ListComp elt [⟨tg, iter, ifs, 0⟩] scope pos) spos) (ex (.asg (.nm i) (.comp tgN (own.map (·.2)) it c en))) := by
  obtain ⟨wi, pi, hi⟩ := I
  obtain ⟨g, pg, hg⟩ := Gt
  obtain ⟨tt, pt, ht⟩ := Ts
  obtain ⟨te, pe, he⟩ := El.nt
  refine ⟨_, fun X hX => ps_setLc (hc X hX) (hN X hX) (hy X hX).1 (hy X hX).2.1 (hy X hX).2.2 (pi X hX) (ok X hX) (fun s H D cl fp => pg _ ⟨X, s, H, D, cl, fp, hX, rfl⟩) (fun s H D cl fp => pt _ ⟨X, s, H, D, cl, fp, hX, rfl⟩) (fun s H D cl fp => pe _ ⟨X, s, H, D, cl, fp, hX, rfl⟩) (folded_no hno),
    fun M₀ H₀ M st H σ env D e0 R r P => lc_rd (en := en) hi hg ht he hsl M st H H₀ σ env _ R r ?_⟩
  unfold ex at P
  refine (PostO.bind.mp P).imp e0 fun rv st1 P v M1 H1 e1 R1 rr => ?_
  split at P
  · rename_i sl hs
    exact (show KS Y M₀ H₀ M D (.nx (env.set i (some sl))) st1 from P) _ M1 H1 (e0.trans e1) e1.keep R1 (slot_rd R1 r e1 (fun a h => e0.free h) rr hs)
  · exact False.elim P
theorem ns_unp {tg : Expr} {is : List Nat} (hs : noComp e = true) (hp : ∀ X, C X → ∀ {te g}, PE X e te → PG X tg g → PS X s (tAsg te g)) (A : NE C Y E e (ev na)) (Gt : NG C Y tg (.tp is)) : NS C Y E s (ex (.asg (.tp is) na)) := by
  obtain ⟨ta, pa, ha⟩ := A.nt
  obtain ⟨g, pg, hg⟩ := Gt
  refine ⟨_, fun X hX => hp X hX (pa X hX) (pg X hX), fun M₀ H₀ M st H σ env D e0 R r P => ha M st H H₀ σ env _ R r ?_⟩
  unfold ex at P
  refine (PostO.bind.mp P).imp e0 fun t st1 P v M1 H1 e1 R1 rr => ?_
  split at P
  · rename_i env1 hb
    exact hg M1 st1 H1 H₀ σ env env1 v t _ R1 (r.ext e1) rr hb fun σ' r' _ => (show KS Y M₀ H₀ M D (.nx env1) st1 from P) σ' M1 H1 (e0.trans e1) e1.keep R1 r'
  · exact False.elim P

theorem rset2 {M1 M2 : Mp} {H H1 H2 H₀ : Hp} {M : Mp} {σ : L2.St} {env : Env} {st2 : Sto} {v u : V} {ra rb : RV} {sa sb : Slot} {i j : Nat} (R : Rel Y M2 st2 H2) (r : EnvRel Y H₀ M H σ env) (e1 : Ext M H M1 H1) (e2 : Ext M1 H1 M2 H2) (h0 : ∀ a, H a = none → H₀ a = none)
    (rra : RepR Y H M1 H1 σ v ra) (rrb : RepR Y H1 M2 H2 σ u rb) (ha : slotOf env st2 ra = some sa) (hb : slotOf env st2 rb = some sb) : EnvRel Y H₀ M2 H2 ((σ.set i (some v)).set j (some u)) ((env.set i (some sa)).set j (some sb)) := by
  have q1 : EnvRel Y H₀ M2 H2 (σ.set i (some v)) (env.set i (some sa)) := slot_rd R r (e1.trans e2) h0 (rra.ext e2) ha
  cases rb with
  | val t => cases hb; exact q1.setV rrb
  | fresh c =>
    cases hb
    obtain ⟨a, h1, h2, h3, h4⟩ := rrb
    subst h1
    refine q1.set (s := .own c) ⟨a, rfl, h4, fun x hx => ?_⟩ fun c' a' q1' q2 k c2 b x hj q3 q4 m1 m2 => ?_
    · have : x = a := by simpa [foot] using hx
      subst this
      exact ⟨h3, h4.there, h0 x (e1.free h2)⟩
    · cases q1'
      cases q2
      have e5 : x = a := by simpa [foot] using m1
      have e6 : x = b := by simpa [foot] using m2
      subst e5; subst e6
      -- what the first slot owns was there before the second was made
      rw [getElem?_set_ite] at q3 q4
      by_cases hk : i = k
      · subst hk
        rw [if_pos rfl] at q3 q4
        split at q3
        · split at q4
          · cases q3
            cases q4
            cases ra with
            | val t => cases ha
            | «at» p => cases ha
            | fresh c3 =>
              cases ha
              obtain ⟨a3, g1, g2, g3, g4⟩ := rra
              cases g1
              exact g4.there h2
          · cases q4
        · cases q3
      · rw [if_neg hk] at q3 q4
        obtain ⟨w, g1, b', g2, g3, g4⟩ := r.at' k _ q3
        rw [q4] at g1; cases g1
        cases g2
        obtain ⟨_, f2, _⟩ := g4 x m2
        exact f2 (e1.free h2)
  | «at» p => cases hb
def Beh (H H3 : Hp) : Prop := H3 = H ∨ ∃ p xs, H p = none ∧ H3 = upd H p (.tup xs)
theorem beh_rd {M₀ M M2 : Mp} {H₀ H H2 H3 : Hp} {st2 : Sto} {σ' : L2.St} {env' : Env} {D : Ends} (b : Beh H2 H3) (e0 : Ext M₀ H₀ M H) (e : Ext M H M2 H2) (R2 : Rel Y M2 st2 H2) (fin : EnvRel Y H₀ M2 H2 σ' env') (P : KS Y M₀ H₀ M D (.nx env') st2) : D.nx σ' H3 := by
  rcases b with rfl | ⟨p, xs, hn, rfl⟩
  · exact P _ M2 H3 (e0.trans e) e.keep R2 fin
  · obtain ⟨R3, e3⟩ := R2.lay hn (.tup xs)
    exact P _ M2 _ (e0.trans (e.trans e3)) (e.trans e3).keep R3 (fin.ext e3)
theorem ns_set2 {i j : Nat} {t : TE → TE → TS} {fin : Ends → L2.St → V → V → Hp → Prop} (hp : ∀ X, C X → ∀ {ta tb}, PE X a ta → PE X b tb → PS X s (t ta tb)) (hq : ∀ ta tb D σ H, t ta tb D σ H = (ta σ H fun v H1 => tb σ H1 fun u H2 => fin D σ v u H2))
    (hf : ∀ D σ v u H, (∀ H3, Beh H H3 → D.nx ((σ.set i (some v)).set j (some u)) H3) → fin D σ v u H) (A : NE C Y E a (ev na)) (B : NE C Y E b (ev nb)) : NS C Y E s (ex (.set2 i j na nb)) := by
  obtain ⟨ta, pa, ha⟩ := A
  obtain ⟨tb, pb, hb⟩ := B
  refine ⟨_, fun X hX => hp X hX (pa X hX) (pb X hX), fun M₀ H₀ M st H σ env D e0 R r P => ?_⟩
  rw [hq]
  refine ha M st H H₀ σ env _ R r ?_
  unfold ex at P
  refine (PostO.bind.mp P).imp e0 fun ra st1 P v M1 H1 e1 R1 rra => ?_
  refine hb M1 st1 H1 H₀ σ env _ R1 (r.ext e1) ?_
  refine (PostO.bind.mp P).imp (e0.trans e1) fun rb st2 P u M2 H2 e2 R2 rrb => ?_
  split at P
  · rename_i sa sb hsa hsb
    have fin := rset2 (i := i) (j := j) R2 r e1 e2 (fun x hx => e0.free hx) rra rrb hsa hsb
    exact hf D σ v u H2 fun H3 b => beh_rd b e0 (e1.trans e2) R2 fin P
  · exact False.elim P
theorem rset3 {M M1 M2 M3 : Mp} {H H1 H2 H3 H₀ : Hp} {σ : L2.St} {env : Env} {st3 : Sto} {v u w : V} {ra rb rc : RV} {sa sb sc : Slot} {i j l : Nat} (R : Rel Y M3 st3 H3) (r : EnvRel Y H₀ M H σ env) (e1 : Ext M H M1 H1) (e2 : Ext M1 H1 M2 H2) (e3 : Ext M2 H2 M3 H3) (h0 : ∀ a, H a = none → H₀ a = none)
    (rra : RepR Y H M1 H1 σ v ra) (rrb : RepR Y H1 M2 H2 σ u rb) (rrc : RepR Y H2 M3 H3 σ w rc) (ha : slotOf env st3 ra = some sa) (hb : slotOf env st3 rb = some sb) (hc : slotOf env st3 rc = some sc) (hfr : ∀ c, sc ≠ .own c) :
    EnvRel Y H₀ M3 H3 (((σ.set i (some v)).set j (some u)).set l (some w)) (((env.set i (some sa)).set j (some sb)).set l (some sc)) := by
  have q := rset2 (i := i) (j := j) R r e1 (e2.trans e3) h0 rra (rrb.ext e3) ha hb
  cases rc with
  | val t => cases hc; exact q.setV rrc
  | fresh c => cases hc; exact absurd rfl (hfr c)
  | «at» p => cases hc
theorem ns_set3 {i j l : Nat} {t : TE → TE → TE → TS} {fin : Ends → L2.St → V → V → V → Hp → Prop} (hp : ∀ X, C X → ∀ {ta tb tc}, PE X a ta → PE X b tb → PE X c tc → PS X s (t ta tb tc)) (hq : ∀ ta tb tc D σ H, t ta tb tc D σ H = (ta σ H fun v H1 => tb σ H1 fun u H2 => tc σ H2 fun w H3 => fin D σ v u w H3))
    (hf : ∀ D σ v u w H, (∀ H3, Beh H H3 → D.nx (((σ.set i (some v)).set j (some u)).set l (some w)) H3) → fin D σ v u w H) (A : NE C Y E a (ev na)) (B : NE C Y E b (ev nb)) (D' : NE C Y E c (ev nc)) : NS C Y E s (ex (.set3 i j l na nb nc)) := by
  obtain ⟨ta, pa, ha⟩ := A
  obtain ⟨tb, pb, hb⟩ := B
  obtain ⟨tc, pc, hc⟩ := D'
  refine ⟨_, fun X hX => hp X hX (pa X hX) (pb X hX) (pc X hX), fun M₀ H₀ M st H σ env D e0 R r P => ?_⟩
  rw [hq]
  refine ha M st H H₀ σ env _ R r ?_
  unfold ex at P
  refine (PostO.bind.mp P).imp e0 fun ra st1 P v M1 H1 e1 R1 rra => ?_
  refine hb M1 st1 H1 H₀ σ env _ R1 (r.ext e1) ?_
  refine (PostO.bind.mp P).imp (e0.trans e1) fun rb st2 P u M2 H2 e2 R2 rrb => ?_
  refine hc M2 st2 H2 H₀ σ env _ R2 ((r.ext e1).ext e2) ?_
  refine (PostO.bind.mp P).imp ((e0.trans e1).trans e2) fun rc st3 P w M3 H3 e3 R3 rrc => ?_
  split at P
  · rename_i sa sb sc hsa hsb hsc
    have fin : EnvRel Y H₀ M3 H3 (((σ.set i (some v)).set j (some u)).set l (some w)) (((env.set i (some sa)).set j (some sb)).set l (some sc)) := by
      -- the third's own list stands apart from the first two
      have q := rset2 (i := i) (j := j) R3 r e1 (e2.trans e3) (fun x hx => e0.free hx) rra (rrb.ext e3) hsa hsb
      cases rc with
      | val t => cases hsc; exact q.setV rrc
      | «at» p => cases hsc
      | fresh c =>
        cases hsc
        have q2 := rset2 (i := i) (j := j) R2 r e1 e2 (fun x hx => e0.free hx) rra rrb (st2 := st2) (sa := sa) (sb := sb) (by cases ra <;> exact hsa) (by cases rb <;> exact hsb)
        exact slot_rd (H := H2) R3 q2 e3 (fun x hx => ((e0.trans e1).trans e2).free hx) (rv := .fresh c) (s := .own c) (by
          obtain ⟨a', h1, h2, h3, h4⟩ := rrc
          exact ⟨a', h1, h2, h3, h4⟩) rfl
    exact hf D σ v u w H3 fun H4 b => beh_rd b e0 ((e1.trans e2).trans e3) R3 fin P
  · exact False.elim P

theorem EnvRel.poke {M : Mp} {H H₀ : Hp} {σ : L2.St} {env : Env} {i : Nat} {a0 : Addr} {c0 c1 : Own} {o : HO} (r : EnvRel Y H₀ M H σ env) (hc : env[i]? = some (some (.own c0))) (hs : σ[i]? = some (some (.ref a0))) (ho : OwnC Y M (upd H a0 o) a0 c1) :
    EnvRel Y H₀ M (upd H a0 o) σ (env.set i (some (.own c1))) := by
  have slot : ∀ (j : Nat) (s : Slot), (env.set i (some (.own c1)))[j]? = some (some s) → (j = i ∧ s = .own c1) ∨ (j ≠ i ∧ env[j]? = some (some s)) := by
    intro j s q
    rw [getElem?_set_ite] at q
    by_cases hj : i = j
    · rw [if_pos hj] at q
      split at q
      · cases q; exact .inl ⟨hj.symm, rfl⟩
      · cases q
    · rw [if_neg hj] at q; exact .inr ⟨fun z => hj z.symm, q⟩
  obtain ⟨w0, g1, a', g2, g3, g4⟩ := r.at' i _ hc
  rw [hs] at g1; cases g1
  cases g2
  refine ⟨by simpa using r.len, fun j s q => ?_, fun j k a' b' c2 c3 x q1 q2 q3 q4 m1 m2 => ?_⟩
  · rcases slot j s q with ⟨rfl, rfl⟩ | ⟨hj, q⟩
    · refine ⟨_, hs, a0, rfl, ho, fun x hx => ?_⟩
      obtain ⟨f1, f2, f3⟩ := g4 x hx
      have : x = a0 := by simpa [foot] using hx
      subst this
      exact ⟨f1, by rw [upd_same]; simp, f3⟩
    · obtain ⟨w, e3, h3⟩ := r.at' j s q
      refine ⟨w, e3, ?_⟩
      cases s with
      | val t => exact h3
      | own c' =>
        obtain ⟨a', e4, h4, h5⟩ := h3
        subst e4
        have hne : a' ≠ a0 := fun z => by
          subst z
          exact hj (r.one j i a' a' c' c0 a' q hc e3 hs (by simp [foot]) (by simp [foot]))
        refine ⟨a', rfl, h4.mono (fun _ _ z => z) (upd_ne hne), fun x hx => ?_⟩
        obtain ⟨f1, f2, f3⟩ := h5 x hx
        have : x = a' := by simpa [foot] using hx
        subst this
        exact ⟨f1, by rw [upd_ne hne]; exact f2, f3⟩
  · have own : ∀ (j : Nat) (c : Own), (env.set i (some (.own c1)))[j]? = some (some (.own c)) → ∃ c', env[j]? = some (some (.own c')) := fun j c q => by
      rcases slot j _ q with ⟨rfl, _⟩ | ⟨_, q⟩
      · exact ⟨c0, hc⟩
      · exact ⟨c, q⟩
    obtain ⟨c4, q5⟩ := own j c2 q1
    obtain ⟨c5, q6⟩ := own k c3 q2
    exact r.one j k a' b' c4 c5 x q5 q6 q3 q4 m1 m2
def tAp (K : PySem.W.Frag) (i : Nat) (te : TE) : TS := tDrop (tBM K "list" rAppend (tVar i) (tCons te tNil))
theorem ns_ap {i : Nat} (hp : ∀ X, C X → ∀ {te}, PE X e te → PS X s (tAp Y.K i te)) (A : NE C Y E e (ev na)) : NS C Y E s (ex (.ap i na)) := by
  obtain ⟨ta, pa, ha⟩ := A.nt
  refine ⟨_, fun X hX => hp X hX (pa X hX), fun M₀ H₀ M st H σ env D e0 R r P => ?_⟩
  unfold ex at P
  split at P
  · rename_i ts hc
    obtain ⟨v, g1, a, g2, g3, g4⟩ := r.at' i _ hc
    subst g2
    obtain ⟨vs, h1, h2⟩ := id g3
    refine ⟨_, g1, .inl ⟨rfl, vs, SqL.of h1⟩, ha M st H H₀ σ env _ R r ?_⟩
    refine (PostO.bind.mp P).imp e0 fun t st1 P w M1 H1 e1 R1 rw' => ?_
    split at P
    · rename_i hz
      have r1 := r.ext e1
      obtain ⟨v', g1', a', g2', g3', g4'⟩ := r1.at' i _ hc
      rw [g1] at g1'; cases g1'
      cases g2'
      obtain ⟨us, h3, h4⟩ := id g3'
      obtain ⟨f1, f2, f3⟩ := g4' a (by simp [foot])
      refine ⟨a, us, w, rfl, rfl, h3, by rw [h4.length, ← line_lim]; exact hz, ?_⟩
      exact (show KS Y M₀ H₀ M D (.nx (env.set i (some (.own (.lst (ts ++ [t])))))) st1 from P) _ M1 _ ((e0.trans e1).poke f3 _) e1.keep (R1.poke f1 _) (r1.poke hc g1 ⟨us ++ [w], upd_same, Paired.app h4 (.cons rw' .nil)⟩)
    · exact False.elim P
  · exact False.elim P
def tXt (K : PySem.W.Frag) (i : Nat) (te : TE) : TS := tDrop (tBM K "list" rExtend (tVar i) (tCons te tNil))
theorem ns_xt {i : Nat} (hp : ∀ X, C X → ∀ {te}, PE X e te → PS X s (tXt Y.K i te)) (A : NE C Y E e (ev na)) : NS C Y E s (ex (.xt i na)) := by
  obtain ⟨ta, pa, ha⟩ := A
  refine ⟨_, fun X hX => hp X hX (pa X hX), fun M₀ H₀ M st H σ env D e0 R r P => ?_⟩
  unfold ex at P
  split at P
  · rename_i ts hc
    obtain ⟨v, g1, a, g2, g3, g4⟩ := r.at' i _ hc
    subst g2
    obtain ⟨vs, h1, h2⟩ := id g3
    refine ⟨_, g1, .inl ⟨rfl, vs, SqL.of h1⟩, ha M st H H₀ σ env _ R r ?_⟩
    refine (PostO.bind.mp P).imp e0 fun t st1 P w M1 H1 e1 R1 rw' => ?_
    split at P
    · rename_i us
      split at P
      · rename_i hz
        have r1 := r.ext e1
        obtain ⟨v', g1', a', g2', g3', g4'⟩ := r1.at' i _ hc
        rw [g1] at g1'; cases g1'
        cases g2'
        obtain ⟨ws, h3, h4⟩ := id g3'
        obtain ⟨f1, f2, f3⟩ := g4' a (by simp [foot])
        obtain ⟨b, hb, _, _, zs, h5, h6⟩ := rw'
        subst hb
        refine ⟨a, b, ws, zs, rfl, rfl, h3, h5, by rw [h4.length, h6.length]; exact lim_line hz, ?_⟩
        exact (show KS Y M₀ H₀ M D (.nx (env.set i (some (.own (.lst (ts ++ us)))))) st1 from P) _ M1 _ ((e0.trans e1).poke f3 _) e1.keep (R1.poke f1 _) (r1.poke hc g1 ⟨ws ++ zs, upd_same, Paired.app h4 h6⟩)
      · exact False.elim P
    · exact False.elim P
  · exact False.elim P

theorem ns_if {ss ss' : List Stmt} {fc : Env → Sto → Oc Bool} {na nb : N} {n : N} (A : NB C Y E c fc) (B : NSs C Y E ss (ex na)) (B' : NSs C Y E ss' (ex nb)) (he : ∀ env st, ex n env st = (fc env st).bind fun d st1 => if d then ex na env st1 else ex nb env st1) : NS C Y E (.If c ss ss' pos) (ex n) := by
  obtain ⟨tc, pc, hc⟩ := A
  obtain ⟨ta, pa, ha⟩ := B
  obtain ⟨tb, pb, hb⟩ := B'
  refine ⟨_, fun X hX => ps_if (pc X hX) (pa X hX) (pb X hX), fun M₀ H₀ M st H σ env D e0 R r P => hc M st H H₀ σ env _ R r ?_⟩
  rw [he] at P
  refine (PostO.bind.mp P).imp e0 fun d st1 P M1 H1 e1 R1 => ?_
  cases d with
  | true => exact iteT (ha M₀ H₀ M1 st1 H1 σ env D (e0.trans e1) R1 (r.ext e1) (PostO.imp (show PostO Y E M₀ H₀ (ex na env st1) _ from P) (Ext.refl _ _) fun _ _ q => q.mono (H := H) (H1 := H1) e1.keep))
  | false => exact iteF (hb M₀ H₀ M1 st1 H1 σ env D (e0.trans e1) R1 (r.ext e1) (PostO.imp (show PostO Y E M₀ H₀ (ex nb env st1) _ from P) (Ext.refl _ _) fun _ _ q => q.mono (H := H) (H1 := H1) e1.keep))
theorem ns_for {tg iter : Expr} {tgN : Tg} {it nb : N} (hpo : ∀ X, C X → PassesOwn (model X.prog X.w) X.A X.env X.xe) (hcalm : ∀ X, C X → X.calm = true) (hno : noSet iter = true) (I : NI C Y E false tg iter (evI false it)) (Gt : NG C Y tg tgN) (B : NSs C Y E ss (ex nb)) :
    NS C Y E (.For tg iter ss [] pos) (ex (.for_ tgN it nb)) := by
  obtain ⟨wi, pi, hi⟩ := I
  obtain ⟨g, pg, hg⟩ := Gt
  obtain ⟨tb, pb, hb⟩ := B
  refine ⟨_, fun X hX => ps_for (hpo X hX) (hcalm X hX) (pi X hX) (pg X hX) (pb X hX) (folded_no hno), fun M₀ H₀ M st H σ env D e0 R r P => hi M st H H₀ σ env _ R r ?_⟩
  unfold ex at P
  refine (PostO.bind.mp P).imp e0 fun xs st1 P J M1 H1 e1 R1 W1 => ?_
  refine ⟨fun i m σ' H' => m = xs.length - i ∧ i ≤ xs.length ∧ ∃ (M' : Mp) (st' : Sto) (env' : Env), Ext M₀ H₀ M' H' ∧ Kp M1 H1 M' H' ∧ Rel Y M' st' H' ∧ EnvRel Y H₀ M' H' σ' env' ∧
    PostO Y E M₀ H₀ (loopS (stepS tgN (ex nb)) (xs.drop i) env' st') (KS Y M₀ H₀ M D), ⟨xs.length, rfl, Nat.zero_le _, M1, st1, env, e0.trans e1, fun _ _ h => h, R1, r.ext e1, P⟩, ?_⟩
  rintro i m σ' H' ⟨rfl, hi, M', st', env', e', k', R', r', P⟩
  obtain ⟨w1, w2⟩ := W1 M' st' H' k' R'
  by_cases hlt : i < xs.length
  · obtain ⟨hgo, hy⟩ := w1 i xs[i] (by simp [hlt])
    refine .inr ⟨hgo, fun σ2 H2 => ∃ (M' : Mp) (st' : Sto) (env' : Env), Ext M₀ H₀ M' H2 ∧ Kp M1 H1 M' H2 ∧ Rel Y M' st' H2 ∧ EnvRel Y H₀ M' H2 σ2 env' ∧
      PostO Y E M₀ H₀ (loopS (stepS tgN (ex nb)) (xs.drop (i + 1)) env' st') (KS Y M₀ H₀ M D), fun σ2 H2 h2 => ⟨xs.length - (i + 1), by omega, rfl, hlt, h2⟩, fun v H2 y => ?_⟩
    obtain ⟨M2, E2, R2, rv⟩ := hy v H2 y
    rw [List.drop_eq_getElem_cons hlt] at P
    have P : PostO Y E M₀ H₀ ((stepS tgN (ex nb) xs[i] env' st').bind _) _ := P
    have P := PostO.bind.mp P
    unfold stepS at P
    cases hbt : bindTg env' tgN xs[i] with
    | none => simp only [hbt] at P; exact False.elim P
    | some env1 =>
      simp only [hbt] at P
      refine hg M2 st' H2 H₀ σ' env' env1 v xs[i] _ R2 (r'.ext E2) rv hbt fun σ2 r2 _ => ?_
      refine hb M₀ H₀ M2 st' H2 σ2 env1 _ (e'.trans E2) R2 r2 (P.imp (Ext.refl _ _) fun q st2 P => ?_)
      have kk : Kp M1 H1 M2 H2 := fun a x h => E2.keep a x (k' a x h)
      cases q with
      | nx env2 => exact fun σ3 M3 H3 e3 k3 R3 r3 => ⟨M3, st2, env2, e3, fun a x h => k3 a x (kk a x h), R3, r3, P⟩
      | ct env2 => exact fun σ3 M3 H3 e3 k3 R3 r3 => ⟨M3, st2, env2, e3, fun a x h => k3 a x (kk a x h), R3, r3, P⟩
      | bk env2 => exact fun σ3 M3 H3 e3 k3 R3 r3 => (show KS Y M₀ H₀ M D (.nx env2) st2 from P) σ3 M3 H3 e3 (fun a x h => k3 a x (kk a x (e1.keep a x h))) R3 r3
      | rt rv => exact P
  · have e : i = xs.length := by omega
    subst e
    rw [List.drop_length] at P
    exact .inl ⟨w2, (show KS Y M₀ H₀ M D (.nx env') st' from P) σ' M' H' e' (fun a x h => k' a x (e1.keep a x h)) R' r'⟩
theorem ns_while {nb : N} (hpo : ∀ X, C X → PassesOwn (model X.prog X.w) X.A X.env X.xe) (A : NB C Y E c (fun env st => truthB (ev nc env st))) (B : NSs C Y E ss (ex nb)) : NS C Y E (.While c ss [] pos) (ex (.while_ nc nb)) := by
  obtain ⟨tc, pc, hc⟩ := A
  obtain ⟨tb, pb, hb⟩ := B
  refine ⟨_, fun X hX => ps_while (hpo X hX) (pc X hX) (pb X hX), fun M₀ H₀ M st H σ env D e0 R r P => ?_⟩
  unfold ex at P
  refine ⟨fun n σ' H' => ∃ (M' : Mp) (st' : Sto) (env' : Env), Ext M₀ H₀ M' H' ∧ Kp M H M' H' ∧ Rel Y M' st' H' ∧ EnvRel Y H₀ M' H' σ' env' ∧
    PostO Y E M₀ H₀ (loopW (fun env st => truthB (ev nc env st)) (ex nb) n env' st') (KS Y M₀ H₀ M D), ⟨FUEL, M, st, env, e0, fun _ _ h => h, R, r, P⟩, ?_⟩
  rintro n σ' H' ⟨M', st', env', e', k', R', r', P⟩
  cases n with
  | zero => exact False.elim P
  | succ n =>
    refine hc M' st' H' H₀ σ' env' _ R' r' ?_
    have P : PostO Y E M₀ H₀ ((truthB (ev nc env' st')).bind _) _ := P
    refine (PostO.bind.mp P).imp e' fun b st1 P M1 H1 e1 R1 => ?_
    cases b with
    | false => exact iteF ((show KS Y M₀ H₀ M D (.nx env') st1 from P) σ' M1 H1 (e'.trans e1) (fun a x h => e1.keep a x (k' a x h)) R1 (r'.ext e1))
    | true =>
      refine iteT ⟨fun σ2 H2 => ∃ (M' : Mp) (st' : Sto) (env' : Env), Ext M₀ H₀ M' H2 ∧ Kp M H M' H2 ∧ Rel Y M' st' H2 ∧ EnvRel Y H₀ M' H2 σ2 env' ∧
        PostO Y E M₀ H₀ (loopW (fun env st => truthB (ev nc env st)) (ex nb) n env' st') (KS Y M₀ H₀ M D), fun σ2 H2 h2 => ⟨n, Nat.lt_succ_self n, h2⟩, ?_⟩
      have P : PostO Y E M₀ H₀ ((ex nb env' st1).bind _) _ := P
      refine hb M₀ H₀ M1 st1 H1 σ' env' _ (e'.trans e1) R1 (r'.ext e1) ((PostO.bind.mp P).imp (Ext.refl _ _) fun q st2 P => ?_)
      have kk : Kp M H M1 H1 := fun a x h => e1.keep a x (k' a x h)
      cases q with
      | nx env2 => exact fun σ3 M3 H3 e3 k3 R3 r3 => ⟨M3, st2, env2, e3, fun a x h => k3 a x (kk a x h), R3, r3, P⟩
      | ct env2 => exact fun σ3 M3 H3 e3 k3 R3 r3 => ⟨M3, st2, env2, e3, fun a x h => k3 a x (kk a x h), R3, r3, P⟩
      | bk env2 => exact fun σ3 M3 H3 e3 k3 R3 r3 => (show KS Y M₀ H₀ M D (.nx env2) st2 from P) σ3 M3 H3 e3 (fun a x h => k3 a x (kk a x h)) R3 r3
      | rt rv => exact P
end
end NN

set_option Elab.async false
set_option linter.all false
set_option maxRecDepth 100000
set_option maxHeartbeats 4000000
namespace NN
open PySem PySem.Spec PyProof.Rows L2
section
variable {Y : Gx} {M : Mp} {H : Hp} {st : Sto}
theorem ints_vals : ∀ {ts : List T} {vs : List V} {ns : List Int}, RepVs Y M vs ts → ints? ts = some ns → vs = ns.map V.int
  | [], vs, ns, r, h => by cases r; cases h; rfl
  | .int i :: ts, vs, ns, r, h => by
    cases r with
    | cons r1 r2 =>
      cases q : ints? ts with
      | none => simp [ints?, q] at h
      | some ms =>
        simp [ints?, q] at h
        subst h
        rw [List.map_cons, ints_vals r2 q, show _ = V.int i from r1]
  | .non :: _, _, _, _, h => by simp [ints?] at h
  | .bl _ :: _, _, _, _, h => by simp [ints?] at h
  | .str _ :: _, _, _, _, h => by simp [ints?] at h
  | .typ _ :: _, _, _, _, h => by simp [ints?] at h
  | .tup _ :: _, _, _, _, h => by simp [ints?] at h
  | .lst _ :: _, _, _, _, h => by simp [ints?] at h
  | .dic _ _ _ :: _, _, _, _, h => by simp [ints?] at h
  | .ins _ _ _ :: _, _, _, _, h => by simp [ints?] at h
  | .obj _ :: _, _, _, _, h => by simp [ints?] at h
theorem bls_vals : ∀ {ts : List T} {vs : List V} {ns : List Bool}, RepVs Y M vs ts → bls? ts = some ns → vs = ns.map V.bl
  | [], vs, ns, r, h => by cases r; cases h; rfl
  | .bl i :: ts, vs, ns, r, h => by
    cases r with
    | cons r1 r2 =>
      cases q : bls? ts with
      | none => simp [bls?, q] at h
      | some ms =>
        simp [bls?, q] at h
        subst h
        rw [List.map_cons, bls_vals r2 q, show _ = V.bl i from r1]
  | .non :: _, _, _, _, h => by simp [bls?] at h
  | .int _ :: _, _, _, _, h => by simp [bls?] at h
  | .str _ :: _, _, _, _, h => by simp [bls?] at h
  | .typ _ :: _, _, _, _, h => by simp [bls?] at h
  | .tup _ :: _, _, _, _, h => by simp [bls?] at h
  | .lst _ :: _, _, _, _, h => by simp [bls?] at h
  | .dic _ _ _ :: _, _, _, _, h => by simp [bls?] at h
  | .ins _ _ _ :: _, _, _, _, h => by simp [bls?] at h
  | .obj _ :: _, _, _, _, h => by simp [bls?] at h
theorem strs_vals : ∀ {ts : List T} {vs : List V} {ns : List Str}, RepVs Y M vs ts → strs? ts = some ns → vs = ns.map V.str
  | [], vs, ns, r, h => by cases r; cases h; rfl
  | .str i :: ts, vs, ns, r, h => by
    cases r with
    | cons r1 r2 =>
      cases q : strs? ts with
      | none => simp [strs?, q] at h
      | some ms =>
        simp [strs?, q] at h
        subst h
        rw [List.map_cons, strs_vals r2 q, show _ = V.str i from r1]
  | .non :: _, _, _, _, h => by simp [strs?] at h
  | .int _ :: _, _, _, _, h => by simp [strs?] at h
  | .bl _ :: _, _, _, _, h => by simp [strs?] at h
  | .typ _ :: _, _, _, _, h => by simp [strs?] at h
  | .tup _ :: _, _, _, _, h => by simp [strs?] at h
  | .lst _ :: _, _, _, _, h => by simp [strs?] at h
  | .dic _ _ _ :: _, _, _, _, h => by simp [strs?] at h
  | .ins _ _ _ :: _, _, _, _, h => by simp [strs?] at h
  | .obj _ :: _, _, _, _, h => by simp [strs?] at h
theorem vals_strs : ∀ {ns : List Str}, RepVs Y M (ns.map V.str) (ns.map T.str)
  | [] => .nil
  | n :: ns => .cons rfl vals_strs
theorem minI_mem : ∀ (is : List Int) (x : Int), minI x is ∈ x :: is ∧ ∀ y ∈ x :: is, minI x is ≤ y
  | [], x => by simp [minI]
  | z :: is, x => by
    obtain ⟨h1, h2⟩ := minI_mem is (if z < x then z else x)
    show minI (if z < x then z else x) is ∈ _ ∧ ∀ y ∈ _, minI (if z < x then z else x) is ≤ y
    refine ⟨?_, fun y hy => ?_⟩
    · rcases List.mem_cons.mp h1 with e | e
      · rw [e]; split <;> simp
      · simp [e]
    · have h3 := h2 _ List.mem_cons_self
      rcases List.mem_cons.mp hy with rfl | hy
      · split at h3 <;> split <;> omega
      · rcases List.mem_cons.mp hy with rfl | hy
        · split at h3 <;> split <;> omega
        · exact h2 y (List.mem_cons_of_mem _ hy)
end

theorem ltC_total : ∀ {a b : List Nat}, ltCps a b = false → ltCps b a = false → a = b
  | [], [], _, _ => rfl
  | [], _ :: _, h, _ => by cases h
  | _ :: _, [], _, h => by cases h
  | x :: a, y :: b, h, h2 => by
    simp only [ltCps, Bool.or_eq_false_iff, decide_eq_false_iff_not, Bool.and_eq_false_iff] at h h2
    have e : x = y := by omega
    subst e
    have h3 := h.2
    have h4 := h2.2
    simp only [beq_self_eq_true, Bool.true_eq_false, false_or] at h3 h4
    rw [ltC_total h3 h4]
theorem ltC_trans : ∀ {a b c : List Nat}, ltCps a b = true → ltCps b c = true → ltCps a c = true
  | [], _, [], _, h => by cases h2 : ‹List Nat› <;> simp_all [ltCps]
  | [], _, _ :: _, _, _ => rfl
  | _ :: _, [], _, h, _ => by cases h
  | _ :: _, _ :: _, [], _, h => by cases h
  | x :: a, y :: b, z :: c, h, h2 => by
    simp only [ltCps, Bool.or_eq_true, decide_eq_true_eq, Bool.and_eq_true, beq_iff_eq] at h h2 ⊢
    rcases h with h | ⟨e, h⟩ <;> rcases h2 with h2 | ⟨e2, h2⟩
    · exact .inl (Nat.lt_trans h h2)
    · exact .inl (by omega)
    · exact .inl (by omega)
    · exact .inr ⟨e.trans e2, ltC_trans h h2⟩
theorem strLe_total (a b : Str) : strLe a b = true ∨ strLe b a = true := by
  unfold strLe
  cases h : ltCps b.cps.toList a.cps.toList with
  | false => exact .inl rfl
  | true =>
    cases h2 : ltCps a.cps.toList b.cps.toList with
    | false => exact .inr rfl
    | true =>
      have := ltC_trans h h2
      exfalso
      have irr : ∀ l : List Nat, ltCps l l = false := by
        intro l
        induction l with
        | nil => rfl
        | cons x l ih => simp [ltCps, ih]
      rw [irr] at this; cases this
theorem strLe_anti {a b : Str} (h : strLe a b = true) (h2 : strLe b a = true) : a = b := by
  unfold strLe at h h2
  simp only [Bool.not_eq_true'] at h h2
  exact Str.ext' (Array.toList_inj.mp (ltC_total h2 h))
theorem strLe_trans {a b c : Str} (h : strLe a b = true) (h2 : strLe b c = true) : strLe a c = true := by
  rcases strLe_total a c with z | z
  · exact z
  · unfold strLe at h h2 z ⊢
    simp only [Bool.not_eq_true'] at h h2 z ⊢
    cases q : ltCps c.cps.toList a.cps.toList with
    | false => rfl
    | true =>
      -- c < a, so with not (b < a): c < b or ..
      cases q2 : ltCps b.cps.toList c.cps.toList with
      | true => rw [ltC_trans q2 q] at h; cases h
      | false =>
        have e := ltC_total q2 h2
        rw [← e, h] at q; cases q
theorem insStr_perm (x : Str) : ∀ l : List Str, (insStr x l).Perm (x :: l)
  | [] => .refl _
  | y :: l => by
    unfold insStr
    split
    · exact .refl _
    · exact ((insStr_perm x l).cons y).trans (.swap x y l)
theorem insStr_rises (x : Str) : ∀ l : List Str, l.Pairwise (fun a b => strLe a b = true) → (insStr x l).Pairwise fun a b => strLe a b = true
  | [], _ => by simp [insStr]
  | y :: l, h => by
    unfold insStr
    split
    · rename_i hx
      refine List.pairwise_cons.mpr ⟨fun z hz => ?_, h⟩
      rcases List.mem_cons.mp hz with rfl | hz
      · exact hx
      · exact strLe_trans hx (List.rel_of_pairwise_cons h hz)
    · rename_i hx
      have hyx : strLe y x = true := (strLe_total x y).resolve_left hx
      refine List.pairwise_cons.mpr ⟨fun z hz => ?_, insStr_rises x l (List.pairwise_cons.mp h).2⟩
      rcases List.mem_cons.mp ((insStr_perm x l).mem_iff.mp hz) with rfl | hz
      · exact hyx
      · exact List.rel_of_pairwise_cons h hz
theorem sortStr_perm : ∀ l : List Str, (sortStr l).Perm l
  | [] => .refl _
  | x :: l => (insStr_perm x _).trans ((sortStr_perm l).cons x)
theorem sortStr_rises : ∀ l : List Str, (sortStr l).Pairwise fun a b => strLe a b = true
  | [] => .nil
  | x :: l => insStr_rises x _ (sortStr_rises l)
theorem pairwise_of_sortedS : ∀ (l : List Str), sortedS l = true → l.Pairwise fun a b => strLe a b = true := by
  have main : ∀ (l : List Str) (p : Str), risingS p l = true → (p :: l).Pairwise fun a b => strLe a b = true := by
    intro l
    induction l with
    | nil => intro p _; simp
    | cons x r ih =>
      intro p h
      have h : (!ltCps x.cps.toList p.cps.toList && risingS x r) = true := h
      rw [Bool.and_eq_true] at h
      have h1 := ih x h.2
      refine List.pairwise_cons.mpr ⟨fun z hz => ?_, h1⟩
      rcases List.mem_cons.mp hz with rfl | hz
      · exact h.1
      · exact strLe_trans h.1 (List.rel_of_pairwise_cons h1 hz)
  intro l
  cases l with
  | nil => intro _; exact .nil
  | cons x r => exact main r x
theorem sortStr_only {l m : List Str} (p : m.Perm l) (s : sortedS m = true) : m = sortStr l :=
  List.Perm.eq_of_pairwise (fun _ _ _ _ h1 h2 => strLe_anti h1 h2) (pairwise_of_sortedS m s) (sortStr_rises l) (p.trans (sortStr_perm l).symm)
section
variable {C : Cx → Prop} {Y : Gx} {E : XK} {e a b c o : Expr} {pos : Pos} {na nb : N}
theorem ne_bi1 {f : BI} {r : List V → Hp → VK → Prop} (p : ∀ X, C X → ∀ {ta}, PE X a ta → PE X e (tCB r (tCons ta tNil))) (A : NE C Y E a (ev na))
    (hg : ∀ {M st H v t rv Q}, Rel Y M st H → See Y M H v t → builtin f [t] = some rv → PostV Y M st H rv Q → r [v] H Q) : NE C Y E e (ev (.bi f na)) := by
  obtain ⟨ta, pa, ha⟩ := A
  refine ⟨_, fun X hX => p X hX (pa X hX), fun M st H H₀ σ env Q R r0 P => ha M st H H₀ σ env _ R r0 ?_⟩
  unfold ev at P
  refine (PostO.bind.mp P).imp (Ext.refl _ _) fun ra st1 P v M1 H1 e1 R1 rr => ?_
  obtain ⟨rv, hv, P⟩ := PostO.of P
  cases hx : view env st1 ra with
  | none => rw [hx] at hv; cases hv
  | some x =>
    rw [hx] at hv
    exact hg R1 (RepR.see R1 (r0.ext e1) rr hx) hv fun w M2 H2 e2 R2 r2 => P w M2 H2 (e1.trans e2) R2 (r2.noslot.earlier fun z hz => e1.free hz)
theorem ne_bi2 {f : BI} {r : List V → Hp → VK → Prop} (p : ∀ X, C X → ∀ {ta tb}, PE X a ta → PE X b tb → PE X e (tCB r (tCons ta (tCons tb tNil)))) (A : NE C Y E a (ev na)) (B : NE C Y E b (ev nb))
    (hg : ∀ {M st H v u t t2 rv Q}, Rel Y M st H → See Y M H v t → See Y M H u t2 → builtin f [t, t2] = some rv → PostV Y M st H rv Q → r [v, u] H Q) : NE C Y E e (ev (.bi2 f na nb)) := by
  obtain ⟨ta, pa, ha⟩ := A
  obtain ⟨tb, pb, hb⟩ := B
  refine ⟨_, fun X hX => p X hX (pa X hX) (pb X hX), fun M st H H₀ σ env Q R r0 P => ha M st H H₀ σ env _ R r0 ?_⟩
  unfold ev at P
  refine (PostO.bind.mp P).imp (Ext.refl _ _) fun ra st1 P v M1 H1 e1 R1 rr => ?_
  refine hb M1 st1 H1 H₀ σ env _ R1 (r0.ext e1) ?_
  refine (PostO.bind.mp P).imp e1 fun rb st2 P u M2 H2 e2 R2 rr2 => ?_
  obtain ⟨rv, hv, P⟩ := PostO.of P
  cases hx : view env st2 ra with
  | none => rw [hx] at hv; cases hv
  | some x =>
    cases hy : view env st2 rb with
    | none => rw [hx, hy] at hv; cases hv
    | some y =>
      rw [hx, hy] at hv
      exact hg R2 (RepR.see R2 ((r0.ext e1).ext e2) (rr.ext e2) hx) (RepR.see R2 ((r0.ext e1).ext e2) rr2 hy) hv fun w M3 H3 e3 R3 r3 => P w M3 H3 ((e1.trans e2).trans e3) R3 (r3.noslot.earlier fun z hz => (e1.trans e2).free hz)

def rLstN (K : PySem.W.Frag) (P : Program) (w : World) : List V → Hp → VK → Prop := fun xs H Q => (∃ p ys, xs = [.ref p] ∧ (SqL K H p ys ∨ SqT K H p ys) ∧ ∀ l, H l = none → Q (.ref l) (upd H l (.lst ys))) ∨
  ∃ (a : Addr) (kvs : List (Option Key × V)), xs = [.ref a] ∧ H a = some (NDic P w a kvs) ∧ ∀ p, H p = none → Q (.ref p) (upd H p (.lst (kvs.map fun q => kN q.1)))
theorem call_lstN {X : Cx} (hc : X.calm = true) : CallR X (.type "list") (rLstN X.K X.prog X.w) := by
  intro pins s σ H xs us Q I r h
  rcases h with h | h
  · exact call_list_of pins s σ H xs us Q I r h
  · exact call_listN hc pins s σ H xs us Q I r h
theorem kN_rep {Y : Gx} {M : Mp} : ∀ k : Option Key, RepV Y M (kN k) (tN k)
  | none => rfl
  | some (.inl _) => rfl
  | some (.inr _) => rfl
theorem kN_reps {Y : Gx} {M : Mp} : ∀ kvs : List (Option Key × V), RepVs Y M (kvs.map fun q => kN q.1) (kvs.map fun q => tN q.1)
  | [] => .nil
  | q :: kvs => .cons (kN_rep q.1) (kN_reps kvs)
theorem uniqS_mem : ∀ (l : List Str) (z : Str), z ∈ uniqS l ↔ z ∈ l
  | [], z => .rfl
  | x :: l, z => by
    unfold uniqS
    split
    · rename_i h
      rw [uniqS_mem l z, List.mem_cons]
      exact ⟨.inr, fun q => q.elim (fun e => e ▸ h) id⟩
    · rw [List.mem_cons, List.mem_cons, uniqS_mem l z]
theorem uniqS_nodup : ∀ l : List Str, (uniqS l).Nodup
  | [] => .nil
  | x :: l => by
    unfold uniqS
    split
    · exact uniqS_nodup l
    · rename_i h
      exact List.nodup_cons.mpr ⟨fun q => h ((uniqS_mem l x).mp q), uniqS_nodup l⟩
def rBi (Y : Gx) : BI → List V → Hp → VK → Prop
  | .len => fun xs H Q => ∃ x n, xs = [x] ∧ LenV Y.K x H n ∧ Q (.int n) H
  | .all => rAll Y.K
  | .any => rAny Y.K
  | .sum => rSum Y.K
  | .abs => fun xs H Q => ∃ i, xs = [.int i] ∧ Q (.int (if i < 0 then -i else i)) H
  | .max => fun xs H Q => ∃ i j, xs = [.int i, .int j] ∧ Q (.int (if j > i then j else i)) H
  | .min => rMin Y.K
  | .list => rLstN Y.K Y.P Y.w
  | .sorted => rSortedS Y.K
  | _ => fun _ _ _ => False
section
variable {M : Mp} {H : Hp} {st : Sto} {Q : VK} {t : T} {v : V} {rv : RV}
theorem bi_ok {f : BI} (hf : f ≠ .max ∧ f ≠ .ssorted) (h : builtin f [t] = some rv) (R : Rel Y M st H) (s : See Y M H v t) (P : PostV Y M st H rv Q) : rBi Y f [v] H Q := by
  unfold builtin at h
  split at h <;> first
    | cases h
    | skip
  · rename_i ts e; cases e
    obtain ⟨a, vs, rfl, h1, r⟩ := s
    exact ⟨.ref a, ts.length, rfl, .inl ⟨vs, h1, r.length.symm⟩, P.val R rfl⟩
  · rename_i ts e; cases e
    obtain ⟨a, vs, rfl, h1, r⟩ := s
    exact ⟨.ref a, ts.length, rfl, .inr ⟨vs, h1, r.length.symm⟩, P.val R rfl⟩
  · split at h
    · rename_i z e hz; cases e; cases h
      cases (show v = .str _ from s)
      exact ⟨.str _, _, rfl, ⟨lim_line hz, rfl⟩, P.val R rfl⟩
    · cases h
  · rename_i ts e; cases e
    obtain ⟨a, vs, rfl, h1, r⟩ := s
    cases q : bls? ts with
    | none => rw [q] at h; cases h
    | some bs =>
      rw [q] at h; cases h
      rw [bls_vals r q] at h1
      exact ⟨a, bs, rfl, h1, P.val R rfl⟩
  · rename_i ts e; cases e
    obtain ⟨a, vs, rfl, h1, r⟩ := s
    cases q : bls? ts with
    | none => rw [q] at h; cases h
    | some bs =>
      rw [q] at h; cases h
      rw [bls_vals r q] at h1
      exact ⟨a, bs, rfl, h1, P.val R rfl⟩
  · rename_i ts e; cases e
    obtain ⟨a, vs, rfl, h1, r⟩ := s
    cases q : ints? ts with
    | none => rw [q] at h; cases h
    | some bs =>
      rw [q] at h; cases h
      rw [ints_vals r q] at h1
      exact ⟨a, bs, rfl, h1, P.val R rfl⟩
  · rename_i i e; cases e
    cases (show v = .int _ from s)
    exact ⟨_, rfl, P.val R rfl⟩
  · rename_i e; cases e
  · rename_i e; cases e
  · rename_i i ts e; cases e
    obtain ⟨a, vs, rfl, h1, r⟩ := s
    cases q : ints? ts with
    | none => rw [q] at h; cases h
    | some bs =>
      rw [q] at h; cases h
      have q' : ints? (.int i :: ts) = some (i :: bs) := by simp [ints?, q]
      rw [ints_vals r q'] at h1
      refine ⟨a, i :: bs, rfl, h1, by simp, fun m hm hle => ?_⟩
      obtain ⟨g1, g2⟩ := minI_mem bs i
      have : m = minI i bs := Int.le_antisymm (hle _ g1) (g2 m hm)
      subst this
      exact P.val R rfl
  · rename_i ts e; cases e
    obtain ⟨a, vs, rfl, h1, r⟩ := s
    exact .inl ⟨a, vs, rfl, .inl h1, fun p hp => P.newL R r hp⟩
  · rename_i ts e; cases e
    obtain ⟨a, vs, rfl, h1, r⟩ := s
    exact .inl ⟨a, vs, rfl, .inr h1, fun p hp => P.newL R r hp⟩
  · rename_i ks vs e; cases e
    obtain ⟨a, rfl, _, kvs, h1, rfl, r⟩ := s
    exact .inr ⟨a, kvs, rfl, h1, fun p hp => P.newL R (kN_reps kvs) hp⟩
  · rename_i ts e; cases e
    obtain ⟨a, vs, rfl, h1, r⟩ := s
    cases q : strs? ts with
    | none => rw [q] at h; cases h
    | some ss =>
      rw [q] at h
      have h : (if ss.length < 64 then some (RV.fresh (.lst ((sortStr ss).map .str))) else none) = some rv := h
      split at h
      · rename_i hz
        cases h
        rw [strs_vals r q] at h1
        refine ⟨a, ss, rfl, h1, hz, fun ys p pm so hp => ?_⟩
        rw [sortStr_only pm so]
        exact P.newL R vals_strs hp
      · cases h
  · exact absurd rfl hf.2
end
end
end NN

set_option Elab.async false
set_option linter.all false
set_option maxRecDepth 100000
set_option maxHeartbeats 4000000
namespace NN
open PySem PySem.Spec PyProof.Rows L2

structure Bx where
  P : Program
  w : World
  K : PySem.W.Frag
  mg : Str → Option Value
  base : Heap
  cad : Str → Addr
def Bx.Y (B : Bx) : Gx := ⟨B.K, B.cad, B.P, B.w⟩
structure XIs (B : Bx) (X : Cx) : Prop where
  P : X.prog = B.P
  w : X.w = B.w
  K : X.K = B.K
  mg : X.mg = B.mg
  base : X.base = B.base
structure Kx (B : Bx) (k : Nat) (C : Cx → Prop) (E : XK) (sc : Scope) (Ns : List Str) : Prop where
  is : ∀ X, C X → XIs B X
  nm : ∀ X, C X → X.N = Ns
  nd : Ns.Nodup
  calm : ∀ X, C X → X.calm = true
  room : ∀ X, C X → Room k X.A
  pass : ∀ X, C X → Passes (L2.CX X.prog X.w) X E
  loc : ∀ X, C X → ∀ x, sc.names.lookup x = some .local → X.env.scope.names.lookup x = some .local
  cel : ∀ X, C X → ∀ x, sc.names.lookup x = some .cell → X.env.scope.names.lookup x = some .cell ∧ X.fn x = true
  fre : ∀ X, C X → ∀ x, sc.names.lookup x = some .free → X.env.scope.names.lookup x = some .free ∨ X.env.scope.names.lookup x = some .cell
  glo : ∀ X, C X → ∀ x, sc.names.lookup x = some .globalImplicit → X.env.scope.names.lookup x = some .globalImplicit
section
variable {B : Bx} {k : Nat} {C : Cx → Prop} {E : XK} {sc : Scope} {Ns : List Str}
theorem Kx.hK (c : Kx B k C E sc Ns) : ∀ X, C X → X.K = B.Y.K := fun X hX => (c.is X hX).K
theorem Kx.hu (c : Kx B k C E sc Ns) : ∀ X, C X → X.A.units + 64 < cLine := fun X hX => (c.room X hX).units
theorem Kx.nd' (c : Kx B k C E sc Ns) : ∀ X, C X → X.N.Nodup := fun X hX => by rw [c.nm X hX]; exact c.nd
def visB (sc : Scope) (x : Str) : Bool := match sc.names.lookup x with
  | some .local => true | some .cell => true | some .free => true | _ => false
def locB (sc : Scope) (x : Str) : Bool := match sc.names.lookup x with
  | some .local => true | some .cell => true | _ => false
def gloB (sc : Scope) (x : Str) : Bool := match sc.names.lookup x with
  | some .globalImplicit => true | _ => false
theorem Kx.vis (c : Kx B k C E sc Ns) {x : Str} (h : visB sc x = true) : ∀ X, C X → Vis X.env.scope x := fun X hX => by
  unfold visB at h
  split at h
  · rename_i e; exact .inl (c.loc X hX x e)
  · rename_i e; exact .inr (.inl (c.cel X hX x e).1)
  · rename_i e
    rcases c.fre X hX x e with z | z
    · exact .inr (.inr z)
    · exact .inr (.inl z)
  · cases h
theorem Kx.gl (c : Kx B k C E sc Ns) {x : Str} (h : gloB sc x = true) : ∀ X, C X → Gl X x := fun X hX => by
  unfold gloB at h
  split at h
  · rename_i e; exact c.glo X hX x e
  · cases h
theorem Kx.pv (c : Kx B k C E sc Ns) {i : Nat} {x : Str} (hi : Ns[i]? = some x) (h : visB sc x = true) (hd : (x == ("__debug__" : Str)) = false) (hcd : (x == ("__classdict__" : Str)) = false) (pos : Pos) : ∀ X, C X → PE X (.Name x pos) (tVar i) :=
  fun X hX => pe_var (by rw [c.nm X hX]; exact hi) (c.vis h X hX) hd hcd
theorem Kx.pg (c : Kx B k C E sc Ns) {i : Nat} {x : Str} (hi : Ns[i]? = some x) (h : locB sc x = true) (pos : Pos) : ∀ X, C X → PG X (.Name x pos) (gName i) := fun X hX => by
  unfold locB at h
  have hi' : X.N[i]? = some x := by rw [c.nm X hX]; exact hi
  split at h
  · rename_i e; exact pg_name (c.nd' X hX) hi' (.inl (c.loc X hX x e)) (.inr (c.loc X hX x e))
  · rename_i e; exact pg_name (c.nd' X hX) hi' (.inr (c.cel X hX x e).1) (.inl (c.cel X hX x e).2)
  · cases h
theorem Kx.ps (c : Kx B k C E sc Ns) {i : Nat} {x : Str} {e : Expr} {pos pos' : Pos} (hi : Ns[i]? = some x) (h : locB sc x = true) (hn : ∀ X, C X → swapsWith e (some (.Name x pos')) pos.line X.env = pure false) : ∀ X, C X → ∀ {te}, PE X e te → PS X (.Assign [.Name x pos'] e pos) (tAsg te (gName i)) := fun X hX te pe => by
  unfold locB at h
  have hi' : X.N[i]? = some x := by rw [c.nm X hX]; exact hi
  split at h
  · rename_i q; exact ps_set (c.nd' X hX) hi' (.inl (c.loc X hX x q)) pe (hn X hX) (.inr (c.loc X hX x q))
  · rename_i q; exact ps_set (c.nd' X hX) hi' (.inr (c.cel X hX x q).1) pe (hn X hX) (.inl (c.cel X hX x q).2)
  · cases h
theorem relS_free {sc : Scope} : ∀ {names : List (Str × NameKind)} {x : Str}, names.lookup x = some .free →
    (names.map fun (n, k) => if (k == NameKind.free && sc.kind == .function && sc.names.lookup n == some .cell) then (n, NameKind.cell) else (n, k)).lookup x = some .free ∨
    (names.map fun (n, k) => if (k == NameKind.free && sc.kind == .function && sc.names.lookup n == some .cell) then (n, NameKind.cell) else (n, k)).lookup x = some .cell
  | [], _, h => by cases h
  | (n, k) :: r, x, h => by
    show List.lookup x ((if (k == NameKind.free && sc.kind == .function && sc.names.lookup n == some .cell) = true then (n, NameKind.cell) else (n, k)) :: (r.map _)) = some _ ∨ List.lookup x ((if (k == NameKind.free && sc.kind == .function && sc.names.lookup n == some .cell) = true then (n, NameKind.cell) else (n, k)) :: (r.map _)) = some _
    cases hx : x == n with
    | true =>
      simp only [List.lookup_cons, hx] at h
      cases h
      split
      · simp [List.lookup_cons, hx]
      · simp [List.lookup_cons, hx]
    | false =>
      simp only [List.lookup_cons, hx] at h
      have ih := relS_free (sc := sc) h
      split
      · simp only [List.lookup_cons, hx]; exact ih
      · simp only [List.lookup_cons, hx]; exact ih
theorem Kx.blk (c : Kx B k C E sc Ns) (scope : Scope) : Kx B k (Blk C scope) XE0 scope Ns where
  is := fun X' ⟨X, s, H, D, cl, fp, hX, e⟩ => by subst e; exact ⟨(c.is X hX).P, (c.is X hX).w, (c.is X hX).K, (c.is X hX).mg, (c.is X hX).base⟩
  nm := fun X' ⟨X, s, H, D, cl, fp, hX, e⟩ => by subst e; exact c.nm X hX
  nd := c.nd
  calm := fun X' ⟨X, s, H, D, cl, fp, hX, e⟩ => by subst e; exact c.calm X hX
  room := fun X' ⟨X, s, H, D, cl, fp, hX, e⟩ => by subst e; exact c.room X hX
  pass := fun X' _ => passL
  loc := fun X' ⟨X, s, H, D, cl, fp, hX, e⟩ x h => by subst e; exact lookup_relS_keep (by decide) h
  cel := fun X' ⟨X, s, H, D, cl, fp, hX, e⟩ x h => by
    subst e
    refine ⟨lookup_relS_keep (by decide) h, ?_⟩
    show (scope.names.lookup x == some .cell) = true
    rw [h]; rfl
  fre := fun X' ⟨X, s, H, D, cl, fp, hX, e⟩ x h => by subst e; exact relS_free h
  glo := fun X' ⟨X, s, H, D, cl, fp, hX, e⟩ x h => by subst e; exact lookup_relS_keep (by decide) h
theorem Kx.blkOk (c : Kx B k C E sc Ns) {scope : Scope} {own : List (Str × Nat)} (h : blkC Ns sc scope own = true) : ∀ X, C X → BlkOk X.N X.env.scope scope own := fun X hX => by
  have b := blkOk_by h
  rw [c.nm X hX]
  refine ⟨b.kind, b.uniq, b.ix, fun y hy e => ?_, b.own⟩
  rcases b.free y hy e with z | z
  · exact .inl (c.cel X hX _ z).1
  · rcases c.fre X hX _ z with q | q
    · exact .inr q
    · exact .inl q

def BOk (B : Bx) : Prop := ∀ x ∈ (["len", "all", "any", "sum", "abs", "max", "min", "list", "sorted", "isinstance", "range", "enumerate", "zip", "set", "str", "int", "bool", "tuple"] : List Str), B.mg x = none
variable {e a b : Expr} {es : List Expr} {p pos : Pos} {x : Str} {id : String} {r : List V → Hp → VK → Prop} {t : TA}
theorem Kx.bi (c : Kx B k C E sc Ns) (hm : B.mg x = none) (hg : gloB sc x = true) (hr : ∀ X, C X → CallR X (.builtin id) r) (hv : bootBuiltins x = some (.builtin id)) (hs : (e :: es).all noStar = true) (hn : x ≠ "__name__") (hd : (x == ("__debug__" : Str)) = false) :
    ∀ X, C X → ∀ {t}, PA X (e :: es) t → PE X (.Call (.Name x p) (e :: es) [] pos) (tCB r t) := fun X hX t pa => by
  rw [List.all_cons, Bool.and_eq_true] at hs
  exact pe_callB (hr X hX) (c.gl hg X hX) (by rw [(c.is X hX).mg]; exact hm) hv pa hn hd (starEach_cons hs.1) (stars_no hs.2)
theorem Kx.biT (c : Kx B k C E sc Ns) {T : String} (hm : B.mg x = none) (hg : gloB sc x = true) (hr : ∀ X, C X → CallR X (.type T) r) (hv : bootBuiltins x = some (.type T)) (hs : (e :: es).all noStar = true) (hn : x ≠ "__name__") (hd : (x == ("__debug__" : Str)) = false) :
    ∀ X, C X → ∀ {t}, PA X (e :: es) t → PE X (.Call (.Name x p) (e :: es) [] pos) (tCB r t) := fun X hX t pa => by
  rw [List.all_cons, Bool.and_eq_true] at hs
  exact pe_callTy (hr X hX) (c.gl hg X hX) (by rw [(c.is X hX).mg]; exact hm) hv pa hn hd (starEach_cons hs.1) (stars_no hs.2)
theorem pa1 {X : Cx} {ta : TE} (hs : noStar a = true) (pa : PE X a ta) : PA X [a] (tCons ta tNil) := pa_cons pa pa_nil (starEach_cons hs)
theorem pa2 {X : Cx} {ta tb : TE} (hs : noStar a = true) (hs2 : noStar b = true) (pa : PE X a ta) (pb : PE X b tb) : PA X [a, b] (tCons ta (tCons tb tNil)) := pa_cons pa (pa_cons pb pa_nil (starEach_cons hs2)) (starEach_cons hs)
def BI.name : BI → Str
  | .len => "len" | .all => "all" | .any => "any" | .sum => "sum" | .abs => "abs" | .max => "max" | .min => "min" | .list => "list" | .sorted => "sorted" | _ => ""
theorem cr_bi {X : Cx} {Y : Gx} (hK : X.K = Y.K) (hP : X.prog = Y.P) (hw : X.w = Y.w) (hc : X.calm = true) : CallR X (.builtin "len") (rBi Y .len) ∧ CallR X (.builtin "all") (rBi Y .all) ∧ CallR X (.builtin "any") (rBi Y .any) ∧ CallR X (.builtin "sum") (rBi Y .sum) ∧ CallR X (.builtin "abs") (rBi Y .abs) ∧ CallR X (.builtin "max") (rBi Y .max) ∧
    CallR X (.builtin "min") (rBi Y .min) ∧ CallR X (.type "list") (rBi Y .list) ∧ CallR X (.builtin "sorted") (rBi Y .sorted) := by
  unfold rBi
  rw [← hK, ← hP, ← hw]
  exact ⟨call_len, cr_all hc, cr_any hc, cr_sum hc, call_abs, call_max2 hc, cr_min hc, call_lstN hc, cr_sortedS⟩
def Kx.cr (c : Kx B k C E sc Ns) {X : Cx} (hX : C X) := cr_bi (Y := B.Y) (c.hK X hX) (c.is X hX).P (c.is X hX).w (c.calm X hX)
theorem ne_bi (c : Kx B k C E sc Ns) (bo : BOk B) {f : BI} {na : NN.N} (hf : f ≠ .max ∧ f ≠ .ssorted ∧ f ≠ .lenset) (hg : gloB sc f.name = true) (hs : noStar a = true) (A : NE C B.Y E a (ev na)) : NE C B.Y E (.Call (.Name f.name p) [a] [] pos) (ev (.bi f na)) := by
  have hs' : [a].all noStar = true := by simp [hs]
  refine ne_bi1 (r := rBi B.Y f) (fun X hX ta pa => ?_) A fun R s h P => bi_ok ⟨hf.1, hf.2.1⟩ h R s P
  have q := c.cr hX
  have pa := pa1 hs pa
  cases f with
  | len => exact c.bi (bo _ (by simp [BI.name])) hg (fun X hX => (c.cr hX).1) (by decide +kernel) hs' (by decide) (by decide) X hX pa
  | all => exact c.bi (bo _ (by simp [BI.name])) hg (fun X hX => (c.cr hX).2.1) (by decide +kernel) hs' (by decide) (by decide) X hX pa
  | any => exact c.bi (bo _ (by simp [BI.name])) hg (fun X hX => (c.cr hX).2.2.1) (by decide +kernel) hs' (by decide) (by decide) X hX pa
  | sum => exact c.bi (bo _ (by simp [BI.name])) hg (fun X hX => (c.cr hX).2.2.2.1) (by decide +kernel) hs' (by decide) (by decide) X hX pa
  | abs => exact c.bi (bo _ (by simp [BI.name])) hg (fun X hX => (c.cr hX).2.2.2.2.1) (by decide +kernel) hs' (by decide) (by decide) X hX pa
  | max => exact absurd rfl hf.1
  | min => exact c.bi (bo _ (by simp [BI.name])) hg (fun X hX => (c.cr hX).2.2.2.2.2.2.1) (by decide +kernel) hs' (by decide) (by decide) X hX pa
  | list => exact c.biT (bo _ (by simp [BI.name])) hg (fun X hX => (c.cr hX).2.2.2.2.2.2.2.1) (by decide +kernel) hs' (by decide) (by decide) X hX pa
  | sorted => exact c.bi (bo _ (by simp [BI.name])) hg (fun X hX => (c.cr hX).2.2.2.2.2.2.2.2) (by decide +kernel) hs' (by decide) (by decide) X hX pa
  | ssorted => exact absurd rfl hf.2.1
  | lenset => exact absurd rfl hf.2.2
theorem ne_max2 (c : Kx B k C E sc Ns) (bo : BOk B) {na nb : NN.N} (hg : gloB sc "max" = true) (hs : noStar a = true) (hs2 : noStar b = true) (A : NE C B.Y E a (ev na)) (A2 : NE C B.Y E b (ev nb)) : NE C B.Y E (.Call (.Name "max" p) [a, b] [] pos) (ev (.bi2 .max na nb)) := by
  refine ne_bi2 (r := rBi B.Y .max) (fun X hX ta tb pa pb => c.bi (bo _ (by simp)) hg (fun X hX => (c.cr hX).2.2.2.2.2.1) (by decide +kernel) (by simp [hs, hs2]) (by decide) (by decide) X hX (pa2 hs hs2 pa pb)) A A2 fun R s s2 h P => ?_
  rename_i M st H v u x y rv Q
  cases x <;> first
    | (cases h; done)
    | (simp [builtin] at h; done)
    | (cases y <;> first
        | (cases h; done)
        | (cases h; cases s; cases s2; exact ⟨_, _, rfl, P.val R rfl⟩))
def rMin2 : List V → Hp → VK → Prop := fun xs H Q => ∃ i j, xs = [.int i, .int j] ∧ Q (.int (if j < i then j else i)) H
theorem ne_min2 (c : Kx B k C E sc Ns) (bo : BOk B) {na nb : NN.N} (hg : gloB sc "min" = true) (hs : noStar a = true) (hs2 : noStar b = true) (A : NE C B.Y E a (ev na)) (A2 : NE C B.Y E b (ev nb)) : NE C B.Y E (.Call (.Name "min" p) [a, b] [] pos) (ev (.bi2 .min na nb)) := by
  refine ne_bi2 (r := rMin2) (fun X hX ta tb pa pb => c.bi (bo _ (by simp)) hg (fun X hX => call_min2 (c.calm X hX)) (by decide +kernel) (by simp [hs, hs2]) (by decide) (by decide) X hX (pa2 hs hs2 pa pb)) A A2 fun R s s2 h P => ?_
  rename_i M st H v u x y rv Q
  cases x <;> first
    | (cases h; done)
    | (simp [builtin] at h; done)
    | (cases y <;> first
        | (cases h; done)
        | (cases h; cases s; cases s2; exact ⟨_, _, rfl, P.val R rfl⟩))

theorem kit_tab : ∀ a ∈ ["NoneType", "bool", "int", "str", "tuple", "list"], ∀ ty ∈ ["str", "int", "bool", "tuple", "list"], kitB a ty = some (a == ty || (a == "bool" && ty == "int")) := by decide +kernel
theorem isTy_kit {t : T} {ty : String} {b : Bool} (h : isTy ty t = some b) (hty : ty ∈ ["str", "int", "bool", "tuple", "list"]) : ∃ a, tyName t = some a ∧ kitB a ty = some b := by
  unfold isTy at h
  cases q : tyName t with
  | none => rw [q] at h; cases h
  | some a =>
    rw [q] at h
    refine ⟨a, rfl, ?_⟩
    rw [← show some (a == ty || (a == "bool" && ty == "int")) = some b from h]
    refine kit_tab a ?_ ty hty
    cases t <;> cases q <;> decide
theorem see_ty {Y : Gx} {M : Mp} {H : Hp} {t : T} {v : V} {n : String} (s : See Y M H v t) (h : tyName t = some n) : TyX Y.K H v (.type n) := by
  cases t with
  | non => cases h; cases (show v = .non from s); exact .base .non
  | bl _ => cases h; cases (show v = .bl _ from s); exact .base (.bl _)
  | int _ => cases h; cases (show v = .int _ from s); exact .base (.int _)
  | str _ => cases h; cases (show v = .str _ from s); exact .base (.str _)
  | tup ts =>
    cases h
    obtain ⟨a, vs, rfl, h1, _⟩ := s
    rcases h1 with (h1 | ⟨o, h1⟩) | ⟨o, its, n, h1, h2, _⟩
    · exact .base (.tup h1)
    · exact .fTuple h1
    · exact .kTuple h1 h2
  | lst ts =>
    cases h
    obtain ⟨a, vs, rfl, h1, _⟩ := s
    rcases h1 with (h1 | ⟨o, h1⟩) | ⟨o, its, n, h1, h2, _⟩
    · exact .base (.lst h1)
    · exact .base (.frz h1)
    · exact .kList h1 h2
  | _ => cases h
theorem call_isiY {X : Cx} {K : PySem.W.Frag} (h : X.K = K) : CallR X (.builtin "isinstance") (rIsi K) := h ▸ call_isi
theorem ne_isT (c : Kx B k C E sc Ns) (bo : BOk B) {na : NN.N} {ty : String} {px : Pos} (hty : ty ∈ ["str", "int", "bool", "tuple", "list"]) (hg : gloB sc "isinstance" = true) (hg2 : gloB sc (Str.ofString ty) = true) (hs : noStar a = true) (A : NE C B.Y E a (ev na)) :
    NE C B.Y E (.Call (.Name "isinstance" p) [a, .Name (Str.ofString ty) px] [] pos) (ev (.isT na ty)) := by
  obtain ⟨ta, pa, ha⟩ := A
  have pty : ∀ X, C X → PE X (.Name (Str.ofString ty) px) (tC (.ty ty)) := fun X hX => by
    have hm : X.mg (Str.ofString ty) = none := by
      rw [(c.is X hX).mg]
      apply bo
      simp only [List.mem_cons, List.not_mem_nil, or_false] at hty
      rcases hty with rfl | rfl | rfl | rfl | rfl <;> simp
    have hgl := c.gl hg2 X hX
    simp only [List.mem_cons, List.not_mem_nil, or_false] at hty
    rcases hty with rfl | rfl | rfl | rfl | rfl <;> exact pe_bltn hgl hm (by decide +kernel) rfl (by decide) (by decide)
  refine ⟨_, fun X hX => c.bi (r := rIsi B.K) (bo _ (by simp)) hg (fun X hX => call_isiY (c.hK X hX)) (by decide +kernel) (by rw [List.all_cons, hs]; rfl) (by decide) (by decide) X hX (pa2 hs rfl (pa X hX) (pty X hX)), fun M st H H₀ σ env Q R r0 P => ha M st H H₀ σ env _ R r0 ?_⟩
  unfold ev at P
  refine (PostO.bind.mp P).imp (Ext.refl _ _) fun ra st1 P v M1 H1 e1 R1 rr => ?_
  obtain ⟨rv, hv, P⟩ := PostO.of P
  cases hx : view env st1 ra with
  | none => rw [hx] at hv; cases hv
  | some x =>
    rw [hx] at hv
    cases q : isTy ty x with
    | none => simp only [Option.bind_some, q] at hv; cases hv
    | some bb =>
      simp only [Option.bind_some, q] at hv
      cases hv
      obtain ⟨n, hn, hk⟩ := isTy_kit q hty
      exact ⟨v, .ty ty, _, _, bb, rfl, .ty ty, see_ty (RepR.see R1 (r0.ext e1) rr hx) hn, kit_ty hk, P _ M1 H1 e1 R1 rfl⟩
structure ClsX (K : PySem.W.Frag) (D : Addr) : Prop where
  cl : Cls K D
  ha : PySem.W.findIn K (.ref D) "__class__" = some (some (.builtin "object.__class__"))
  hn : PySem.W.specialIn K (.builtin "object.__class__") "__get__" = some (some (.builtin "getset_descriptor.__get__"))
  ht : PySem.W.takesIn K (.builtin "object.__class__") = some true
  hm : PySem.W.mroIn K D (.type "object") = some true
def IsOk (B : Bx) (D : Str) (cs subs : List Str) : Prop := B.mg D = some (.ref (B.cad D)) ∧ ∀ z, cs.contains z = true → ClsX B.K (B.cad z) ∧ PySem.W.kitOne B.K (.ref (B.cad z)) (.ref (B.cad D)) = some (subs.contains z)
theorem ne_isC (c : Kx B k C E sc Ns) (bo : BOk B) {na : NN.N} {D : Str} {cs subs : List Str} {px : Pos} (io : IsOk B D cs subs) (hg : gloB sc "isinstance" = true) (hg2 : gloB sc D = true) (hd : (D == ("__debug__" : Str)) = false) (hs : noStar a = true) (A : NE C B.Y E a (ev na)) :
    NE C B.Y E (.Call (.Name "isinstance" p) [a, .Name D px] [] pos) (ev (.isC na D cs subs)) := by
  obtain ⟨ta, pa, ha⟩ := A
  have pty : ∀ X, C X → PE X (.Name D px) (tC (.ref (B.cad D))) := fun X hX => pe_glob (c.gl hg2 X hX) (by rw [(c.is X hX).mg]; exact io.1) rfl hd
  refine ⟨_, fun X hX => c.bi (r := rIsi B.K) (bo _ (by simp)) hg (fun X hX => call_isiY (c.hK X hX)) (by decide +kernel) (by rw [List.all_cons, hs]; rfl) (by decide) (by decide) X hX (pa2 hs rfl (pa X hX) (pty X hX)), fun M st H H₀ σ env Q R r0 P => ha M st H H₀ σ env _ R r0 ?_⟩
  unfold ev at P
  refine (PostO.bind.mp P).imp (Ext.refl _ _) fun ra st1 P v M1 H1 e1 R1 rr => ?_
  split at P
  · rename_i t
    obtain ⟨rv, hv, P⟩ := PostO.of P
    cases q : isCl cs subs t with
    | none => rw [q] at hv; cases hv
    | some bb =>
      rw [q] at hv
      cases hv
      cases t with
      | ins z ns ts =>
        have q : (if cs.contains z = true then some (subs.contains z) else none) = some bb := q
        split at q
        · rename_i hc
          cases q
          obtain ⟨cx, kk⟩ := io.2 z hc
          obtain ⟨a', ea, hm⟩ := id rr
          obtain ⟨dx, fs, h1, _, _⟩ := R1.fz a' _ hm
          subst ea
          exact ⟨_, .ref (B.cad D), _, _, _, rfl, .own _, .base (.ins h1 cx.cl cx.ha cx.hn cx.ht cx.hm), kk, P _ M1 H1 e1 R1 rfl⟩
        · cases q
      | _ => cases q
  · exact False.elim P
end
end NN

set_option Elab.async false
set_option linter.all false
set_option maxRecDepth 100000
set_option maxHeartbeats 4000000
namespace NN
open PySem PySem.Spec PyProof.Rows L2

theorem picksN {α β : Type} {F : α → β → Prop} {as : List α} {bs : List β} (r : Paired F as bs) : ∀ l : List Nat, Paired F (l.filterMap fun i => as[i]?) (l.filterMap fun i => bs[i]?)
  | [] => .nil
  | i :: l => by
    have ih := picksN r l
    cases q : as[i]? with
    | none =>
      have q2 : bs[i]? = none := by
        rw [List.getElem?_eq_none_iff] at q ⊢
        rw [← r.length]; exact q
      rw [List.filterMap_cons_none q, List.filterMap_cons_none q2]; exact ih
    | some x =>
      obtain ⟨y, q2, f⟩ := Paired.getL r q
      rw [List.filterMap_cons_some q, List.filterMap_cons_some q2]; exact .cons f ih
theorem stepL_pair {α β : Type} {F : α → β → Prop} {as : List α} {bs : List β} (r : Paired F as bs) (lo hi st : Option Int) : Paired F (stepL as lo hi st) (stepL bs lo hi st) := by
  unfold stepL
  rw [r.length]
  exact picksN r _
theorem stepL_pick (its : List Value) (lo hi st : Option Int) : slicePick its.toArray lo hi st = (stepL its lo hi st).toArray := by
  unfold slicePick stepL
  rw [List.size_toArray]
  congr 1
  simp
def tStep (K : PySem.W.Frag) (ta : TE) (tl tc : TO) : TE := fun σ H Q => ta σ H fun x H1 => tl σ H1 fun l H2 => tc σ H2 fun d H3 => ∃ a xs st, x = .ref a ∧ SqL K H3 a xs ∧ d = some st ∧ st ≠ 0 ∧ ∀ p, H3 p = none → Q (.ref p) (upd H3 p (.lst (stepL xs l none (some st))))
theorem pe_step {X : Cx} {e c : Expr} {lo : Option Expr} {ta : TE} {tl tc : TO} {p3 pos : Pos} (he : PE X e ta) (hl : PO X lo tl) (hc : PO X (some c) tc) : PE X (.Subscript e (.Slice lo none (some c) p3) pos) (tStep X.K ta tl tc) := by
  refine ⟨fun pins s σ H Q I h => ?_⟩
  refine Subscript_ (thn (he.run pins s σ H _ I h) fun v s1 ⟨x, H1, I1, r1, q1⟩ => ?_)
  refine wpAny_Slice (thn (hl.run pins s1 σ H1 _ I1 q1) fun vl s2 ⟨l, H2, I2, pl, q2⟩ => ?_)
  refine thn (po_none.run pins s2 σ H2 (fun o H' => o = none ∧ H' = H2) I2 ⟨rfl, rfl⟩) fun vu s3 ⟨u, H3, I3, pu, eu, e3⟩ => ?_
  subst eu e3
  refine thn (hc.run pins s3 σ H3 _ I3 q2) fun vs s4 ⟨d, H4, I4, ps, q4⟩ => ?_
  obtain ⟨a, xs, st, ex, hx, ed, h0, q⟩ := q4
  subst ex ed
  cases r1
  have I5 : Inv X pins σ H4 { s4 with heap := s4.heap.push { cls := .type "slice", data := .fields #[vl, vu, vs] } } := I4.kept (t' := s4.toks) fun b ob z => Heap.get?_push_of_some _ z
  obtain ⟨its, r, ht, hz⟩ := I5.list hx
  have hn := r.length
  show wpAny (model X.prog X.w) X.A (subscriptTail e (.Slice lo none (some c) p3) (.ref a) (.ref s4.heap.objs.size)) (EP X pins σ Q) X.xe { s4 with heap := s4.heap.push { cls := .type "slice", data := .fields #[vl, vu, vs] } }
  refine tail_any (ops := [.ref a, .ref s4.heap.objs.size]) ht.isList.typeIs (PySem.slot_list_getitem.lookup) ?_ (by with_unfolding_all rfl)
  refine wpAny_getItem_list_slice ht.isList (Heap.IsSliceOf.new _ vl vu vs) pl pu ps (fun z => h0 (Option.some.inj z)) ?_ (by rw [List.size_toArray]; omega)
  have hl := slicePick_size_le its.toArray l none (some st)
  rw [stepL_pick] at hl ⊢
  rw [List.size_toArray, List.size_toArray] at hl
  have rr := stepL_pair r l none (some st)
  refine ⟨.ref _, _, I5.laid (t' := s4.toks) (o := .lst (stepL xs l none (some st))) (fun b ob z => Heap.get?_push_of_some _ z) (Nat.le_refl _) ?_, rfl, q _ (I5.hok.fresh (Nat.le_refl _))⟩
  exact ⟨by rw [rr.length]; omega, _, 0, rr, Heap.get?_push_size _ rfl⟩
section
variable {C : Cx → Prop} {Y : Gx} {E : XK} {e a b c o : Expr} {pos p2 : Pos} {na nb nc nl : N} {lo : Option Expr}
theorem pe_stepY {X : Cx} {K : PySem.W.Frag} {ta : TE} {tl tc : TO} (hK : X.K = K) (he : PE X e ta) (hl : PO X lo tl) (hc : PO X (some c) tc) : PE X (.Subscript e (.Slice lo none (some c) p2) pos) (tStep K ta tl tc) := hK ▸ pe_step he hl hc
theorem ne_slst (hK : ∀ X, C X → X.K = Y.K) (A : NE C Y E a (ev na)) (L : NP C Y E lo (evP nl)) (U : NP C Y E (some c) (evP nc)) : NE C Y E (.Subscript a (.Slice lo none (some c) p2) pos) (ev (.slst na nl nc)) := by
  obtain ⟨ta, pa, ha⟩ := A
  obtain ⟨tl, pl, hl⟩ := L
  obtain ⟨tu, pu, hu⟩ := U
  refine ⟨_, fun X hX => pe_stepY (hK X hX) (pa X hX) (pl X hX) (pu X hX), fun M st H H₀ σ env Q R r0 P => ha M st H H₀ σ env _ R r0 ?_⟩
  unfold ev at P
  refine (PostO.bind.mp P).imp (Ext.refl _ _) fun ra st1 P v M1 H1 e1 R1 r1 => ?_
  refine hl M1 st1 H1 H₀ σ env _ R1 (r0.ext e1) ?_
  refine (PostO.bind.mp P).imp e1 fun l st2 P M2 H2 e2 R2 => ?_
  refine hu M2 st2 H2 H₀ σ env _ R2 ((r0.ext e1).ext e2) ?_
  refine (PostO.bind.mp P).imp (e1.trans e2) fun u st3 P M3 H3 e3 R3 => ?_
  obtain ⟨rv, hv, P⟩ := PostO.of P
  have env3 := ((r0.ext e1).ext e2).ext e3
  have r3 := (r1.ext e2).ext e3
  have e13 := (e1.trans e2).trans e3
  cases hx : view env st3 ra with
  | none => rw [hx] at hv; cases hv
  | some x =>
    rw [hx] at hv
    have hv : stepT x l u = some rv := hv
    have s := RepR.see R3 env3 r3 hx
    unfold stepT at hv
    split at hv
    · rename_i xs d _
      split at hv
      · cases hv
      · rename_i h0
        cases hv
        obtain ⟨a, vs, ev, h1, rr⟩ := s
        refine ⟨a, vs, d, ev, h1, rfl, h0, fun p hp => ?_⟩
        have PV : PostV Y M3 st3 H3 (.fresh (.lst (stepL xs l none (some d)))) Q := fun w M4 H4 e4 R4 r4 => P w M4 H4 (e13.trans e4) R4 (r4.noslot.earlier fun z hz => e13.free hz)
        exact PV.newL R3 (stepL_pair rr l none (some d)) hp
    · cases hv

def rMe (K : PySem.W.Frag) : ME → V → List V → Hp → VK → Prop
  | .join => fun x xs H Q => ∃ a p, ∃ ys : List Str, x = .str a ∧ xs = [.ref p] ∧ (SqL K H p (ys.map V.str) ∨ SqT K H p (ys.map V.str)) ∧ (ys.map (·.length)).sum + ys.length * a.length ≤ 16777216 ∧ Q (.str (Txt.join a ys)) H
  | .split => fun x xs H Q => ∃ a b, x = .str a ∧ xs = [.str b] ∧ (b.length == 0) = false ∧ a.length + 2 ≤ sizeLine ∧ rNewStrs (Txt.split a b) H Q
  | .index => fun x xs H Q => ∃ a b k, x = .str a ∧ xs = [.str b] ∧ Txt.index0 a b = some k ∧ Q (.int (k : Nat)) H
theorem mt_index0 {X : Cx} {K : PySem.W.Frag} : MtR X "str.index" (rMe K .index) := by
  intro pins s σ H x xs v us Q I rx rs h
  obtain ⟨a, b, k, rfl, rfl, hk, q⟩ := h
  obtain ⟨t, rfl⟩ := rx
  cases rs with
  | cons r1 rs =>
    cases rs
    obtain ⟨u, rfl⟩ := r1
    unfold Txt.index0 at hk
    cases z : Builtin.Str.occurrences a b 0 a.length 1 with
    | nil => rw [z] at hk; cases hk
    | cons j rest => rw [z] at hk; cases hk; exact PySem.SC.index z ⟨.int (k : Nat), H, I.tok _, ⟨_, rfl⟩, q⟩
theorem me_ok {f : ME} {M : Mp} {st : Sto} {H : Hp} {u : V} {s : Str} {t : T} {rv : RV} {Q : VK} (h : method f s t = some rv) (R : Rel Y M st H) (se : See Y M H u t) (P : PostV Y M st H rv Q) : rMe Y.K f (.str s) [u] H Q := by
  unfold method at h
  split at h
  · rename_i ts
    obtain ⟨l, vs, rfl, h1, r⟩ := se
    cases q : strs? ts with
    | none => rw [q] at h; cases h
    | some ss =>
      rw [q] at h
      have h : (if (ss.map Str.length).sum + ss.length * s.length ≤ LIM then some (RV.val (.str (Txt.join s ss))) else none) = some rv := h
      split at h
      · rename_i hz
        cases h
        rw [strs_vals r q] at h1
        exact ⟨s, l, ss, rfl, rfl, .inl h1, hz, P.val R rfl⟩
      · cases h
  · rename_i b
    split at h
    · cases h
    · rename_i hz
      cases h
      cases (show u = .str _ from se)
      refine ⟨s, b, rfl, rfl, ?_, ?_, fun p hp => ?_⟩
      · cases q : b.length == 0 with
        | false => rfl
        | true => exact absurd (.inl (eq_of_beq q)) hz
      · rw [sizeLine_eq]; unfold LIM at hz; omega
      · exact P.newL R vals_strs hp
  · rename_i b
    cases (show u = .str _ from se)
    cases q : Txt.index0 s b with
    | none => rw [q] at h; cases h
    | some k => rw [q] at h; cases h; exact ⟨s, b, k, rfl, rfl, q, P.val R rfl⟩
  · cases h
def ME.name : ME → Str
  | .join => "join" | .split => "split" | .index => "index"
theorem pe_me {X : Cx} {K : PySem.W.Frag} {f : ME} {apos : Pos} {ta tb : TE} (hK : X.K = K) (ho : PE X o ta) (he : PE X b tb) (hs : noStar b = true) (hb : noSuper o = true) (hp : (apos.endLine == pos.line) = true) : PE X (.Call (.Attribute o f.name apos) [b] [] pos) (tM1 (rMe K f) ta tb) := by
  subst hK
  cases f with
  | join => exact pe_join ho he (starEach_cons hs) (abase hb) hp
  | split => exact pe_split ho he (starEach_cons hs) (abase hb) hp
  | index => exact pe_m1 PySem.F.slot_str_index PySem.F.type_str_index mt_index0 ho he (starEach_cons hs) (abase hb) hp
theorem ne_me {f : ME} {apos : Pos} (hK : ∀ X, C X → X.K = Y.K) (hs : noStar b = true) (hb : noSuper o = true) (hp : (apos.endLine == pos.line) = true) (A : NE C Y E o (ev na)) (B : NE C Y E b (ev nb)) : NE C Y E (.Call (.Attribute o f.name apos) [b] [] pos) (ev (.me f na nb)) := by
  obtain ⟨ta, pa, ha⟩ := A
  obtain ⟨tb, pb, hb'⟩ := B
  refine ⟨_, fun X hX => pe_me (hK X hX) (pa X hX) (pb X hX) hs hb hp, fun M st H H₀ σ env Q R r0 P => ha M st H H₀ σ env _ R r0 ?_⟩
  unfold ev at P
  refine (PostO.bind.mp P).imp (Ext.refl _ _) fun ra st1 P v M1 H1 e1 R1 rr => ?_
  split at P
  · rename_i x
    cases (show v = .str x from rr)
    refine ⟨⟨x, rfl⟩, hb' M1 st1 H1 H₀ σ env _ R1 (r0.ext e1) ?_⟩
    refine (PostO.bind.mp P).imp e1 fun rb st2 P u M2 H2 e2 R2 rr2 => ?_
    obtain ⟨rv, hv, P⟩ := PostO.of P
    cases hy : view env st2 rb with
    | none => rw [hy] at hv; cases hv
    | some y =>
      rw [hy] at hv
      exact me_ok hv R2 (RepR.see R2 ((r0.ext e1).ext e2) rr2 hy) fun w M3 H3 e3 R3 r3 => P w M3 H3 ((e1.trans e2).trans e3) R3 (r3.noslot.earlier fun z hz => (e1.trans e2).free hz)
  · exact False.elim P

theorem pe_ssetY {X : Cx} {K : PySem.W.Frag} {ta : TE} {p p2 q : Pos} (hK : X.K = K) (hc : X.calm = true) (hg : Gl X "sorted") (hm : X.mg "sorted" = none) (hg2 : Gl X "set") (hm2 : X.mg "set" = none) (ha : PE X a ta) (na : noStar a = true) :
    PE X (.Call (.Name "sorted" p) [.Call (.Name "set" p2) [a] [] q] [] pos) (tSSet K ta) := hK ▸ pe_sset hc hg hm hg2 hm2 ha (starEach_cons na)
theorem ne_sset {p p3 q : Pos} {B : Bx} {k : Nat} {sc : Scope} {Ns : List Str} (c : Kx B k C E sc Ns) (bo : BOk B) (hg : gloB sc "sorted" = true) (hg2 : gloB sc "set" = true) (hs : noStar a = true) (A : NE C B.Y E a (ev na)) :
    NE C B.Y E (.Call (.Name "sorted" p) [.Call (.Name "set" p3) [a] [] q] [] pos) (ev (.bi .ssorted na)) := by
  obtain ⟨ta, pa, ha⟩ := A
  refine ⟨_, fun X hX => pe_ssetY (c.hK X hX) (c.calm X hX) (c.gl hg X hX) (by rw [(c.is X hX).mg]; exact bo _ (by simp)) (c.gl hg2 X hX) (by rw [(c.is X hX).mg]; exact bo _ (by simp)) (pa X hX) hs, fun M st H H₀ σ env Q R r0 P => ha M st H H₀ σ env _ R r0 ?_⟩
  unfold ev at P
  refine (PostO.bind.mp P).imp (Ext.refl _ _) fun ra st1 P v M1 H1 e1 R1 rr => ?_
  obtain ⟨rv, hv, P⟩ := PostO.of P
  cases hx : view env st1 ra with
  | none => rw [hx] at hv; cases hv
  | some x =>
    rw [hx] at hv
    have hv : builtin .ssorted [x] = some rv := hv
    have se := RepR.see R1 (r0.ext e1) rr hx
    cases x with
    | lst ts =>
      obtain ⟨l, vs, rfl, h1, r⟩ := se
      have hv : ((strs? ts).bind fun ss => if ss.length < 64 then some (RV.fresh (.lst ((sortStr (uniqS ss)).map .str))) else none) = some rv := hv
      cases q : strs? ts with
      | none => rw [q] at hv; cases hv
      | some ss =>
        rw [q] at hv
        have hv : (if ss.length < 64 then some (RV.fresh (.lst ((sortStr (uniqS ss)).map .str))) else none) = some rv := hv
        split at hv
        · rename_i hz
          cases hv
          rw [strs_vals r q] at h1
          refine ⟨l, ss, rfl, h1, hz, fun ys p ⟨xs, nd, mm, pm⟩ so hp => ?_⟩
          have e : ys = sortStr (uniqS ss) := sortStr_only (pm.trans ((List.perm_ext_iff_of_nodup nd (uniqS_nodup ss)).mpr fun z => (mm z).trans (uniqS_mem ss z).symm)) so
          rw [e]
          have PV : PostV B.Y M1 st1 H1 (.fresh (.lst ((sortStr (uniqS ss)).map .str))) Q := fun w M4 H4 e4 R4 r4 => P w M4 H4 (e1.trans e4) R4 (r4.noslot.earlier fun z hz => e1.free hz)
          exact PV.newL R1 vals_strs hp
        · cases hv
    | _ => simp [builtin] at hv

theorem pe_nnewY {X : Cx} {P : Program} {w : World} (hP : X.prog = P) (hw : X.w = w) : PE X (.Dict [] [] pos) (tNNew P w) := hP ▸ hw ▸ pe_nnew
theorem ne_dnew (hP : ∀ X, C X → X.prog = Y.P) (hw : ∀ X, C X → X.w = Y.w) : NE C Y E (.Dict [] [] pos) (ev .dnew) := by
  refine ⟨_, fun X hX => pe_nnewY (hP X hX) (hw X hX), fun M st H H₀ σ env Q R r0 P p hp => ?_⟩
  unfold ev at P
  obtain ⟨R1, E1⟩ := R.lay hp (NDic Y.P Y.w p [])
  exact (show KE Y M H σ Q (.fresh (.dic 0 [] [])) st from P) _ M _ E1 R1 ⟨p, rfl, hp, R.nom hp, rfl, [], upd_same, rfl, .nil⟩
theorem keyT_tN (k : Option Key) : keyT (tN k) = some k := by
  rcases k with _ | i | x <;> rfl
theorem keyT_rep {M : Mp} {t : T} {v : V} {k : Option Key} (h : keyT t = some k) (r : RepV Y M v t) : v = kN k ∧ t = tN k := by
  unfold keyT at h
  split at h <;> cases h
  · exact ⟨r, rfl⟩
  · exact ⟨r, rfl⟩
  · exact ⟨r, rfl⟩
theorem eqK_tN {t : T} {k : Option Key} (h : keyT t = some k) (j : Option Key) : eqK (tN j) t = decide (j = k) := by
  unfold eqK
  rw [keyT_tN, h]
  by_cases e : j = k
  · subst e; simp
  · rw [decide_eq_false e]
    exact decide_eq_false fun q => e (Option.some.inj q)
theorem dput_ok {M : Mp} {t x : T} {v : V} {k : Option Key} (h : keyT t = some k) (r : RepV Y M v x) {kvs : List (Option Key × V)} {vs : List T} (rs : RepVs Y M (kvs.map (·.2)) vs) :
    (dput (kvs.map fun p => tN p.1) vs t x).1 = (putK kvs k v).map (fun p => tN p.1) ∧ RepVs Y M ((putK kvs k v).map (·.2)) (dput (kvs.map fun p => tN p.1) vs t x).2 := by
  have ha : (kvs.map fun p => tN p.1).any (eqK · t) = kvs.any fun kv => decide (kv.1 = k) := by
    rw [List.any_map]
    congr 1
    funext kv
    exact eqK_tN h kv.1
  unfold dput putK
  rw [ha]
  split
  · refine ⟨?_, ?_⟩
    · rw [List.map_map]
      refine List.map_congr_left fun kv _ => ?_
      show tN kv.1 = tN (if kv.1 = k then (kv.1, v) else kv).1
      split <;> rfl
    · rename_i hany
      clear ha hany
      induction kvs generalizing vs with
      | nil => cases rs; exact .nil
      | cons kv kvs ih =>
        cases rs with
        | cons r1 r2 =>
          refine .cons ?_ (ih r2)
          show RepV Y M (if kv.1 = k then (kv.1, v) else kv).2 (if eqK (tN kv.1) t = true then x else _)
          rw [eqK_tN h]
          by_cases e : kv.1 = k
          · rw [if_pos e, if_pos (decide_eq_true e)]; exact r
          · rw [if_neg e, if_neg (by rw [decide_eq_false e]; exact Bool.false_ne_true)]; exact r1
  · obtain ⟨_, e⟩ := keyT_rep (Y := Y) (M := M) (v := kN k) h (by
      obtain ⟨q⟩ : Nonempty (t = tN k) := by
        unfold keyT at h
        split at h <;> cases h <;> exact ⟨rfl⟩
      rw [q]; exact kN_rep k)
    refine ⟨?_, ?_⟩
    · rw [List.map_append, e]; rfl
    · rw [List.map_append]; exact Paired.app rs (.cons r .nil)
theorem ns_put {i : Nat} {s : Stmt} {k : N} {ek ee : Expr} {ne : N} (hp : ∀ X, C X → ∀ {tk tv}, PE X ek tk → PE X ee tv → PS X s (sNPut Y.P Y.w (tVar i) tk tv)) (A : NE C Y E ee (ev ne)) (B : NE C Y E ek (ev k)) : NS C Y E s (ex (.put i k ne)) := by
  obtain ⟨ta, pa, ha⟩ := A.nt
  obtain ⟨tb, pb, hb⟩ := B.nt
  refine ⟨_, fun X hX => hp X hX (pb X hX) (pa X hX), fun M₀ H₀ M st H σ env D e0 R r P => ha M st H H₀ σ env _ R r ?_⟩
  unfold ex at P
  refine (PostO.bind.mp P).imp e0 fun x st1 P v M1 H1 e1 R1 rv => ?_
  split at P
  · rename_i ks vs hc
    have r1 := r.ext e1
    obtain ⟨u, g1, a, g2, g3, g4⟩ := r1.at' i _ hc
    subst g2
    refine ⟨_, g1, hb M1 st1 H1 H₀ σ env _ R1 r1 ?_⟩
    refine (PostO.bind.mp P).imp (e0.trans e1) fun t st2 P y M2 H2 e2 R2 ry => ?_
    split at P
    · rename_i hz
      rw [Bool.and_eq_true, decide_eq_true_eq] at hz
      obtain ⟨hk, hz⟩ := hz
      obtain ⟨k', hk⟩ := Option.isSome_iff_exists.mp hk
      have r2 := r1.ext e2
      obtain ⟨u', g1', a', g2', g3', g4'⟩ := r2.at' i _ hc
      rw [g1] at g1'; cases g1'
      cases g2'
      obtain ⟨_, kvs, h1, e, h2⟩ := id g3'
      obtain ⟨f1, f2, f3⟩ := g4' a (by simp [foot])
      subst e
      rw [List.length_map] at hz
      have rv2 := RepV.mono e2.keep rv
      obtain ⟨d1, d2⟩ := dput_ok hk rv2 h2
      refine ⟨a, kvs, k', rfl, (keyT_rep hk ry).1, h1, by rw [← line_lim]; exact hz, ?_⟩
      rw [d1] at P
      exact (show KS Y M₀ H₀ M D (.nx (env.set i (some (.own (.dic 0 ((putK kvs k' v).map fun p => tN p.1) _))))) st2 from P) _ M2 _ (((e0.trans e1).trans e2).poke f3 _) (fun z k q => e2.keep z k (e1.keep z k q)) (R2.poke f1 _) (r2.poke hc g1 ⟨rfl, _, upd_same, rfl, d2⟩)
    · exact False.elim P
  · exact False.elim P
end
end NN

set_option Elab.async false
set_option linter.all false
set_option maxRecDepth 100000
set_option maxHeartbeats 4000000
namespace NN
open PySem PySem.Spec PyProof.Rows L2

def plainIx : Expr → Bool
  | .Slice _ _ none _ => false
  | _ => true
theorem plainIx_ok {e : Expr} (h : plainIx e = true) : PlainIx e := by
  intro o i
  cases e with
  | Slice a b c p =>
    cases c with
    | none => cases h
    | some _ => rfl
  | _ => rfl
def plainT : Expr → Bool
  | .UnaryOp .Not _ _ => false
  | .BoolOp _ _ _ => false
  | .IfExp _ _ _ _ => false
  | .Compare _ _ _ _ => false
  | _ => true
theorem plainT_ok {e : Expr} (h : plainT e = true) (env : PySem.Env) (whole : Sem Value) : isTrue e env whole = (do let v ← whole; standAt e.pos; holding [v] (truthy v)) := by
  cases e with
  | UnaryOp o a p => cases o <;> first | rfl | cases h
  | BoolOp _ _ _ => cases h
  | IfExp _ _ _ _ => cases h
  | Compare _ _ _ _ => cases h
  | _ => rfl
def ckK : T → Const → Bool
  | .non, .none => true
  | .bl b, .bool c => b == c
  | .int i, .int j => i == j
  | .str s, .str z => s == z
  | _, _ => false
def isTupTg : Expr → Bool
  | .Tuple _ _ _ => true
  | _ => false
def ckTs (Ns : List Str) (sc : Scope) : List Nat → List Expr → Bool
  | [], [] => true
  | i :: is, .Name x _ :: es => decide (Ns[i]? = some x) && locB sc x && ckTs Ns sc is es
  | _, _ => false
def ckT (Ns : List Str) (sc : Scope) : Tg → Expr → Bool
  | .nm i, .Name x _ => decide (Ns[i]? = some x) && locB sc x
  | .tp is, .Tuple es _ _ => ckTs Ns sc is es
  | _, _ => false
def tyNames : List String := ["str", "int", "bool", "tuple", "list"]
def ownP (Ns : List Str) (own : List Nat) : List (Str × Nat) := own.map fun i => (Ns.getD i Str.empty, i)
def dbg (x : Str) : Bool := !(x == ("__debug__" : Str))
mutual
def ckE : N → List Str → Scope → Expr → Bool
  | .var i, Ns, sc, e₀ => match e₀ with
    | .Name x _ => decide (Ns[i]? = some x) && visB sc x && dbg x && !(x == ("__classdict__" : Str))
    | _ => false
  | .lit t, Ns, sc, e₀ => match e₀ with
    | .Constant c _ _ => ckK t c
    | _ => false
  | .glb x t, Ns, sc, e₀ => match e₀ with
    | .Name y _ => x == y && gloB sc x && dbg x
    | _ => false
  | .bin o a b, Ns, sc, e₀ => match e₀ with
    | .BinOp ea op eb _ => decide (op = o.op) && ckE a Ns sc ea && ckE b Ns sc eb
    | _ => false
  | .neg a, Ns, sc, e₀ => match e₀ with
    | .UnaryOp .USub ea _ => ckE a Ns sc ea
    | _ => false
  | .cmp o a b, Ns, sc, e₀ => match e₀ with
    | .Compare ea [op] [eb] _ => decide (op = o.op) && !behindInMarks op eb && ckE a Ns sc ea && ckE b Ns sc eb
    | _ => false
  | .chain o p a b c, Ns, sc, e₀ => match e₀ with
    | .Compare ea [op, op'] [eb, ec] _ => decide (op = o.op) && decide (op' = p.op) && !lastMarks [op, op'] [eb, ec] && ckE a Ns sc ea && ckE b Ns sc eb && ckE c Ns sc ec
    | _ => false
  | .and a b, Ns, sc, e₀ => match e₀ with
    | .BoolOp .And (e1 :: e2 :: es) pos => ckE a Ns sc e1 && (match es with
        | [] => ckE b Ns sc e2
        | e3 :: es => ckE b Ns sc (.BoolOp .And (e2 :: e3 :: es) pos))
    | _ => false
  | .or a b, Ns, sc, e₀ => match e₀ with
    | .BoolOp .Or (e1 :: e2 :: es) pos => ckE a Ns sc e1 && (match es with
        | [] => ckE b Ns sc e2
        | e3 :: es => ckE b Ns sc (.BoolOp .Or (e2 :: e3 :: es) pos))
    | _ => false
  | .not a, Ns, sc, e₀ => match e₀ with
    | .UnaryOp .Not ea _ => ckE a Ns sc ea
    | _ => false
  | .ite c a b, Ns, sc, e₀ => match e₀ with
    | .IfExp ec ea eb _ => ckB c Ns sc ec && ckE a Ns sc ea && ckE b Ns sc eb
    | _ => false
  | .tup r, Ns, sc, e₀ => match e₀ with
    | .Tuple es _ _ => ckA r Ns sc es
    | _ => false
  | .lst r, Ns, sc, e₀ => match e₀ with
    | .List es _ => ckA r Ns sc es
    | _ => false
  | .ix a i, Ns, sc, e₀ => match e₀ with
    | .Subscript ea ei _ => plainIx ei && ckE a Ns sc ea && ckE i Ns sc ei
    | _ => false
  | .sl a lo hi, Ns, sc, e₀ => match e₀ with
    | .Subscript ea (.Slice l h none _) _ => ckE a Ns sc ea && ckP lo Ns sc l && ckP hi Ns sc h
    | _ => false
  | .attr a f _, Ns, sc, e₀ => match e₀ with
    | .Attribute ea g _ => f == g && noSuper ea && ckE a Ns sc ea
    | _ => false
  | .dnew, _, _, e₀ => match e₀ with
    | .Dict [] [] _ => true
    | _ => false
  | .slst a lo c, Ns, sc, e₀ => match e₀ with
    | .Subscript ea (.Slice l none (some ec) _) _ => ckE a Ns sc ea && ckP lo Ns sc l && ckP c Ns sc (some ec)
    | _ => false
  | .me f a b, Ns, sc, e₀ => match e₀ with
    | .Call (.Attribute eo m apos) [eb] [] pos => f.name == m && noSuper eo && noStar eb && (apos.endLine == pos.line) && ckE a Ns sc eo && ckE b Ns sc eb
    | _ => false
  | .bi f a, Ns, sc, e₀ => (match f with
    | .ssorted => (match e₀ with
      | .Call (.Name y _) [.Call (.Name z _) [ea] [] _] [] _ => y == ("sorted" : Str) && z == ("set" : Str) && gloB sc y && gloB sc z && noStar ea && ckE a Ns sc ea
      | _ => false)
    | f => (match e₀ with
      | .Call (.Name y _) [ea] [] _ => f.name == y && gloB sc y && decide (f ≠ .max) && decide (f ≠ .ssorted) && decide (f ≠ .lenset) && noStar ea && ckE a Ns sc ea
      | _ => false))
  | .bi2 f a b, Ns, sc, e₀ => match e₀ with
    | .Call (.Name y _) [ea, eb] [] _ => f.name == y && gloB sc y && (decide (f = .max) || decide (f = .min)) && noStar ea && noStar eb && ckE a Ns sc ea && ckE b Ns sc eb
    | _ => false
  | .isT a ty, Ns, sc, e₀ => match e₀ with
    | .Call (.Name y _) [ea, .Name z _] [] _ => y == ("isinstance" : Str) && z == Str.ofString ty && tyNames.contains ty && gloB sc y && gloB sc z && noStar ea && ckE a Ns sc ea
    | _ => false
  | .isC a D _ _, Ns, sc, e₀ => match e₀ with
    | .Call (.Name y _) [ea, .Name z _] [] _ => y == ("isinstance" : Str) && z == D && gloB sc y && gloB sc z && dbg D && noStar ea && ckE a Ns sc ea
    | _ => false
  | .call x _ _ r, Ns, sc, e₀ => match e₀ with
    | .Call (.Name y _) es [] _ => x == y && gloB sc x && ckA r Ns sc es
    | _ => false
  | .om m _ _ a r, Ns, sc, e₀ => match e₀ with
    | .Call (.Attribute eo m' apos) es [] pos => m == m' && noSuper eo && decide (es.length < 30) && (apos.endLine == pos.line) && ckE a Ns sc eo && ckA r Ns sc es
    | _ => false
  | .comp tg own it c e, Ns, sc, e₀ => match e₀ with
    | .ListComp elt [⟨tg', iter, ifs, as⟩] scope _ => decide (as = 0) && blkC Ns sc scope (ownP Ns own) && noSet iter && tg.slots.all (own.contains ·) && ckT Ns scope tg tg' && ckI it Ns sc tg' iter && ckC c Ns scope ifs && ckE e Ns scope elt
    | _ => false
  | _, _, _, _ => false
def ckB : N → List Str → Scope → Expr → Bool
  | .not a, Ns, sc, e₀ => match e₀ with
    | .UnaryOp .Not ea _ => ckB a Ns sc ea
    | _ => false
  | .and a b, Ns, sc, e₀ => match e₀ with
    | .BoolOp .And (e1 :: e2 :: es) pos => ckB a Ns sc e1 && (match es with
        | [] => ckB b Ns sc e2
        | e3 :: es => ckB b Ns sc (.BoolOp .And (e2 :: e3 :: es) pos))
    | _ => false
  | .or a b, Ns, sc, e₀ => match e₀ with
    | .BoolOp .Or (e1 :: e2 :: es) pos => ckB a Ns sc e1 && (match es with
        | [] => ckB b Ns sc e2
        | e3 :: es => ckB b Ns sc (.BoolOp .Or (e2 :: e3 :: es) pos))
    | _ => false
  | .cmp o a b, Ns, sc, e₀ => match e₀ with
    | .Compare ea [op] [eb] _ => decide (op = o.op) && !behindInMarks op eb && ckE a Ns sc ea && ckE b Ns sc eb
    | _ => false
  | .chain o p a b c, Ns, sc, e₀ => match e₀ with
    | .Compare ea [op, op'] [eb, ec] _ => decide (op = o.op) && decide (op' = p.op) && !lastMarks [op, op'] [eb, ec] && ckE a Ns sc ea && ckE b Ns sc eb && ckE c Ns sc ec
    | _ => false
  | .var i, Ns, sc, e₀ => match e₀ with
    | .Name x _ => decide (Ns[i]? = some x) && visB sc x && dbg x && !(x == ("__classdict__" : Str))
    | _ => false
  | .bi f a, Ns, sc, e₀ => match e₀ with
    | .Call (.Name y _) [ea] [] _ => f.name == y && gloB sc y && decide (f ≠ .max) && decide (f ≠ .ssorted) && decide (f ≠ .lenset) && noStar ea && ckE a Ns sc ea
    | _ => false
  | .isT a ty, Ns, sc, e₀ => match e₀ with
    | .Call (.Name y _) [ea, .Name z _] [] _ => y == ("isinstance" : Str) && z == Str.ofString ty && tyNames.contains ty && gloB sc y && gloB sc z && noStar ea && ckE a Ns sc ea
    | _ => false
  | .isC a D _ _, Ns, sc, e₀ => match e₀ with
    | .Call (.Name y _) [ea, .Name z _] [] _ => y == ("isinstance" : Str) && z == D && gloB sc y && gloB sc z && dbg D && noStar ea && ckE a Ns sc ea
    | _ => false
  | .call x _ _ r, Ns, sc, e₀ => match e₀ with
    | .Call (.Name y _) es [] _ => x == y && gloB sc x && ckA r Ns sc es
    | _ => false
  | .om m _ _ a r, Ns, sc, e₀ => match e₀ with
    | .Call (.Attribute eo m' apos) es [] pos => m == m' && noSuper eo && decide (es.length < 30) && (apos.endLine == pos.line) && ckE a Ns sc eo && ckA r Ns sc es
    | _ => false
  | _, _, _, _ => false
def ckA : N → List Str → Scope → List Expr → Bool
  | .nil, Ns, sc, e₀ => match e₀ with
    | [] => true
    | _ => false
  | .cons a r, Ns, sc, e₀ => match e₀ with
    | e :: es => noStar e && ckE a Ns sc e && ckA r Ns sc es
    | _ => false
  | _, _, _, _ => false
def ckP : N → List Str → Scope → Option Expr → Bool
  | .nil, Ns, sc, e₀ => match e₀ with
    | none => true
    | _ => false
  | .cons a .nil, Ns, sc, e₀ => match e₀ with
    | some e => ckE a Ns sc e
    | _ => false
  | _, _, _, _ => false
def ckC : N → List Str → Scope → List Expr → Bool
  | .nil, Ns, sc, e₀ => match e₀ with
    | [] => true
    | _ => false
  | .cons a .nil, Ns, sc, e₀ => match e₀ with
    | [e] => ckB a Ns sc e
    | _ => false
  | _, _, _, _ => false
def ckI : N → List Str → Scope → Expr → Expr → Bool
  | .rng1 a, Ns, sc, _, e₀ => match e₀ with
    | .Call (.Name y _) [ea] [] _ => y == ("range" : Str) && gloB sc y && noStar ea && ckE a Ns sc ea
    | _ => false
  | .rng2 a b, Ns, sc, _, e₀ => match e₀ with
    | .Call (.Name y _) [ea, eb] [] _ => y == ("range" : Str) && gloB sc y && noStar ea && noStar eb && ckE a Ns sc ea && ckE b Ns sc eb
    | _ => false
  | .enm a, Ns, sc, tg, e₀ => match e₀ with
    | .Call (.Name y _) [ea] [] _ => isTupTg tg && y == ("enumerate" : Str) && gloB sc y && noStar ea && ckE a Ns sc ea
    | _ => false
  | .zp a b, Ns, sc, tg, e₀ => match e₀ with
    | .Call (.Name y _) [ea, eb] [] _ => isTupTg tg && y == ("zip" : Str) && gloB sc y && noStar ea && noStar eb && ckE a Ns sc ea && ckE b Ns sc eb
    | _ => false
  | .cons a .nil, Ns, sc, _, e => ckE a Ns sc e
  | _, _, _, _, _ => false
end

def Callee (B : Bx) (k : Nat) (x : Str) (n : Nat) (g : G) : Prop := ∀ (X : Cx) (E : XK), XIs B X → Room k X.A → Passes (L2.CX X.prog X.w) X E → Gl X x → CallOk X E x (spN B.Y n g)
def MCallee (B : Bx) (k : Nat) (m : Str) (D : Str) (n : Nat) (g : G) : Prop := ∀ (X : Cx) (E : XK), XIs B X → Room k X.A → Passes (L2.CX X.prog X.w) X E →
  ∃ (CX : CXT) (j : Nat) (f : Addr) (fd : FuncData) (ps : List Str), Cls X.K (B.cad D) ∧ Meth X.K (B.cad D) m f ∧ FnOk X.prog X.w X.K X.mg X.base CX j f fd ps (spN B.Y n g) ∧ Room j X.A ∧ Binds X.K fd ps [] ∧ Passes CX X E
def ConOk (B : Bx) (x : Str) (t : T) : Prop := ∃ v u, B.mg x = some u ∧ RelV v u ∧ ∀ M, RepV B.Y M v t
def N.obl (B : Bx) (k : Nat) : N → Prop
  | .nil => True | .cons a r => a.obl B k ∧ r.obl B k
  | .dnew => True | .put _ a b => a.obl B k ∧ b.obl B k
  | .var _ => True | .lit _ => True | .glb x t => ConOk B x t
  | .bin _ a b => a.obl B k ∧ b.obl B k | .neg a => a.obl B k
  | .cmp _ a b => a.obl B k ∧ b.obl B k | .chain _ _ a b c => a.obl B k ∧ b.obl B k ∧ c.obl B k
  | .and a b => a.obl B k ∧ b.obl B k | .or a b => a.obl B k ∧ b.obl B k | .not a => a.obl B k | .ite c a b => c.obl B k ∧ a.obl B k ∧ b.obl B k
  | .tup r => r.obl B k | .lst r => r.obl B k
  | .ix a i => a.obl B k ∧ i.obl B k | .sl a lo hi => a.obl B k ∧ lo.obl B k ∧ hi.obl B k | .slst a lo st => a.obl B k ∧ lo.obl B k ∧ st.obl B k
  | .attr a f cs => FldOk B.Y f cs ∧ a.obl B k
  | .bi _ a => a.obl B k | .bi2 _ a b => a.obl B k ∧ b.obl B k | .me _ a b => a.obl B k ∧ b.obl B k
  | .isT a _ => a.obl B k | .isC a D cs subs => IsOk B D cs subs ∧ a.obl B k
  | .call x n g r => Callee B k x n g ∧ r.obl B k
  | .om m n tb a r => (∀ D g, tb.lookup D = some g → MCallee B k m D n g) ∧ a.obl B k ∧ r.obl B k
  | .comp _ _ it c e => it.obl B k ∧ c.obl B k ∧ e.obl B k
  | .rng1 a => a.obl B k | .rng2 a b => a.obl B k ∧ b.obl B k | .enm a => a.obl B k | .zp a b => a.obl B k ∧ b.obl B k
  | .pass => True | .seq a b => a.obl B k ∧ b.obl B k | .asg _ e => e.obl B k | .set2 _ _ a b => a.obl B k ∧ b.obl B k | .set3 _ _ _ a b c => a.obl B k ∧ b.obl B k ∧ c.obl B k
  | .drop e => e.obl B k | .ap _ e => e.obl B k | .xt _ e => e.obl B k
  | .iff c a b => c.obl B k ∧ a.obl B k ∧ b.obl B k | .for_ _ it b => it.obl B k ∧ b.obl B k | .while_ c b => c.obl B k ∧ b.obl B k
  | .ret e => e.obl B k | .retN => True | .brk => True | .cont => True | .frz _ => True | .nev => True

theorem truthB_and {a b : Env → Sto → Oc RV} : (fun env st => truthB ((truthB (a env st)).bind fun c st1 => if c then b env st1 else .ok (.val (.bl false)) st1)) = fun env st => (truthB (a env st)).bind fun c st1 => if c then truthB (b env st1) else .ok false st1 := by
  funext env st
  cases truthB (a env st) with
  | ok c st1 => cases c <;> rfl
  | exc _ _ => rfl
  | bad => rfl
theorem truthB_or {a b : Env → Sto → Oc RV} : (fun env st => truthB ((truthB (a env st)).bind fun c st1 => if c then .ok (.val (.bl true)) st1 else b env st1)) = fun env st => (truthB (a env st)).bind fun c st1 => if c then .ok true st1 else truthB (b env st1) := by
  funext env st
  cases truthB (a env st) with
  | ok c st1 => cases c <;> rfl
  | exc _ _ => rfl
  | bad => rfl
theorem truthB_not {a : Env → Sto → Oc RV} : (fun env st => truthB ((truthB (a env st)).bind fun c st1 => .ok (.val (.bl (!c))) st1)) = fun env st => (truthB (a env st)).bind fun c st1 => .ok (!c) st1 := by
  funext env st
  cases truthB (a env st) with
  | ok c st1 => rfl
  | exc _ _ => rfl
  | bad => rfl
theorem all_stars {Ns : List Str} {sc : Scope} : ∀ {r : N} {es : List Expr}, ckA r Ns sc es = true → es.all noStar = true
  | .nil, [], _ => rfl
  | .cons a r, e :: es, h => by
    unfold ckA at h
    simp only [Bool.and_eq_true] at h
    rw [List.all_cons, h.1.1, all_stars h.2]; rfl
  | .nil, _ :: _, h => by simp [ckA] at h
  | .cons _ _, [], h => by simp [ckA] at h
theorem ownP_map (Ns : List Str) : ∀ own : List Nat, (ownP Ns own).map (·.2) = own
  | [] => rfl
  | i :: own => congrArg (i :: ·) (ownP_map Ns own)
section
variable {B : Bx} {k : Nat} {C : Cx → Prop} {E : XK} {sc : Scope} {Ns : List Str} {e : Expr}
theorem ok_ts (c : Kx B k C E sc Ns) : ∀ {is : List Nat} {es : List Expr}, ckTs Ns sc is es = true → NGs C B.Y es is ∧ (∀ env : PySem.Env, (assignEach es env).length = is.length) ∧ (∀ env : PySem.Env, (assignEach es env).findIdx? (·.1) = none)
  | [], [], _ => ⟨ngs_nil, fun _ => rfl, fun _ => rfl⟩
  | i :: is, .Name x p :: es, h => by
    unfold ckTs at h
    simp only [Bool.and_eq_true, decide_eq_true_eq] at h
    obtain ⟨h1, h2, h3⟩ := ok_ts c h.2
    have e1 : ∀ env : PySem.Env, assignEach (.Name x p :: es) env = (false, assign (.Name x p) env) :: assignEach es env := fun env => rfl
    refine ⟨ngs_cons (c.pg h.1.1 h.1.2 p) (fun env => rfl) h1, fun env => ?_, fun env => ?_⟩
    · rw [e1, List.length_cons, h2, List.length_cons]
    · rw [e1, List.findIdx?_cons]
      simp [h3]
  | [], _ :: _, h => by simp [ckTs] at h
  | _ :: _, [], h => by simp [ckTs] at h
theorem ok_t (c : Kx B k C E sc Ns) {tg : Tg} (h : ckT Ns sc tg e = true) : NG C B.Y e tg := by
  unfold ckT at h
  split at h
  · simp only [Bool.and_eq_true, decide_eq_true_eq] at h
    exact ng_name (c.pg h.1 h.2 _)
  · obtain ⟨h1, h2, h3⟩ := ok_ts c h
    exact ng_tup c.hK c.calm h1 h2 h3
  · cases h
theorem ok_k {t : T} {cc : Const} {j : Nat} {pos : Pos} (h : ckK t cc = true) : NE C B.Y E (.Constant cc j pos) (ev (.lit t)) := by
  have main : ∀ {v : V}, (∀ X, C X → PE X (.Constant cc j pos) (tC v)) → (∀ M, RepV B.Y M v t) → NE C B.Y E (.Constant cc j pos) (ev (.lit t)) := fun p r => by
    obtain ⟨t', p', h'⟩ := ne_con (Y := B.Y) (E := E) p r
    refine ⟨t', p', fun M st H H₀ σ env Q R r0 P => h' M st H H₀ σ env Q R r0 ?_⟩
    unfold ev at P
    exact P
  unfold ckK at h
  split at h
  · exact main (v := .non) (fun X _ => pe_non) fun M => rfl
  · cases (eq_of_beq h); exact main (v := .bl _) (fun X _ => pe_bl) fun M => rfl
  · cases (eq_of_beq h); exact main (v := .int _) (fun X _ => pe_int) fun M => rfl
  · cases (eq_of_beq h); exact main (v := .str _) (fun X _ => pe_str) fun M => rfl
  · cases h
end
end NN

set_option Elab.async false
set_option linter.all false
set_option maxRecDepth 100000
set_option maxHeartbeats 4000000
namespace NN
open PySem PySem.Spec PyProof.Rows L2

theorem ev_and {a b : N} : ev (.and a b) = fun env st => (truthB (ev a env st)).bind fun c st1 => if c then ev b env st1 else .ok (.val (.bl false)) st1 := rfl
theorem ev_or {a b : N} : ev (.or a b) = fun env st => (truthB (ev a env st)).bind fun c st1 => if c then .ok (.val (.bl true)) st1 else ev b env st1 := rfl
theorem ev_not {a : N} : ev (.not a) = fun env st => (truthB (ev a env st)).bind fun c st1 => .ok (.val (.bl (!c))) st1 := rfl
theorem ev_ite {c a b : N} : ev (.ite c a b) = fun env st => (truthB (ev c env st)).bind fun d st1 => if d then ev a env st1 else ev b env st1 := rfl
theorem ev_tup {r : N} : ev (.tup r) = fun env st => (evs r env st).bind fun ts st1 => if ts.length ≤ LIM then .ok (.val (.tup ts)) st1 else .bad := rfl
theorem ev_lst {r : N} : ev (.lst r) = fun env st => (evs r env st).bind fun ts st1 => if ts.length ≤ LIM then .ok (.fresh (.lst ts)) st1 else .bad := rfl
theorem evs_cons {a r : N} : evs (.cons a r) = fun env st => (tr (ev a env st)).bind fun t st1 => (evs r env st1).bind fun ts st2 => .ok (t :: ts) st2 := rfl
theorem evc_cons {a r : N} : evc (.cons a r) = fun env st => truthB (ev a env st) := rfl
section
variable {B : Bx} {k : Nat} {C : Cx → Prop} {E : XK} {sc : Scope} {Ns : List Str} {e : Expr} {es : List Expr} {pos : Pos}
theorem kx_callee (c : Kx B k C E sc Ns) {x : Str} {n : Nat} {g : G} (h : Callee B k x n g) (hg : gloB sc x = true) : ∀ X, C X → CallOk X E x (spN B.Y n g) := fun X hX => h X E (c.is X hX) (c.room X hX) (c.pass X hX) (c.gl hg X hX)
theorem kx_meth (c : Kx B k C E sc Ns) {m : Str} {n : Nat} {tb : List (Str × G)} (h : ∀ D g, tb.lookup D = some g → MCallee B k m D n g) : MethOk C B.Y E m n tb := fun D g hg X hX => h D g hg X E (c.is X hX) (c.room X hX) (c.pass X hX)
theorem kx_con (c : Kx B k C E sc Ns) {x : Str} {t : T} (h : ConOk B x t) (hg : gloB sc x = true) (hd : dbg x = true) : NE C B.Y E (.Name x pos) (ev (.glb x t)) := by
  obtain ⟨v, u, h1, h2, h3⟩ := h
  have hd' : (x == ("__debug__" : Str)) = false := by simpa [dbg] using hd
  obtain ⟨t', p', h'⟩ := ne_con (Y := B.Y) (E := E) (fun X hX => pe_glob (pos := pos) (c.gl hg X hX) (by rw [(c.is X hX).mg]; exact h1) h2 hd') h3
  refine ⟨t', p', fun M st H H₀ σ env Q R r0 P => h' M st H H₀ σ env Q R r0 ?_⟩
  unfold ev at P
  exact P
theorem range1 (c : Kx B k C E sc Ns) (bo : BOk B) {a tg : Expr} {p : Pos} (hg : gloB sc ("range" : Str) = true) (hs : noStar a = true) : ∀ X, C X → ∀ {ta}, PE X a ta → PI X tg (.Call (.Name "range" p) [a] [] pos) (iRng1 (tCons ta tNil)) := fun X hX ta pa =>
  pi_range1 (c.gl hg X hX) (by rw [(c.is X hX).mg]; exact bo _ (by simp)) (pa1 hs pa) (starEach_cons hs)
theorem range2 (c : Kx B k C E sc Ns) (bo : BOk B) {a b tg : Expr} {p : Pos} (hg : gloB sc ("range" : Str) = true) (hs : noStar a = true) (hs2 : noStar b = true) : ∀ X, C X → ∀ {ta tb}, PE X a ta → PE X b tb → PI X tg (.Call (.Name "range" p) [a, b] [] pos) (iRng2 (tCons ta (tCons tb tNil))) := fun X hX ta tb pa pb =>
  pi_range2 (c.gl hg X hX) (by rw [(c.is X hX).mg]; exact bo _ (by simp)) (pa2 hs hs2 pa pb) (by rw [starEach_cons hs, starEach_cons hs2]; rfl) (starEach_cons hs2)
theorem enum1 (c : Kx B k C E sc Ns) (bo : BOk B) {a : Expr} {elts : List Expr} {kk : Nat} {p tpos : Pos} (hg : gloB sc ("enumerate" : Str) = true) (hs : noStar a = true) : ∀ X, C X → ∀ {ta}, PE X a ta → PI X (.Tuple elts kk tpos) (.Call (.Name "enumerate" p) [a] [] pos) (iEnum B.Y.K (tCons ta tNil)) := fun X hX ta pa => by
  rw [← c.hK X hX]
  exact pi_enum (c.gl hg X hX) (by rw [(c.is X hX).mg]; exact bo _ (by simp)) (pa1 hs pa) (starEach_cons hs)
theorem zip2 (c : Kx B k C E sc Ns) (bo : BOk B) {a b : Expr} {elts : List Expr} {kk : Nat} {p tpos : Pos} (hg : gloB sc ("zip" : Str) = true) (hs : noStar a = true) (hs2 : noStar b = true) : ∀ X, C X → ∀ {ta tb}, PE X a ta → PE X b tb → PI X (.Tuple elts kk tpos) (.Call (.Name "zip" p) [a, b] [] pos) (iZip B.Y.K (tCons ta (tCons tb tNil))) := fun X hX ta tb pa pb => by
  rw [← c.hK X hX]
  exact pi_zip (c.gl hg X hX) (by rw [(c.is X hX).mg]; exact bo _ (by simp)) (pa2 hs hs2 pa pb) (starEach_cons hs) (stars_no (by simp [hs2]))
end

mutual
theorem okE {B : Bx} {k : Nat} (bo : BOk B) : ∀ (n : N) {C : Cx → Prop} {E : XK} {sc : Scope} {Ns : List Str} {e : Expr}, Kx B k C E sc Ns → n.obl B k → ckE n Ns sc e = true → NE C B.Y E e (ev n)
  | .var i, C, E, sc, Ns, e, c, ob, h => by
    unfold ckE at h
    split at h
    · simp only [dbg, Bool.and_eq_true, decide_eq_true_eq, Bool.not_eq_true'] at h
      exact ne_var (c.pv h.1.1.1 h.1.1.2 h.1.2 h.2 _)
    · cases h
  | .lit t, C, E, sc, Ns, e, c, ob, h => by
    unfold ckE at h
    split at h
    · exact ok_k h
    · cases h
  | .glb x t, C, E, sc, Ns, e, c, ob, h => by
    unfold ckE at h
    split at h
    · simp only [Bool.and_eq_true] at h
      cases (eq_of_beq h.1.1)
      exact kx_con c ob h.1.2 h.2
    · cases h
  | .bin o a b, C, E, sc, Ns, e, c, ob, h => by
    unfold ckE at h
    split at h
    · simp only [Bool.and_eq_true, decide_eq_true_eq, Bool.not_eq_true'] at h
      obtain ⟨⟨rfl, h1⟩, h2⟩ := h
      exact ne_bin c.hK (okE bo a c ob.1 h1) (okE bo b c ob.2 h2)
    · cases h
  | .neg a, C, E, sc, Ns, e, c, ob, h => by
    unfold ckE at h
    split at h
    · exact ne_neg (okE bo a c ob h)
    · cases h
  | .cmp o a b, C, E, sc, Ns, e, c, ob, h => by
    unfold ckE at h
    split at h
    · simp only [Bool.and_eq_true, decide_eq_true_eq, Bool.not_eq_true'] at h
      obtain ⟨⟨⟨rfl, hm⟩, h1⟩, h2⟩ := h
      exact ne_cmp c.hK c.hu hm (okE bo a c ob.1 h1) (okE bo b c ob.2 h2)
    · cases h
  | .chain o p a b d, C, E, sc, Ns, e, c, ob, h => by
    unfold ckE at h
    split at h
    · simp only [Bool.and_eq_true, decide_eq_true_eq, Bool.not_eq_true'] at h
      obtain ⟨⟨⟨⟨⟨rfl, rfl⟩, hm⟩, h1⟩, h2⟩, h3⟩ := h
      exact ne_chain c.hK c.hu hm (okE bo a c ob.1 h1) (okE bo b c ob.2.1 h2) (okE bo d c ob.2.2 h3)
    · cases h
  | .and a b, C, E, sc, Ns, e, c, ob, h => by
    unfold ckE at h
    split at h
    · rw [Bool.and_eq_true] at h
      rw [ev_and]
      obtain ⟨h1, h2⟩ := h
      split at h2
      · exact ne_and (okE bo a c ob.1 h1) (ne_one (okE bo b c ob.2 h2))
      · exact ne_and (okE bo a c ob.1 h1) (okE bo b c ob.2 h2)
    · cases h
  | .or a b, C, E, sc, Ns, e, c, ob, h => by
    unfold ckE at h
    split at h
    · rw [Bool.and_eq_true] at h
      rw [ev_or]
      obtain ⟨h1, h2⟩ := h
      split at h2
      · exact ne_or (okE bo a c ob.1 h1) (ne_one (okE bo b c ob.2 h2))
      · exact ne_or (okE bo a c ob.1 h1) (okE bo b c ob.2 h2)
    · cases h
  | .not a, C, E, sc, Ns, e, c, ob, h => by
    unfold ckE at h
    split at h
    · rw [ev_not]
      exact ne_not (okE bo a c ob h)
    · cases h
  | .ite t a b, C, E, sc, Ns, e, c, ob, h => by
    unfold ckE at h
    split at h
    · simp only [Bool.and_eq_true, decide_eq_true_eq, Bool.not_eq_true'] at h
      rw [ev_ite]
      exact ne_ite (okB bo t c ob.1 h.1.1) (okE bo a c ob.2.1 h.1.2) (okE bo b c ob.2.2 h.2)
    · cases h
  | .tup r, C, E, sc, Ns, e, c, ob, h => by
    unfold ckE at h
    split at h
    · rw [ev_tup]
      exact ne_tup (okA bo r c ob h)
    · cases h
  | .lst r, C, E, sc, Ns, e, c, ob, h => by
    unfold ckE at h
    split at h
    · rw [ev_lst]
      exact ne_lst (okA bo r c ob h)
    · cases h
  | .ix a i, C, E, sc, Ns, e, c, ob, h => by
    unfold ckE at h
    split at h
    · simp only [Bool.and_eq_true, decide_eq_true_eq, Bool.not_eq_true'] at h
      exact ne_ix c.hK (plainIx_ok h.1.1) (okE bo a c ob.1 h.1.2) (okE bo i c ob.2 h.2)
    · cases h
  | .sl a lo hi, C, E, sc, Ns, e, c, ob, h => by
    unfold ckE at h
    split at h
    · simp only [Bool.and_eq_true, decide_eq_true_eq, Bool.not_eq_true'] at h
      exact ne_sl c.hK (okE bo a c ob.1 h.1.1) (okP bo lo c ob.2.1 h.1.2) (okP bo hi c ob.2.2 h.2)
    · cases h
  | .attr a f cs, C, E, sc, Ns, e, c, ob, h => by
    unfold ckE at h
    split at h
    · simp only [Bool.and_eq_true, decide_eq_true_eq, Bool.not_eq_true'] at h
      cases (eq_of_beq h.1.1)
      exact ne_attr c.hK ob.1 (okE bo a c ob.2 h.2) h.1.2
    · cases h
  | .bi f a, C, E, sc, Ns, e, c, ob, h => by
    cases f with
    | ssorted =>
      unfold ckE at h
      dsimp only at h
      split at h
      · simp only [Bool.and_eq_true, decide_eq_true_eq, Bool.not_eq_true'] at h
        obtain ⟨⟨⟨⟨⟨h1, h2⟩, h3⟩, h4⟩, h5⟩, h6⟩ := h
        cases (eq_of_beq h1)
        cases (eq_of_beq h2)
        exact ne_sset c bo h3 h4 h5 (okE bo a c ob h6)
      · cases h
    | _ =>
      unfold ckE at h
      dsimp only at h
      split at h
      · simp only [Bool.and_eq_true, decide_eq_true_eq, Bool.not_eq_true'] at h
        obtain ⟨⟨⟨⟨⟨⟨h1, h2⟩, h3⟩, h4⟩, h5⟩, h6⟩, h7⟩ := h
        cases (eq_of_beq h1)
        exact ne_bi c bo ⟨h3, h4, h5⟩ h2 h6 (okE bo a c ob h7)
      · cases h
  | .bi2 f a b, C, E, sc, Ns, e, c, ob, h => by
    unfold ckE at h
    split at h
    · simp only [Bool.and_eq_true, decide_eq_true_eq, Bool.not_eq_true'] at h
      obtain ⟨⟨⟨⟨⟨⟨h1, h2⟩, h3⟩, h4⟩, h5⟩, h6⟩, h7⟩ := h
      cases (eq_of_beq h1)
      rw [Bool.or_eq_true, decide_eq_true_eq, decide_eq_true_eq] at h3
      rcases h3 with rfl | rfl
      · exact ne_max2 c bo h2 h4 h5 (okE bo a c ob.1 h6) (okE bo b c ob.2 h7)
      · exact ne_min2 c bo h2 h4 h5 (okE bo a c ob.1 h6) (okE bo b c ob.2 h7)
    · cases h
  | .isT a ty, C, E, sc, Ns, e, c, ob, h => by
    unfold ckE at h
    split at h
    · simp only [Bool.and_eq_true, decide_eq_true_eq, Bool.not_eq_true'] at h
      obtain ⟨⟨⟨⟨⟨⟨h1, h2⟩, h3⟩, h4⟩, h5⟩, h6⟩, h7⟩ := h
      cases (eq_of_beq h1)
      cases (eq_of_beq h2)
      exact ne_isT c bo (by simpa [tyNames] using h3) h4 h5 h6 (okE bo a c ob h7)
    · cases h
  | .isC a D cs subs, C, E, sc, Ns, e, c, ob, h => by
    unfold ckE at h
    split at h
    · simp only [dbg, Bool.and_eq_true, decide_eq_true_eq, Bool.not_eq_true'] at h
      obtain ⟨⟨⟨⟨⟨⟨h1, h2⟩, h3⟩, h4⟩, h5⟩, h6⟩, h7⟩ := h
      cases (eq_of_beq h1)
      cases (eq_of_beq h2)
      exact ne_isC c bo ob.1 h3 h4 h5 h6 (okE bo a c ob.2 h7)
    · cases h
  | .call x m g r, C, E, sc, Ns, e, c, ob, h => by
    unfold ckE at h
    split at h
    · simp only [Bool.and_eq_true, decide_eq_true_eq, Bool.not_eq_true'] at h
      obtain ⟨⟨h1, h2⟩, h3⟩ := h
      cases (eq_of_beq h1)
      have hs := all_stars h3
      cases r with
      | nil =>
        unfold ckA at h3
        split at h3
        · exact ne_call0 (kx_callee c ob.1 h2)
        · cases h3
      | cons a r =>
        have A := okA bo (.cons a r) c ob.2 h3
        unfold ckA at h3
        split at h3
        · exact ne_call (kx_callee c ob.1 h2) hs A
        · cases h3
      | _ => cases h3
    · cases h
  | .om m q tb a r, C, E, sc, Ns, e, c, ob, h => by
    unfold ckE at h
    split at h
    · simp only [Bool.and_eq_true, decide_eq_true_eq, Bool.not_eq_true'] at h
      obtain ⟨⟨⟨⟨⟨h1, h2⟩, h3⟩, h4⟩, h5⟩, h6⟩ := h
      cases (eq_of_beq h1)
      have hs := all_stars h6
      have O := okE bo a c ob.2.1 h5
      cases r with
      | nil =>
        unfold ckA at h6
        split at h6
        · exact ne_om0 (kx_meth c ob.1) O h2 h4
        · cases h6
      | cons a' r =>
        have A := okA bo (.cons a' r) c ob.2.2 h6
        unfold ckA at h6
        split at h6
        · exact ne_om (kx_meth c ob.1) O A h2 hs h3 h4
        · cases h6
      | _ => cases h6
    · cases h
  | .comp tg own it d en, C, E, sc, Ns, e, c, ob, h => by
    unfold ckE at h
    split at h
    · simp only [Bool.and_eq_true, decide_eq_true_eq, Bool.not_eq_true'] at h
      obtain ⟨⟨⟨⟨⟨⟨⟨rfl, h1⟩, h2⟩, h3⟩, h4⟩, h5⟩, h6⟩, h7⟩ := h
      rename_i scope _
      have cb := c.blk scope
      have hsl : ∀ i ∈ tg.slots, i ∈ (ownP Ns own).map (·.2) := fun i hi => by
        rw [ownP_map]
        simpa using List.all_eq_true.mp h3 i hi
      have r := ne_comp (pos := ‹Pos›) c.calm c.nd' (c.blkOk h1) h2 (okI bo it c ob.1 h5) (ok_t cb h4) (okC bo d cb ob.2.1 h6) (okE bo en cb ob.2.2 h7) hsl
      rw [ownP_map] at r
      exact r
    · cases h
  | .nil, C, E, sc, Ns, e, c, ob, h => by cases h
  | .cons _ _, C, E, sc, Ns, e, c, ob, h => by cases h
  | .rng1 _, C, E, sc, Ns, e, c, ob, h => by cases h
  | .rng2 _ _, C, E, sc, Ns, e, c, ob, h => by cases h
  | .enm _, C, E, sc, Ns, e, c, ob, h => by cases h
  | .zp _ _, C, E, sc, Ns, e, c, ob, h => by cases h
  | .pass, C, E, sc, Ns, e, c, ob, h => by cases h
  | .seq _ _, C, E, sc, Ns, e, c, ob, h => by cases h
  | .asg _ _, C, E, sc, Ns, e, c, ob, h => by cases h
  | .set2 _ _ _ _, C, E, sc, Ns, e, c, ob, h => by cases h
  | .set3 _ _ _ _ _ _, C, E, sc, Ns, e, c, ob, h => by cases h
  | .drop _, C, E, sc, Ns, e, c, ob, h => by cases h
  | .ap _ _, C, E, sc, Ns, e, c, ob, h => by cases h
  | .xt _ _, C, E, sc, Ns, e, c, ob, h => by cases h
  | .iff _ _ _, C, E, sc, Ns, e, c, ob, h => by cases h
  | .for_ _ _ _, C, E, sc, Ns, e, c, ob, h => by cases h
  | .while_ _ _, C, E, sc, Ns, e, c, ob, h => by cases h
  | .ret _, C, E, sc, Ns, e, c, ob, h => by cases h
  | .retN, C, E, sc, Ns, e, c, ob, h => by cases h
  | .brk, C, E, sc, Ns, e, c, ob, h => by cases h
  | .cont, C, E, sc, Ns, e, c, ob, h => by cases h
  | .frz _, C, E, sc, Ns, e, c, ob, h => by cases h
  | .nev, C, E, sc, Ns, e, c, ob, h => by cases h
  | .slst a lo d, C, E, sc, Ns, e, c, ob, h => by
    unfold ckE at h
    split at h
    · simp only [Bool.and_eq_true, decide_eq_true_eq, Bool.not_eq_true'] at h
      exact ne_slst c.hK (okE bo a c ob.1 h.1.1) (okP bo lo c ob.2.1 h.1.2) (okP bo d c ob.2.2 h.2)
    · cases h
  | .dnew, C, E, sc, Ns, e, c, ob, h => by
    unfold ckE at h
    split at h
    · exact ne_dnew (fun X hX => (c.is X hX).P) (fun X hX => (c.is X hX).w)
    · cases h
  | .put _ _ _, C, E, sc, Ns, e, c, ob, h => by cases h
  | .me f a b, C, E, sc, Ns, e, c, ob, h => by
    unfold ckE at h
    split at h
    · simp only [Bool.and_eq_true, decide_eq_true_eq, Bool.not_eq_true'] at h
      obtain ⟨⟨⟨⟨⟨h1, h2⟩, h3⟩, h4⟩, h5⟩, h6⟩ := h
      cases (eq_of_beq h1)
      exact ne_me c.hK h3 h2 h4 (okE bo a c ob.1 h5) (okE bo b c ob.2 h6)
    · cases h
theorem okB {B : Bx} {k : Nat} (bo : BOk B) : ∀ (n : N) {C : Cx → Prop} {E : XK} {sc : Scope} {Ns : List Str} {e : Expr}, Kx B k C E sc Ns → n.obl B k → ckB n Ns sc e = true → NB C B.Y E e (fun env st => truthB (ev n env st))
  | .not a, C, E, sc, Ns, e, c, ob, h => by
    unfold ckB at h
    split at h
    · rw [ev_not, truthB_not]
      exact nb_not (okB bo a c ob h)
    · cases h
  | .and a b, C, E, sc, Ns, e, c, ob, h => by
    unfold ckB at h
    split at h
    · rw [Bool.and_eq_true] at h
      rw [ev_and, truthB_and]
      obtain ⟨h1, h2⟩ := h
      split at h2
      · exact (nw_and (okB bo a c ob.1 h1) (nw_one (okB bo b c ob.2 h2))).nb
      · exact (nw_and (okB bo a c ob.1 h1) (okW bo b c ob.2 h2)).nb
    · cases h
  | .or a b, C, E, sc, Ns, e, c, ob, h => by
    unfold ckB at h
    split at h
    · rw [Bool.and_eq_true] at h
      rw [ev_or, truthB_or]
      obtain ⟨h1, h2⟩ := h
      split at h2
      · exact (nw_or (okB bo a c ob.1 h1) (nw_one (okB bo b c ob.2 h2))).nb
      · exact (nw_or (okB bo a c ob.1 h1) (okW bo b c ob.2 h2)).nb
    · cases h
  | .cmp o a b, C, E, sc, Ns, e, c, ob, h => by
    unfold ckB at h
    split at h
    · simp only [Bool.and_eq_true, decide_eq_true_eq, Bool.not_eq_true'] at h
      obtain ⟨⟨⟨rfl, hm⟩, h1⟩, h2⟩ := h
      exact nb_cmp c.hK c.hu hm (okE bo a c ob.1 h1) (okE bo b c ob.2 h2)
    · cases h
  | .chain o p a b d, C, E, sc, Ns, e, c, ob, h => by
    unfold ckB at h
    split at h
    · simp only [Bool.and_eq_true, decide_eq_true_eq, Bool.not_eq_true'] at h
      obtain ⟨⟨⟨⟨⟨rfl, rfl⟩, hm⟩, h1⟩, h2⟩, h3⟩ := h
      exact nb_chain c.hK c.hu hm (okE bo a c ob.1 h1) (okE bo b c ob.2.1 h2) (okE bo d c ob.2.2 h3)
    · cases h
  | .var i, C, E, sc, Ns, e, c, ob, h => by
    unfold ckB at h
    split at h
    · simp only [dbg, Bool.and_eq_true, decide_eq_true_eq, Bool.not_eq_true'] at h
      exact (ne_var (c.pv h.1.1.1 h.1.1.2 h.1.2 h.2 _)).nb (plainT_ok rfl)
    · cases h
  | .bi f a, C, E, sc, Ns, e, c, ob, h => by
    unfold ckB at h
    split at h
    · simp only [Bool.and_eq_true, decide_eq_true_eq, Bool.not_eq_true'] at h
      obtain ⟨⟨⟨⟨⟨⟨h1, h2⟩, h3⟩, h4⟩, h5⟩, h6⟩, h7⟩ := h
      cases (eq_of_beq h1)
      exact (ne_bi c bo ⟨h3, h4, h5⟩ h2 h6 (okE bo a c ob h7)).nb (plainT_ok rfl)
    · cases h
  | .isT a ty, C, E, sc, Ns, e, c, ob, h => by
    unfold ckB at h
    split at h
    · simp only [Bool.and_eq_true, decide_eq_true_eq, Bool.not_eq_true'] at h
      obtain ⟨⟨⟨⟨⟨⟨h1, h2⟩, h3⟩, h4⟩, h5⟩, h6⟩, h7⟩ := h
      cases (eq_of_beq h1)
      cases (eq_of_beq h2)
      exact (ne_isT c bo (by simpa [tyNames] using h3) h4 h5 h6 (okE bo a c ob h7)).nb (plainT_ok rfl)
    · cases h
  | .isC a D cs subs, C, E, sc, Ns, e, c, ob, h => by
    unfold ckB at h
    split at h
    · simp only [dbg, Bool.and_eq_true, decide_eq_true_eq, Bool.not_eq_true'] at h
      obtain ⟨⟨⟨⟨⟨⟨h1, h2⟩, h3⟩, h4⟩, h5⟩, h6⟩, h7⟩ := h
      cases (eq_of_beq h1)
      cases (eq_of_beq h2)
      exact (ne_isC c bo ob.1 h3 h4 h5 h6 (okE bo a c ob.2 h7)).nb (plainT_ok rfl)
    · cases h
  | .call x m g r, C, E, sc, Ns, e, c, ob, h => by
    unfold ckB at h
    split at h
    · simp only [Bool.and_eq_true, decide_eq_true_eq, Bool.not_eq_true'] at h
      obtain ⟨⟨h1, h2⟩, h3⟩ := h
      cases (eq_of_beq h1)
      have hs := all_stars h3
      cases r with
      | nil =>
        unfold ckA at h3
        split at h3
        · exact (ne_call0 (kx_callee c ob.1 h2)).nb (plainT_ok rfl)
        · cases h3
      | cons a r =>
        have A := okA bo (.cons a r) c ob.2 h3
        unfold ckA at h3
        split at h3
        · exact (ne_call (kx_callee c ob.1 h2) hs A).nb (plainT_ok rfl)
        · cases h3
      | _ => cases h3
    · cases h
  | .om m q tb a r, C, E, sc, Ns, e, c, ob, h => by
    unfold ckB at h
    split at h
    · simp only [Bool.and_eq_true, decide_eq_true_eq, Bool.not_eq_true'] at h
      obtain ⟨⟨⟨⟨⟨h1, h2⟩, h3⟩, h4⟩, h5⟩, h6⟩ := h
      cases (eq_of_beq h1)
      have hs := all_stars h6
      have O := okE bo a c ob.2.1 h5
      cases r with
      | nil =>
        unfold ckA at h6
        split at h6
        · exact (ne_om0 (kx_meth c ob.1) O h2 h4).nb (plainT_ok rfl)
        · cases h6
      | cons a' r =>
        have A := okA bo (.cons a' r) c ob.2.2 h6
        unfold ckA at h6
        split at h6
        · exact (ne_om (kx_meth c ob.1) O A h2 hs h3 h4).nb (plainT_ok rfl)
        · cases h6
      | _ => cases h6
    · cases h
  | .nil, C, E, sc, Ns, e, c, ob, h => by cases h
  | .cons _ _, C, E, sc, Ns, e, c, ob, h => by cases h
  | .rng1 _, C, E, sc, Ns, e, c, ob, h => by cases h
  | .rng2 _ _, C, E, sc, Ns, e, c, ob, h => by cases h
  | .enm _, C, E, sc, Ns, e, c, ob, h => by cases h
  | .zp _ _, C, E, sc, Ns, e, c, ob, h => by cases h
  | .pass, C, E, sc, Ns, e, c, ob, h => by cases h
  | .seq _ _, C, E, sc, Ns, e, c, ob, h => by cases h
  | .asg _ _, C, E, sc, Ns, e, c, ob, h => by cases h
  | .set2 _ _ _ _, C, E, sc, Ns, e, c, ob, h => by cases h
  | .set3 _ _ _ _ _ _, C, E, sc, Ns, e, c, ob, h => by cases h
  | .drop _, C, E, sc, Ns, e, c, ob, h => by cases h
  | .ap _ _, C, E, sc, Ns, e, c, ob, h => by cases h
  | .xt _ _, C, E, sc, Ns, e, c, ob, h => by cases h
  | .iff _ _ _, C, E, sc, Ns, e, c, ob, h => by cases h
  | .for_ _ _ _, C, E, sc, Ns, e, c, ob, h => by cases h
  | .while_ _ _, C, E, sc, Ns, e, c, ob, h => by cases h
  | .ret _, C, E, sc, Ns, e, c, ob, h => by cases h
  | .retN, C, E, sc, Ns, e, c, ob, h => by cases h
  | .brk, C, E, sc, Ns, e, c, ob, h => by cases h
  | .cont, C, E, sc, Ns, e, c, ob, h => by cases h
  | .frz _, C, E, sc, Ns, e, c, ob, h => by cases h
  | .nev, C, E, sc, Ns, e, c, ob, h => by cases h
  | .lit _, C, E, sc, Ns, e, c, ob, h => by cases h
  | .glb _ _, C, E, sc, Ns, e, c, ob, h => by cases h
  | .bin _ _ _, C, E, sc, Ns, e, c, ob, h => by cases h
  | .neg _, C, E, sc, Ns, e, c, ob, h => by cases h
  | .ite _ _ _, C, E, sc, Ns, e, c, ob, h => by cases h
  | .tup _, C, E, sc, Ns, e, c, ob, h => by cases h
  | .lst _, C, E, sc, Ns, e, c, ob, h => by cases h
  | .ix _ _, C, E, sc, Ns, e, c, ob, h => by cases h
  | .sl _ _ _, C, E, sc, Ns, e, c, ob, h => by cases h
  | .slst _ _ _, C, E, sc, Ns, e, c, ob, h => by cases h
  | .dnew, C, E, sc, Ns, e, c, ob, h => by cases h
  | .put _ _ _, C, E, sc, Ns, e, c, ob, h => by cases h
  | .attr _ _ _, C, E, sc, Ns, e, c, ob, h => by cases h
  | .bi2 _ _ _, C, E, sc, Ns, e, c, ob, h => by cases h
  | .me _ _ _, C, E, sc, Ns, e, c, ob, h => by cases h
  | .comp _ _ _ _ _, C, E, sc, Ns, e, c, ob, h => by cases h
theorem okA {B : Bx} {k : Nat} (bo : BOk B) : ∀ (n : N) {C : Cx → Prop} {E : XK} {sc : Scope} {Ns : List Str} {es : List Expr}, Kx B k C E sc Ns → n.obl B k → ckA n Ns sc es = true → NA C B.Y E es (evs n)
  | .nil, C, E, sc, Ns, e, c, ob, h => by
    unfold ckA at h
    split at h
    · exact na_nil
    · cases h
  | .cons a r, C, E, sc, Ns, e, c, ob, h => by
    unfold ckA at h
    split at h
    · simp only [Bool.and_eq_true, decide_eq_true_eq, Bool.not_eq_true'] at h
      rw [evs_cons]
      exact na_cons (fun env => starEach_cons h.1.1) (okE bo a c ob.1 h.1.2) (okA bo r c ob.2 h.2)
    · cases h
  | .rng1 _, C, E, sc, Ns, e, c, ob, h => by cases h
  | .rng2 _ _, C, E, sc, Ns, e, c, ob, h => by cases h
  | .enm _, C, E, sc, Ns, e, c, ob, h => by cases h
  | .zp _ _, C, E, sc, Ns, e, c, ob, h => by cases h
  | .pass, C, E, sc, Ns, e, c, ob, h => by cases h
  | .seq _ _, C, E, sc, Ns, e, c, ob, h => by cases h
  | .asg _ _, C, E, sc, Ns, e, c, ob, h => by cases h
  | .set2 _ _ _ _, C, E, sc, Ns, e, c, ob, h => by cases h
  | .set3 _ _ _ _ _ _, C, E, sc, Ns, e, c, ob, h => by cases h
  | .drop _, C, E, sc, Ns, e, c, ob, h => by cases h
  | .ap _ _, C, E, sc, Ns, e, c, ob, h => by cases h
  | .xt _ _, C, E, sc, Ns, e, c, ob, h => by cases h
  | .iff _ _ _, C, E, sc, Ns, e, c, ob, h => by cases h
  | .for_ _ _ _, C, E, sc, Ns, e, c, ob, h => by cases h
  | .while_ _ _, C, E, sc, Ns, e, c, ob, h => by cases h
  | .ret _, C, E, sc, Ns, e, c, ob, h => by cases h
  | .retN, C, E, sc, Ns, e, c, ob, h => by cases h
  | .brk, C, E, sc, Ns, e, c, ob, h => by cases h
  | .cont, C, E, sc, Ns, e, c, ob, h => by cases h
  | .frz _, C, E, sc, Ns, e, c, ob, h => by cases h
  | .nev, C, E, sc, Ns, e, c, ob, h => by cases h
  | .var _, C, E, sc, Ns, e, c, ob, h => by cases h
  | .lit _, C, E, sc, Ns, e, c, ob, h => by cases h
  | .glb _ _, C, E, sc, Ns, e, c, ob, h => by cases h
  | .bin _ _ _, C, E, sc, Ns, e, c, ob, h => by cases h
  | .neg _, C, E, sc, Ns, e, c, ob, h => by cases h
  | .cmp _ _ _, C, E, sc, Ns, e, c, ob, h => by cases h
  | .chain _ _ _ _ _, C, E, sc, Ns, e, c, ob, h => by cases h
  | .and _ _, C, E, sc, Ns, e, c, ob, h => by cases h
  | .or _ _, C, E, sc, Ns, e, c, ob, h => by cases h
  | .not _, C, E, sc, Ns, e, c, ob, h => by cases h
  | .ite _ _ _, C, E, sc, Ns, e, c, ob, h => by cases h
  | .tup _, C, E, sc, Ns, e, c, ob, h => by cases h
  | .lst _, C, E, sc, Ns, e, c, ob, h => by cases h
  | .ix _ _, C, E, sc, Ns, e, c, ob, h => by cases h
  | .sl _ _ _, C, E, sc, Ns, e, c, ob, h => by cases h
  | .slst _ _ _, C, E, sc, Ns, e, c, ob, h => by cases h
  | .dnew, C, E, sc, Ns, e, c, ob, h => by cases h
  | .put _ _ _, C, E, sc, Ns, e, c, ob, h => by cases h
  | .attr _ _ _, C, E, sc, Ns, e, c, ob, h => by cases h
  | .bi _ _, C, E, sc, Ns, e, c, ob, h => by cases h
  | .bi2 _ _ _, C, E, sc, Ns, e, c, ob, h => by cases h
  | .me _ _ _, C, E, sc, Ns, e, c, ob, h => by cases h
  | .isT _ _, C, E, sc, Ns, e, c, ob, h => by cases h
  | .isC _ _ _ _, C, E, sc, Ns, e, c, ob, h => by cases h
  | .call _ _ _ _, C, E, sc, Ns, e, c, ob, h => by cases h
  | .om _ _ _ _ _, C, E, sc, Ns, e, c, ob, h => by cases h
  | .comp _ _ _ _ _, C, E, sc, Ns, e, c, ob, h => by cases h
theorem okW {B : Bx} {k : Nat} (bo : BOk B) : ∀ (n : N) {C : Cx → Prop} {E : XK} {sc : Scope} {Ns : List Str} {op : BoolOp} {es : List Expr} {pos : Pos}, Kx B k C E sc Ns → n.obl B k → ckB n Ns sc (.BoolOp op es pos) = true → NW C B.Y E (.BoolOp op es pos) (fun env st => truthB (ev n env st))
  | .and a b, C, E, sc, Ns, op, es, pos, c, ob, h => by
    unfold ckB at h
    split at h
    · rename_i e1 e2 es' pos' heq
      cases heq
      rw [Bool.and_eq_true] at h
      rw [ev_and, truthB_and]
      obtain ⟨h1, h2⟩ := h
      split at h2
      · exact nw_and (okB bo a c ob.1 h1) (nw_one (okB bo b c ob.2 h2))
      · exact nw_and (okB bo a c ob.1 h1) (okW bo b c ob.2 h2)
    · cases h
  | .or a b, C, E, sc, Ns, op, es, pos, c, ob, h => by
    unfold ckB at h
    split at h
    · rename_i e1 e2 es' pos' heq
      cases heq
      rw [Bool.and_eq_true] at h
      rw [ev_or, truthB_or]
      obtain ⟨h1, h2⟩ := h
      split at h2
      · exact nw_or (okB bo a c ob.1 h1) (nw_one (okB bo b c ob.2 h2))
      · exact nw_or (okB bo a c ob.1 h1) (okW bo b c ob.2 h2)
    · cases h
  | .nil, C, E, sc, Ns, op, es, pos, c, ob, h => by cases h
  | .cons _ _, C, E, sc, Ns, op, es, pos, c, ob, h => by cases h
  | .rng1 _, C, E, sc, Ns, op, es, pos, c, ob, h => by cases h
  | .rng2 _ _, C, E, sc, Ns, op, es, pos, c, ob, h => by cases h
  | .enm _, C, E, sc, Ns, op, es, pos, c, ob, h => by cases h
  | .zp _ _, C, E, sc, Ns, op, es, pos, c, ob, h => by cases h
  | .pass, C, E, sc, Ns, op, es, pos, c, ob, h => by cases h
  | .seq _ _, C, E, sc, Ns, op, es, pos, c, ob, h => by cases h
  | .asg _ _, C, E, sc, Ns, op, es, pos, c, ob, h => by cases h
  | .set2 _ _ _ _, C, E, sc, Ns, op, es, pos, c, ob, h => by cases h
  | .set3 _ _ _ _ _ _, C, E, sc, Ns, op, es, pos, c, ob, h => by cases h
  | .drop _, C, E, sc, Ns, op, es, pos, c, ob, h => by cases h
  | .ap _ _, C, E, sc, Ns, op, es, pos, c, ob, h => by cases h
  | .xt _ _, C, E, sc, Ns, op, es, pos, c, ob, h => by cases h
  | .iff _ _ _, C, E, sc, Ns, op, es, pos, c, ob, h => by cases h
  | .for_ _ _ _, C, E, sc, Ns, op, es, pos, c, ob, h => by cases h
  | .while_ _ _, C, E, sc, Ns, op, es, pos, c, ob, h => by cases h
  | .ret _, C, E, sc, Ns, op, es, pos, c, ob, h => by cases h
  | .retN, C, E, sc, Ns, op, es, pos, c, ob, h => by cases h
  | .brk, C, E, sc, Ns, op, es, pos, c, ob, h => by cases h
  | .cont, C, E, sc, Ns, op, es, pos, c, ob, h => by cases h
  | .frz _, C, E, sc, Ns, op, es, pos, c, ob, h => by cases h
  | .nev, C, E, sc, Ns, op, es, pos, c, ob, h => by cases h
  | .var _, C, E, sc, Ns, op, es, pos, c, ob, h => by cases h
  | .lit _, C, E, sc, Ns, op, es, pos, c, ob, h => by cases h
  | .glb _ _, C, E, sc, Ns, op, es, pos, c, ob, h => by cases h
  | .bin _ _ _, C, E, sc, Ns, op, es, pos, c, ob, h => by cases h
  | .neg _, C, E, sc, Ns, op, es, pos, c, ob, h => by cases h
  | .cmp _ _ _, C, E, sc, Ns, op, es, pos, c, ob, h => by cases h
  | .chain _ _ _ _ _, C, E, sc, Ns, op, es, pos, c, ob, h => by cases h
  | .not _, C, E, sc, Ns, op, es, pos, c, ob, h => by cases h
  | .ite _ _ _, C, E, sc, Ns, op, es, pos, c, ob, h => by cases h
  | .tup _, C, E, sc, Ns, op, es, pos, c, ob, h => by cases h
  | .lst _, C, E, sc, Ns, op, es, pos, c, ob, h => by cases h
  | .ix _ _, C, E, sc, Ns, op, es, pos, c, ob, h => by cases h
  | .sl _ _ _, C, E, sc, Ns, op, es, pos, c, ob, h => by cases h
  | .slst _ _ _, C, E, sc, Ns, op, es, pos, c, ob, h => by cases h
  | .dnew, C, E, sc, Ns, op, es, pos, c, ob, h => by cases h
  | .put _ _ _, C, E, sc, Ns, op, es, pos, c, ob, h => by cases h
  | .attr _ _ _, C, E, sc, Ns, op, es, pos, c, ob, h => by cases h
  | .bi _ _, C, E, sc, Ns, op, es, pos, c, ob, h => by cases h
  | .bi2 _ _ _, C, E, sc, Ns, op, es, pos, c, ob, h => by cases h
  | .me _ _ _, C, E, sc, Ns, op, es, pos, c, ob, h => by cases h
  | .isT _ _, C, E, sc, Ns, op, es, pos, c, ob, h => by cases h
  | .isC _ _ _ _, C, E, sc, Ns, op, es, pos, c, ob, h => by cases h
  | .call _ _ _ _, C, E, sc, Ns, op, es, pos, c, ob, h => by cases h
  | .om _ _ _ _ _, C, E, sc, Ns, op, es, pos, c, ob, h => by cases h
  | .comp _ _ _ _ _, C, E, sc, Ns, op, es, pos, c, ob, h => by cases h
theorem okP {B : Bx} {k : Nat} (bo : BOk B) : ∀ (n : N) {C : Cx → Prop} {E : XK} {sc : Scope} {Ns : List Str} {es : Option Expr}, Kx B k C E sc Ns → n.obl B k → ckP n Ns sc es = true → NP C B.Y E es (evP n)
  | .nil, C, E, sc, Ns, e, c, ob, h => by
    unfold ckP at h
    split at h
    · exact np_none
    · cases h
  | .cons a r, C, E, sc, Ns, e, c, ob, h => by
    cases r with
    | nil =>
      unfold ckP at h
      split at h
      · exact np_some (okE bo a c ob.1 h)
      · cases h
    | _ => cases h
  | .rng1 _, C, E, sc, Ns, e, c, ob, h => by cases h
  | .rng2 _ _, C, E, sc, Ns, e, c, ob, h => by cases h
  | .enm _, C, E, sc, Ns, e, c, ob, h => by cases h
  | .zp _ _, C, E, sc, Ns, e, c, ob, h => by cases h
  | .pass, C, E, sc, Ns, e, c, ob, h => by cases h
  | .seq _ _, C, E, sc, Ns, e, c, ob, h => by cases h
  | .asg _ _, C, E, sc, Ns, e, c, ob, h => by cases h
  | .set2 _ _ _ _, C, E, sc, Ns, e, c, ob, h => by cases h
  | .set3 _ _ _ _ _ _, C, E, sc, Ns, e, c, ob, h => by cases h
  | .drop _, C, E, sc, Ns, e, c, ob, h => by cases h
  | .ap _ _, C, E, sc, Ns, e, c, ob, h => by cases h
  | .xt _ _, C, E, sc, Ns, e, c, ob, h => by cases h
  | .iff _ _ _, C, E, sc, Ns, e, c, ob, h => by cases h
  | .for_ _ _ _, C, E, sc, Ns, e, c, ob, h => by cases h
  | .while_ _ _, C, E, sc, Ns, e, c, ob, h => by cases h
  | .ret _, C, E, sc, Ns, e, c, ob, h => by cases h
  | .retN, C, E, sc, Ns, e, c, ob, h => by cases h
  | .brk, C, E, sc, Ns, e, c, ob, h => by cases h
  | .cont, C, E, sc, Ns, e, c, ob, h => by cases h
  | .frz _, C, E, sc, Ns, e, c, ob, h => by cases h
  | .nev, C, E, sc, Ns, e, c, ob, h => by cases h
  | .var _, C, E, sc, Ns, e, c, ob, h => by cases h
  | .lit _, C, E, sc, Ns, e, c, ob, h => by cases h
  | .glb _ _, C, E, sc, Ns, e, c, ob, h => by cases h
  | .bin _ _ _, C, E, sc, Ns, e, c, ob, h => by cases h
  | .neg _, C, E, sc, Ns, e, c, ob, h => by cases h
  | .cmp _ _ _, C, E, sc, Ns, e, c, ob, h => by cases h
  | .chain _ _ _ _ _, C, E, sc, Ns, e, c, ob, h => by cases h
  | .and _ _, C, E, sc, Ns, e, c, ob, h => by cases h
  | .or _ _, C, E, sc, Ns, e, c, ob, h => by cases h
  | .not _, C, E, sc, Ns, e, c, ob, h => by cases h
  | .ite _ _ _, C, E, sc, Ns, e, c, ob, h => by cases h
  | .tup _, C, E, sc, Ns, e, c, ob, h => by cases h
  | .lst _, C, E, sc, Ns, e, c, ob, h => by cases h
  | .ix _ _, C, E, sc, Ns, e, c, ob, h => by cases h
  | .sl _ _ _, C, E, sc, Ns, e, c, ob, h => by cases h
  | .slst _ _ _, C, E, sc, Ns, e, c, ob, h => by cases h
  | .dnew, C, E, sc, Ns, e, c, ob, h => by cases h
  | .put _ _ _, C, E, sc, Ns, e, c, ob, h => by cases h
  | .attr _ _ _, C, E, sc, Ns, e, c, ob, h => by cases h
  | .bi _ _, C, E, sc, Ns, e, c, ob, h => by cases h
  | .bi2 _ _ _, C, E, sc, Ns, e, c, ob, h => by cases h
  | .me _ _ _, C, E, sc, Ns, e, c, ob, h => by cases h
  | .isT _ _, C, E, sc, Ns, e, c, ob, h => by cases h
  | .isC _ _ _ _, C, E, sc, Ns, e, c, ob, h => by cases h
  | .call _ _ _ _, C, E, sc, Ns, e, c, ob, h => by cases h
  | .om _ _ _ _ _, C, E, sc, Ns, e, c, ob, h => by cases h
  | .comp _ _ _ _ _, C, E, sc, Ns, e, c, ob, h => by cases h
theorem okC {B : Bx} {k : Nat} (bo : BOk B) : ∀ (n : N) {C : Cx → Prop} {E : XK} {sc : Scope} {Ns : List Str} {es : List Expr}, Kx B k C E sc Ns → n.obl B k → ckC n Ns sc es = true → NTs C B.Y E es (evc n)
  | .nil, C, E, sc, Ns, e, c, ob, h => by
    unfold ckC at h
    split at h
    · exact nts_nil
    · cases h
  | .cons a r, C, E, sc, Ns, e, c, ob, h => by
    cases r with
    | nil =>
      unfold ckC at h
      split at h
      · rw [evc_cons]
        exact nts_one (okB bo a c ob.1 h)
      · cases h
    | _ => cases h
  | .rng1 _, C, E, sc, Ns, e, c, ob, h => by cases h
  | .rng2 _ _, C, E, sc, Ns, e, c, ob, h => by cases h
  | .enm _, C, E, sc, Ns, e, c, ob, h => by cases h
  | .zp _ _, C, E, sc, Ns, e, c, ob, h => by cases h
  | .pass, C, E, sc, Ns, e, c, ob, h => by cases h
  | .seq _ _, C, E, sc, Ns, e, c, ob, h => by cases h
  | .asg _ _, C, E, sc, Ns, e, c, ob, h => by cases h
  | .set2 _ _ _ _, C, E, sc, Ns, e, c, ob, h => by cases h
  | .set3 _ _ _ _ _ _, C, E, sc, Ns, e, c, ob, h => by cases h
  | .drop _, C, E, sc, Ns, e, c, ob, h => by cases h
  | .ap _ _, C, E, sc, Ns, e, c, ob, h => by cases h
  | .xt _ _, C, E, sc, Ns, e, c, ob, h => by cases h
  | .iff _ _ _, C, E, sc, Ns, e, c, ob, h => by cases h
  | .for_ _ _ _, C, E, sc, Ns, e, c, ob, h => by cases h
  | .while_ _ _, C, E, sc, Ns, e, c, ob, h => by cases h
  | .ret _, C, E, sc, Ns, e, c, ob, h => by cases h
  | .retN, C, E, sc, Ns, e, c, ob, h => by cases h
  | .brk, C, E, sc, Ns, e, c, ob, h => by cases h
  | .cont, C, E, sc, Ns, e, c, ob, h => by cases h
  | .frz _, C, E, sc, Ns, e, c, ob, h => by cases h
  | .nev, C, E, sc, Ns, e, c, ob, h => by cases h
  | .var _, C, E, sc, Ns, e, c, ob, h => by cases h
  | .lit _, C, E, sc, Ns, e, c, ob, h => by cases h
  | .glb _ _, C, E, sc, Ns, e, c, ob, h => by cases h
  | .bin _ _ _, C, E, sc, Ns, e, c, ob, h => by cases h
  | .neg _, C, E, sc, Ns, e, c, ob, h => by cases h
  | .cmp _ _ _, C, E, sc, Ns, e, c, ob, h => by cases h
  | .chain _ _ _ _ _, C, E, sc, Ns, e, c, ob, h => by cases h
  | .and _ _, C, E, sc, Ns, e, c, ob, h => by cases h
  | .or _ _, C, E, sc, Ns, e, c, ob, h => by cases h
  | .not _, C, E, sc, Ns, e, c, ob, h => by cases h
  | .ite _ _ _, C, E, sc, Ns, e, c, ob, h => by cases h
  | .tup _, C, E, sc, Ns, e, c, ob, h => by cases h
  | .lst _, C, E, sc, Ns, e, c, ob, h => by cases h
  | .ix _ _, C, E, sc, Ns, e, c, ob, h => by cases h
  | .sl _ _ _, C, E, sc, Ns, e, c, ob, h => by cases h
  | .slst _ _ _, C, E, sc, Ns, e, c, ob, h => by cases h
  | .dnew, C, E, sc, Ns, e, c, ob, h => by cases h
  | .put _ _ _, C, E, sc, Ns, e, c, ob, h => by cases h
  | .attr _ _ _, C, E, sc, Ns, e, c, ob, h => by cases h
  | .bi _ _, C, E, sc, Ns, e, c, ob, h => by cases h
  | .bi2 _ _ _, C, E, sc, Ns, e, c, ob, h => by cases h
  | .me _ _ _, C, E, sc, Ns, e, c, ob, h => by cases h
  | .isT _ _, C, E, sc, Ns, e, c, ob, h => by cases h
  | .isC _ _ _ _, C, E, sc, Ns, e, c, ob, h => by cases h
  | .call _ _ _ _, C, E, sc, Ns, e, c, ob, h => by cases h
  | .om _ _ _ _ _, C, E, sc, Ns, e, c, ob, h => by cases h
  | .comp _ _ _ _ _, C, E, sc, Ns, e, c, ob, h => by cases h
theorem okI {B : Bx} {k : Nat} (bo : BOk B) : ∀ (n : N) {q : Bool} {C : Cx → Prop} {E : XK} {sc : Scope} {Ns : List Str} {tg e : Expr}, Kx B k C E sc Ns → n.obl B k → ckI n Ns sc tg e = true → NI C B.Y E q tg e (evI q n)
  | .rng1 a, q, C, E, sc, Ns, tg, e, c, ob, h => by
    unfold ckI at h
    split at h
    · simp only [Bool.and_eq_true, decide_eq_true_eq, Bool.not_eq_true'] at h
      cases (eq_of_beq h.1.1.1)
      exact ni_rng1 (range1 c bo h.1.1.2 h.1.2) (okE bo a c ob h.2)
    · cases h
  | .rng2 a b, q, C, E, sc, Ns, tg, e, c, ob, h => by
    unfold ckI at h
    split at h
    · simp only [Bool.and_eq_true, decide_eq_true_eq, Bool.not_eq_true'] at h
      cases (eq_of_beq h.1.1.1.1.1)
      exact ni_rng2 (range2 c bo h.1.1.1.1.2 h.1.1.1.2 h.1.1.2) (okE bo a c ob.1 h.1.2) (okE bo b c ob.2 h.2)
    · cases h
  | .enm a, q, C, E, sc, Ns, tg, e, c, ob, h => by
    unfold ckI at h
    split at h
    · simp only [Bool.and_eq_true, decide_eq_true_eq, Bool.not_eq_true'] at h
      cases (eq_of_beq h.1.1.1.2)
      cases tg <;> first
        | exact ni_enum (enum1 c bo h.1.1.2 h.1.2) (okE bo a c ob h.2)
        | cases h.1.1.1.1
    · cases h
  | .zp a b, q, C, E, sc, Ns, tg, e, c, ob, h => by
    unfold ckI at h
    split at h
    · simp only [Bool.and_eq_true, decide_eq_true_eq, Bool.not_eq_true'] at h
      cases (eq_of_beq h.1.1.1.1.1.2)
      cases tg <;> first
        | exact ni_zip (zip2 c bo h.1.1.1.1.2 h.1.1.1.2 h.1.1.2) (okE bo a c ob.1 h.1.2) (okE bo b c ob.2 h.2)
        | cases h.1.1.1.1.1.1
    · cases h
  | .cons a r, q, C, E, sc, Ns, tg, e, c, ob, h => by
    cases r with
    | nil =>
      unfold ckI at h
      exact ni_any c.hK (okE bo a c ob.1 h)
    | _ => cases h
  | .nil, q, C, E, sc, Ns, tg, e, c, ob, h => by cases h
  | .pass, q, C, E, sc, Ns, tg, e, c, ob, h => by cases h
  | .seq _ _, q, C, E, sc, Ns, tg, e, c, ob, h => by cases h
  | .asg _ _, q, C, E, sc, Ns, tg, e, c, ob, h => by cases h
  | .set2 _ _ _ _, q, C, E, sc, Ns, tg, e, c, ob, h => by cases h
  | .set3 _ _ _ _ _ _, q, C, E, sc, Ns, tg, e, c, ob, h => by cases h
  | .drop _, q, C, E, sc, Ns, tg, e, c, ob, h => by cases h
  | .ap _ _, q, C, E, sc, Ns, tg, e, c, ob, h => by cases h
  | .xt _ _, q, C, E, sc, Ns, tg, e, c, ob, h => by cases h
  | .iff _ _ _, q, C, E, sc, Ns, tg, e, c, ob, h => by cases h
  | .for_ _ _ _, q, C, E, sc, Ns, tg, e, c, ob, h => by cases h
  | .while_ _ _, q, C, E, sc, Ns, tg, e, c, ob, h => by cases h
  | .ret _, q, C, E, sc, Ns, tg, e, c, ob, h => by cases h
  | .retN, q, C, E, sc, Ns, tg, e, c, ob, h => by cases h
  | .brk, q, C, E, sc, Ns, tg, e, c, ob, h => by cases h
  | .cont, q, C, E, sc, Ns, tg, e, c, ob, h => by cases h
  | .frz _, q, C, E, sc, Ns, tg, e, c, ob, h => by cases h
  | .nev, q, C, E, sc, Ns, tg, e, c, ob, h => by cases h
  | .var _, q, C, E, sc, Ns, tg, e, c, ob, h => by cases h
  | .lit _, q, C, E, sc, Ns, tg, e, c, ob, h => by cases h
  | .glb _ _, q, C, E, sc, Ns, tg, e, c, ob, h => by cases h
  | .bin _ _ _, q, C, E, sc, Ns, tg, e, c, ob, h => by cases h
  | .neg _, q, C, E, sc, Ns, tg, e, c, ob, h => by cases h
  | .cmp _ _ _, q, C, E, sc, Ns, tg, e, c, ob, h => by cases h
  | .chain _ _ _ _ _, q, C, E, sc, Ns, tg, e, c, ob, h => by cases h
  | .and _ _, q, C, E, sc, Ns, tg, e, c, ob, h => by cases h
  | .or _ _, q, C, E, sc, Ns, tg, e, c, ob, h => by cases h
  | .not _, q, C, E, sc, Ns, tg, e, c, ob, h => by cases h
  | .ite _ _ _, q, C, E, sc, Ns, tg, e, c, ob, h => by cases h
  | .tup _, q, C, E, sc, Ns, tg, e, c, ob, h => by cases h
  | .lst _, q, C, E, sc, Ns, tg, e, c, ob, h => by cases h
  | .ix _ _, q, C, E, sc, Ns, tg, e, c, ob, h => by cases h
  | .sl _ _ _, q, C, E, sc, Ns, tg, e, c, ob, h => by cases h
  | .slst _ _ _, q, C, E, sc, Ns, tg, e, c, ob, h => by cases h
  | .dnew, q, C, E, sc, Ns, tg, e, c, ob, h => by cases h
  | .put _ _ _, q, C, E, sc, Ns, tg, e, c, ob, h => by cases h
  | .attr _ _ _, q, C, E, sc, Ns, tg, e, c, ob, h => by cases h
  | .bi _ _, q, C, E, sc, Ns, tg, e, c, ob, h => by cases h
  | .bi2 _ _ _, q, C, E, sc, Ns, tg, e, c, ob, h => by cases h
  | .me _ _ _, q, C, E, sc, Ns, tg, e, c, ob, h => by cases h
  | .isT _ _, q, C, E, sc, Ns, tg, e, c, ob, h => by cases h
  | .isC _ _ _ _, q, C, E, sc, Ns, tg, e, c, ob, h => by cases h
  | .call _ _ _ _, q, C, E, sc, Ns, tg, e, c, ob, h => by cases h
  | .om _ _ _ _ _, q, C, E, sc, Ns, tg, e, c, ob, h => by cases h
  | .comp _ _ _ _ _, q, C, E, sc, Ns, tg, e, c, ob, h => by cases h
end
end NN

set_option Elab.async false
set_option linter.all false
set_option maxRecDepth 100000
set_option maxHeartbeats 4000000
namespace NN
open PySem PySem.Spec PyProof.Rows L2

structure Sx (B : Bx) (k : Nat) (C : Cx → Prop) (E : XK) (sc : Scope) (Ns : List Str) : Prop extends Kx B k C E sc Ns where
  scE : ∀ X, C X → X.env.scope = sc
  kind : sc.kind = .function
  po : ∀ X, C X → PassesOwn (model X.prog X.w) X.A X.env X.xe

def isStar : Expr → Bool
  | .Starred _ _ => true
  | _ => false
def swpN (kd : Str → Option NameKind) (ts : List Expr) : List Str := ts.filterMap fun
  | .Name id pos => if (kd id == some .local && pos.line == (ts.head?.map (·.pos.line)).getD 0) = true then some id else none
  | _ => none
def swp (kd : Str → Option NameKind) (ts vs : List Expr) : Option (Option (List Str)) :=
  if (!(ts.length == 2 || ts.length == 3) || vs.length != ts.length) = true then some none
  else if vs.any isStar = true then some none
  else if ((swpN kd ts).length != ts.length || (swpN kd ts).eraseDups.length != (swpN kd ts).length) = true then some none
  else if vs.all (foldedForSure 8) = true then some none
  else if vs.all (constantsAlone 8) = true then none
  else some (some (swpN kd ts))
theorem swapped_eq {env : PySem.Env} {ts vs : List Expr} {k k2 : Nat} {p p2 : Pos} {r : Option (List Str)} (hb : env.blockKind = .function) (h : swp env.kindOf ts vs = some r) : swappedStores [.Tuple ts k p] (.Tuple vs k2 p2) env = pure r := by
  unfold swp at h
  unfold swappedStores
  simp only [hb, bne_self_eq_false, Bool.or_false]
  split at h
  · rename_i h1
    cases h
    rw [if_pos h1]
  · rename_i h1
    rw [if_neg h1]
    split at h
    · rename_i h2
      cases h
      exact if_pos h2
    · rename_i h2
      refine (if_neg h2).trans ?_
      by_cases h3 : ((swpN env.kindOf ts).length != ts.length || (swpN env.kindOf ts).eraseDups.length != (swpN env.kindOf ts).length) = true
      · rw [if_pos h3] at h
        cases h
        exact if_pos h3
      · rw [if_neg h3] at h
        refine Eq.trans (if_neg h3) ?_
        by_cases h4 : vs.all (foldedForSure 8) = true
        · rw [if_pos h4] at h
          cases h
          exact if_pos h4
        · rw [if_neg h4] at h
          refine Eq.trans (if_neg h4) ?_
          by_cases h5 : vs.all (constantsAlone 8) = true
          · rw [if_pos h5] at h; cases h
          · rw [if_neg h5] at h
            cases h
            exact if_neg h5
theorem swapsC_eq {elt : Expr} {gs : List Comprehension} {scope : Scope} {pos py : Pos} {y : Str} {l : Nat} {env : PySem.Env} (hb : env.blockKind = .function) :
    swapsWith (.ListComp elt gs scope pos) (some (.Name y py)) l env = pure (env.kindOf y == some .local && py.line == pos.line && !(scope.names.any fun (n, k) => n == y && (k == .local || k == .cell))) := by
  unfold swapsWith
  simp only [hb, Expr.pos]
  rfl

def fewB (es : List Expr) : Bool := es.all noStar && decide (es.length < 30)
mutual
def ckS : N → List Str → Scope → Stmt → Bool
  | .pass, _, _, s => match s with
    | .Pass _ => true
    | .Expr (.Constant (.str _) _ _) _ => true
    | _ => false
  | .asg tg e, Ns, sc, s => match s with
    | .Assign [t] v _ => (match tg with
      | .nm i => (match t with
        | .Name x _ => decide (Ns[i]? = some x) && locB sc x && ckE e Ns sc v
        | _ => false)
      | .tp is => (match t, v with
        | .Tuple _ _ _, .Tuple _ _ _ => false
        | .Tuple es _ _, v => ckTs Ns sc is es && noComp v && ckE e Ns sc v
        | _, _ => false))
    | _ => false
  | .set2 i j a b, Ns, sc, s => match s with
    | .Assign [.Tuple [.Name x px, .Name y py] _ _] (.Tuple [ea, eb] _ _) _ => decide (Ns[i]? = some x) && decide (Ns[j]? = some y) && locB sc x && locB sc y && decide (i ≠ j) && noStar ea && noStar eb && (match swp (fun q => sc.names.lookup q) [.Name x px, .Name y py] [ea, eb] with
        | some none => true
        | some (some [x', y']) => x' == x && y' == y && decide (sc.names.lookup x = some .local) && decide (sc.names.lookup y = some .local)
        | _ => false) && ckE a Ns sc ea && ckE b Ns sc eb
    | _ => false
  | .set3 i j l a b c, Ns, sc, s => match s with
    | .Assign [.Tuple [.Name x px, .Name y py, .Name z pz] _ _] (.Tuple [ea, eb, ec] _ _) _ => decide (Ns[i]? = some x) && decide (Ns[j]? = some y) && decide (Ns[l]? = some z) && locB sc x && locB sc y && locB sc z && decide (i ≠ j) && decide (i ≠ l) && decide (j ≠ l) && noStar ea && noStar eb && noStar ec && (match swp (fun q => sc.names.lookup q) [.Name x px, .Name y py, .Name z pz] [ea, eb, ec] with
        | some none => true
        | some (some [x', y', z']) => x' == x && y' == y && z' == z && decide (sc.names.lookup x = some .local) && decide (sc.names.lookup y = some .local) && decide (sc.names.lookup z = some .local)
        | _ => false) && ckE a Ns sc ea && ckE b Ns sc eb && ckE c Ns sc ec
    | _ => false
  | .drop e, Ns, sc, s => match s with
    | .Expr v _ => noComp v && ckE e Ns sc v
    | _ => false
  | .ap i e, Ns, sc, s => match s with
    | .Expr (.Call (.Attribute (.Name x _) m apos) [ea] [] cpos) _ => m == ("append" : Str) && decide (Ns[i]? = some x) && visB sc x && dbg x && !(x == ("__classdict__" : Str)) && noStar ea && (apos.endLine == cpos.line) && ckE e Ns sc ea
    | _ => false
  | .xt i e, Ns, sc, s => match s with
    | .Expr (.Call (.Attribute (.Name x _) m apos) [ea] [] cpos) _ => m == ("extend" : Str) && decide (Ns[i]? = some x) && visB sc x && dbg x && !(x == ("__classdict__" : Str)) && noStar ea && (apos.endLine == cpos.line) && ckE e Ns sc ea
    | _ => false
  | .put i k e, Ns, sc, s => match s with
    | .Assign [.Subscript (.Name x _) ek _] v _ => decide (Ns[i]? = some x) && visB sc x && dbg x && !(x == ("__classdict__" : Str)) && noComp v && ckE k Ns sc ek && ckE e Ns sc v
    | _ => false
  | .iff c a b, Ns, sc, s => match s with
    | .If ec ss ss' _ => ckB c Ns sc ec && ckL a Ns sc ss && ckL b Ns sc ss'
    | _ => false
  | .for_ tg it b, Ns, sc, s => match s with
    | .For t iter ss [] _ => noSet iter && ckT Ns sc tg t && ckI it Ns sc t iter && ckL b Ns sc ss
    | _ => false
  | .while_ c b, Ns, sc, s => match s with
    | .While ec ss [] _ => ckB c Ns sc ec && ckL b Ns sc ss
    | _ => false
  | .ret e, Ns, sc, s => match s with
    | .Return (some v) _ => ckE e Ns sc v
    | _ => false
  | .retN, _, _, s => match s with
    | .Return none _ => true
    | _ => false
  | .brk, _, _, s => match s with
    | .Break _ => true
    | _ => false
  | .cont, _, _, s => match s with
    | .Continue _ => true
    | _ => false
  | .nev, _, _, _ => true
  | _, _, _, _ => false
def ckL : N → List Str → Scope → List Stmt → Bool
  | .nil, _, _, ss => match ss with
    | [] => true
    | _ => false
  | .seq a b, Ns, sc, ss => match a with
    | .frz _ => ckL b Ns sc ss
    | a => match ss with
      | s :: ss => ckS a Ns sc s && ckL b Ns sc ss
      | [] => false
  | _, _, _, _ => false
end
section
variable {B : Bx} {k : Nat} {C : Cx → Prop} {E : XK} {sc : Scope} {Ns : List Str}
theorem Sx.bk (c : Sx B k C E sc Ns) : ∀ X, C X → X.env.blockKind = .function := fun X hX => by
  unfold Env.blockKind
  rw [c.scE X hX, c.kind]; rfl
theorem Sx.kd (c : Sx B k C E sc Ns) : ∀ X, C X → ∀ x, X.env.kindOf x = sc.names.lookup x := fun X hX x => by
  show X.env.scope.names.lookup x = _
  rw [c.scE X hX]
theorem bm_ap {X : Cx} {K : PySem.W.Frag} {x : Str} {i : Nat} {te : TE} {ea : Expr} {px apos cpos pos : Pos} (hK : X.K = K) (pv : PE X (.Name x px) (tVar i)) (pe : PE X ea te) (hs : noStar ea = true) (hl : (apos.endLine == cpos.line) = true) :
    PS X (.Expr (.Call (.Attribute (.Name x px) "append" apos) [ea] [] cpos) pos) (tAp K i te) := by
  subst hK
  refine ps_expr (pe_bm PySem.F.plainAttrs_list PySem.F.slot_list_append PySem.F.type_list_append mt_append pv (pa1 hs pe) rfl ?_ hl (starEach_cons hs) (stars_no (by rfl))) rfl
  rw [stars_all (by simp [hs])]; rfl
theorem bm_xt {X : Cx} {K : PySem.W.Frag} {x : Str} {i : Nat} {te : TE} {ea : Expr} {px apos cpos pos : Pos} (hK : X.K = K) (pv : PE X (.Name x px) (tVar i)) (pe : PE X ea te) (hs : noStar ea = true) (hl : (apos.endLine == cpos.line) = true) :
    PS X (.Expr (.Call (.Attribute (.Name x px) "extend" apos) [ea] [] cpos) pos) (tXt K i te) := by
  subst hK
  refine ps_expr (pe_bm PySem.F.plainAttrs_list PySem.F.slot_list_extend PySem.F.type_list_extend mt_extend pv (pa1 hs pe) rfl ?_ hl (starEach_cons hs) (stars_no (by rfl))) rfl
  rw [stars_all (by simp [hs])]; rfl
end
end NN

set_option Elab.async false
set_option linter.all false
set_option maxRecDepth 100000
set_option maxHeartbeats 4000000
namespace NN
open PySem PySem.Spec PyProof.Rows L2
section
variable {B : Bx} {k : Nat} {C : Cx → Prop} {E : XK} {sc : Scope} {Ns : List Str}
theorem sw_none {es : List Expr} {kk : Nat} {p : Pos} {v : Expr} (h : ∀ (elts : List Expr) (k : Nat) (pos : Pos), v = Expr.Tuple elts k pos → False) (env : PySem.Env) : swappedStores [.Tuple es kk p] v env = pure none := by
  cases v <;> first
    | rfl
    | exact (h _ _ _ rfl).elim
theorem ok_asg (bo : BOk B) (c : Sx B k C E sc Ns) {i : Nat} {x : Str} {px pos : Pos} {v : Expr} {e : N} (hi : Ns[i]? = some x) (hx : locB sc x = true) (ob : e.obl B k) (h : ckE e Ns sc v = true) : NS C B.Y E (.Assign [.Name x px] v pos) (ex (.asg (.nm i) e)) := by
  have A := okE bo e c.toKx ob h
  have plain : (∀ X, C X → swapsWith v (some (.Name x px)) pos.line X.env = pure false) → NS C B.Y E (.Assign [.Name x px] v pos) (ex (.asg (.nm i) e)) := fun hn => ns_set (c.ps hi hx hn) A
  by_cases hn : noComp v = true
  · exact plain fun X hX => swaps_no hn
  · cases v with
    | ListComp elt gs scope cp =>
      by_cases hsw : (sc.names.lookup x == some .local && px.line == cp.line && !(scope.names.any fun (n, k) => n == x && (k == .local || k == .cell))) = true
      · -- stored within the comprehension's own frame
        cases e with
        | comp tg own it d en =>
          unfold ckE at h
          split at h
          · rename_i elt tg' iter ifs as scope p heq
            cases heq
            simp only [Bool.and_eq_true, decide_eq_true_eq, Bool.not_eq_true'] at h
            obtain ⟨⟨⟨⟨⟨⟨⟨rfl, h1⟩, h2⟩, h3⟩, h4⟩, h5⟩, h6⟩, h7⟩ := h
            have cb := c.toKx.blk scope
            have hsl : ∀ i ∈ tg.slots, i ∈ (ownP Ns own).map (·.2) := fun i hi => by
              rw [ownP_map]
              simpa using List.all_eq_true.mp h3 i hi
            have hl : sc.names.lookup x = some .local := by
              simp only [Bool.and_eq_true] at hsw
              exact eq_of_beq hsw.1.1
            have r := ns_setC (spos := pos) (py := px) (pos := cp) (i := i) (y := x) c.calm c.nd' (c.blkOk h1) h2 (fun X hX => ⟨by rw [c.nm X hX]; exact hi, c.loc X hX x hl, by rw [swapsC_eq (c.bk X hX), c.kd X hX, hsw]⟩) (okI bo it c.toKx ob.1 h5) (ok_t cb h4) (okC bo d cb ob.2.1 h6) (okE bo en cb ob.2.2 h7) hsl
            rw [ownP_map] at r
            exact r
          · cases h
        | bi f a => cases f <;> cases h
        | _ => cases h
      · exact plain fun X hX => by rw [swapsC_eq (c.bk X hX), c.kd X hX]; simp only [Bool.not_eq_true] at hsw; rw [hsw]
    | SetComp _ _ _ _ =>
      cases e with
      | bi f a => cases f <;> cases h
      | _ => cases h
    | DictComp _ _ _ _ _ =>
      cases e with
      | bi f a => cases f <;> cases h
      | _ => cases h
    | _ => exact absurd rfl hn
theorem gtup2 {X : Cx} {K : PySem.W.Frag} (hK : X.K = K) (hc : X.calm = true) {i j : Nat} {x y : Expr} {kt : Nat} {pt : Pos} (px : PG X x (gName i)) (py : PG X y (gName j)) (h1 : ∀ env : PySem.Env, assignEach [x, y] env = [(false, assign x env), (false, assign y env)]) (h2 : ∀ env : PySem.Env, assignEach [y] env = [(false, assign y env)]) :
    PG X (.Tuple [x, y] kt pt) (gTup K 2 (gCons (gName i) (gCons (gName j) gNil))) := by
  subst hK
  exact pg_tup hc (pgs_cons px (pgs_cons py pgs_nil (by rw [h2]; rfl)) (by rw [h1, h2]; rfl)) (by rw [h1]; rfl) (by rw [h1]; rfl)
theorem ok_set2 (bo : BOk B) (c : Sx B k C E sc Ns) {i j : Nat} {x y : Str} {px py pt pos pt2 : Pos} {kt k2 : Nat} {ea eb : Expr} {a b : N} (hi : Ns[i]? = some x) (hj : Ns[j]? = some y) (hx : locB sc x = true) (hy : locB sc y = true) (hij : i ≠ j) (hs : noStar ea = true) (hs2 : noStar eb = true)
    (hw : (match swp (fun q => sc.names.lookup q) [.Name x px, .Name y py] [ea, eb] with
        | some none => true
        | some (some [x', y']) => x' == x && y' == y && decide (sc.names.lookup x = some .local) && decide (sc.names.lookup y = some .local)
        | _ => false) = true) (A : NE C B.Y E ea (ev a)) (A2 : NE C B.Y E eb (ev b)) :
    NS C B.Y E (.Assign [.Tuple [.Name x px, .Name y py] kt pt] (.Tuple [ea, eb] k2 pt2) pos) (ex (.set2 i j a b)) := by
  have sweq : ∀ X, C X → ∀ r, swp (fun q => sc.names.lookup q) [.Name x px, .Name y py] [ea, eb] = some r → swappedStores [.Tuple [.Name x px, .Name y py] kt pt] (.Tuple [ea, eb] k2 pt2) X.env = pure r := fun X hX r hr =>
    swapped_eq (c.bk X hX) (by
      have : (fun q => sc.names.lookup q) = X.env.kindOf := funext fun q => (c.kd X hX q).symm
      rw [← this]; exact hr)
  split at hw
  · rename_i hr
    -- by way of the tuple
    refine ns_set2 (t := fun ta tb => tAsg (tTup (tCons ta (tCons tb tNil))) (gTup B.Y.K 2 (gCons (gName i) (gCons (gName j) gNil))))
      (fin := fun D σ v u H => [v, u].length ≤ sizeLine ∧ ∀ p, H p = none → gTup B.Y.K 2 (gCons (gName i) (gCons (gName j) gNil)) (.ref p) σ (upd H p (.tup [v, u])) D.nx) (fun X hX ta tb pa pb => ?_) (fun _ _ _ _ _ => rfl) (fun D σ v u H hh => ?_) A A2
    · exact ps_asg (pe_tup (pa2 hs hs2 pa pb)) (gtup2 (c.hK X hX) (c.calm X hX) (c.pg hi hx px X hX) (c.pg hj hy py X hX) (fun _ => rfl) (fun _ => rfl)) rfl (sweq X hX _ hr) rfl
    · refine ⟨by show 2 ≤ sizeLine; decide, fun p hp => ⟨p, [v, u], rfl, SqT.of upd_same, rfl, v, [u], rfl, u, [], rfl, rfl, ?_⟩⟩
      exact hh _ (.inr ⟨p, _, hp, rfl⟩)
  · rename_i x' y' hr
    simp only [Bool.and_eq_true, decide_eq_true_eq] at hw
    obtain ⟨⟨⟨h1, h2⟩, h3⟩, h4⟩ := hw
    cases (eq_of_beq h1); cases (eq_of_beq h2)
    refine ns_set2 (t := fun ta tb => tPar i j (tCons ta (tCons tb tNil))) (fin := fun D σ v u H => ∃ v' w', [v, u] = [v', w'] ∧ D.nx ((σ.set i (some v')).set j (some w')) H) (fun X hX ta tb pa pb => ?_) (fun _ _ _ _ _ => rfl) (fun D σ v u H hh => ⟨v, u, rfl, hh H (.inl rfl)⟩) A A2
    exact ps_par (c.calm X hX) (c.nd' X hX) (by rw [c.nm X hX]; exact hi) (by rw [c.nm X hX]; exact hj) hij (c.loc X hX _ h3) (c.loc X hX _ h4) (pa2 hs hs2 pa pb) (sweq X hX _ hr) rfl
  · cases hw
theorem pa3 {X : Cx} {a b d : Expr} {ta tb tc : TE} (hs : noStar a = true) (hs2 : noStar b = true) (hs3 : noStar d = true) (pa : PE X a ta) (pb : PE X b tb) (pc : PE X d tc) : PA X [a, b, d] (tCons ta (tCons tb (tCons tc tNil))) := pa_cons pa (pa2 hs2 hs3 pb pc) (starEach_cons hs)
theorem gtup3 {X : Cx} {K : PySem.W.Frag} (hK : X.K = K) (hc : X.calm = true) {i j l : Nat} {x y z : Expr} {kt : Nat} {pt : Pos} (px : PG X x (gName i)) (py : PG X y (gName j)) (pz : PG X z (gName l)) (h1 : ∀ env : PySem.Env, assignEach [x, y, z] env = [(false, assign x env), (false, assign y env), (false, assign z env)]) (h2 : ∀ env : PySem.Env, assignEach [y, z] env = [(false, assign y env), (false, assign z env)]) (h3 : ∀ env : PySem.Env, assignEach [z] env = [(false, assign z env)]) :
    PG X (.Tuple [x, y, z] kt pt) (gTup K 3 (gCons (gName i) (gCons (gName j) (gCons (gName l) gNil)))) := by
  subst hK
  exact pg_tup hc (pgs_cons px (pgs_cons py (pgs_cons pz pgs_nil (by rw [h3]; rfl)) (by rw [h2, h3]; rfl)) (by rw [h1, h2]; rfl)) (by rw [h1]; rfl) (by rw [h1]; rfl)
theorem ok_set3 (bo : BOk B) (c : Sx B k C E sc Ns) {i j l : Nat} {x y z : Str} {px py pz pt pos pt2 : Pos} {kt k2 : Nat} {ea eb ec : Expr} {a b d : N} (hi : Ns[i]? = some x) (hj : Ns[j]? = some y) (hl : Ns[l]? = some z) (hx : locB sc x = true) (hy : locB sc y = true) (hz : locB sc z = true) (hij : i ≠ j) (hil : i ≠ l) (hjl : j ≠ l) (hs : noStar ea = true) (hs2 : noStar eb = true) (hs3 : noStar ec = true)
    (hw : (match swp (fun q => sc.names.lookup q) [.Name x px, .Name y py, .Name z pz] [ea, eb, ec] with
        | some none => true
        | some (some [x', y', z']) => x' == x && y' == y && z' == z && decide (sc.names.lookup x = some .local) && decide (sc.names.lookup y = some .local) && decide (sc.names.lookup z = some .local)
        | _ => false) = true) (A : NE C B.Y E ea (ev a)) (A2 : NE C B.Y E eb (ev b)) (A3 : NE C B.Y E ec (ev d)) :
    NS C B.Y E (.Assign [.Tuple [.Name x px, .Name y py, .Name z pz] kt pt] (.Tuple [ea, eb, ec] k2 pt2) pos) (ex (.set3 i j l a b d)) := by
  have sweq : ∀ X, C X → ∀ r, swp (fun q => sc.names.lookup q) [.Name x px, .Name y py, .Name z pz] [ea, eb, ec] = some r → swappedStores [.Tuple [.Name x px, .Name y py, .Name z pz] kt pt] (.Tuple [ea, eb, ec] k2 pt2) X.env = pure r := fun X hX r hr =>
    swapped_eq (c.bk X hX) (by
      have : (fun q => sc.names.lookup q) = X.env.kindOf := funext fun q => (c.kd X hX q).symm
      rw [← this]; exact hr)
  split at hw
  · rename_i hr
    refine ns_set3 (t := fun ta tb tc => tAsg (tTup (tCons ta (tCons tb (tCons tc tNil)))) (gTup B.Y.K 3 (gCons (gName i) (gCons (gName j) (gCons (gName l) gNil)))))
      (fin := fun D σ v u w H => [v, u, w].length ≤ sizeLine ∧ ∀ p, H p = none → gTup B.Y.K 3 (gCons (gName i) (gCons (gName j) (gCons (gName l) gNil))) (.ref p) σ (upd H p (.tup [v, u, w])) D.nx) (fun X hX ta tb tc pa pb pc => ?_) (fun _ _ _ _ _ _ => rfl) (fun D σ v u w H hh => ?_) A A2 A3
    · exact ps_asg (pe_tup (pa3 hs hs2 hs3 pa pb pc)) (gtup3 (c.hK X hX) (c.calm X hX) (c.pg hi hx px X hX) (c.pg hj hy py X hX) (c.pg hl hz pz X hX) (fun _ => rfl) (fun _ => rfl) (fun _ => rfl)) rfl (sweq X hX _ hr) rfl
    · refine ⟨by show 3 ≤ sizeLine; decide, fun p hp => ⟨p, [v, u, w], rfl, SqT.of upd_same, rfl, v, [u, w], rfl, u, [w], rfl, w, [], rfl, rfl, ?_⟩⟩
      exact hh _ (.inr ⟨p, _, hp, rfl⟩)
  · rename_i x' y' z' hr
    simp only [Bool.and_eq_true, decide_eq_true_eq] at hw
    obtain ⟨⟨⟨⟨⟨h1, h2⟩, h3⟩, h4⟩, h5⟩, h6⟩ := hw
    cases (eq_of_beq h1); cases (eq_of_beq h2); cases (eq_of_beq h3)
    refine ns_set3 (t := fun ta tb tc => tPar3 i j l (tCons ta (tCons tb (tCons tc tNil)))) (fin := fun D σ v u w H => ∃ v' u' w', [v, u, w] = [v', u', w'] ∧ D.nx (((σ.set i (some v')).set j (some u')).set l (some w')) H) (fun X hX ta tb tc pa pb pc => ?_) (fun _ _ _ _ _ _ => rfl) (fun D σ v u w H hh => ⟨v, u, w, rfl, hh H (.inl rfl)⟩) A A2 A3
    exact ps_par3 (c.calm X hX) (c.nd' X hX) (by rw [c.nm X hX]; exact hi) (by rw [c.nm X hX]; exact hj) (by rw [c.nm X hX]; exact hl) hij hil hjl (c.loc X hX _ h4) (c.loc X hX _ h5) (c.loc X hX _ h6) (pa3 hs hs2 hs3 pa pb pc) (sweq X hX _ hr) rfl
  · cases hw
end
theorem nput_at {B : Bx} {X : Cx} {o i value : Expr} {td ty tv : TE} {pos pos' : Pos} (xi : XIs B X) (ho : PE X o td) (hi : PE X i ty) (hv : PE X value tv) (hs : swapsWith value (some (.Subscript o i pos')) pos.line X.env = pure false) :
    PS X (.Assign [.Subscript o i pos'] value pos) (sNPut B.Y.P B.Y.w td ty tv) := by
  have q := ps_nput ho hi hv hs
  rw [xi.P, xi.w] at q
  exact q
mutual
theorem okS {B : Bx} {k : Nat} (bo : BOk B) : ∀ (n : N) {C : Cx → Prop} {E : XK} {sc : Scope} {Ns : List Str} {s : Stmt}, Sx B k C E sc Ns → n.obl B k → ckS n Ns sc s = true → NS C B.Y E s (ex n)
  | .pass, C, E, sc, Ns, s, c, ob, h => by
    unfold ckS at h
    split at h
    · exact ns_pass
    · exact ns_doc
    · cases h
  | .asg tg e, C, E, sc, Ns, s, c, ob, h => by
    unfold ckS at h
    split at h
    · split at h
      · split at h
        · simp only [Bool.and_eq_true, decide_eq_true_eq] at h
          exact ok_asg bo c h.1.1 h.1.2 ob h.2
        · cases h
      · split at h
        · cases h
        · rename_i v is t v' es kk p hnt
          simp only [Bool.and_eq_true] at h
          obtain ⟨h1, h2, h3⟩ := ok_ts c.toKx h.1.1
          refine ns_unp (tg := .Tuple es kk p) h.1.2 (fun X hX te g pe pg => ?_) (okE bo e c.toKx ob h.2) (ng_tup c.hK c.calm h1 h2 h3)
          exact ps_asg pe pg (by unfold swapsWithSole; exact swaps_no h.1.2) (sw_none hnt _) rfl
        · cases h
    · cases h
  | .set2 i j a b, C, E, sc, Ns, s, c, ob, h => by
    unfold ckS at h
    split at h
    · simp only [Bool.and_eq_true, decide_eq_true_eq, Bool.not_eq_true'] at h
      obtain ⟨⟨⟨⟨⟨⟨⟨⟨⟨h1, h2⟩, h3⟩, h4⟩, h5⟩, h6⟩, h7⟩, h8⟩, h9⟩, h10⟩ := h
      exact ok_set2 bo c h1 h2 h3 h4 h5 h6 h7 h8 (okE bo a c.toKx ob.1 h9) (okE bo b c.toKx ob.2 h10)
    · cases h
  | .set3 i j l a b d, C, E, sc, Ns, s, c, ob, h => by
    unfold ckS at h
    split at h
    · simp only [Bool.and_eq_true, decide_eq_true_eq, Bool.not_eq_true'] at h
      obtain ⟨⟨⟨⟨⟨⟨⟨⟨⟨⟨⟨⟨⟨⟨⟨h1, h2⟩, h3⟩, h4⟩, h5⟩, h6⟩, h7⟩, h8⟩, h9⟩, h10⟩, h11⟩, h12⟩, h13⟩, h14⟩, h15⟩, h16⟩ := h
      exact ok_set3 bo c h1 h2 h3 h4 h5 h6 h7 h8 h9 h10 h11 h12 h13 (okE bo a c.toKx ob.1 h14) (okE bo b c.toKx ob.2.1 h15) (okE bo d c.toKx ob.2.2 h16)
    · cases h
  | .drop e, C, E, sc, Ns, s, c, ob, h => by
    unfold ckS at h
    split at h
    · simp only [Bool.and_eq_true, decide_eq_true_eq, Bool.not_eq_true'] at h
      exact ns_drop h.1 (okE bo e c.toKx ob h.2)
    · cases h
  | .ap i e, C, E, sc, Ns, s, c, ob, h => by
    unfold ckS at h
    split at h
    · simp only [dbg, Bool.and_eq_true, decide_eq_true_eq, Bool.not_eq_true'] at h
      obtain ⟨⟨⟨⟨⟨⟨⟨h1, h2⟩, h3⟩, h4⟩, h5⟩, h6⟩, h7⟩, h8⟩ := h
      cases (eq_of_beq h1)
      exact ns_ap (fun X hX te pe => bm_ap (c.hK X hX) (c.pv h2 h3 h4 h5 _ X hX) pe h6 h7) (okE bo e c.toKx ob h8)
    · cases h
  | .xt i e, C, E, sc, Ns, s, c, ob, h => by
    unfold ckS at h
    split at h
    · simp only [dbg, Bool.and_eq_true, decide_eq_true_eq, Bool.not_eq_true'] at h
      obtain ⟨⟨⟨⟨⟨⟨⟨h1, h2⟩, h3⟩, h4⟩, h5⟩, h6⟩, h7⟩, h8⟩ := h
      cases (eq_of_beq h1)
      exact ns_xt (fun X hX te pe => bm_xt (c.hK X hX) (c.pv h2 h3 h4 h5 _ X hX) pe h6 h7) (okE bo e c.toKx ob h8)
    · cases h
  | .iff t a b, C, E, sc, Ns, s, c, ob, h => by
    unfold ckS at h
    split at h
    · simp only [Bool.and_eq_true, decide_eq_true_eq, Bool.not_eq_true'] at h
      exact ns_if (okB bo t c.toKx ob.1 h.1.1) (okL bo a c ob.2.1 h.1.2) (okL bo b c ob.2.2 h.2) fun env st => rfl
    · cases h
  | .for_ tg it b, C, E, sc, Ns, s, c, ob, h => by
    unfold ckS at h
    split at h
    · simp only [Bool.and_eq_true, decide_eq_true_eq, Bool.not_eq_true'] at h
      exact ns_for c.po c.calm h.1.1.1 (okI bo it c.toKx ob.1 h.1.2) (ok_t c.toKx h.1.1.2) (okL bo b c ob.2 h.2)
    · cases h
  | .while_ t b, C, E, sc, Ns, s, c, ob, h => by
    unfold ckS at h
    split at h
    · simp only [Bool.and_eq_true, decide_eq_true_eq, Bool.not_eq_true'] at h
      exact ns_while c.po (okB bo t c.toKx ob.1 h.1) (okL bo b c ob.2 h.2)
    · cases h
  | .ret e, C, E, sc, Ns, s, c, ob, h => by
    unfold ckS at h
    split at h
    · exact ns_ret (okE bo e c.toKx ob h)
    · cases h
  | .retN, C, E, sc, Ns, s, c, ob, h => by
    unfold ckS at h
    split at h
    · exact ns_retN
    · cases h
  | .brk, C, E, sc, Ns, s, c, ob, h => by
    unfold ckS at h
    split at h
    · exact ns_brk
    · cases h
  | .cont, C, E, sc, Ns, s, c, ob, h => by
    unfold ckS at h
    split at h
    · exact ns_cont
    · cases h
  | .nev, C, E, sc, Ns, s, c, ob, h => ns_nev
  | .nil, C, E, sc, Ns, s, c, ob, h => by cases h
  | .cons _ _, C, E, sc, Ns, s, c, ob, h => by cases h
  | .rng1 _, C, E, sc, Ns, s, c, ob, h => by cases h
  | .rng2 _ _, C, E, sc, Ns, s, c, ob, h => by cases h
  | .enm _, C, E, sc, Ns, s, c, ob, h => by cases h
  | .zp _ _, C, E, sc, Ns, s, c, ob, h => by cases h
  | .seq _ _, C, E, sc, Ns, s, c, ob, h => by cases h
  | .frz _, C, E, sc, Ns, s, c, ob, h => by cases h
  | .var _, C, E, sc, Ns, s, c, ob, h => by cases h
  | .lit _, C, E, sc, Ns, s, c, ob, h => by cases h
  | .glb _ _, C, E, sc, Ns, s, c, ob, h => by cases h
  | .bin _ _ _, C, E, sc, Ns, s, c, ob, h => by cases h
  | .neg _, C, E, sc, Ns, s, c, ob, h => by cases h
  | .cmp _ _ _, C, E, sc, Ns, s, c, ob, h => by cases h
  | .chain _ _ _ _ _, C, E, sc, Ns, s, c, ob, h => by cases h
  | .and _ _, C, E, sc, Ns, s, c, ob, h => by cases h
  | .or _ _, C, E, sc, Ns, s, c, ob, h => by cases h
  | .not _, C, E, sc, Ns, s, c, ob, h => by cases h
  | .ite _ _ _, C, E, sc, Ns, s, c, ob, h => by cases h
  | .tup _, C, E, sc, Ns, s, c, ob, h => by cases h
  | .lst _, C, E, sc, Ns, s, c, ob, h => by cases h
  | .ix _ _, C, E, sc, Ns, s, c, ob, h => by cases h
  | .sl _ _ _, C, E, sc, Ns, s, c, ob, h => by cases h
  | .slst _ _ _, C, E, sc, Ns, s, c, ob, h => by cases h
  | .dnew, C, E, sc, Ns, s, c, ob, h => by cases h
  | .put i k e, C, E, sc, Ns, s, c, ob, h => by
    unfold ckS at h
    split at h
    · simp only [dbg, Bool.and_eq_true, decide_eq_true_eq, Bool.not_eq_true'] at h
      obtain ⟨⟨⟨⟨⟨⟨h1, h2⟩, h3⟩, h4⟩, h5⟩, h6⟩, h7⟩ := h
      exact ns_put (fun X hX tk tv pk pv => nput_at (c.is X hX) (c.pv h1 h2 h3 h4 _ X hX) pk pv (swaps_no h5)) (okE bo e c.toKx ob.2 h7) (okE bo k c.toKx ob.1 h6)
    · cases h
  | .attr _ _ _, C, E, sc, Ns, s, c, ob, h => by cases h
  | .bi _ _, C, E, sc, Ns, s, c, ob, h => by cases h
  | .bi2 _ _ _, C, E, sc, Ns, s, c, ob, h => by cases h
  | .me _ _ _, C, E, sc, Ns, s, c, ob, h => by cases h
  | .isT _ _, C, E, sc, Ns, s, c, ob, h => by cases h
  | .isC _ _ _ _, C, E, sc, Ns, s, c, ob, h => by cases h
  | .call _ _ _ _, C, E, sc, Ns, s, c, ob, h => by cases h
  | .om _ _ _ _ _, C, E, sc, Ns, s, c, ob, h => by cases h
  | .comp _ _ _ _ _, C, E, sc, Ns, s, c, ob, h => by cases h
theorem okL {B : Bx} {k : Nat} (bo : BOk B) : ∀ (n : N) {C : Cx → Prop} {E : XK} {sc : Scope} {Ns : List Str} {ss : List Stmt}, Sx B k C E sc Ns → n.obl B k → ckL n Ns sc ss = true → NSs C B.Y E ss (ex n)
  | .nil, C, E, sc, Ns, ss, c, ob, h => by
    unfold ckL at h
    split at h
    · exact nss_nil
    · cases h
  | .seq a b, C, E, sc, Ns, ss, c, ob, h => by
    unfold ckL at h
    split at h
    · exact nss_frz (okL bo b c ob.2 h)
    · split at h
      · rw [Bool.and_eq_true] at h
        exact nss_cons (okS bo a c ob.1 h.1) (okL bo b c ob.2 h.2)
      · cases h
  | .cons _ _, C, E, sc, Ns, ss, c, ob, h => by cases h
  | .rng1 _, C, E, sc, Ns, ss, c, ob, h => by cases h
  | .rng2 _ _, C, E, sc, Ns, ss, c, ob, h => by cases h
  | .enm _, C, E, sc, Ns, ss, c, ob, h => by cases h
  | .zp _ _, C, E, sc, Ns, ss, c, ob, h => by cases h
  | .pass, C, E, sc, Ns, ss, c, ob, h => by cases h
  | .asg _ _, C, E, sc, Ns, ss, c, ob, h => by cases h
  | .set2 _ _ _ _, C, E, sc, Ns, ss, c, ob, h => by cases h
  | .set3 _ _ _ _ _ _, C, E, sc, Ns, ss, c, ob, h => by cases h
  | .drop _, C, E, sc, Ns, ss, c, ob, h => by cases h
  | .ap _ _, C, E, sc, Ns, ss, c, ob, h => by cases h
  | .xt _ _, C, E, sc, Ns, ss, c, ob, h => by cases h
  | .iff _ _ _, C, E, sc, Ns, ss, c, ob, h => by cases h
  | .for_ _ _ _, C, E, sc, Ns, ss, c, ob, h => by cases h
  | .while_ _ _, C, E, sc, Ns, ss, c, ob, h => by cases h
  | .ret _, C, E, sc, Ns, ss, c, ob, h => by cases h
  | .retN, C, E, sc, Ns, ss, c, ob, h => by cases h
  | .brk, C, E, sc, Ns, ss, c, ob, h => by cases h
  | .cont, C, E, sc, Ns, ss, c, ob, h => by cases h
  | .frz _, C, E, sc, Ns, ss, c, ob, h => by cases h
  | .nev, C, E, sc, Ns, ss, c, ob, h => by cases h
  | .var _, C, E, sc, Ns, ss, c, ob, h => by cases h
  | .lit _, C, E, sc, Ns, ss, c, ob, h => by cases h
  | .glb _ _, C, E, sc, Ns, ss, c, ob, h => by cases h
  | .bin _ _ _, C, E, sc, Ns, ss, c, ob, h => by cases h
  | .neg _, C, E, sc, Ns, ss, c, ob, h => by cases h
  | .cmp _ _ _, C, E, sc, Ns, ss, c, ob, h => by cases h
  | .chain _ _ _ _ _, C, E, sc, Ns, ss, c, ob, h => by cases h
  | .and _ _, C, E, sc, Ns, ss, c, ob, h => by cases h
  | .or _ _, C, E, sc, Ns, ss, c, ob, h => by cases h
  | .not _, C, E, sc, Ns, ss, c, ob, h => by cases h
  | .ite _ _ _, C, E, sc, Ns, ss, c, ob, h => by cases h
  | .tup _, C, E, sc, Ns, ss, c, ob, h => by cases h
  | .lst _, C, E, sc, Ns, ss, c, ob, h => by cases h
  | .ix _ _, C, E, sc, Ns, ss, c, ob, h => by cases h
  | .sl _ _ _, C, E, sc, Ns, ss, c, ob, h => by cases h
  | .slst _ _ _, C, E, sc, Ns, ss, c, ob, h => by cases h
  | .dnew, C, E, sc, Ns, ss, c, ob, h => by cases h
  | .put _ _ _, C, E, sc, Ns, ss, c, ob, h => by cases h
  | .attr _ _ _, C, E, sc, Ns, ss, c, ob, h => by cases h
  | .bi _ _, C, E, sc, Ns, ss, c, ob, h => by cases h
  | .bi2 _ _ _, C, E, sc, Ns, ss, c, ob, h => by cases h
  | .me _ _ _, C, E, sc, Ns, ss, c, ob, h => by cases h
  | .isT _ _, C, E, sc, Ns, ss, c, ob, h => by cases h
  | .isC _ _ _ _, C, E, sc, Ns, ss, c, ob, h => by cases h
  | .call _ _ _ _, C, E, sc, Ns, ss, c, ob, h => by cases h
  | .om _ _ _ _ _, C, E, sc, Ns, ss, c, ob, h => by cases h
  | .comp _ _ _ _ _, C, E, sc, Ns, ss, c, ob, h => by cases h
end
end NN

set_option Elab.async false
set_option linter.all false
set_option maxRecDepth 100000
set_option maxHeartbeats 4000000
namespace NN
open PySem PySem.Spec PyProof.Rows L2

theorem start_get {Ns : List Str} {vs : List V} {i : Nat} {v : V} (h : vs[i]? = some v) : (L2.start Ns vs)[i]? = some (some v) := by
  unfold L2.start
  have hi : i < vs.length := (List.getElem?_eq_some_iff.mp h).1
  rw [List.getElem?_append_left (by simpa using hi), List.getElem?_map, h]; rfl
theorem startE_get {n : Nat} {ts : List T} {i : Nat} {s : Slot} (h : (startE n ts)[i]? = some (some s)) : ∃ t, ts[i]? = some t ∧ s = .val t := by
  unfold startE at h
  by_cases hi : i < ts.length
  · rw [List.getElem?_append_left (by simpa using hi), List.getElem?_map] at h
    cases q : ts[i]? with
    | none => rw [q] at h; cases h
    | some t => rw [q] at h; cases h; exact ⟨t, rfl, rfl⟩
  · rw [List.getElem?_append_right (by simpa using hi), List.getElem?_replicate] at h
    split at h <;> cases h
theorem RepVs.get {Y : Gx} {M : Mp} : ∀ {vs : List V} {ts : List T}, RepVs Y M vs ts → ∀ {i : Nat} {t : T}, ts[i]? = some t → ∃ v, vs[i]? = some v ∧ RepV Y M v t
  | [], [], .nil, i, t, h => by cases i <;> cases h
  | v :: vs, u :: ts, .cons a r, 0, t, h => by cases h; exact ⟨v, rfl, a⟩
  | v :: vs, u :: ts, .cons a r, i + 1, t, h => RepVs.get (vs := vs) (ts := ts) r (i := i) h
theorem envRel_start {Y : Gx} {M : Mp} {H : Hp} {Ns : List Str} {vs : List V} {ts : List T} (r : RepVs Y M vs ts) : EnvRel Y H M H (L2.start Ns vs) (startE Ns.length ts) where
  len := by
    unfold L2.start startE
    simp only [List.length_append, List.length_map, List.length_replicate, r.length]
  at' := fun i s h => by
    obtain ⟨t, ht, rfl⟩ := startE_get h
    obtain ⟨v, hv, rv⟩ := RepVs.get r ht
    exact ⟨v, start_get hv, rv⟩
  one := fun i j a b c c' x h _ _ _ _ _ => by
    obtain ⟨t, ht, e⟩ := startE_get h
    cases e
section
variable {B : Bx} {k : Nat} {Ns ps : List Str} {b : N} {x qual : Str} {st : Stmt} {f : Addr} {fd : FuncData}
theorem def_ok (bo : BOk B) (F : L2.Fun B.K x qual st f fd) (S : FnScope Ns ps (defScope st)) (h : ckL b Ns (defScope st) (defBody st) = true) (ob : b.obl B k) :
    FnOk B.P B.w B.K B.mg B.base (L2.CX B.P B.w) (k + 1) f fd ps (spN B.Y ps.length (runDef Ns.length b)) := by
  refine F.okX S (fun vs H Q E h => h.len) fun cdv A outer s H vs Q E hr hsp => ?_
  obtain ⟨M, st1, ts, R, r, e, P⟩ := hsp
  let X₀ : Cx := cxOf (L2.CX B.P B.w) B.P B.w B.K B.mg B.base Ns qual (defScope st) f cdv A outer s H E
  have c : Sx B k (fun X => X = X₀) E (defScope st) Ns :=
    { is := fun X hX => by subst hX; exact ⟨rfl, rfl, rfl, rfl, rfl⟩
      nm := fun X hX => by subst hX; rfl
      nd := S.nd
      calm := fun X hX => by subst hX; rfl
      room := fun X hX => by subst hX; exact hr
      pass := fun X hX => by subst hX; exact passes_call (takes_of rfl rfl rfl rfl) fun _ _ _ _ h => h
      loc := fun X hX x h => by subst hX; exact h
      cel := fun X hX x h => by subst hX; exact ⟨h, rfl⟩
      fre := fun X hX x h => by subst hX; exact .inl h
      glo := fun X hX x h => by subst hX; exact h
      scE := fun X hX => by subst hX; rfl
      kind := S.kind
      po := fun X hX => by subst hX; exact passes_of rfl }
  obtain ⟨t, pt, rd⟩ := okL bo b c ob h
  refine ⟨t, pt X₀ rfl, rd M H M st1 H _ _ _ (Ext.refl _ _) R (envRel_start r) ?_⟩
  unfold runDef at P
  refine (PostO.bind.mp P).imp (Ext.refl _ _) fun q st2 P => ?_
  cases q with
  | nx env => exact fun σ' M' H' e1 _ R' _ => P _ M' H' e1 R' rfl
  | bk env => exact False.elim P
  | ct env => exact False.elim P
  | rt rv => exact fun v M' H' e1 R' rr => P v M' H' e1 R' rr
theorem def_call {n : Nat} {g : G} {j : Nat} (F : FnOk B.P B.w B.K B.mg B.base (L2.CX B.P B.w) j f fd ps (spN B.Y n g)) (hj : j ≤ k) (hm : B.mg x = some (.ref f)) (hk : PySem.W.keepIn B.K (.ref f) = true) (hb : Binds B.K fd ps []) (hdb : dbg x = true) : Callee B k x n g := by
  intro X E xi hr hp hg
  have F' := F.mono hj
  rw [← xi.P, ← xi.w, ← xi.K, ← xi.mg, ← xi.base] at F'
  rw [← xi.mg] at hm
  rw [← xi.K] at hk hb
  have hdb : (x == ("__debug__" : Str)) = false := by
    unfold dbg at hdb
    simpa using hdb
  exact callOk_def F' hr hg hm hk hb hp hdb
theorem def_meth {D m : Str} {n : Nat} {g : G} {j : Nat} (F : FnOk B.P B.w B.K B.mg B.base (L2.CX B.P B.w) j f fd ps (spN B.Y n g)) (hj : j ≤ k) (c : Cls B.K (B.cad D)) (hm : Meth B.K (B.cad D) m f) (hb : Binds B.K fd ps []) : MCallee B k m D n g := by
  intro X E xi hr hp
  have F' := F.mono hj
  rw [← xi.P, ← xi.w, ← xi.K, ← xi.mg, ← xi.base] at F'
  rw [← xi.K] at hb hm c
  refine ⟨_, k, f, fd, ps, c, hm, ?_, hr, hb, hp⟩
  rw [xi.K, xi.P, xi.w, xi.mg, xi.base] at F' ⊢
  exact F'
end
end NN

set_option Elab.async false
set_option linter.all false
set_option maxRecDepth 100000
set_option maxHeartbeats 4000000
namespace NN
open PySem PySem.Spec PyProof.Rows L2

structure MkO (K : PySem.W.Frag) (C : Addr) : Prop where
  makes : PySem.W.makesIn K C = true
  init : PySem.W.findIn K (.ref C) "__init__" = some (some (.builtin "object.__init__"))
  kp : PySem.W.keepIn K (.ref C) = true
section
variable {X : Cx} {C : Addr} {pins : List (Addr × Obj)} {σ : L2.St} {H : Hp} {s : Shared} {Q : VK}
theorem run_makeO (M : MkO X.K C) (I : L2.Inv X pins σ H s) (h : ∀ x dx, H x = none → H dx = none → dx ≠ x → Q (.ref x) (upd (upd H dx (.own x)) x (.ins C dx []))) :
    wpAny (model X.prog X.w) X.A (call (.ref C) []) (EP X pins σ Q) X.xe s := by
  have hq := h (s.heap.objs.size + 1) s.heap.objs.size (I.hok.fresh (Nat.le_succ _)) (I.hok.fresh (Nat.le_refl _)) (Nat.ne_of_lt (Nat.lt_succ_self _))
  have I2 := Inv.made (C := C) I
  refine wpAny_call (make_map0 I.kIn M.makes M.init (fun self => PySem.W.Looks.of_pure (PySem.W.oi_bind self)) ?_)
  have hx : ((s.heap.push PySem.W.emptyDict).push (PySem.W.instObj C s.heap.objs.size)).get? (s.heap.objs.size + 1) = some (PySem.W.instObj C s.heap.objs.size) := by
    have q := Heap.get?_push_size (s.heap.push PySem.W.emptyDict) (o := PySem.W.instObj C s.heap.objs.size) rfl
    rwa [Heap.size_push] at q
  have t1 : PySem.W.Looks (model X.prog X.w) ((s.heap.push PySem.W.emptyDict).push (PySem.W.instObj C s.heap.objs.size)) (isInstance (.ref (s.heap.objs.size + 1)) (.type "object")) true :=
    (NwA.type_at hx rfl).andThen (PySem.W.looks_mroIn I2.kIn (mro_obj M.makes))
  refine codeAny_call_builtin PySem.W.oi_plain PySem.W.entry_oi (PySem.W.check_slot PySem.W.oi_kind PySem.W.oi_split t1 (PySem.W.oi_args _) ?_)
  rw [PySem.W.oi_run]
  exact wpAny_pure ⟨rfl, .ref (s.heap.objs.size + 1), _, I2, rfl, hq⟩
end

def ckInit : N → List Str → List Str → Scope → List Stmt → Bool
  | .nil, fs, _, _, ss => match fs, ss with
    | [], [] => true
    | _, _ => false
  | .cons a r, fs, Ns, sc, ss => match fs, ss with
    | f :: fs, .Assign [.Attribute (.Name x _) g _] v _ :: ss => f == g && decide (Ns[0]? = some x) && visB sc x && dbg x && !(x == ("__classdict__" : Str)) && ckE a Ns sc v && ckInit r fs Ns sc ss
    | _, _ => false
  | _, _, _, _, _ => false
def MadeOk (Y : Gx) (D : Str) (fs : List Str) : Prop := Cls Y.K (Y.cad D) ∧ (∀ f ∈ fs, NoAttr Y.K (Y.cad D) f) ∧ fs.Nodup ∧ fs.length < 1000
def startI (n : Nat) (ts : List T) : Env := (none :: ts.map fun t => some (.val t)) ++ List.replicate (n - (ts.length + 1)) none
def gMake (D : Str) (fs : List Str) (n : Nat) (r : N) : G := fun ts st => (evs r (startI n ts) st).bind fun us st1 => .ok (.val (.ins D fs us)) st1
def spInit (Y : Gx) (D : Str) (fs : List Str) (n m : Nat) (r : N) : Sp := fun vs H Q E => ∃ (x dx : Addr) (ws : List V) (M : Mp) (H₀ : Hp) (st : Sto) (ts : List T), vs = .ref x :: ws ∧ H x = some (.ins (Y.cad D) dx []) ∧ M x = none ∧ H₀ x = none ∧ Ext M H₀ M H ∧
  Rel Y M st H ∧ RepVs Y M ws ts ∧ ts.length = m ∧ PostO Y E M H₀ (evs r (startI n ts) st) fun us st1 => ∀ M' H' vs', Ext M H₀ M' H' → Rel Y M' st1 H' → M' x = none → H' x = some (.ins (Y.cad D) dx (fs.zip vs')) → RepVs Y M' vs' us → fs.length = vs'.length → Q .non H'

theorem startI_get {n : Nat} {ts : List T} {i : Nat} {s : Slot} (h : (startI n ts)[i]? = some (some s)) : ∃ j t, i = j + 1 ∧ ts[j]? = some t ∧ s = .val t := by
  unfold startI at h
  cases i with
  | zero => cases h
  | succ j =>
    by_cases hj : j < ts.length
    · have h : ((ts.map fun t => some (Slot.val t)) ++ List.replicate (n - (ts.length + 1)) none)[j]? = some (some s) := h
      rw [List.getElem?_append_left (by simpa using hj), List.getElem?_map] at h
      cases q : ts[j]? with
      | none => rw [q] at h; cases h
      | some t => rw [q] at h; cases h; exact ⟨j, t, rfl, q, rfl⟩
    · have h : ((ts.map fun t => some (Slot.val t)) ++ List.replicate (n - (ts.length + 1)) none)[j]? = some (some s) := h
      rw [List.getElem?_append_right (by simpa using hj), List.getElem?_replicate] at h
      split at h <;> cases h
theorem envRel_I {Y : Gx} {M : Mp} {H H₀ : Hp} {Ns : List Str} {x : V} {ws : List V} {ts : List T} (r : RepVs Y M ws ts) : EnvRel Y H₀ M H (L2.start Ns (x :: ws)) (startI Ns.length ts) where
  len := by
    unfold L2.start startI
    simp only [List.length_append, List.length_map, List.length_replicate, List.length_cons, r.length]
  at' := fun i s h => by
    obtain ⟨j, t, rfl, ht, rfl⟩ := startI_get h
    obtain ⟨v, hv, rv⟩ := RepVs.get r ht
    exact ⟨v, start_get (vs := x :: ws) (i := j + 1) hv, rv⟩
  one := fun i j a b c c' x h _ _ _ _ _ => by
    obtain ⟨_, _, _, _, e⟩ := startI_get h
    cases e
section
variable {B : Bx} {k : Nat} {C : Cx → Prop} {E : XK} {sc : Scope} {Ns : List Str}
theorem putF_new {f : Str} {v : V} : ∀ {gs : List Str} {vs : List V}, gs.length = vs.length → f ∉ gs → putF f v (gs.zip vs) = (gs ++ [f]).zip (vs ++ [v])
  | [], [], _, _ => rfl
  | g :: gs, w :: vs, e, h => by
    have h1 : ¬ g = f := fun z => h (by simp [z])
    have ih := putF_new (f := f) (v := v) (gs := gs) (vs := vs) (by simpa using e) fun z => h (List.mem_cons_of_mem _ z)
    show (if g = f then (g, v) :: gs.zip vs else (g, w) :: putF f v (gs.zip vs)) = (g, w) :: (gs ++ [f]).zip (vs ++ [v])
    rw [if_neg h1, ih]
theorem init_stores (bo : BOk B) (c : Sx B k C E sc Ns) {D : Str} {fs : List Str} (mo : MadeOk B.Y D fs) : ∀ (r : N) (gs hs : List Str) (ss : List Stmt), gs ++ hs = fs → r.obl B k → ckInit r hs Ns sc ss = true →
    ∃ t : TS, (∀ X, C X → PSs X ss t) ∧ ∀ (M₀ : Mp) (H₀ H : Hp) (M : Mp) (st : Sto) (x dx : Addr) (ws vs : List V) (ts : List T) (D' : Ends), Ext M₀ H₀ M H → Rel B.Y M st H → M x = none → H₀ x = none → H x = some (.ins (B.Y.cad D) dx (gs.zip vs)) → gs.length = vs.length → RepVs B.Y M ws ts →
      PostO B.Y E M₀ H₀ (evs r (startI Ns.length ts) st) (fun us st1 => ∀ M' H' us', Ext M₀ H₀ M' H' → Rel B.Y M' st1 H' → M' x = none → H' x = some (.ins (B.Y.cad D) dx (fs.zip (vs ++ us'))) → RepVs B.Y M' us' us → (∀ z q, M z = some q → M' z = some q) → fs.length = (vs ++ us').length → D'.nx (L2.start Ns (.ref x :: ws)) H') → t D' (L2.start Ns (.ref x :: ws)) H := by
  intro r
  induction r with
  | nil =>
    intro gs hs ss e ob h
    unfold ckInit at h
    split at h
    · rw [List.append_nil] at e
      subst e
      refine ⟨_, fun X _ => pss_nil, fun M₀ H₀ H M st x dx ws vs ts D' e R m h0 hx hl r P => ?_⟩
      unfold evs at P
      have P : ∀ M' H' us', Ext M₀ H₀ M' H' → Rel B.Y M' st H' → M' x = none → H' x = some (.ins (B.Y.cad D) dx (gs.zip (vs ++ us'))) → RepVs B.Y M' us' [] → (∀ z q, M z = some q → M' z = some q) → gs.length = (vs ++ us').length → D'.nx (L2.start Ns (.ref x :: ws)) H' := P
      exact P M H [] e R m (by rw [List.append_nil]; exact hx) .nil (fun _ _ q => q) (by rw [List.append_nil]; exact hl)
    · cases h
  | cons a r iha ihr =>
    intro gs hs ss e ob h
    unfold ckInit at h
    split at h
    · rename_i f hs x0 px g pg v pos ss
      simp only [dbg, Bool.and_eq_true, decide_eq_true_eq, Bool.not_eq_true'] at h
      obtain ⟨⟨⟨⟨⟨⟨h1, h2⟩, h3⟩, h4⟩, h5⟩, h6⟩, h7⟩ := h
      cases (eq_of_beq h1)
      obtain ⟨tr', pr, hr⟩ := ihr (gs ++ [f]) hs ss (by rw [List.append_assoc]; exact e) ob.2 h7
      obtain ⟨ta, pa, ha⟩ := (okE bo a c.toKx ob.1 h6).nt
      have hsw : ∀ X : Cx, swapsWith v (some (.Attribute (.Name x0 px) f pg)) pos.line X.env = pure false := fun X => by
        cases v <;> rfl
      have hps : ∀ X, C X → PS X (.Assign [.Attribute (.Name x0 px) f pg] v pos) (sFld B.Y.K (tVar 0) ta f) := fun X hX => by
        have q := ps_fld (c.pv h2 h3 h4 h5 px X hX) (pa X hX) (hsw X)
        rw [c.hK X hX] at q
        exact q
      refine ⟨_, fun X hX => pss_cons (hps X hX) (pr X hX), fun M₀ H₀ H M st x dx ws vs ts D' e0 R m h0 hx hl rw' P => ?_⟩
      refine ha M st H H _ _ _ R (envRel_I rw') ?_
      unfold evs at P
      refine (PostO.bind.mp P).imp e0 fun t st1 P w M1 H1 e1 R1 r1 => ?_
      obtain ⟨f1, f2⟩ := e1.frame x m (by rw [hx]; simp)
      rw [hx] at f1
      have hf : f ∉ gs := fun z => by
        have nd := mo.2.2.1
        rw [← e] at nd
        exact (List.nodup_append.mp nd).2.2 f z f (by simp) rfl
      refine ⟨.ref x, start_get (vs := .ref x :: ws) (i := 0) rfl, x, B.Y.cad D, dx, gs.zip vs, rfl, f1, mo.1, mo.2.1 f (by rw [← e]; simp), ?_, ?_⟩
      · refine Nat.lt_of_le_of_lt (Nat.le_trans (by rw [List.length_zip]; exact Nat.min_le_left _ _) ?_) mo.2.2.2
        rw [← e, List.length_append]; exact Nat.le_add_right _ _
      · rw [putF_new hl hf]
        refine hr M₀ H₀ _ M1 st1 x dx ws (vs ++ [w]) ts D' ((e0.trans e1).poke h0 _) (R1.poke f2 _) f2 h0 upd_same (by simp [hl]) (RepVs.mono e1.keep rw') ?_
        refine (PostO.bind.mp P).imp (Ext.refl _ _) fun us st2 P M' H' us' e' R' m' hx' rus kk le => ?_
        have P : ∀ M' H' us', Ext M₀ H₀ M' H' → Rel B.Y M' st2 H' → M' x = none → H' x = some (.ins (B.Y.cad D) dx (fs.zip (vs ++ us'))) → RepVs B.Y M' us' (t :: us) → (∀ z q, M z = some q → M' z = some q) → fs.length = (vs ++ us').length → D'.nx (L2.start Ns (.ref x :: ws)) H' := P
        exact P M' H' (w :: us') e' R' m' (by rw [hx']; simp) (.cons (RepV.mono kk r1) rus) (fun z q y => kk z q (e1.keep z q y)) (by rw [le]; simp)
    · cases h
  | _ => intro gs hs ss e ob h; cases h
theorem spInit.len {Y : Gx} {D : Str} {fs : List Str} {n m : Nat} {r : N} {vs : List V} {H : Hp} {Q : VK} {E : XK} (h : spInit Y D fs n m r vs H Q E) : vs.length = m + 1 := by
  obtain ⟨x, dx, ws, M, H₀, st, ts, rfl, _, _, _, _, _, rr, e, _⟩ := h
  rw [List.length_cons, rr.length, e]
end
section
variable {B : Bx} {k : Nat} {Ns ps : List Str} {r : N} {x qual D : Str} {st : Stmt} {f : Addr} {fd : FuncData} {fs : List Str}
theorem init_ok (bo : BOk B) (mo : MadeOk B.Y D fs) (F : L2.Fun B.K x qual st f fd) (S : FnScope Ns ps (defScope st)) (hp : ps.length = m + 1) (h : ckInit r fs Ns (defScope st) (defBody st) = true) (ob : r.obl B k) :
    FnOk B.P B.w B.K B.mg B.base (L2.CX B.P B.w) (k + 1) f fd ps (spInit B.Y D fs Ns.length m r) := by
  refine F.okX S (fun vs H Q E h => by rw [hp]; exact h.len) fun cdv A outer s H vs Q E hr hsp => ?_
  obtain ⟨x, dx, ws, M, H₀, st1, ts, rfl, hx, m0, h0, e, R, rr, hl, P⟩ := hsp
  let X₀ : Cx := cxOf (L2.CX B.P B.w) B.P B.w B.K B.mg B.base Ns qual (defScope st) f cdv A outer s H E
  have c : Sx B k (fun X => X = X₀) E (defScope st) Ns :=
    { is := fun X hX => by subst hX; exact ⟨rfl, rfl, rfl, rfl, rfl⟩
      nm := fun X hX => by subst hX; rfl
      nd := S.nd
      calm := fun X hX => by subst hX; rfl
      room := fun X hX => by subst hX; exact hr
      pass := fun X hX => by subst hX; exact passes_call (takes_of rfl rfl rfl rfl) fun _ _ _ _ h => h
      loc := fun X hX x h => by subst hX; exact h
      cel := fun X hX x h => by subst hX; exact ⟨h, rfl⟩
      fre := fun X hX x h => by subst hX; exact .inl h
      glo := fun X hX x h => by subst hX; exact h
      scE := fun X hX => by subst hX; rfl
      kind := S.kind
      po := fun X hX => by subst hX; exact passes_of rfl }
  obtain ⟨t, pt, rd⟩ := init_stores bo c mo r [] fs (defBody st) rfl ob h
  refine ⟨t, pt X₀ rfl, rd M H₀ H M st1 x dx ws [] ts _ e R m0 h0 hx rfl rr ?_⟩
  refine P.imp (Ext.refl _ _) fun us st2 P M' H' us' e' R' m' hx' rus _ le => P M' H' us' e' R' m' hx' rus le
theorem made_post {Y : Gx} {E : XK} {n m : Nat} {vs : List V} {H : Hp} {Q : VK} (h : spN Y m (gMake D fs n r) vs H Q E) : ∀ x dx, H x = none → H dx = none → dx ≠ x →
    spInit Y D fs n m r (.ref x :: (vs ++ [])) (upd (upd H dx (.own x)) x (.ins (Y.cad D) dx [])) (fun v H2 => v = .non ∧ Q (.ref x) H2) E := by
  intro x dx hx hdx ne
  obtain ⟨M, st, ts, R, rr, hl, P⟩ := h
  rw [List.append_nil]
  obtain ⟨R1, E1⟩ := R.lay hdx (.own x)
  have hx1 : upd H dx (.own x) x = none := by rw [upd_ne (Ne.symm ne)]; exact hx
  obtain ⟨R2, E2⟩ := R1.lay hx1 (.ins (Y.cad D) dx [])
  have E12 := E1.trans E2
  refine ⟨x, dx, vs, M, H, st, ts, rfl, upd_same, R.nom hx, hx, E12, R2, rr, hl, ?_⟩
  unfold gMake at P
  refine (PostO.bind.mp P).imp (Ext.refl _ _) fun us st1 P M' H' vs' e' R' m' hx' rus le => ⟨rfl, ?_⟩
  have P : KE Y M H [] Q (.val (.ins D fs us)) st1 := P
  have hd : H' x ≠ none := by rw [hx']; simp
  refine P (.ref x) _ H' (e'.fz m' hx) (R'.freeze m' hd (t := .ins D fs us) ⟨dx, _, hx', List.map_fst_zip (Nat.le_of_eq le), ?_⟩) ⟨x, rfl, updM_same⟩
  rw [List.map_snd_zip (Nat.le_of_eq le.symm)]
  exact rus
theorem made_post0 {Y : Gx} {E : XK} {H : Hp} {Q : VK} (h : spN Y 0 (gMake D [] 1 .nil) [] H Q E) {x dx : Addr} (hx : H x = none) (hdx : H dx = none) (ne : dx ≠ x) : Q (.ref x) (upd (upd H dx (.own x)) x (.ins (Y.cad D) dx [])) := by
  obtain ⟨x', dx', ws, M, H₀, st, ts, e, hx', m0, h0, e0, R, rr, hl, P⟩ := made_post h x dx hx hdx ne
  cases e
  unfold evs at P
  exact ((show ∀ M' H' vs', Ext M H₀ M' H' → Rel Y M' st H' → M' x = none → H' x = some (.ins (Y.cad D) dx' ([].zip vs')) → RepVs Y M' vs' [] → [].length = vs'.length → V.non = V.non ∧ Q (.ref x) H' from P) M _ [] e0 R m0 hx' .nil rfl).2
theorem made_call {n m j : Nat} (F : FnOk B.P B.w B.K B.mg B.base (L2.CX B.P B.w) j f fd ps (spInit B.Y D fs n m r)) (hj : j + 1 ≤ k) (hm : B.mg D = some (.ref (B.cad D))) (M : Mk B.K (B.cad D) f) (hb : Binds B.K fd ps []) (hdb : dbg D = true) : Callee B k D m (gMake D fs n r) := by
  intro X E xi hr hp hg
  have hdb : (D == ("__debug__" : Str)) = false := by
    unfold dbg at hdb
    simpa using hdb
  have F' := F
  rw [← xi.P, ← xi.w, ← xi.K, ← xi.mg, ← xi.base] at F'
  rw [← xi.mg] at hm
  rw [← xi.K] at M hb
  have hr' : Room (j + 1) X.A := hr.mono hj
  refine ⟨fun e es ta p pos pa hs => ⟨fun pins s σ H Q I h => ?_⟩, fun p pos => ⟨fun pins s σ H Q I h => ?_⟩⟩
  · rw [List.all_cons, Bool.and_eq_true] at hs
    refine wpAny_Call_Name_kw (ld_glob I hg hm ?_ hdb)
    refine PySem.W.callWith_K (h₀ := X.base) I.ok.mod.kin M.kp (thn (pa.run pos pins s σ H _ I h) fun us s1 ⟨vs, H1, I1, rv, q⟩ => ⟨I1.kIn, ?_⟩) (starEach_cons hs.1) (stars_no hs.2)
    have q : spN B.Y m (gMake D fs n r) (vs ++ []) H1 Q E := q
    rw [List.append_nil] at q
    exact run_make M F' hr' hb .nil hp I1 rv (made_post q)
  · refine wpAny_Call_Name_kw (ld_glob I hg hm ?_ hdb)
    exact PySem.W.callWith_K0 I.kIn M.kp (run_make (us := []) (vs := []) M F' hr' hb .nil hp I .nil (made_post h))
theorem made_callO (M : MkO B.K (B.cad D)) (hm : B.mg D = some (.ref (B.cad D))) (hdb : dbg D = true) : Callee B k D 0 (gMake D [] 1 .nil) := by
  intro X E xi hr hp hg
  have hdb : (D == ("__debug__" : Str)) = false := by
    unfold dbg at hdb
    simpa using hdb
  rw [← xi.mg] at hm
  rw [← xi.K] at M
  refine ⟨fun e es ta p pos pa hs => ⟨fun pins s σ H Q I h => ?_⟩, fun p pos => ⟨fun pins s σ H Q I h => ?_⟩⟩
  · rw [List.all_cons, Bool.and_eq_true] at hs
    refine wpAny_Call_Name_kw (ld_glob I hg hm ?_ hdb)
    refine PySem.W.callWith_K (h₀ := X.base) I.ok.mod.kin M.kp (thn (pa.run pos pins s σ H _ I h) fun us s1 ⟨vs, H1, I1, rv, q⟩ => ⟨I1.kIn, ?_⟩) (starEach_cons hs.1) (stars_no hs.2)
    have q : spN B.Y 0 (gMake D [] 1 .nil) (vs ++ []) H1 Q E := q
    rw [List.append_nil] at q
    have := q.len
    cases vs with
    | cons _ _ => cases this
    | nil =>
      cases rv
      exact run_makeO M I1 fun x dx hx hdx ne => made_post0 q hx hdx ne
  · refine wpAny_Call_Name_kw (ld_glob I hg hm ?_ hdb)
    exact PySem.W.callWith_K0 I.kIn M.kp (run_makeO M I fun x dx hx hdx ne => made_post0 h hx hdx ne)
end
end NN

set_option Elab.async false
set_option linter.all false
set_option maxRecDepth 100000
set_option maxHeartbeats 4000000
namespace NN
open PySem PySem.Spec PyProof.Rows L2

inductive Need where
  | con (x : Str) (t : T) | fld (f : Str) (cs : List Str) | isc (D : Str) (cs subs : List Str) | call (x : Str) (n : Nat) (g : G) | om (m : Str) (n : Nat) (tb : List (Str × G))
def Need.ok (B : Bx) (k : Nat) : Need → Prop
  | .con x t => ConOk B x t
  | .fld f cs => FldOk B.Y f cs
  | .isc D cs subs => IsOk B D cs subs
  | .call x n g => Callee B k x n g
  | .om m n tb => ∀ D g, tb.lookup D = some g → MCallee B k m D n g
def N.needs : N → List Need
  | .nil => [] | .cons a r => a.needs ++ r.needs
  | .dnew => [] | .put _ a b => a.needs ++ b.needs
  | .var _ => [] | .lit _ => [] | .glb x t => [.con x t]
  | .bin _ a b => a.needs ++ b.needs | .neg a => a.needs
  | .cmp _ a b => a.needs ++ b.needs | .chain _ _ a b c => a.needs ++ (b.needs ++ c.needs)
  | .and a b => a.needs ++ b.needs | .or a b => a.needs ++ b.needs | .not a => a.needs | .ite c a b => c.needs ++ (a.needs ++ b.needs)
  | .tup r => r.needs | .lst r => r.needs
  | .ix a i => a.needs ++ i.needs | .sl a lo hi => a.needs ++ (lo.needs ++ hi.needs) | .slst a lo st => a.needs ++ (lo.needs ++ st.needs)
  | .attr a f cs => .fld f cs :: a.needs
  | .bi _ a => a.needs | .bi2 _ a b => a.needs ++ b.needs | .me _ a b => a.needs ++ b.needs
  | .isT a _ => a.needs | .isC a D cs subs => .isc D cs subs :: a.needs
  | .call x n g r => .call x n g :: r.needs
  | .om m n tb a r => .om m n tb :: (a.needs ++ r.needs)
  | .comp _ _ it c e => it.needs ++ (c.needs ++ e.needs)
  | .rng1 a => a.needs | .rng2 a b => a.needs ++ b.needs | .enm a => a.needs | .zp a b => a.needs ++ b.needs
  | .pass => [] | .seq a b => a.needs ++ b.needs | .asg _ e => e.needs | .set2 _ _ a b => a.needs ++ b.needs | .set3 _ _ _ a b c => a.needs ++ (b.needs ++ c.needs)
  | .drop e => e.needs | .ap _ e => e.needs | .xt _ e => e.needs
  | .iff c a b => c.needs ++ (a.needs ++ b.needs) | .for_ _ it b => it.needs ++ b.needs | .while_ c b => c.needs ++ b.needs
  | .ret e => e.needs | .retN => [] | .brk => [] | .cont => [] | .frz _ => [] | .nev => []
def AllN {α : Type} (P : α → Prop) : List α → Prop
  | [] => True
  | q :: l => P q ∧ AllN P l
theorem AllN.mem {α : Type} {P : α → Prop} : ∀ {l : List α}, AllN P l → ∀ q ∈ l, P q
  | [], _, q, h => by cases h
  | a :: l, h, q, hq => by
    rcases List.mem_cons.mp hq with rfl | hq
    · exact h.1
    · exact h.2.mem q hq
section
variable {B : Bx} {k : Nat}
theorem obl_of : ∀ n : N, (∀ q ∈ n.needs, q.ok B k) → n.obl B k := by
  intro n
  induction n with
  | glb x t => exact fun h => h (.con x t) (by simp [N.needs])
  | attr a f cs ih => exact fun h => ⟨h (.fld f cs) (by simp [N.needs]), ih fun q hq => h q (by simp [N.needs, hq])⟩
  | isC a D cs subs ih => exact fun h => ⟨h (.isc D cs subs) (by simp [N.needs]), ih fun q hq => h q (by simp [N.needs, hq])⟩
  | call x n g r ih => exact fun h => ⟨h (.call x n g) (by simp [N.needs]), ih fun q hq => h q (by simp [N.needs, hq])⟩
  | om m n tb a r iha ihr => exact fun h => ⟨h (.om m n tb) (by simp [N.needs]), iha fun q hq => h q (by simp [N.needs, hq]), ihr fun q hq => h q (by simp [N.needs, hq])⟩
  | _ =>
    intro h
    first
    | exact trivial
    | (rename_i i1; exact i1 fun q hq => h q (by simp [N.needs, hq]))
    | (rename_i i1 i2; exact ⟨i1 fun q hq => h q (by simp [N.needs, hq]), i2 fun q hq => h q (by simp [N.needs, hq])⟩)
    | (rename_i i1 i2 i3; exact ⟨i1 fun q hq => h q (by simp [N.needs, hq]), i2 fun q hq => h q (by simp [N.needs, hq]), i3 fun q hq => h q (by simp [N.needs, hq])⟩)
theorem obl_list {n : N} {l : List Need} (e : n.needs = l) (h : AllN (Need.ok B k) l) : n.obl B k := obl_of n fun q hq => h.mem q (e ▸ hq)
theorem om_of {m : Str} {n : Nat} {tb : List (Str × G)} (h : AllN (fun p : Str × G => MCallee B k m p.1 n p.2) tb) : ∀ D g, tb.lookup D = some g → MCallee B k m D n g := by
  intro D g
  induction tb with
  | nil => intro e; cases e
  | cons p tb ih =>
    intro e
    rw [List.lookup_cons] at e
    cases q : D == p.1 with
    | true =>
      rw [q] at e
      cases e
      cases (eq_of_beq q)
      exact h.1
    | false => rw [q] at e; exact ih h.2 e
theorem Callee.mono {j : Nat} {x : Str} {n : Nat} {g : G} (h : Callee B j x n g) (hj : j ≤ k) : Callee B k x n g := fun X E xi hr hp hg => h X E xi (hr.mono hj) hp hg
theorem MCallee.mono {j : Nat} {m D : Str} {n : Nat} {g : G} (h : MCallee B j m D n g) (hj : j ≤ k) : MCallee B k m D n g := fun X E xi hr hp => h X E xi (hr.mono hj) hp
end

theorem con_int {B : Bx} {x : Str} {i : Int} (h : ∃ t, B.mg x = some (.int i t)) : ConOk B x (.int i) := let ⟨t, e⟩ := h; ⟨.int i, _, e, ⟨t, rfl⟩, fun _ => rfl⟩
theorem con_str {B : Bx} {x z : Str} (h : ∃ t, B.mg x = some (.str z t)) : ConOk B x (.str z) := let ⟨t, e⟩ := h; ⟨.str z, _, e, ⟨t, rfl⟩, fun _ => rfl⟩
theorem reps_strs : ∀ zs : List Str, Paired RepS (zs.map V.str) (zs.map T.str)
  | [] => .nil
  | z :: zs => .cons (show V.str z = .str z from rfl) (reps_strs zs)
theorem con_tup {B : Bx} {x : Str} {a : Addr} {zs : List Str} (e : B.mg x = some (.ref a)) (h : ∀ H, SqT B.K H a (zs.map V.str)) : ConOk B x (.tup (zs.map T.str)) :=
  ⟨.ref a, _, e, rfl, fun M => ⟨a, rfl, .inr ⟨_, h _, reps_strs zs⟩⟩⟩
def mkoB (K : PySem.W.Frag) (x : Str) : Bool := PySem.W.makesIn K (He.ga K x) && (He.eqO (PySem.W.findIn K (.ref (He.ga K x)) "__init__") (some (some (.builtin "object.__init__"))) && PySem.W.keepIn K (.ref (He.ga K x)))
theorem mkoB_ok {K : PySem.W.Frag} {x : Str} (h : mkoB K x = true) : MkO K (He.ga K x) := by
  unfold mkoB at h
  simp only [Bool.and_eq_true] at h
  exact ⟨h.1, He.eqO_ok h.2.1, h.2.2⟩
def clsxB (K : PySem.W.Frag) (x : Str) : Bool := He.eqO (PySem.W.findIn K (.ref (He.ga K x)) "__class__") (some (some (.builtin "object.__class__"))) && (He.eqO (PySem.W.specialIn K (.builtin "object.__class__") "__get__") (some (some (.builtin "getset_descriptor.__get__"))) && (decide (PySem.W.takesIn K (.builtin "object.__class__") = some true) && decide (PySem.W.mroIn K (He.ga K x) (.type "object") = some true)))
theorem clsxB_ok {K : PySem.W.Frag} {x : Str} (c : Cls K (He.ga K x)) (h : clsxB K x = true) : ClsX K (He.ga K x) := by
  unfold clsxB at h
  simp only [Bool.and_eq_true, decide_eq_true_eq] at h
  exact ⟨c, He.eqO_ok h.1, He.eqO_ok h.2.1, h.2.2.1, h.2.2.2⟩
def subB (K : PySem.W.Frag) (z D : Str) (b : Bool) : Bool := decide (PySem.W.kitOne K (.ref (He.ga K z)) (.ref (He.ga K D)) = some b)
end NN

set_option Elab.async false
set_option linter.all false
set_option maxRecDepth 100000
set_option maxHeartbeats 4000000
namespace NN
open PySem PySem.Spec PyProof.Rows L2

def mkD (at_ : Str × Option Str) (x qual : Str) (st : Stmt) : He.DefD := ⟨at_, x, qual, defArgs st, defBody st, defScope st, [], []⟩
structure Facts (fa : List He.Fa) (fn : List He.DefD) (ex : PySem.W.Frag → Bool) (B : Bx) : Prop where
  says : ∃ h : Heap, B.K.In h ∧ h.Ns mainGlobals B.mg ∧ He.SaysD fa fn B.K
  more : ex B.K = true
  cad : B.cad = He.ga B.K
def bNames : List Str := ["len", "all", "any", "sum", "abs", "max", "min", "list", "sorted", "isinstance", "range", "enumerate", "zip", "set", "str", "int", "bool", "tuple"]
def Bd (x qual : Str) (st : Stmt) (ps : List Str) : Prop := ∀ (kV doc pm : Value) (an : Option Addr) (cdv ct : Value) (us : List Value), us.length = ps.length → bindArgs (PySem.W.fnOf x qual (defArgs st) (defBody st) (defScope st) .none kV doc pm an cdv ct) ⟨us, []⟩ = pure (ps.zip us)
section
variable {fa : List He.Fa} {fn : List He.DefD} {ex : PySem.W.Frag → Bool} {B : Bx} {k : Nat}
theorem Facts.fact (F : Facts fa fn ex B) (i : Nat) {f : He.Fa} (h : fa[i]? = some f) : f.ok B.K = true := let ⟨_, _, _, c⟩ := F.says; c.fact i h
theorem Facts.glo (F : Facts fa fn ex B) (i : Nat) {x : Str} (h : fa[i]? = some (.glo x)) : B.mg x = some (.ref (He.ga B.K x)) := let ⟨_, kin, ns, _⟩ := F.says; He.glo_ok kin ns (F.fact i h)
theorem Facts.gloC (F : Facts fa fn ex B) (i : Nat) {x : Str} (h : fa[i]? = some (.glo x)) : B.mg x = some (.ref (B.cad x)) := by rw [F.cad]; exact F.glo i h
theorem Facts.bok (F : Facts fa fn ex B) {r : List He.Fa} (h : fa = bNames.map He.Fa.free ++ r) : BOk B := fun x hx => by
  obtain ⟨_, kin, ns, c⟩ := F.says
  refine He.free_ok kin ns (He.SaysD.facts c ?_)
  rw [h]
  exact List.mem_append_left _ (List.mem_map.mpr ⟨x, hx, rfl⟩)
theorem Facts.int (F : Facts fa fn ex B) (i : Nat) {x : Str} {n : Int} (h : fa[i]? = some (.int x n)) : ConOk B x (.int n) := let ⟨_, kin, ns, _⟩ := F.says; con_int (He.int_ok kin ns (F.fact i h))
theorem Facts.str (F : Facts fa fn ex B) (i : Nat) {x z : Str} (h : fa[i]? = some (.str x z)) : ConOk B x (.str z) := let ⟨_, kin, ns, _⟩ := F.says; con_str (He.str_ok kin ns (F.fact i h))
theorem Facts.tup (F : Facts fa fn ex B) (i : Nat) {x : Str} {zs : List Str} (h : fa[i]? = some (.glo x)) (e : He.tupB B.K x (zs.map He.Dv.str) = true) : ConOk B x (.tup (zs.map T.str)) :=
  con_tup (F.glo i h) fun H => by
    have q := He.tupB_ok e H
    rw [List.map_map] at q
    exact q
theorem Facts.cls (F : Facts fa fn ex B) (i : Nat) {x : Str} (h : fa[i]? = some (.cls x)) : Cls B.K (B.cad x) := by rw [F.cad]; exact He.cls_ok (F.fact i h)
theorem Facts.noat (F : Facts fa fn ex B) (i : Nat) {x f : Str} (h : fa[i]? = some (.noat x f)) : NoAttr B.K (B.cad x) f := by rw [F.cad]; exact He.noat_ok (F.fact i h)
theorem Facts.fn_ (F : Facts fa fn ex B) (i : Nat) {at_ : Str × Option Str} {x q : Str} {st : Stmt} (h : fn[i]? = some (mkD at_ x q st)) : ∃ fd, L2.Fun B.K x q st (He.fAd B.K at_) fd := by
  obtain ⟨_, _, _, c⟩ := F.says
  obtain ⟨fd, G⟩ := c.def_ i h
  exact ⟨fd, He5.fun_of G⟩
theorem Facts.fnOk (F : Facts fa fn ex B) (bo : BOk B) (i : Nat) {at_ : Str × Option Str} {x q : Str} {st : Stmt} {ns ps : List Str} {n : N} (h : fn[i]? = some (mkD at_ x q st)) (sc : C8.scC ns ps (defScope st) = true) (ck : ckL n ns (defScope st) (defBody st) = true) (ob : n.obl B k) (bd : Bd x q st ps) :
    ∃ fd, L2.Fun B.K x q st (He.fAd B.K at_) fd ∧ Binds B.K fd ps [] ∧ FnOk B.P B.w B.K B.mg B.base (L2.CX B.P B.w) (k + 1) (He.fAd B.K at_) fd ps (spN B.Y ps.length (runDef ns.length n)) := by
  obtain ⟨fd, G⟩ := F.fn_ i h
  exact ⟨fd, G, G.binds bd, def_ok bo G (C8.fnScope_by sc) ck ob⟩
theorem Facts.callee (F : Facts fa fn ex B) (bo : BOk B) (i j : Nat) {x : Str} {st : Stmt} {ns ps : List Str} {n : N} (h : fn[i]? = some (mkD (x, none) x x st)) (hj : fa[j]? = some (.glo x)) (sc : C8.scC ns ps (defScope st) = true) (ck : ckL n ns (defScope st) (defBody st) = true) (ob : n.obl B k) (bd : Bd x x st ps)
    (hd : dbg x = true) : Callee B (k + 1) x ps.length (runDef ns.length n) := by
  obtain ⟨fd, G, b, ok⟩ := F.fnOk bo i h sc ck ob bd
  exact def_call ok (Nat.le_refl _) (F.glo j hj) G.kp b hd
theorem Facts.meth (F : Facts fa fn ex B) (bo : BOk B) (i jc jm : Nat) {D m q : Str} {st : Stmt} {ns ps : List Str} {n : N} (h : fn[i]? = some (mkD (D, some m) m q st)) (hc : fa[jc]? = some (.cls D)) (hm : fa[jm]? = some (.meth D m)) (sc : C8.scC ns ps (defScope st) = true) (ck : ckL n ns (defScope st) (defBody st) = true)
    (ob : n.obl B k) (bd : Bd m q st ps) : MCallee B (k + 1) m D ps.length (runDef ns.length n) := by
  obtain ⟨fd, G, b, ok⟩ := F.fnOk bo i h sc ck ob bd
  refine def_meth ok (Nat.le_refl _) (F.cls jc hc) ?_ b
  rw [F.cad]
  exact He.meth_ok (F.fact jm hm)
theorem Facts.made (F : Facts fa fn ex B) (bo : BOk B) (i jg jc jm : Nat) {D q : Str} {st : Stmt} {ns ps fs : List Str} {r : N} {m : Nat} (h : fn[i]? = some (mkD (D, some "__init__") "__init__" q st)) (hg : fa[jg]? = some (.glo D)) (hc : fa[jc]? = some (.cls D)) (hm : fa[jm]? = some (.mkr D)) (sc : C8.scC ns ps (defScope st) = true)
    (ck : ckInit r fs ns (defScope st) (defBody st) = true) (ob : r.obl B k) (bd : Bd "__init__" q st ps) (hp : ps.length = m + 1) (na : ∀ f ∈ fs, NoAttr B.K (B.cad D) f) (nd : fs.Nodup) (hl : fs.length < 1000) (hd : dbg D = true) : Callee B (k + 2) D m (gMake D fs ns.length r) := by
  obtain ⟨fd, G⟩ := F.fn_ i h
  have b := G.binds bd
  have ok := init_ok (D := D) bo ⟨F.cls jc hc, na, nd, hl⟩ G (C8.fnScope_by sc) hp ck ob
  refine made_call ok (Nat.le_refl _) (F.gloC jg hg) ?_ b hd
  rw [F.cad]
  exact He.mkr_ok (F.fact jm hm)
theorem Facts.madeO (F : Facts fa fn ex B) (jg : Nat) {D : Str} (hg : fa[jg]? = some (.glo D)) (h : mkoB B.K D = true) (hd : dbg D = true) : Callee B k D 0 (gMake D [] 1 .nil) :=
  made_callO (by rw [F.cad]; exact mkoB_ok h) (F.gloC jg hg) hd
end

theorem fld_of {Y : Gx} {f : Str} {cs : List Str} (h : AllN (fun D => Cls Y.K (Y.cad D) ∧ NoAttr Y.K (Y.cad D) f) cs) : FldOk Y f cs := fun D hD => h.mem D (by simpa using hD)
theorem all_of {α : Type} {P : α → Prop} {l : List α} (h : AllN P l) : ∀ q ∈ l, P q := fun q hq => h.mem q hq
theorem is_of {B : Bx} {D : Str} {cs subs : List Str} (g : B.mg D = some (.ref (B.cad D))) (h : AllN (fun z => ClsX B.K (B.cad z) ∧ PySem.W.kitOne B.K (.ref (B.cad z)) (.ref (B.cad D)) = some (subs.contains z)) cs) : IsOk B D cs subs := ⟨g, fun z hz => h.mem z (by simpa using hz)⟩
theorem is1 {fa : List He.Fa} {fn : List He.DefD} {ex : PySem.W.Frag → Bool} {B : Bx} (F : Facts fa fn ex B) (i : Nat) {z D : Str} {b : Bool} (h : fa[i]? = some (.cls z)) (h2 : clsxB B.K z = true) (h3 : subB B.K z D b = true) : ClsX B.K (B.cad z) ∧ PySem.W.kitOne B.K (.ref (B.cad z)) (.ref (B.cad D)) = some b := by
  have c := F.cls i h
  rw [F.cad] at c ⊢
  exact ⟨clsxB_ok c h2, of_decide_eq_true h3⟩
theorem bind_law {K : PySem.W.Frag} {x q p : Str} {st : Stmt} {f : Addr} {fd : FuncData} (G : L2.Fun K x q st f fd) (h : ∀ (kV doc pm : Value) (an : Option Addr) (cdv ct : Value) (u : Value), bindArgs (PySem.W.fnOf x q (defArgs st) (defBody st) (defScope st) .none kV doc pm an cdv ct) ⟨[u], []⟩ = pure [(p, u)]) : ∀ (s : Shared) (v : Value), BindsTo s fd ⟨[v], []⟩ [(p, v)] := by
  obtain ⟨oc, od, kV, doc, pm, an, cdv, ct, osl, rfl, lk, hcd⟩ := G.ex
  exact fun s v => BindsTo.of_eq (h kV doc pm an cdv ct v)
theorem fun_one {K : PySem.W.Frag} {x q x' q' : Str} {st st' : Stmt} {f : Addr} {fd fd' : FuncData} (G : L2.Fun K x q st f fd) (G' : L2.Fun K x' q' st' f fd') : fd = fd' := by
  obtain ⟨oc, od, kV, doc, pm, an, cdv, ct, osl, _, lk, _⟩ := G.ex
  obtain ⟨oc', od', kV', doc', pm', an', cdv', ct', osl', _, lk', _⟩ := G'.ex
  rw [lk] at lk'
  cases lk'
  rfl
def CXe : CXT := fun outer H s E u s' => ∃ P w, L2.CX P w outer H s E u s'
theorem FnOk.cx {P : Program} {w : World} {K : PySem.W.Frag} {mg : Str → Option Value} {base : Heap} {CX CX' : CXT} {k : Nat} {f : Addr} {fd : FuncData} {ps : List Str} {sp : Sp} (F : L2.FnOk P w K mg base CX k f fd ps sp) (h : ∀ outer H s E u s', CX outer H s E u s' → CX' outer H s E u s') :
    L2.FnOk P w K mg base CX' k f fd ps sp := ⟨F.len, fun A outer s H args us vs Q E hr e0 hb r hq => codeAny_mono (F.run A outer s H args us vs Q E hr e0 hb r hq) fun q s' z => by
    cases q with
    | error e => exact h _ _ _ _ _ _ z
    | ok fl => cases fl <;> exact z⟩
theorem cxe_no (H : Hp) (s : Shared) (e : Value) (s' : Shared) : CXe [] H s (fun _ _ _ => False) e s' → False := fun ⟨_, _, h⟩ => by
  obtain ⟨_, _, _, _, _, _, _, _, _, _, _, _, z⟩ := h
  exact z
theorem reps_ints {Y : Gx} {M : Mp} : ∀ ns : List Int, RepVs Y M (ns.map V.int) (ns.map T.int)
  | [] => .nil
  | n :: ns => .cons (show V.int n = .int n from rfl) (reps_ints ns)
theorem repS_ints : ∀ ns : List Int, Paired RepS (ns.map V.int) (ns.map T.int)
  | [] => .nil
  | n :: ns => .cons (show V.int n = .int n from rfl) (repS_ints ns)
theorem sp_law {Y : Gx} {g : G} {H : Hp} {a : Addr} {ns : List Int} (hS : SqL Y.K H a (ns.map V.int)) (h : g [.lst (ns.map T.int)] [] = .ok (.val (.bl true)) []) : spN Y 1 g [.ref a] H (fun v _ => v = .bl true) fun _ _ _ => False := by
  have fin : ∀ M, Rel Y M [] H → RepVs Y M [.ref a] [.lst (ns.map T.int)] → spN Y 1 g [.ref a] H (fun v _ => v = .bl true) fun _ _ _ => False := fun M R r =>
    ⟨M, [], _, R, r, rfl, by rw [h]; exact fun v M' H' e R' q => q⟩
  have none0 : Rel Y (fun _ => none) [] H := { dom := fun a z => absurd rfl z, fz := fun a t z => (nomatch z), obj := fun a i z => (nomatch z), objU := fun a b i z => (nomatch z), fld := fun a i f z => (nomatch z), fldU := fun a b i f z => (nomatch z) }
  rcases hS with hS | hS
  · have ho : H a ≠ none := by
      rcases hS with e | ⟨o, e⟩ <;> rw [e] <;> simp
    refine fin _ (none0.freeze (a := a) (t := .lst (ns.map T.int)) rfl ho ⟨_, hS, reps_ints ns⟩) (.cons ⟨a, rfl, .inl updM_same⟩ .nil)
  · exact fin _ none0 (.cons ⟨a, rfl, .inr ⟨_, .inr hS, repS_ints ns⟩⟩ .nil)
end NN

set_option Elab.async false
set_option linter.all false
set_option maxRecDepth 100000
set_option maxHeartbeats 4000000
namespace NN
open PySem PySem.Spec PyProof.Rows L2
def top (i : Nat) : Stmt := PySem.Challenge.pw_nameleave_k08_books_by_hand.main.body.getD i (.Pass ⟨0, 0, 0, 0⟩)
def ns__law_word : List Str := ["_law_word_here", "_law_shift", "_law_signs", "_law_sign"]
def n__law_word : N := .seq (.asg (.nm 2) (.lit (.str "abcdefghijklmnopqrstuvwxyz"))) (.seq (.ret (.me .join (.lit (.str "")) (.comp (.nm 3) [3] (.cons (.var 0) .nil) (.nil) (.ix (.var 2) (.bin .mod (.bin .add (.me .index (.var 2) (.var 3)) (.var 1)) (.lit (.int 26))))))) .nil)
def g__law_word : G := runDef 4 n__law_word
theorem ck__law_word : ckL n__law_word ns__law_word (defScope (top 42)) (defBody (top 42)) = true := by decide +kernel
theorem sc__law_word : C8.scC ns__law_word ["_law_word_here", "_law_shift"] (defScope (top 42)) = true := by decide +kernel
def ns__law_words : List Str := ["_law_script", "_law_shift", "_law_found", "_law_row", "_law_word_here"]
def n__law_words : N := .seq (.set2 1 2 (.bin .mod (.bin .fdiv (.bi .sum (.sl (.var 0) (.nil) (.cons (.lit (.int 63)) .nil))) (.lit (.int 3))) (.lit (.int 26))) (.lst (.nil))) (.seq (.for_ (.nm 3) (.cons (.lst (.cons (.lit (.str "app base core data edge form grid hall")) (.cons (.lit (.str "ui db io zz")) .nil))) .nil) (.seq (.frz 1) (.seq (.ap 2 (.comp (.nm 4) [4] (.cons (.me .split (.var 3) (.lit (.str " "))) .nil) (.nil) (.call "_law_word" 2 g__law_word (.cons (.var 4) (.cons (.var 1) .nil))))) .nil))) (.seq (.ret (.var 2)) .nil))
def g__law_words : G := runDef 5 n__law_words
theorem ck__law_words : ckL n__law_words ns__law_words (defScope (top 43)) (defBody (top 43)) = true := by decide +kernel
theorem sc__law_words : C8.scC ns__law_words ["_law_script"] (defScope (top 43)) = true := by decide +kernel
def ns__law_number : List Str := ["_law_cell", "_law_at", "_law_whole", "_law_low", "_law_high", "_law_mixed"]
def n__law_number : N := .seq (.set2 3 4 (.bin .mod (.var 0) (.lit (.int 1000003))) (.bin .mod (.bin .fdiv (.var 0) (.lit (.int 1000003))) (.lit (.int 999983)))) (.seq (.asg (.nm 5) (.bin .mod (.bin .add (.bin .add (.bin .mul (.bin .add (.var 3) (.bin .mul (.lit (.int 977)) (.var 1))) (.lit (.int 48271))) (.bin .mul (.lit (.int 31)) (.var 4))) (.bin .mod (.var 2) (.lit (.int 65521)))) (.lit (.int 2147483647)))) (.seq (.ret (.bin .add (.bin .mul (.bin .mod (.bin .mul (.var 5) (.bin .add (.bin .add (.var 5) (.bin .mul (.lit (.int 31)) (.var 1))) (.lit (.int 7)))) (.lit (.int 2147483629))) (.lit (.int 65537))) (.var 4))) .nil))
def g__law_number : G := runDef 6 n__law_number
theorem ck__law_number : ckL n__law_number ns__law_number (defScope (top 41)) (defBody (top 41)) = true := by decide +kernel
theorem sc__law_number : C8.scC ns__law_number ["_law_cell", "_law_at", "_law_whole"] (defScope (top 41)) = true := by decide +kernel
def ns__law_end : List Str := ["_law_number_here", "_law_folders"]
def n__law_end : N := .seq (.ret (.ix (.tup (.cons (.lit .non) (.cons (.lit .non) (.cons (.lit (.str "door")) (.cons (.lit (.str "inner")) (.cons (.ix (.var 1) (.bin .mod (.bin .fdiv (.var 0) (.lit (.int 7))) (.lit (.int 3)))) (.cons (.ix (.var 1) (.bin .mod (.bin .fdiv (.var 0) (.lit (.int 7))) (.lit (.int 4)))) (.cons (.lit .non) .nil)))))))) (.bin .mod (.var 0) (.lit (.int 7))))) .nil
def g__law_end : G := runDef 2 n__law_end
theorem ck__law_end : ckL n__law_end ns__law_end (defScope (top 44)) (defBody (top 44)) = true := by decide +kernel
theorem sc__law_end : C8.scC ns__law_end ["_law_number_here", "_law_folders"] (defScope (top 44)) = true := by decide +kernel
def ns__law_rule : List Str := ["_law_number_here", "_law_folders", "_law_step", "_law_near", "_law_gap", "_law_word_here"]
def n__law_rule : N := .seq (.asg (.nm 2) (.ix (.tup (.cons (.lit .non) (.cons (.lit .non) (.cons (.lit (.str "up")) (.cons (.lit (.str "down")) (.cons (.lit (.str "level")) .nil)))))) (.bin .mod (.bin .fdiv (.var 0) (.lit (.int 49))) (.lit (.int 5))))) (.seq (.asg (.nm 3) (.ix (.tup (.cons (.lit .non) (.cons (.lit .non) (.cons (.lit (.str "same")) (.cons (.lit (.str "other")) .nil))))) (.bin .mod (.bin .fdiv (.var 0) (.lit (.int 245))) (.lit (.int 4))))) (.seq (.asg (.nm 4) (.ix (.tup (.cons (.lit .non) (.cons (.lit .non) (.cons (.lit .non) (.cons (.lit (.int 1)) (.cons (.lit (.int 2)) (.cons (.lit (.int 3)) (.cons (.lit (.int 0)) .nil)))))))) (.bin .mod (.bin .fdiv (.var 0) (.lit (.int 980))) (.lit (.int 7))))) (.seq (.asg (.nm 5) (.ix (.tup (.cons (.lit (.str "bar")) (.cons (.lit (.str "bar")) (.cons (.lit (.str "let")) .nil)))) (.bin .mod (.bin .fdiv (.var 0) (.lit (.int 6860))) (.lit (.int 3))))) (.seq (.frz 2) (.seq (.frz 3) (.seq (.frz 4) (.seq (.frz 5) (.seq (.ret (.tup (.cons (.call "_law_end" 2 g__law_end (.cons (.bin .fdiv (.var 0) (.lit (.int 20580))) (.cons (.var 1) .nil))) (.cons (.call "_law_end" 2 g__law_end (.cons (.bin .fdiv (.bin .fdiv (.var 0) (.lit (.int 20580))) (.lit (.int 28))) (.cons (.var 1) .nil))) (.cons (.var 2) (.cons (.var 3) (.cons (.var 4) (.cons (.var 5) .nil)))))))) .nil))))))))
def g__law_rule : G := runDef 6 n__law_rule
theorem ck__law_rule : ckL n__law_rule ns__law_rule (defScope (top 45)) (defBody (top 45)) = true := by decide +kernel
theorem sc__law_rule : C8.scC ns__law_rule ["_law_number_here", "_law_folders"] (defScope (top 45)) = true := by decide +kernel
def ns__law_book : List Str := ["_law_script", "_law_by", "_law_cells", "_law_whole", "_law_folders", "_law_found", "_law_at"]
def n__law_book : N := .seq (.asg (.nm 2) (.ite (.cmp .ne (.var 0) (.lst (.nil))) (.sl (.var 0) (.nil) (.cons (.lit (.int 63)) .nil)) (.lst (.cons (.lit (.int 5)) .nil)))) (.seq (.set3 3 4 5 (.bin .add (.bi .sum (.var 2)) (.bin .mul (.lit (.int 101)) (.var 1))) (.ix (.call "_law_words" 1 g__law_words (.cons (.var 0) .nil)) (.lit (.int 1))) (.lst (.nil))) (.seq (.frz 3) (.seq (.for_ (.nm 6) (.rng1 (.bin .mod (.bin .fdiv (.call "_law_number" 3 g__law_number (.cons (.var 3) (.cons (.var 1) (.cons (.lit (.int 3)) .nil)))) (.lit (.int 5))) (.lit (.int 7)))) (.seq (.frz 3) (.seq (.frz 4) (.seq (.ap 5 (.call "_law_rule" 2 g__law_rule (.cons (.call "_law_number" 3 g__law_number (.cons (.bin .add (.ix (.var 2) (.bin .mod (.bin .add (.var 6) (.var 1)) (.bi .len (.var 2)))) (.var 6)) (.cons (.bin .add (.var 6) (.bin .mul (.lit (.int 9)) (.var 1))) (.cons (.var 3) .nil)))) (.cons (.var 4) .nil)))) .nil)))) (.seq (.ret (.var 5)) .nil))))
def g__law_book : G := runDef 7 n__law_book
theorem ck__law_book : ckL n__law_book ns__law_book (defScope (top 46)) (defBody (top 46)) = true := by decide +kernel
theorem sc__law_book : C8.scC ns__law_book ["_law_script", "_law_by"] (defScope (top 46)) = true := by decide +kernel
def ns__law_sites : List Str := ["_law_books", "_law_folders", "_law_book_here", "_law_found", "_law_layer", "_law_rule_here", "_law_folder", "_law_part"]
def n__law_sites : N := .seq (.asg (.nm 1) (.lst (.nil))) (.seq (.for_ (.nm 2) (.cons (.var 0) .nil) (.seq (.for_ (.nm 5) (.cons (.var 2) .nil) (.seq (.asg (.nm 1) (.bin .add (.var 1) (.comp (.nm 7) [7] (.cons (.sl (.var 5) (.nil) (.cons (.lit (.int 2)) .nil)) .nil) (.cons (.cmp .nmem (.var 7) (.tup (.cons (.lit .non) (.cons (.lit (.str "door")) (.cons (.lit (.str "inner")) .nil))))) .nil) (.var 7)))) .nil)) .nil)) (.seq (.asg (.nm 3) (.lst (.nil))) (.seq (.for_ (.nm 4) (.rng1 (.lit (.int 4))) (.seq (.for_ (.nm 6) (.cons (.bin .add (.bi .ssorted (.var 1)) (.lst (.cons (.lit (.str "nowhere")) (.cons (.lit (.str "elsewhr")) .nil)))) .nil) (.seq (.asg (.nm 3) (.bin .add (.var 3) (.lst (.cons (.tup (.cons (.var 4) (.cons (.var 6) (.cons (.lit (.str "door")) .nil)))) (.cons (.tup (.cons (.var 4) (.cons (.var 6) (.cons (.lit (.str "inner")) .nil)))) .nil))))) .nil)) .nil)) (.seq (.ret (.var 3)) .nil))))
def g__law_sites : G := runDef 8 n__law_sites
theorem ck__law_sites : ckL n__law_sites ns__law_sites (defScope (top 52)) (defBody (top 52)) = true := by decide +kernel
theorem sc__law_sites : C8.scC ns__law_sites ["_law_books"] (defScope (top 52)) = true := by decide +kernel
def ns__law_some : List Str := ["_law_book_here", "_law_number_here", "_law_every", "_law_found", "_law_at"]
def n__law_some : N := .seq (.set2 2 3 (.call "_law_sites" 1 g__law_sites (.cons (.lst (.cons (.var 0) .nil)) .nil)) (.lst (.nil))) (.seq (.for_ (.nm 4) (.rng1 (.lit (.int 9))) (.seq (.ap 3 (.ix (.var 2) (.bin .mod (.call "_law_number" 3 g__law_number (.cons (.var 1) (.cons (.var 4) (.cons (.lit (.int 7)) .nil)))) (.bi .len (.var 2))))) .nil)) (.seq (.ret (.var 3)) .nil))
def g__law_some : G := runDef 5 n__law_some
theorem ck__law_some : ckL n__law_some ns__law_some (defScope (top 53)) (defBody (top 53)) = true := by decide +kernel
theorem sc__law_some : C8.scC ns__law_some ["_law_book_here", "_law_number_here"] (defScope (top 53)) = true := by decide +kernel
def ns__law_meets : List Str := ["_law_rule_here", "_law_one", "_law_other", "_law_ends", "_law_told", "_law_site", "_law_step"]
def n__law_meets : N := .seq (.asg (.nm 3) (.lst (.cons (.tup (.cons (.ix (.var 0) (.lit (.int 0))) (.cons (.var 1) .nil))) (.cons (.tup (.cons (.ix (.var 0) (.lit (.int 1))) (.cons (.var 2) .nil))) .nil)))) (.seq (.frz 3) (.seq (.for_ (.tp [4, 5]) (.cons (.var 3) .nil) (.seq (.iff (.and (.cmp .isn (.var 4) (.lit .non)) (.cmp .ne (.var 4) (.ix (.var 5) (.ite (.cmp .mem (.var 4) (.tup (.cons (.lit (.str "door")) (.cons (.lit (.str "inner")) .nil)))) (.lit (.int 2)) (.lit (.int 1)))))) (.seq (.ret (.lit (.bl false))) .nil) (.nil)) .nil)) (.seq (.asg (.nm 6) (.ite (.cmp .eq (.ix (.var 1) (.lit (.int 0))) (.ix (.var 2) (.lit (.int 0)))) (.lit (.str "level")) (.ite (.cmp .lt (.ix (.var 1) (.lit (.int 0))) (.ix (.var 2) (.lit (.int 0)))) (.lit (.str "up")) (.lit (.str "down"))))) (.seq (.iff (.and (.cmp .isn (.ix (.var 0) (.lit (.int 2))) (.lit .non)) (.cmp .ne (.ix (.var 0) (.lit (.int 2))) (.var 6))) (.seq (.ret (.lit (.bl false))) .nil) (.nil)) (.seq (.iff (.and (.cmp .isn (.ix (.var 0) (.lit (.int 3))) (.lit .non)) (.cmp .ne (.ix (.var 0) (.lit (.int 3))) (.ite (.cmp .eq (.ix (.var 1) (.lit (.int 1))) (.ix (.var 2) (.lit (.int 1)))) (.lit (.str "same")) (.lit (.str "other"))))) (.seq (.ret (.lit (.bl false))) .nil) (.nil)) (.seq (.ret (.or (.cmp .is (.ix (.var 0) (.lit (.int 4))) (.lit .non)) (.cmp .ge (.bin .sub (.bi2 .max (.ix (.var 1) (.lit (.int 0))) (.ix (.var 2) (.lit (.int 0)))) (.bi2 .min (.ix (.var 1) (.lit (.int 0))) (.ix (.var 2) (.lit (.int 0))))) (.ix (.var 0) (.lit (.int 4)))))) .nil))))))
def g__law_meets : G := runDef 7 n__law_meets
theorem ck__law_meets : ckL n__law_meets ns__law_meets (defScope (top 47)) (defBody (top 47)) = true := by decide +kernel
theorem sc__law_meets : C8.scC ns__law_meets ["_law_rule_here", "_law_one", "_law_other"] (defScope (top 47)) = true := by decide +kernel
def ns__law_first : List Str := ["_law_book_here", "_law_one", "_law_other", "_law_met", "_law_at", "_law_rule_here"]
def n__law_first : N := .seq (.asg (.nm 3) (.comp (.tp [4, 5]) [4, 5] (.enm (.var 0)) (.cons (.call "_law_meets" 3 g__law_meets (.cons (.var 5) (.cons (.var 1) (.cons (.var 2) .nil)))) .nil) (.var 4))) (.seq (.ret (.ite (.cmp .ne (.var 3) (.lst (.nil))) (.ix (.var 3) (.lit (.int 0))) (.lit .non))) .nil)
def g__law_first : G := runDef 6 n__law_first
theorem ck__law_first : ckL n__law_first ns__law_first (defScope (top 48)) (defBody (top 48)) = true := by decide +kernel
theorem sc__law_first : C8.scC ns__law_first ["_law_book_here", "_law_one", "_law_other"] (defScope (top 48)) = true := by decide +kernel
def ns__law_lets : List Str := ["_law_book_here", "_law_one", "_law_other", "_law_at"]
def n__law_lets : N := .seq (.asg (.nm 3) (.call "_law_first" 3 g__law_first (.cons (.var 0) (.cons (.var 1) (.cons (.var 2) .nil))))) (.seq (.ret (.or (.cmp .is (.var 3) (.lit .non)) (.cmp .eq (.ix (.ix (.var 0) (.var 3)) (.lit (.int 5))) (.lit (.str "let"))))) .nil)
def g__law_lets : G := runDef 4 n__law_lets
theorem ck__law_lets : ckL n__law_lets ns__law_lets (defScope (top 49)) (defBody (top 49)) = true := by decide +kernel
theorem sc__law_lets : C8.scC ns__law_lets ["_law_book_here", "_law_one", "_law_other"] (defScope (top 49)) = true := by decide +kernel
def ns__law_parted : List Str := ["_law_first_here", "_law_second", "_law_sites_here", "_law_one", "_law_other"]
def n__law_parted : N := .seq (.asg (.nm 2) (.call "_law_sites" 1 g__law_sites (.cons (.lst (.cons (.var 0) (.cons (.var 1) .nil))) .nil))) (.seq (.frz 2) (.seq (.for_ (.nm 3) (.cons (.var 2) .nil) (.seq (.iff (.bi .any (.comp (.nm 4) [4] (.cons (.var 2) .nil) (.nil) (.cmp .ne (.call "_law_lets" 3 g__law_lets (.cons (.var 0) (.cons (.var 3) (.cons (.var 4) .nil)))) (.call "_law_lets" 3 g__law_lets (.cons (.var 1) (.cons (.var 3) (.cons (.var 4) .nil))))))) (.seq (.ret (.lit (.bl true))) .nil) (.nil)) .nil)) (.seq (.ret (.lit (.bl false))) .nil)))
def g__law_parted : G := runDef 5 n__law_parted
theorem ck__law_parted : ckL n__law_parted ns__law_parted (defScope (top 51)) (defBody (top 51)) = true := by decide +kernel
theorem sc__law_parted : C8.scC ns__law_parted ["_law_first_here", "_law_second"] (defScope (top 51)) = true := by decide +kernel
def ns_fresh_names : List Str := ["many", "at"]
def n_fresh_names : N := .seq (.ret (.comp (.nm 1) [1] (.rng1 (.var 0)) (.nil) (.bin .add (.lit (.str "x")) (.ix (.lit (.str "abcdefghijklmnopqrstuvwxyz")) (.var 1))))) .nil
def g_fresh_names : G := runDef 2 n_fresh_names
theorem ck_fresh_names : ckL n_fresh_names ns_fresh_names (defScope (top 24)) (defBody (top 24)) = true := by decide +kernel
theorem sc_fresh_names : C8.scC ns_fresh_names ["many"] (defScope (top 24)) = true := by decide +kernel
def ns_sites_for : List Str := ["books", "folders", "book", "others", "found", "layer", "rule", "folder", "name", "part", "kind"]
def n_sites_for : N := .seq (.asg (.nm 1) (.lst (.nil))) (.seq (.for_ (.nm 2) (.cons (.var 0) .nil) (.seq (.for_ (.nm 6) (.cons (.var 2) .nil) (.seq (.xt 1 (.comp (.nm 9) [9] (.cons (.sl (.var 6) (.nil) (.cons (.lit (.int 2)) .nil)) .nil) (.cons (.and (.cmp .isn (.var 9) (.lit .non)) (.cmp .nmem (.var 9) (.glb "KINDS" (.tup [.str "door", .str "inner"])))) .nil) (.var 9))) .nil)) .nil)) (.seq (.asg (.nm 3) (.sl (.comp (.nm 8) [8] (.cons (.call "fresh_names" 1 g_fresh_names (.cons (.bin .add (.bi .len (.var 1)) (.lit (.int 2))) .nil)) .nil) (.cons (.cmp .nmem (.var 8) (.var 1)) .nil) (.var 8)) (.nil) (.cons (.lit (.int 2)) .nil))) (.seq (.asg (.nm 4) (.lst (.nil))) (.seq (.for_ (.nm 5) (.rng1 (.bin .add (.glb "MOST_LAYER" (.int 3)) (.lit (.int 1)))) (.seq (.for_ (.nm 7) (.cons (.bin .add (.bi .ssorted (.var 1)) (.var 3)) .nil) (.seq (.xt 4 (.comp (.nm 10) [10] (.cons (.glb "KINDS" (.tup [.str "door", .str "inner"])) .nil) (.nil) (.tup (.cons (.var 5) (.cons (.var 7) (.cons (.var 10) .nil)))))) .nil)) .nil)) (.seq (.ret (.var 4)) .nil)))))
def g_sites_for : G := runDef 11 n_sites_for
theorem ck_sites_for : ckL n_sites_for ns_sites_for (defScope (top 23)) (defBody (top 23)) = true := by decide +kernel
theorem sc_sites_for : C8.scC ns_sites_for ["books"] (defScope (top 23)) = true := by decide +kernel
def ns_Part___init__ : List Str := ["self", "told"]
def n_Part___init__ : N := .cons (.var 1) .nil
theorem ck_Part___init__ : ckInit n_Part___init__ ["told"] ns_Part___init__ (defScope (inClass (top 13) 0)) (defBody (inClass (top 13) 0)) = true := by decide +kernel
theorem sc_Part___init__ : C8.scC ns_Part___init__ ["self", "told"] (defScope (inClass (top 13) 0)) = true := by decide +kernel
def g_From : G := gMake "From" ["told"] 2 n_Part___init__
def g_To : G := gMake "To" ["told"] 2 n_Part___init__
def g_Step : G := gMake "Step" ["told"] 2 n_Part___init__
def g_Near : G := gMake "Near" ["told"] 2 n_Part___init__
def g_Gap : G := gMake "Gap" ["told"] 2 n_Part___init__
def ns_parts_of : List Str := ["rule", "made", "part"]
def n_parts_of : N := .seq (.asg (.nm 1) (.lst (.cons (.call "From" 1 g_From (.cons (.ix (.var 0) (.lit (.int 0))) .nil)) (.cons (.call "To" 1 g_To (.cons (.ix (.var 0) (.lit (.int 1))) .nil)) (.cons (.call "Step" 1 g_Step (.cons (.ix (.var 0) (.lit (.int 2))) .nil)) (.cons (.call "Near" 1 g_Near (.cons (.ix (.var 0) (.lit (.int 3))) .nil)) (.cons (.call "Gap" 1 g_Gap (.cons (.ix (.var 0) (.lit (.int 4))) .nil)) .nil))))))) (.seq (.ret (.comp (.nm 2) [2] (.cons (.var 1) .nil) (.cons (.cmp .isn (.attr (.var 2) "told" ["From", "To", "Step", "Near", "Gap"]) (.lit .non)) .nil) (.var 2))) .nil)
def g_parts_of : G := runDef 3 n_parts_of
theorem ck_parts_of : ckL n_parts_of ns_parts_of (defScope (top 19)) (defBody (top 19)) = true := by decide +kernel
theorem sc_parts_of : C8.scC ns_parts_of ["rule"] (defScope (top 19)) = true := by decide +kernel
def ns_Reader___init__ : List Str := ["self", "book", "rule"]
def n_Reader___init__ : N := .cons (.comp (.nm 2) [2] (.cons (.var 1) .nil) (.nil) (.call "parts_of" 1 g_parts_of (.cons (.var 2) .nil))) (.cons (.comp (.nm 2) [2] (.cons (.var 1) .nil) (.nil) (.ix (.var 2) (.lit (.int 5)))) .nil)
theorem ck_Reader___init__ : ckInit n_Reader___init__ ["rows", "last"] ns_Reader___init__ (defScope (inClass (top 20) 0)) (defBody (inClass (top 20) 0)) = true := by decide +kernel
theorem sc_Reader___init__ : C8.scC ns_Reader___init__ ["self", "book"] (defScope (inClass (top 20) 0)) = true := by decide +kernel
def g_Reader : G := gMake "Reader" ["rows", "last"] 3 n_Reader___init__
def ns_From_fits : List Str := ["self", "one", "other"]
def n_From_fits : N := .seq (.ret (.cmp .eq (.attr (.var 0) "told" ["From", "To", "Step", "Near", "Gap"]) (.ite (.cmp .mem (.attr (.var 0) "told" ["From", "To", "Step", "Near", "Gap"]) (.glb "KINDS" (.tup [.str "door", .str "inner"]))) (.ix (.var 1) (.lit (.int 2))) (.ix (.var 1) (.lit (.int 1)))))) .nil
def g_From_fits : G := runDef 3 n_From_fits
theorem ck_From_fits : ckL n_From_fits ns_From_fits (defScope (inClass (top 14) 0)) (defBody (inClass (top 14) 0)) = true := by decide +kernel
theorem sc_From_fits : C8.scC ns_From_fits ["self", "one", "other"] (defScope (inClass (top 14) 0)) = true := by decide +kernel
def ns_To_fits : List Str := ["self", "one", "other"]
def n_To_fits : N := .seq (.ret (.cmp .eq (.attr (.var 0) "told" ["From", "To", "Step", "Near", "Gap"]) (.ite (.cmp .mem (.attr (.var 0) "told" ["From", "To", "Step", "Near", "Gap"]) (.glb "KINDS" (.tup [.str "door", .str "inner"]))) (.ix (.var 2) (.lit (.int 2))) (.ix (.var 2) (.lit (.int 1)))))) .nil
def g_To_fits : G := runDef 3 n_To_fits
theorem ck_To_fits : ckL n_To_fits ns_To_fits (defScope (inClass (top 15) 0)) (defBody (inClass (top 15) 0)) = true := by decide +kernel
theorem sc_To_fits : C8.scC ns_To_fits ["self", "one", "other"] (defScope (inClass (top 15) 0)) = true := by decide +kernel
def ns_Step_fits : List Str := ["self", "one", "other"]
def n_Step_fits : N := .seq (.iff (.cmp .eq (.ix (.var 1) (.lit (.int 0))) (.ix (.var 2) (.lit (.int 0)))) (.seq (.ret (.cmp .eq (.attr (.var 0) "told" ["From", "To", "Step", "Near", "Gap"]) (.lit (.str "level")))) .nil) (.nil)) (.seq (.ret (.cmp .eq (.attr (.var 0) "told" ["From", "To", "Step", "Near", "Gap"]) (.ite (.cmp .lt (.ix (.var 1) (.lit (.int 0))) (.ix (.var 2) (.lit (.int 0)))) (.lit (.str "up")) (.lit (.str "down"))))) .nil)
def g_Step_fits : G := runDef 3 n_Step_fits
theorem ck_Step_fits : ckL n_Step_fits ns_Step_fits (defScope (inClass (top 16) 0)) (defBody (inClass (top 16) 0)) = true := by decide +kernel
theorem sc_Step_fits : C8.scC ns_Step_fits ["self", "one", "other"] (defScope (inClass (top 16) 0)) = true := by decide +kernel
def ns_Near_fits : List Str := ["self", "one", "other"]
def n_Near_fits : N := .seq (.ret (.cmp .eq (.cmp .eq (.attr (.var 0) "told" ["From", "To", "Step", "Near", "Gap"]) (.lit (.str "same"))) (.cmp .eq (.ix (.var 1) (.lit (.int 1))) (.ix (.var 2) (.lit (.int 1)))))) .nil
def g_Near_fits : G := runDef 3 n_Near_fits
theorem ck_Near_fits : ckL n_Near_fits ns_Near_fits (defScope (inClass (top 17) 0)) (defBody (inClass (top 17) 0)) = true := by decide +kernel
theorem sc_Near_fits : C8.scC ns_Near_fits ["self", "one", "other"] (defScope (inClass (top 17) 0)) = true := by decide +kernel
def ns_Gap_fits : List Str := ["self", "one", "other"]
def n_Gap_fits : N := .seq (.ret (.cmp .ge (.bi .abs (.bin .sub (.ix (.var 1) (.lit (.int 0))) (.ix (.var 2) (.lit (.int 0))))) (.attr (.var 0) "told" ["From", "To", "Step", "Near", "Gap"]))) .nil
def g_Gap_fits : G := runDef 3 n_Gap_fits
theorem ck_Gap_fits : ckL n_Gap_fits ns_Gap_fits (defScope (inClass (top 18) 0)) (defBody (inClass (top 18) 0)) = true := by decide +kernel
theorem sc_Gap_fits : C8.scC ns_Gap_fits ["self", "one", "other"] (defScope (inClass (top 18) 0)) = true := by decide +kernel
def ns_Reader_first : List Str := ["self", "one", "other", "at", "parts", "part"]
def n_Reader_first : N := .seq (.for_ (.tp [3, 4]) (.enm (.attr (.var 0) "rows" ["Reader"])) (.seq (.iff (.bi .all (.comp (.nm 5) [5] (.cons (.var 4) .nil) (.nil) (.om "fits" 3 [("From", g_From_fits), ("To", g_To_fits), ("Step", g_Step_fits), ("Near", g_Near_fits), ("Gap", g_Gap_fits)] (.var 5) (.cons (.var 1) (.cons (.var 2) .nil))))) (.seq (.ret (.var 3)) .nil) (.nil)) .nil)) (.seq (.ret (.lit .non)) .nil)
def g_Reader_first : G := runDef 6 n_Reader_first
theorem ck_Reader_first : ckL n_Reader_first ns_Reader_first (defScope (inClass (top 20) 1)) (defBody (inClass (top 20) 1)) = true := by decide +kernel
theorem sc_Reader_first : C8.scC ns_Reader_first ["self", "one", "other"] (defScope (inClass (top 20) 1)) = true := by decide +kernel
def ns_Reader_lets : List Str := ["self", "one", "other", "at"]
def n_Reader_lets : N := .seq (.asg (.nm 3) (.om "first" 3 [("Reader", g_Reader_first)] (.var 0) (.cons (.var 1) (.cons (.var 2) .nil)))) (.seq (.ret (.or (.cmp .is (.var 3) (.lit .non)) (.cmp .eq (.ix (.attr (.var 0) "last" ["Reader"]) (.var 3)) (.lit (.str "let"))))) .nil)
def g_Reader_lets : G := runDef 4 n_Reader_lets
theorem ck_Reader_lets : ckL n_Reader_lets ns_Reader_lets (defScope (inClass (top 20) 2)) (defBody (inClass (top 20) 2)) = true := by decide +kernel
theorem sc_Reader_lets : C8.scC ns_Reader_lets ["self", "one", "other"] (defScope (inClass (top 20) 2)) = true := by decide +kernel
def ns_pair_parted : List Str := ["first", "second", "sites", "mine", "theirs", "one", "other"]
def n_pair_parted : N := .seq (.set3 2 3 4 (.call "sites_for" 1 g_sites_for (.cons (.lst (.cons (.var 0) (.cons (.var 1) .nil))) .nil)) (.call "Reader" 1 g_Reader (.cons (.var 0) .nil)) (.call "Reader" 1 g_Reader (.cons (.var 1) .nil))) (.seq (.frz 2) (.seq (.for_ (.nm 5) (.cons (.var 2) .nil) (.seq (.frz 2) (.seq (.for_ (.nm 6) (.cons (.var 2) .nil) (.seq (.frz 3) (.seq (.frz 4) (.seq (.iff (.cmp .ne (.om "lets" 3 [("Reader", g_Reader_lets)] (.var 3) (.cons (.var 5) (.cons (.var 6) .nil))) (.om "lets" 3 [("Reader", g_Reader_lets)] (.var 4) (.cons (.var 5) (.cons (.var 6) .nil)))) (.seq (.ret (.tup (.cons (.var 5) (.cons (.var 6) .nil)))) .nil) (.nil)) .nil)))) .nil))) (.seq (.ret (.lit .non)) .nil)))
def g_pair_parted : G := runDef 7 n_pair_parted
theorem ck_pair_parted : ckL n_pair_parted ns_pair_parted (defScope (top 25)) (defBody (top 25)) = true := by decide +kernel
theorem sc_pair_parted : C8.scC ns_pair_parted ["first", "second"] (defScope (top 25)) = true := by decide +kernel
def ns_Alike_shows : List Str := ["self", "first", "second"]
def n_Alike_shows : N := .seq (.ret (.cmp .is (.call "pair_parted" 2 g_pair_parted (.cons (.var 1) (.cons (.var 2) .nil))) (.lit .non))) .nil
def g_Alike_shows : G := runDef 3 n_Alike_shows
theorem ck_Alike_shows : ckL n_Alike_shows ns_Alike_shows (defScope (inClass (top 29) 0)) (defBody (inClass (top 29) 0)) = true := by decide +kernel
theorem sc_Alike_shows : C8.scC ns_Alike_shows ["self", "first", "second"] (defScope (inClass (top 29) 0)) = true := by decide +kernel
def ns_is_let : List Str := ["book", "one", "other"]
def n_is_let : N := .seq (.ret (.om "lets" 3 [("Reader", g_Reader_lets)] (.call "Reader" 1 g_Reader (.cons (.var 0) .nil)) (.cons (.var 1) (.cons (.var 2) .nil)))) .nil
def g_is_let : G := runDef 3 n_is_let
theorem ck_is_let : ckL n_is_let ns_is_let (defScope (top 22)) (defBody (top 22)) = true := by decide +kernel
theorem sc_is_let : C8.scC ns_is_let ["book", "one", "other"] (defScope (top 22)) = true := by decide +kernel
def ns_Parted_shows : List Str := ["self", "first", "second"]
def n_Parted_shows : N := .seq (.ret (.cmp .ne (.call "is_let" 3 g_is_let (.cons (.var 1) (.cons (.attr (.var 0) "one" ["Parted", "Used"]) (.cons (.attr (.var 0) "other" ["Parted", "Used"]) .nil)))) (.call "is_let" 3 g_is_let (.cons (.var 2) (.cons (.attr (.var 0) "one" ["Parted", "Used"]) (.cons (.attr (.var 0) "other" ["Parted", "Used"]) .nil)))))) .nil
def g_Parted_shows : G := runDef 3 n_Parted_shows
theorem ck_Parted_shows : ckL n_Parted_shows ns_Parted_shows (defScope (inClass (top 30) 1)) (defBody (inClass (top 30) 1)) = true := by decide +kernel
theorem sc_Parted_shows : C8.scC ns_Parted_shows ["self", "first", "second"] (defScope (inClass (top 30) 1)) = true := by decide +kernel
def ns_first_met : List Str := ["book", "one", "other"]
def n_first_met : N := .seq (.ret (.om "first" 3 [("Reader", g_Reader_first)] (.call "Reader" 1 g_Reader (.cons (.var 0) .nil)) (.cons (.var 1) (.cons (.var 2) .nil)))) .nil
def g_first_met : G := runDef 3 n_first_met
theorem ck_first_met : ckL n_first_met ns_first_met (defScope (top 21)) (defBody (top 21)) = true := by decide +kernel
theorem sc_first_met : C8.scC ns_first_met ["book", "one", "other"] (defScope (top 21)) = true := by decide +kernel
def ns_Used_shows : List Str := ["self", "book", "count"]
def n_Used_shows : N := .seq (.ret (.cmp .eq (.call "first_met" 3 g_first_met (.cons (.var 1) (.cons (.attr (.var 0) "one" ["Parted", "Used"]) (.cons (.attr (.var 0) "other" ["Parted", "Used"]) .nil)))) (.var 2))) .nil
def g_Used_shows : G := runDef 3 n_Used_shows
theorem ck_Used_shows : ckL n_Used_shows ns_Used_shows (defScope (inClass (top 31) 1)) (defBody (inClass (top 31) 1)) = true := by decide +kernel
theorem sc_Used_shows : C8.scC ns_Used_shows ["self", "book", "count"] (defScope (inClass (top 31) 1)) = true := by decide +kernel
def ns_pair_used : List Str := ["book", "count", "sites", "reader", "one", "other"]
def n_pair_used : N := .seq (.set2 2 3 (.call "sites_for" 1 g_sites_for (.cons (.lst (.cons (.var 0) .nil)) .nil)) (.call "Reader" 1 g_Reader (.cons (.var 0) .nil))) (.seq (.frz 2) (.seq (.for_ (.nm 4) (.cons (.var 2) .nil) (.seq (.frz 2) (.seq (.for_ (.nm 5) (.cons (.var 2) .nil) (.seq (.frz 3) (.seq (.iff (.cmp .eq (.om "first" 3 [("Reader", g_Reader_first)] (.var 3) (.cons (.var 4) (.cons (.var 5) .nil))) (.var 1)) (.seq (.ret (.tup (.cons (.var 4) (.cons (.var 5) .nil)))) .nil) (.nil)) .nil))) .nil))) (.seq (.ret (.lit .non)) .nil)))
def g_pair_used : G := runDef 6 n_pair_used
theorem ck_pair_used : ckL n_pair_used ns_pair_used (defScope (top 26)) (defBody (top 26)) = true := by decide +kernel
theorem sc_pair_used : C8.scC ns_pair_used ["book", "count"] (defScope (top 26)) = true := by decide +kernel
def ns_Idle_shows : List Str := ["self", "book", "count"]
def n_Idle_shows : N := .seq (.ret (.cmp .is (.call "pair_used" 2 g_pair_used (.cons (.var 1) (.cons (.var 2) .nil))) (.lit .non))) .nil
def g_Idle_shows : G := runDef 3 n_Idle_shows
theorem ck_Idle_shows : ckL n_Idle_shows ns_Idle_shows (defScope (inClass (top 32) 0)) (defBody (inClass (top 32) 0)) = true := by decide +kernel
theorem sc_Idle_shows : C8.scC ns_Idle_shows ["self", "book", "count"] (defScope (inClass (top 32) 0)) = true := by decide +kernel
def g_Alike : G := gMake "Alike" [] 1 .nil
def ns_Parted___init__ : List Str := ["self", "one", "other"]
def n_Parted___init__ : N := .cons (.var 1) (.cons (.var 2) .nil)
theorem ck_Parted___init__ : ckInit n_Parted___init__ ["one", "other"] ns_Parted___init__ (defScope (inClass (top 30) 0)) (defBody (inClass (top 30) 0)) = true := by decide +kernel
theorem sc_Parted___init__ : C8.scC ns_Parted___init__ ["self", "one", "other"] (defScope (inClass (top 30) 0)) = true := by decide +kernel
def g_Parted : G := gMake "Parted" ["one", "other"] 3 n_Parted___init__
def ns__law_two_right : List Str := ["_law_first_here", "_law_second", "_law_sites_here", "_law_parted_here", "_law_one", "_law_other", "_law_made", "_law_said"]
def n__law_two_right : N := .seq (.asg (.nm 3) (.call "_law_parted" 2 g__law_parted (.cons (.var 0) (.cons (.var 1) .nil)))) (.seq (.iff (.cmp .ne (.om "shows" 3 [("Alike", g_Alike_shows), ("Parted", g_Parted_shows), ("Used", g_Used_shows), ("Idle", g_Idle_shows)] (.call "Alike" 0 g_Alike (.nil)) (.cons (.var 0) (.cons (.var 1) .nil))) (.not (.var 3))) (.seq (.ret (.lit (.bl false))) .nil) (.nil)) (.seq (.for_ (.nm 4) (.cons (.var 2) .nil) (.seq (.for_ (.nm 5) (.cons (.var 2) .nil) (.seq (.asg (.nm 6) (.call "Parted" 2 g_Parted (.cons (.var 4) (.cons (.var 5) .nil)))) (.seq (.frz 6) (.seq (.asg (.nm 7) (.om "shows" 3 [("Alike", g_Alike_shows), ("Parted", g_Parted_shows), ("Used", g_Used_shows), ("Idle", g_Idle_shows)] (.var 6) (.cons (.var 0) (.cons (.var 1) .nil)))) (.seq (.frz 6) (.seq (.iff (.or (.cmp .ne (.tup (.cons (.attr (.var 6) "one" ["Parted", "Used"]) (.cons (.attr (.var 6) "other" ["Parted", "Used"]) .nil))) (.tup (.cons (.var 4) (.cons (.var 5) .nil)))) (.not (.isT (.var 7) "bool"))) (.seq (.ret (.lit (.bl false))) .nil) (.nil)) (.seq (.iff (.cmp .ne (.var 7) (.cmp .ne (.call "_law_lets" 3 g__law_lets (.cons (.var 0) (.cons (.var 4) (.cons (.var 5) .nil)))) (.call "_law_lets" 3 g__law_lets (.cons (.var 1) (.cons (.var 4) (.cons (.var 5) .nil)))))) (.seq (.ret (.lit (.bl false))) .nil) (.nil)) .nil))))))) .nil)) (.seq (.ret (.lit (.bl true))) .nil)))
def g__law_two_right : G := runDef 8 n__law_two_right
theorem ck__law_two_right : ckL n__law_two_right ns__law_two_right (defScope (top 54)) (defBody (top 54)) = true := by decide +kernel
theorem sc__law_two_right : C8.scC ns__law_two_right ["_law_first_here", "_law_second", "_law_sites_here"] (defScope (top 54)) = true := by decide +kernel
def ns__law_decided : List Str := ["_law_book_here", "_law_found", "_law_sites_here", "_law_one", "_law_other"]
def n__law_decided : N := .seq (.set2 1 2 (.dnew) (.call "_law_sites" 1 g__law_sites (.cons (.lst (.cons (.var 0) .nil)) .nil))) (.seq (.frz 2) (.seq (.for_ (.nm 3) (.cons (.var 2) .nil) (.seq (.frz 2) (.seq (.for_ (.nm 4) (.cons (.var 2) .nil) (.seq (.put 1 (.call "_law_first" 3 g__law_first (.cons (.var 0) (.cons (.var 3) (.cons (.var 4) .nil)))) (.lit (.bl true))) .nil)) .nil))) (.seq (.ret (.bi .list (.var 1))) .nil)))
def g__law_decided : G := runDef 5 n__law_decided
theorem ck__law_decided : ckL n__law_decided ns__law_decided (defScope (top 50)) (defBody (top 50)) = true := by decide +kernel
theorem sc__law_decided : C8.scC ns__law_decided ["_law_book_here"] (defScope (top 50)) = true := by decide +kernel
def g_Idle : G := gMake "Idle" [] 1 .nil
def ns_Used___init__ : List Str := ["self", "one", "other"]
def n_Used___init__ : N := .cons (.var 1) (.cons (.var 2) .nil)
theorem ck_Used___init__ : ckInit n_Used___init__ ["one", "other"] ns_Used___init__ (defScope (inClass (top 31) 0)) (defBody (inClass (top 31) 0)) = true := by decide +kernel
theorem sc_Used___init__ : C8.scC ns_Used___init__ ["self", "one", "other"] (defScope (inClass (top 31) 0)) = true := by decide +kernel
def g_Used : G := gMake "Used" ["one", "other"] 3 n_Used___init__
def ns_is_name : List Str := ["thing", "sign"]
def n_is_name : N := .seq (.iff (.or (.not (.isT (.var 0) "str")) (.not (.chain .le .le (.lit (.int 1)) (.bi .len (.var 0)) (.glb "LONGEST" (.int 8))))) (.seq (.ret (.lit (.bl false))) .nil) (.nil)) (.seq (.ret (.bi .all (.comp (.nm 1) [1] (.cons (.var 0) .nil) (.nil) (.cmp .mem (.var 1) (.glb "LETTERS" (.str "abcdefghijklmnopqrstuvwxyz")))))) .nil)
def g_is_name : G := runDef 2 n_is_name
theorem ck_is_name : ckL n_is_name ns_is_name (defScope (top 6)) (defBody (top 6)) = true := by decide +kernel
theorem sc_is_name : C8.scC ns_is_name ["thing"] (defScope (top 6)) = true := by decide +kernel
def ns_is_one_of : List Str := ["thing", "words"]
def n_is_one_of : N := .seq (.ret (.or (.cmp .is (.var 0) (.lit .non)) (.and (.isT (.var 0) "str") (.cmp .mem (.var 0) (.var 1))))) .nil
def g_is_one_of : G := runDef 2 n_is_one_of
theorem ck_is_one_of : ckL n_is_one_of ns_is_one_of (defScope (top 9)) (defBody (top 9)) = true := by decide +kernel
theorem sc_is_one_of : C8.scC ns_is_one_of ["thing", "words"] (defScope (top 9)) = true := by decide +kernel
def ns_is_between : List Str := ["thing", "low", "high"]
def n_is_between : N := .seq (.ret (.and (.isT (.var 0) "int") (.and (.not (.isT (.var 0) "bool")) (.chain .le .le (.var 1) (.var 0) (.var 2))))) .nil
def g_is_between : G := runDef 3 n_is_between
theorem ck_is_between : ckL n_is_between ns_is_between (defScope (top 7)) (defBody (top 7)) = true := by decide +kernel
theorem sc_is_between : C8.scC ns_is_between ["thing", "low", "high"] (defScope (top 7)) = true := by decide +kernel
def ns_is_rule : List Str := ["thing", "part"]
def n_is_rule : N := .seq (.iff (.or (.not (.isT (.var 0) "tuple")) (.cmp .ne (.bi .len (.var 0)) (.lit (.int 6)))) (.seq (.ret (.lit (.bl false))) .nil) (.nil)) (.seq (.iff (.not (.bi .all (.comp (.nm 1) [1] (.cons (.sl (.var 0) (.nil) (.cons (.lit (.int 2)) .nil)) .nil) (.nil) (.or (.cmp .is (.var 1) (.lit .non)) (.call "is_name" 1 g_is_name (.cons (.var 1) .nil)))))) (.seq (.ret (.lit (.bl false))) .nil) (.nil)) (.seq (.iff (.or (.not (.call "is_one_of" 2 g_is_one_of (.cons (.ix (.var 0) (.lit (.int 2))) (.cons (.tup (.cons (.lit (.str "up")) (.cons (.lit (.str "down")) (.cons (.lit (.str "level")) .nil)))) .nil)))) (.not (.call "is_one_of" 2 g_is_one_of (.cons (.ix (.var 0) (.lit (.int 3))) (.cons (.tup (.cons (.lit (.str "same")) (.cons (.lit (.str "other")) .nil))) .nil))))) (.seq (.ret (.lit (.bl false))) .nil) (.nil)) (.seq (.iff (.and (.cmp .isn (.ix (.var 0) (.lit (.int 4))) (.lit .non)) (.not (.call "is_between" 3 g_is_between (.cons (.ix (.var 0) (.lit (.int 4))) (.cons (.lit (.int 0)) (.cons (.glb "MOST_LAYER" (.int 3)) .nil)))))) (.seq (.ret (.lit (.bl false))) .nil) (.nil)) (.seq (.ret (.and (.cmp .isn (.ix (.var 0) (.lit (.int 5))) (.lit .non)) (.call "is_one_of" 2 g_is_one_of (.cons (.ix (.var 0) (.lit (.int 5))) (.cons (.tup (.cons (.lit (.str "let")) (.cons (.lit (.str "bar")) .nil))) .nil))))) .nil))))
def g_is_rule : G := runDef 2 n_is_rule
theorem ck_is_rule : ckL n_is_rule ns_is_rule (defScope (top 10)) (defBody (top 10)) = true := by decide +kernel
theorem sc_is_rule : C8.scC ns_is_rule ["thing"] (defScope (top 10)) = true := by decide +kernel
def ns_is_book : List Str := ["thing", "rule"]
def n_is_book : N := .seq (.ret (.and (.isT (.var 0) "list") (.and (.cmp .le (.bi .len (.var 0)) (.glb "MOST_RULES" (.int 8))) (.bi .all (.comp (.nm 1) [1] (.cons (.var 0) .nil) (.nil) (.call "is_rule" 1 g_is_rule (.cons (.var 1) .nil))))))) .nil
def g_is_book : G := runDef 2 n_is_book
theorem ck_is_book : ckL n_is_book ns_is_book (defScope (top 11)) (defBody (top 11)) = true := by decide +kernel
theorem sc_is_book : C8.scC ns_is_book ["thing"] (defScope (top 11)) = true := by decide +kernel
def ns_check_book : List Str := ["thing"]
def n_check_book : N := .seq (.iff (.not (.call "is_book" 1 g_is_book (.cons (.var 0) .nil))) (.seq (.nev) .nil) (.nil)) .nil
def g_check_book : G := runDef 1 n_check_book
theorem ck_check_book : ckL n_check_book ns_check_book (defScope (top 38)) (defBody (top 38)) = true := by decide +kernel
theorem sc_check_book : C8.scC ns_check_book ["thing"] (defScope (top 38)) = true := by decide +kernel
def ns_is_site : List Str := ["thing"]
def n_is_site : N := .seq (.iff (.or (.not (.isT (.var 0) "tuple")) (.or (.cmp .ne (.bi .len (.var 0)) (.lit (.int 3))) (.not (.call "is_between" 3 g_is_between (.cons (.ix (.var 0) (.lit (.int 0))) (.cons (.lit (.int 0)) (.cons (.glb "MOST_LAYER" (.int 3)) .nil))))))) (.seq (.ret (.lit (.bl false))) .nil) (.nil)) (.seq (.ret (.and (.call "is_name" 1 g_is_name (.cons (.ix (.var 0) (.lit (.int 1))) .nil)) (.and (.cmp .nmem (.ix (.var 0) (.lit (.int 1))) (.glb "KINDS" (.tup [.str "door", .str "inner"]))) (.and (.isT (.ix (.var 0) (.lit (.int 2))) "str") (.cmp .mem (.ix (.var 0) (.lit (.int 2))) (.glb "KINDS" (.tup [.str "door", .str "inner"]))))))) .nil)
def g_is_site : G := runDef 1 n_is_site
theorem ck_is_site : ckL n_is_site ns_is_site (defScope (top 8)) (defBody (top 8)) = true := by decide +kernel
theorem sc_is_site : C8.scC ns_is_site ["thing"] (defScope (top 8)) = true := by decide +kernel
def ns_decides : List Str := ["book", "one", "other"]
def n_decides : N := .seq (.drop (.call "check_book" 1 g_check_book (.cons (.var 0) .nil))) (.seq (.iff (.or (.not (.call "is_site" 1 g_is_site (.cons (.var 1) .nil))) (.not (.call "is_site" 1 g_is_site (.cons (.var 2) .nil)))) (.seq (.nev) .nil) (.nil)) (.seq (.ret (.call "first_met" 3 g_first_met (.cons (.var 0) (.cons (.var 1) (.cons (.var 2) .nil))))) .nil))
def g_decides : G := runDef 3 n_decides
theorem ck_decides : ckL n_decides ns_decides (defScope (top 39)) (defBody (top 39)) = true := by decide +kernel
theorem sc_decides : C8.scC ns_decides ["book", "one", "other"] (defScope (top 39)) = true := by decide +kernel
def ns__law_rules_right : List Str := ["_law_book_here", "_law_sites_here", "_law_counts", "_law_at", "_law_one", "_law_other", "_law_made"]
def n__law_rules_right : N := .seq (.asg (.nm 2) (.call "_law_decided" 1 g__law_decided (.cons (.var 0) .nil))) (.seq (.for_ (.nm 3) (.rng1 (.bi .len (.var 0))) (.seq (.iff (.cmp .ne (.om "shows" 3 [("Alike", g_Alike_shows), ("Parted", g_Parted_shows), ("Used", g_Used_shows), ("Idle", g_Idle_shows)] (.call "Idle" 0 g_Idle (.nil)) (.cons (.var 0) (.cons (.var 3) .nil))) (.cmp .nmem (.var 3) (.var 2))) (.seq (.ret (.lit (.bl false))) .nil) (.nil)) (.seq (.for_ (.nm 4) (.cons (.var 1) .nil) (.seq (.for_ (.nm 5) (.cons (.slst (.var 1) (.cons (.bin .mod (.var 3) (.lit (.int 3))) .nil) (.cons (.lit (.int 3)) .nil)) .nil) (.seq (.asg (.nm 6) (.call "Used" 2 g_Used (.cons (.var 4) (.cons (.var 5) .nil)))) (.seq (.frz 6) (.seq (.iff (.cmp .ne (.tup (.cons (.attr (.var 6) "one" ["Parted", "Used"]) (.cons (.attr (.var 6) "other" ["Parted", "Used"]) .nil))) (.tup (.cons (.var 4) (.cons (.var 5) .nil)))) (.seq (.ret (.lit (.bl false))) .nil) (.nil)) (.seq (.frz 6) (.seq (.iff (.cmp .ne (.om "shows" 3 [("Alike", g_Alike_shows), ("Parted", g_Parted_shows), ("Used", g_Used_shows), ("Idle", g_Idle_shows)] (.var 6) (.cons (.var 0) (.cons (.var 3) .nil))) (.cmp .eq (.call "_law_first" 3 g__law_first (.cons (.var 0) (.cons (.var 4) (.cons (.var 5) .nil)))) (.var 3))) (.seq (.ret (.lit (.bl false))) .nil) (.nil)) .nil)))))) .nil)) .nil))) (.seq (.for_ (.nm 4) (.cons (.var 1) .nil) (.seq (.iff (.cmp .ne (.comp (.nm 5) [5] (.cons (.var 1) .nil) (.nil) (.call "decides" 3 g_decides (.cons (.var 0) (.cons (.var 4) (.cons (.var 5) .nil))))) (.comp (.nm 5) [5] (.cons (.var 1) .nil) (.nil) (.call "_law_first" 3 g__law_first (.cons (.var 0) (.cons (.var 4) (.cons (.var 5) .nil)))))) (.seq (.ret (.lit (.bl false))) .nil) (.nil)) .nil)) (.seq (.ret (.lit (.bl true))) .nil)))
def g__law_rules_right : G := runDef 7 n__law_rules_right
theorem ck__law_rules_right : ckL n__law_rules_right ns__law_rules_right (defScope (top 55)) (defBody (top 55)) = true := by decide +kernel
theorem sc__law_rules_right : C8.scC ns__law_rules_right ["_law_book_here", "_law_sites_here"] (defScope (top 55)) = true := by decide +kernel
def ns_law : List Str := ["_law_script", "_law_cells", "_law_folders", "_law_whole", "_law_book_here", "_law_sites_here", "_law_other", "_law_one", "_law_a", "_law_b", "_law_c", "_law_shown"]
def n_law : N := .seq (.set2 1 2 (.ite (.cmp .ne (.var 0) (.lst (.nil))) (.sl (.var 0) (.nil) (.cons (.lit (.int 63)) .nil)) (.lst (.cons (.lit (.int 5)) .nil))) (.ix (.call "_law_words" 1 g__law_words (.cons (.var 0) .nil)) (.lit (.int 1)))) (.seq (.asg (.nm 3) (.bi .sum (.var 1))) (.seq (.frz 3) (.seq (.set2 4 5 (.sl (.call "_law_book" 2 g__law_book (.cons (.var 0) (.cons (.lit (.int 0)) .nil))) (.nil) (.cons (.lit (.int 5)) .nil)) (.call "_law_some" 2 g__law_some (.cons (.sl (.call "_law_book" 2 g__law_book (.cons (.var 0) (.cons (.lit (.int 0)) .nil))) (.nil) (.cons (.lit (.int 5)) .nil)) (.cons (.var 3) .nil)))) (.seq (.frz 3) (.seq (.frz 2) (.seq (.asg (.nm 6) (.bin .add (.sl (.var 4) (.nil) (.cons (.neg (.lit (.int 1))) .nil)) (.lst (.cons (.call "_law_rule" 2 g__law_rule (.cons (.call "_law_number" 3 g__law_number (.cons (.ix (.var 1) (.neg (.lit (.int 1)))) (.cons (.lit (.int 3)) (.cons (.var 3) .nil)))) (.cons (.var 2) .nil))) .nil)))) (.seq (.frz 4) (.seq (.frz 6) (.seq (.frz 5) (.seq (.iff (.or (.not (.call "_law_two_right" 3 g__law_two_right (.cons (.var 4) (.cons (.var 6) (.cons (.var 5) .nil))))) (.not (.call "_law_rules_right" 2 g__law_rules_right (.cons (.var 4) (.cons (.var 5) .nil))))) (.seq (.ret (.lit (.bl false))) .nil) (.nil)) (.seq (.asg (.nm 7) (.lst (.cons (.tup (.cons (.lit (.str "door")) (.cons (.lit (.str "inner")) (.cons (.lit (.str "level")) (.cons (.lit (.str "same")) (.cons (.lit .non) (.cons (.lit (.str "bar")) .nil))))))) (.cons (.tup (.cons (.lit .non) (.cons (.lit .non) (.cons (.lit .non) (.cons (.lit .non) (.cons (.lit (.int 0)) (.cons (.lit (.str "let")) .nil))))))) .nil)))) (.seq (.ap 7 (.tup (.cons (.lit .non) (.cons (.lit .non) (.cons (.lit .non) (.cons (.lit .non) (.cons (.lit .non) (.cons (.lit (.str "bar")) .nil)))))))) (.seq (.set3 8 9 10 (.tup (.cons (.lit (.int 1)) (.cons (.lit (.str "ui")) (.cons (.lit (.str "door")) .nil)))) (.tup (.cons (.lit (.int 1)) (.cons (.lit (.str "ui")) (.cons (.lit (.str "inner")) .nil)))) (.tup (.cons (.lit (.int 2)) (.cons (.lit (.str "ui")) (.cons (.lit (.str "inner")) .nil))))) (.seq (.frz 7) (.seq (.asg (.nm 11) (.lst (.cons (.om "shows" 3 [("Alike", g_Alike_shows), ("Parted", g_Parted_shows), ("Used", g_Used_shows), ("Idle", g_Idle_shows)] (.call "Used" 2 g_Used (.cons (.var 8) (.cons (.var 9) .nil))) (.cons (.var 7) (.cons (.lit (.int 0)) .nil))) (.cons (.om "shows" 3 [("Alike", g_Alike_shows), ("Parted", g_Parted_shows), ("Used", g_Used_shows), ("Idle", g_Idle_shows)] (.call "Used" 2 g_Used (.cons (.var 8) (.cons (.var 10) .nil))) (.cons (.var 7) (.cons (.lit (.int 0)) .nil))) (.cons (.om "shows" 3 [("Alike", g_Alike_shows), ("Parted", g_Parted_shows), ("Used", g_Used_shows), ("Idle", g_Idle_shows)] (.call "Used" 2 g_Used (.cons (.var 9) (.cons (.var 8) .nil))) (.cons (.var 7) (.cons (.lit (.int 0)) .nil))) (.cons (.om "shows" 3 [("Alike", g_Alike_shows), ("Parted", g_Parted_shows), ("Used", g_Used_shows), ("Idle", g_Idle_shows)] (.call "Used" 2 g_Used (.cons (.var 9) (.cons (.var 8) .nil))) (.cons (.var 7) (.cons (.lit (.int 1)) .nil))) .nil)))))) (.seq (.frz 7) (.seq (.asg (.nm 11) (.bin .add (.var 11) (.lst (.cons (.om "shows" 3 [("Alike", g_Alike_shows), ("Parted", g_Parted_shows), ("Used", g_Used_shows), ("Idle", g_Idle_shows)] (.call "Idle" 0 g_Idle (.nil)) (.cons (.var 7) (.cons (.lit (.int 2)) .nil))) (.cons (.om "shows" 3 [("Alike", g_Alike_shows), ("Parted", g_Parted_shows), ("Used", g_Used_shows), ("Idle", g_Idle_shows)] (.call "Idle" 0 g_Idle (.nil)) (.cons (.var 7) (.cons (.lit (.int 1)) .nil))) (.cons (.om "shows" 3 [("Alike", g_Alike_shows), ("Parted", g_Parted_shows), ("Used", g_Used_shows), ("Idle", g_Idle_shows)] (.call "Parted" 2 g_Parted (.cons (.var 8) (.cons (.var 9) .nil))) (.cons (.var 7) (.cons (.sl (.var 7) (.cons (.lit (.int 1)) .nil) (.nil)) .nil))) .nil)))))) (.seq (.frz 7) (.seq (.ap 11 (.om "shows" 3 [("Alike", g_Alike_shows), ("Parted", g_Parted_shows), ("Used", g_Used_shows), ("Idle", g_Idle_shows)] (.call "Parted" 2 g_Parted (.cons (.var 8) (.cons (.var 10) .nil))) (.cons (.var 7) (.cons (.sl (.var 7) (.cons (.lit (.int 1)) .nil) (.nil)) .nil)))) (.seq (.frz 7) (.seq (.ret (.and (.cmp .eq (.var 11) (.lst (.cons (.lit (.bl true)) (.cons (.lit (.bl false)) (.cons (.lit (.bl false)) (.cons (.lit (.bl true)) (.cons (.lit (.bl true)) (.cons (.lit (.bl false)) (.cons (.lit (.bl true)) (.cons (.lit (.bl false)) .nil)))))))))) (.cmp .is (.om "shows" 3 [("Alike", g_Alike_shows), ("Parted", g_Parted_shows), ("Used", g_Used_shows), ("Idle", g_Idle_shows)] (.call "Alike" 0 g_Alike (.nil)) (.cons (.var 7) (.cons (.sl (.var 7) (.nil) (.cons (.lit (.int 2)) .nil)) .nil))) (.lit (.bl true))))) .nil)))))))))))))))))))))
def g_law : G := runDef 12 n_law
theorem ck_law : ckL n_law ns_law (defScope (top 56)) (defBody (top 56)) = true := by decide +kernel
theorem sc_law : C8.scC ns_law ["_law_script"] (defScope (top 56)) = true := by decide +kernel
end NN

set_option Elab.async false
set_option linter.all false
set_option maxRecDepth 100000
set_option maxHeartbeats 4000000
namespace NN
open PySem PySem.Spec PyProof.Rows L2
def fr : List He.Fa := [.glo "_law_word", .glo "_law_words", .glo "_law_number", .glo "_law_end", .glo "_law_rule", .glo "_law_book", .glo "_law_sites", .glo "_law_some", .glo "_law_meets", .glo "_law_first", .glo "_law_lets", .glo "_law_parted", .glo "fresh_names", .glo "KINDS", .int "MOST_LAYER" 3, .glo "sites_for", .glo "From", .cls "From", .mkr "From", .noat "From" "told", .glo "To", .cls "To", .mkr "To", .noat "To" "told", .glo "Step", .cls "Step", .mkr "Step", .noat "Step" "told", .glo "Near", .cls "Near", .mkr "Near", .noat "Near" "told", .glo "Gap", .cls "Gap", .mkr "Gap", .noat "Gap" "told", .glo "parts_of", .glo "Reader", .cls "Reader", .mkr "Reader", .noat "Reader" "rows", .noat "Reader" "last", .meth "From" "fits", .meth "To" "fits", .meth "Step" "fits", .meth "Near" "fits", .meth "Gap" "fits", .meth "Reader" "first", .meth "Reader" "lets", .glo "pair_parted", .glo "is_let", .glo "first_met", .glo "pair_used", .glo "Alike", .glo "Parted", .cls "Parted", .mkr "Parted", .noat "Parted" "one", .noat "Parted" "other", .cls "Alike", .meth "Alike" "shows", .cls "Used", .noat "Used" "one", .noat "Used" "other", .meth "Parted" "shows", .meth "Used" "shows", .cls "Idle", .meth "Idle" "shows", .glo "_law_two_right", .glo "_law_decided", .glo "Idle", .glo "Used", .mkr "Used", .int "LONGEST" 8, .str "LETTERS" "abcdefghijklmnopqrstuvwxyz", .glo "is_name", .glo "is_one_of", .glo "is_between", .glo "is_rule", .int "MOST_RULES" 8, .glo "is_book", .glo "check_book", .glo "is_site", .glo "decides", .glo "_law_rules_right", .glo "law"]
def fa : List He.Fa := bNames.map He.Fa.free ++ fr
def fn : List He.DefD := [mkD ("_law_word", none) "_law_word" "_law_word" (top 42), mkD ("_law_words", none) "_law_words" "_law_words" (top 43), mkD ("_law_number", none) "_law_number" "_law_number" (top 41), mkD ("_law_end", none) "_law_end" "_law_end" (top 44), mkD ("_law_rule", none) "_law_rule" "_law_rule" (top 45), mkD ("_law_book", none) "_law_book" "_law_book" (top 46), mkD ("_law_sites", none) "_law_sites" "_law_sites" (top 52), mkD ("_law_some", none) "_law_some" "_law_some" (top 53), mkD ("_law_meets", none) "_law_meets" "_law_meets" (top 47), mkD ("_law_first", none) "_law_first" "_law_first" (top 48), mkD ("_law_lets", none) "_law_lets" "_law_lets" (top 49), mkD ("_law_parted", none) "_law_parted" "_law_parted" (top 51), mkD ("fresh_names", none) "fresh_names" "fresh_names" (top 24), mkD ("sites_for", none) "sites_for" "sites_for" (top 23), mkD ("From", some "__init__") "__init__" "Part.__init__" (inClass (top 13) 0), mkD ("To", some "__init__") "__init__" "Part.__init__" (inClass (top 13) 0), mkD ("Step", some "__init__") "__init__" "Part.__init__" (inClass (top 13) 0), mkD ("Near", some "__init__") "__init__" "Part.__init__" (inClass (top 13) 0), mkD ("Gap", some "__init__") "__init__" "Part.__init__" (inClass (top 13) 0), mkD ("parts_of", none) "parts_of" "parts_of" (top 19), mkD ("Reader", some "__init__") "__init__" "Reader.__init__" (inClass (top 20) 0), mkD ("From", some "fits") "fits" "From.fits" (inClass (top 14) 0), mkD ("To", some "fits") "fits" "To.fits" (inClass (top 15) 0), mkD ("Step", some "fits") "fits" "Step.fits" (inClass (top 16) 0), mkD ("Near", some "fits") "fits" "Near.fits" (inClass (top 17) 0), mkD ("Gap", some "fits") "fits" "Gap.fits" (inClass (top 18) 0), mkD ("Reader", some "first") "first" "Reader.first" (inClass (top 20) 1), mkD ("Reader", some "lets") "lets" "Reader.lets" (inClass (top 20) 2), mkD ("pair_parted", none) "pair_parted" "pair_parted" (top 25), mkD ("is_let", none) "is_let" "is_let" (top 22), mkD ("first_met", none) "first_met" "first_met" (top 21), mkD ("pair_used", none) "pair_used" "pair_used" (top 26), mkD ("Parted", some "__init__") "__init__" "Parted.__init__" (inClass (top 30) 0), mkD ("Alike", some "shows") "shows" "Alike.shows" (inClass (top 29) 0), mkD ("Parted", some "shows") "shows" "Parted.shows" (inClass (top 30) 1), mkD ("Used", some "shows") "shows" "Used.shows" (inClass (top 31) 1), mkD ("Idle", some "shows") "shows" "Idle.shows" (inClass (top 32) 0), mkD ("_law_two_right", none) "_law_two_right" "_law_two_right" (top 54), mkD ("_law_decided", none) "_law_decided" "_law_decided" (top 50), mkD ("Used", some "__init__") "__init__" "Used.__init__" (inClass (top 31) 0), mkD ("is_name", none) "is_name" "is_name" (top 6), mkD ("is_one_of", none) "is_one_of" "is_one_of" (top 9), mkD ("is_between", none) "is_between" "is_between" (top 7), mkD ("is_rule", none) "is_rule" "is_rule" (top 10), mkD ("is_book", none) "is_book" "is_book" (top 11), mkD ("check_book", none) "check_book" "check_book" (top 38), mkD ("is_site", none) "is_site" "is_site" (top 8), mkD ("decides", none) "decides" "decides" (top 39), mkD ("_law_rules_right", none) "_law_rules_right" "_law_rules_right" (top 55), mkD ("law", none) "law" "law" (top 56)]
def exL (K : PySem.W.Frag) : List Bool := [He.tupB K "KINDS" (List.map He.Dv.str ["door", "inner"]), mkoB K "Alike", mkoB K "Idle"]
def exK (K : PySem.W.Frag) : Bool := (exL K).all id
theorem exAt {K : PySem.W.Frag} (h : exK K = true) (i : Nat) {b : Bool} (e : (exL K)[i]? = some b) : b = true := List.all_eq_true.mp h b (List.mem_of_getElem? e)
section
variable {B : Bx}
theorem bok (F : Facts fa fn exK B) : BOk B := F.bok (r := fr) rfl
theorem ob__law_word (F : Facts fa fn exK B) : n__law_word.obl B 0 := obl_list (l := []) rfl trivial
theorem k__law_word (F : Facts fa fn exK B) : Callee B 1 "_law_word" 2 g__law_word := F.callee (bok F) 0 18 rfl rfl sc__law_word ck__law_word (ob__law_word F) (fun _ _ _ _ _ _ us hl => match us, hl with | [_, _], _ => rfl) rfl
theorem ob__law_words (F : Facts fa fn exK B) : n__law_words.obl B 1 := obl_list (l := [.call "_law_word" 2 g__law_word]) rfl ⟨(k__law_word F).mono (by decide), trivial⟩
theorem k__law_words (F : Facts fa fn exK B) : Callee B 2 "_law_words" 1 g__law_words := F.callee (bok F) 1 19 rfl rfl sc__law_words ck__law_words (ob__law_words F) (fun _ _ _ _ _ _ us hl => match us, hl with | [_], _ => rfl) rfl
theorem ob__law_number (F : Facts fa fn exK B) : n__law_number.obl B 0 := obl_list (l := []) rfl trivial
theorem k__law_number (F : Facts fa fn exK B) : Callee B 1 "_law_number" 3 g__law_number := F.callee (bok F) 2 20 rfl rfl sc__law_number ck__law_number (ob__law_number F) (fun _ _ _ _ _ _ us hl => match us, hl with | [_, _, _], _ => rfl) rfl
theorem ob__law_end (F : Facts fa fn exK B) : n__law_end.obl B 0 := obl_list (l := []) rfl trivial
theorem k__law_end (F : Facts fa fn exK B) : Callee B 1 "_law_end" 2 g__law_end := F.callee (bok F) 3 21 rfl rfl sc__law_end ck__law_end (ob__law_end F) (fun _ _ _ _ _ _ us hl => match us, hl with | [_, _], _ => rfl) rfl
theorem ob__law_rule (F : Facts fa fn exK B) : n__law_rule.obl B 1 := obl_list (l := [.call "_law_end" 2 g__law_end, .call "_law_end" 2 g__law_end]) rfl ⟨(k__law_end F).mono (by decide), (k__law_end F).mono (by decide), trivial⟩
theorem k__law_rule (F : Facts fa fn exK B) : Callee B 2 "_law_rule" 2 g__law_rule := F.callee (bok F) 4 22 rfl rfl sc__law_rule ck__law_rule (ob__law_rule F) (fun _ _ _ _ _ _ us hl => match us, hl with | [_, _], _ => rfl) rfl
theorem ob__law_book (F : Facts fa fn exK B) : n__law_book.obl B 2 := obl_list (l := [.call "_law_words" 1 g__law_words, .call "_law_number" 3 g__law_number, .call "_law_rule" 2 g__law_rule, .call "_law_number" 3 g__law_number]) rfl ⟨(k__law_words F).mono (by decide), (k__law_number F).mono (by decide), (k__law_rule F).mono (by decide), (k__law_number F).mono (by decide), trivial⟩
theorem k__law_book (F : Facts fa fn exK B) : Callee B 3 "_law_book" 2 g__law_book := F.callee (bok F) 5 23 rfl rfl sc__law_book ck__law_book (ob__law_book F) (fun _ _ _ _ _ _ us hl => match us, hl with | [_, _], _ => rfl) rfl
theorem ob__law_sites (F : Facts fa fn exK B) : n__law_sites.obl B 0 := obl_list (l := []) rfl trivial
theorem k__law_sites (F : Facts fa fn exK B) : Callee B 1 "_law_sites" 1 g__law_sites := F.callee (bok F) 6 24 rfl rfl sc__law_sites ck__law_sites (ob__law_sites F) (fun _ _ _ _ _ _ us hl => match us, hl with | [_], _ => rfl) rfl
theorem ob__law_some (F : Facts fa fn exK B) : n__law_some.obl B 1 := obl_list (l := [.call "_law_sites" 1 g__law_sites, .call "_law_number" 3 g__law_number]) rfl ⟨(k__law_sites F).mono (by decide), (k__law_number F).mono (by decide), trivial⟩
theorem k__law_some (F : Facts fa fn exK B) : Callee B 2 "_law_some" 2 g__law_some := F.callee (bok F) 7 25 rfl rfl sc__law_some ck__law_some (ob__law_some F) (fun _ _ _ _ _ _ us hl => match us, hl with | [_, _], _ => rfl) rfl
theorem ob__law_meets (F : Facts fa fn exK B) : n__law_meets.obl B 0 := obl_list (l := []) rfl trivial
theorem k__law_meets (F : Facts fa fn exK B) : Callee B 1 "_law_meets" 3 g__law_meets := F.callee (bok F) 8 26 rfl rfl sc__law_meets ck__law_meets (ob__law_meets F) (fun _ _ _ _ _ _ us hl => match us, hl with | [_, _, _], _ => rfl) rfl
theorem ob__law_first (F : Facts fa fn exK B) : n__law_first.obl B 1 := obl_list (l := [.call "_law_meets" 3 g__law_meets]) rfl ⟨(k__law_meets F).mono (by decide), trivial⟩
theorem k__law_first (F : Facts fa fn exK B) : Callee B 2 "_law_first" 3 g__law_first := F.callee (bok F) 9 27 rfl rfl sc__law_first ck__law_first (ob__law_first F) (fun _ _ _ _ _ _ us hl => match us, hl with | [_, _, _], _ => rfl) rfl
theorem ob__law_lets (F : Facts fa fn exK B) : n__law_lets.obl B 2 := obl_list (l := [.call "_law_first" 3 g__law_first]) rfl ⟨(k__law_first F).mono (by decide), trivial⟩
theorem k__law_lets (F : Facts fa fn exK B) : Callee B 3 "_law_lets" 3 g__law_lets := F.callee (bok F) 10 28 rfl rfl sc__law_lets ck__law_lets (ob__law_lets F) (fun _ _ _ _ _ _ us hl => match us, hl with | [_, _, _], _ => rfl) rfl
theorem ob__law_parted (F : Facts fa fn exK B) : n__law_parted.obl B 3 := obl_list (l := [.call "_law_sites" 1 g__law_sites, .call "_law_lets" 3 g__law_lets, .call "_law_lets" 3 g__law_lets]) rfl ⟨(k__law_sites F).mono (by decide), (k__law_lets F).mono (by decide), (k__law_lets F).mono (by decide), trivial⟩
theorem k__law_parted (F : Facts fa fn exK B) : Callee B 4 "_law_parted" 2 g__law_parted := F.callee (bok F) 11 29 rfl rfl sc__law_parted ck__law_parted (ob__law_parted F) (fun _ _ _ _ _ _ us hl => match us, hl with | [_, _], _ => rfl) rfl
theorem ob_fresh_names (F : Facts fa fn exK B) : n_fresh_names.obl B 0 := obl_list (l := []) rfl trivial
theorem k_fresh_names (F : Facts fa fn exK B) : Callee B 1 "fresh_names" 1 g_fresh_names := F.callee (bok F) 12 30 rfl rfl sc_fresh_names ck_fresh_names (ob_fresh_names F) (fun _ _ _ _ _ _ us hl => match us, hl with | [_], _ => rfl) rfl
theorem ob_sites_for (F : Facts fa fn exK B) : n_sites_for.obl B 1 := obl_list (l := [.con "KINDS" (.tup [.str "door", .str "inner"]), .call "fresh_names" 1 g_fresh_names, .con "MOST_LAYER" (.int 3), .con "KINDS" (.tup [.str "door", .str "inner"])]) rfl ⟨F.tup (zs := ["door", "inner"]) 31 rfl (exAt F.more 0 rfl), (k_fresh_names F).mono (by decide), F.int 32 rfl, F.tup (zs := ["door", "inner"]) 31 rfl (exAt F.more 0 rfl), trivial⟩
theorem k_sites_for (F : Facts fa fn exK B) : Callee B 2 "sites_for" 1 g_sites_for := F.callee (bok F) 13 33 rfl rfl sc_sites_for ck_sites_for (ob_sites_for F) (fun _ _ _ _ _ _ us hl => match us, hl with | [_], _ => rfl) rfl
theorem ob_Part___init__ (F : Facts fa fn exK B) : n_Part___init__.obl B 0 := obl_list (l := []) rfl trivial
theorem k_From (F : Facts fa fn exK B) : Callee B 2 "From" 1 g_From := F.made (bok F) 14 34 35 36 (fs := ["told"]) (q := "Part.__init__") rfl rfl rfl rfl sc_Part___init__ ck_Part___init__ (ob_Part___init__ F) (fun _ _ _ _ _ _ us hl => match us, hl with | [_, _], _ => rfl) rfl (all_of ⟨F.noat 37 rfl, trivial⟩) (by decide +kernel) (by decide) rfl
theorem k_To (F : Facts fa fn exK B) : Callee B 2 "To" 1 g_To := F.made (bok F) 15 38 39 40 (fs := ["told"]) (q := "Part.__init__") rfl rfl rfl rfl sc_Part___init__ ck_Part___init__ (ob_Part___init__ F) (fun _ _ _ _ _ _ us hl => match us, hl with | [_, _], _ => rfl) rfl (all_of ⟨F.noat 41 rfl, trivial⟩) (by decide +kernel) (by decide) rfl
theorem k_Step (F : Facts fa fn exK B) : Callee B 2 "Step" 1 g_Step := F.made (bok F) 16 42 43 44 (fs := ["told"]) (q := "Part.__init__") rfl rfl rfl rfl sc_Part___init__ ck_Part___init__ (ob_Part___init__ F) (fun _ _ _ _ _ _ us hl => match us, hl with | [_, _], _ => rfl) rfl (all_of ⟨F.noat 45 rfl, trivial⟩) (by decide +kernel) (by decide) rfl
theorem k_Near (F : Facts fa fn exK B) : Callee B 2 "Near" 1 g_Near := F.made (bok F) 17 46 47 48 (fs := ["told"]) (q := "Part.__init__") rfl rfl rfl rfl sc_Part___init__ ck_Part___init__ (ob_Part___init__ F) (fun _ _ _ _ _ _ us hl => match us, hl with | [_, _], _ => rfl) rfl (all_of ⟨F.noat 49 rfl, trivial⟩) (by decide +kernel) (by decide) rfl
theorem k_Gap (F : Facts fa fn exK B) : Callee B 2 "Gap" 1 g_Gap := F.made (bok F) 18 50 51 52 (fs := ["told"]) (q := "Part.__init__") rfl rfl rfl rfl sc_Part___init__ ck_Part___init__ (ob_Part___init__ F) (fun _ _ _ _ _ _ us hl => match us, hl with | [_, _], _ => rfl) rfl (all_of ⟨F.noat 53 rfl, trivial⟩) (by decide +kernel) (by decide) rfl
theorem ob_parts_of (F : Facts fa fn exK B) : n_parts_of.obl B 2 := obl_list (l := [.call "From" 1 g_From, .call "To" 1 g_To, .call "Step" 1 g_Step, .call "Near" 1 g_Near, .call "Gap" 1 g_Gap, .fld "told" ["From", "To", "Step", "Near", "Gap"]]) rfl ⟨(k_From F).mono (by decide), (k_To F).mono (by decide), (k_Step F).mono (by decide), (k_Near F).mono (by decide), (k_Gap F).mono (by decide), fld_of ⟨⟨F.cls 35 rfl, F.noat 37 rfl⟩, ⟨F.cls 39 rfl, F.noat 41 rfl⟩, ⟨F.cls 43 rfl, F.noat 45 rfl⟩, ⟨F.cls 47 rfl, F.noat 49 rfl⟩, ⟨F.cls 51 rfl, F.noat 53 rfl⟩, trivial⟩, trivial⟩
theorem k_parts_of (F : Facts fa fn exK B) : Callee B 3 "parts_of" 1 g_parts_of := F.callee (bok F) 19 54 rfl rfl sc_parts_of ck_parts_of (ob_parts_of F) (fun _ _ _ _ _ _ us hl => match us, hl with | [_], _ => rfl) rfl
theorem ob_Reader___init__ (F : Facts fa fn exK B) : n_Reader___init__.obl B 3 := obl_list (l := [.call "parts_of" 1 g_parts_of]) rfl ⟨(k_parts_of F).mono (by decide), trivial⟩
theorem k_Reader (F : Facts fa fn exK B) : Callee B 5 "Reader" 1 g_Reader := F.made (bok F) 20 55 56 57 (fs := ["rows", "last"]) (q := "Reader.__init__") rfl rfl rfl rfl sc_Reader___init__ ck_Reader___init__ (ob_Reader___init__ F) (fun _ _ _ _ _ _ us hl => match us, hl with | [_, _], _ => rfl) rfl (all_of ⟨F.noat 58 rfl, F.noat 59 rfl, trivial⟩) (by decide +kernel) (by decide) rfl
theorem ob_From_fits (F : Facts fa fn exK B) : n_From_fits.obl B 0 := obl_list (l := [.fld "told" ["From", "To", "Step", "Near", "Gap"], .fld "told" ["From", "To", "Step", "Near", "Gap"], .con "KINDS" (.tup [.str "door", .str "inner"])]) rfl ⟨fld_of ⟨⟨F.cls 35 rfl, F.noat 37 rfl⟩, ⟨F.cls 39 rfl, F.noat 41 rfl⟩, ⟨F.cls 43 rfl, F.noat 45 rfl⟩, ⟨F.cls 47 rfl, F.noat 49 rfl⟩, ⟨F.cls 51 rfl, F.noat 53 rfl⟩, trivial⟩, fld_of ⟨⟨F.cls 35 rfl, F.noat 37 rfl⟩, ⟨F.cls 39 rfl, F.noat 41 rfl⟩, ⟨F.cls 43 rfl, F.noat 45 rfl⟩, ⟨F.cls 47 rfl, F.noat 49 rfl⟩, ⟨F.cls 51 rfl, F.noat 53 rfl⟩, trivial⟩, F.tup (zs := ["door", "inner"]) 31 rfl (exAt F.more 0 rfl), trivial⟩
theorem m_From_fits (F : Facts fa fn exK B) : MCallee B 1 "fits" "From" 3 g_From_fits := F.meth (bok F) 21 35 60 (q := "From.fits") rfl rfl rfl sc_From_fits ck_From_fits (ob_From_fits F) (fun _ _ _ _ _ _ us hl => match us, hl with | [_, _, _], _ => rfl)
theorem ob_To_fits (F : Facts fa fn exK B) : n_To_fits.obl B 0 := obl_list (l := [.fld "told" ["From", "To", "Step", "Near", "Gap"], .fld "told" ["From", "To", "Step", "Near", "Gap"], .con "KINDS" (.tup [.str "door", .str "inner"])]) rfl ⟨fld_of ⟨⟨F.cls 35 rfl, F.noat 37 rfl⟩, ⟨F.cls 39 rfl, F.noat 41 rfl⟩, ⟨F.cls 43 rfl, F.noat 45 rfl⟩, ⟨F.cls 47 rfl, F.noat 49 rfl⟩, ⟨F.cls 51 rfl, F.noat 53 rfl⟩, trivial⟩, fld_of ⟨⟨F.cls 35 rfl, F.noat 37 rfl⟩, ⟨F.cls 39 rfl, F.noat 41 rfl⟩, ⟨F.cls 43 rfl, F.noat 45 rfl⟩, ⟨F.cls 47 rfl, F.noat 49 rfl⟩, ⟨F.cls 51 rfl, F.noat 53 rfl⟩, trivial⟩, F.tup (zs := ["door", "inner"]) 31 rfl (exAt F.more 0 rfl), trivial⟩
theorem m_To_fits (F : Facts fa fn exK B) : MCallee B 1 "fits" "To" 3 g_To_fits := F.meth (bok F) 22 39 61 (q := "To.fits") rfl rfl rfl sc_To_fits ck_To_fits (ob_To_fits F) (fun _ _ _ _ _ _ us hl => match us, hl with | [_, _, _], _ => rfl)
theorem ob_Step_fits (F : Facts fa fn exK B) : n_Step_fits.obl B 0 := obl_list (l := [.fld "told" ["From", "To", "Step", "Near", "Gap"], .fld "told" ["From", "To", "Step", "Near", "Gap"]]) rfl ⟨fld_of ⟨⟨F.cls 35 rfl, F.noat 37 rfl⟩, ⟨F.cls 39 rfl, F.noat 41 rfl⟩, ⟨F.cls 43 rfl, F.noat 45 rfl⟩, ⟨F.cls 47 rfl, F.noat 49 rfl⟩, ⟨F.cls 51 rfl, F.noat 53 rfl⟩, trivial⟩, fld_of ⟨⟨F.cls 35 rfl, F.noat 37 rfl⟩, ⟨F.cls 39 rfl, F.noat 41 rfl⟩, ⟨F.cls 43 rfl, F.noat 45 rfl⟩, ⟨F.cls 47 rfl, F.noat 49 rfl⟩, ⟨F.cls 51 rfl, F.noat 53 rfl⟩, trivial⟩, trivial⟩
theorem m_Step_fits (F : Facts fa fn exK B) : MCallee B 1 "fits" "Step" 3 g_Step_fits := F.meth (bok F) 23 43 62 (q := "Step.fits") rfl rfl rfl sc_Step_fits ck_Step_fits (ob_Step_fits F) (fun _ _ _ _ _ _ us hl => match us, hl with | [_, _, _], _ => rfl)
theorem ob_Near_fits (F : Facts fa fn exK B) : n_Near_fits.obl B 0 := obl_list (l := [.fld "told" ["From", "To", "Step", "Near", "Gap"]]) rfl ⟨fld_of ⟨⟨F.cls 35 rfl, F.noat 37 rfl⟩, ⟨F.cls 39 rfl, F.noat 41 rfl⟩, ⟨F.cls 43 rfl, F.noat 45 rfl⟩, ⟨F.cls 47 rfl, F.noat 49 rfl⟩, ⟨F.cls 51 rfl, F.noat 53 rfl⟩, trivial⟩, trivial⟩
theorem m_Near_fits (F : Facts fa fn exK B) : MCallee B 1 "fits" "Near" 3 g_Near_fits := F.meth (bok F) 24 47 63 (q := "Near.fits") rfl rfl rfl sc_Near_fits ck_Near_fits (ob_Near_fits F) (fun _ _ _ _ _ _ us hl => match us, hl with | [_, _, _], _ => rfl)
theorem ob_Gap_fits (F : Facts fa fn exK B) : n_Gap_fits.obl B 0 := obl_list (l := [.fld "told" ["From", "To", "Step", "Near", "Gap"]]) rfl ⟨fld_of ⟨⟨F.cls 35 rfl, F.noat 37 rfl⟩, ⟨F.cls 39 rfl, F.noat 41 rfl⟩, ⟨F.cls 43 rfl, F.noat 45 rfl⟩, ⟨F.cls 47 rfl, F.noat 49 rfl⟩, ⟨F.cls 51 rfl, F.noat 53 rfl⟩, trivial⟩, trivial⟩
theorem m_Gap_fits (F : Facts fa fn exK B) : MCallee B 1 "fits" "Gap" 3 g_Gap_fits := F.meth (bok F) 25 51 64 (q := "Gap.fits") rfl rfl rfl sc_Gap_fits ck_Gap_fits (ob_Gap_fits F) (fun _ _ _ _ _ _ us hl => match us, hl with | [_, _, _], _ => rfl)
theorem ob_Reader_first (F : Facts fa fn exK B) : n_Reader_first.obl B 1 := obl_list (l := [.fld "rows" ["Reader"], .om "fits" 3 [("From", g_From_fits), ("To", g_To_fits), ("Step", g_Step_fits), ("Near", g_Near_fits), ("Gap", g_Gap_fits)]]) rfl ⟨fld_of ⟨⟨F.cls 56 rfl, F.noat 58 rfl⟩, trivial⟩, om_of ⟨(m_From_fits F).mono (by decide), (m_To_fits F).mono (by decide), (m_Step_fits F).mono (by decide), (m_Near_fits F).mono (by decide), (m_Gap_fits F).mono (by decide), trivial⟩, trivial⟩
theorem m_Reader_first (F : Facts fa fn exK B) : MCallee B 2 "first" "Reader" 3 g_Reader_first := F.meth (bok F) 26 56 65 (q := "Reader.first") rfl rfl rfl sc_Reader_first ck_Reader_first (ob_Reader_first F) (fun _ _ _ _ _ _ us hl => match us, hl with | [_, _, _], _ => rfl)
theorem ob_Reader_lets (F : Facts fa fn exK B) : n_Reader_lets.obl B 2 := obl_list (l := [.om "first" 3 [("Reader", g_Reader_first)], .fld "last" ["Reader"]]) rfl ⟨om_of ⟨(m_Reader_first F).mono (by decide), trivial⟩, fld_of ⟨⟨F.cls 56 rfl, F.noat 59 rfl⟩, trivial⟩, trivial⟩
theorem m_Reader_lets (F : Facts fa fn exK B) : MCallee B 3 "lets" "Reader" 3 g_Reader_lets := F.meth (bok F) 27 56 66 (q := "Reader.lets") rfl rfl rfl sc_Reader_lets ck_Reader_lets (ob_Reader_lets F) (fun _ _ _ _ _ _ us hl => match us, hl with | [_, _, _], _ => rfl)
theorem ob_pair_parted (F : Facts fa fn exK B) : n_pair_parted.obl B 5 := obl_list (l := [.call "sites_for" 1 g_sites_for, .call "Reader" 1 g_Reader, .call "Reader" 1 g_Reader, .om "lets" 3 [("Reader", g_Reader_lets)], .om "lets" 3 [("Reader", g_Reader_lets)]]) rfl ⟨(k_sites_for F).mono (by decide), (k_Reader F).mono (by decide), (k_Reader F).mono (by decide), om_of ⟨(m_Reader_lets F).mono (by decide), trivial⟩, om_of ⟨(m_Reader_lets F).mono (by decide), trivial⟩, trivial⟩
theorem k_pair_parted (F : Facts fa fn exK B) : Callee B 6 "pair_parted" 2 g_pair_parted := F.callee (bok F) 28 67 rfl rfl sc_pair_parted ck_pair_parted (ob_pair_parted F) (fun _ _ _ _ _ _ us hl => match us, hl with | [_, _], _ => rfl) rfl
theorem ob_is_let (F : Facts fa fn exK B) : n_is_let.obl B 5 := obl_list (l := [.om "lets" 3 [("Reader", g_Reader_lets)], .call "Reader" 1 g_Reader]) rfl ⟨om_of ⟨(m_Reader_lets F).mono (by decide), trivial⟩, (k_Reader F).mono (by decide), trivial⟩
theorem k_is_let (F : Facts fa fn exK B) : Callee B 6 "is_let" 3 g_is_let := F.callee (bok F) 29 68 rfl rfl sc_is_let ck_is_let (ob_is_let F) (fun _ _ _ _ _ _ us hl => match us, hl with | [_, _, _], _ => rfl) rfl
theorem ob_first_met (F : Facts fa fn exK B) : n_first_met.obl B 5 := obl_list (l := [.om "first" 3 [("Reader", g_Reader_first)], .call "Reader" 1 g_Reader]) rfl ⟨om_of ⟨(m_Reader_first F).mono (by decide), trivial⟩, (k_Reader F).mono (by decide), trivial⟩
theorem k_first_met (F : Facts fa fn exK B) : Callee B 6 "first_met" 3 g_first_met := F.callee (bok F) 30 69 rfl rfl sc_first_met ck_first_met (ob_first_met F) (fun _ _ _ _ _ _ us hl => match us, hl with | [_, _, _], _ => rfl) rfl
theorem ob_pair_used (F : Facts fa fn exK B) : n_pair_used.obl B 5 := obl_list (l := [.call "sites_for" 1 g_sites_for, .call "Reader" 1 g_Reader, .om "first" 3 [("Reader", g_Reader_first)]]) rfl ⟨(k_sites_for F).mono (by decide), (k_Reader F).mono (by decide), om_of ⟨(m_Reader_first F).mono (by decide), trivial⟩, trivial⟩
theorem k_pair_used (F : Facts fa fn exK B) : Callee B 6 "pair_used" 2 g_pair_used := F.callee (bok F) 31 70 rfl rfl sc_pair_used ck_pair_used (ob_pair_used F) (fun _ _ _ _ _ _ us hl => match us, hl with | [_, _], _ => rfl) rfl
theorem k_Alike (F : Facts fa fn exK B) : Callee B 0 "Alike" 0 g_Alike := F.madeO 71 rfl (exAt F.more 1 rfl) rfl
theorem ob_Parted___init__ (F : Facts fa fn exK B) : n_Parted___init__.obl B 0 := obl_list (l := []) rfl trivial
theorem k_Parted (F : Facts fa fn exK B) : Callee B 2 "Parted" 2 g_Parted := F.made (bok F) 32 72 73 74 (fs := ["one", "other"]) (q := "Parted.__init__") rfl rfl rfl rfl sc_Parted___init__ ck_Parted___init__ (ob_Parted___init__ F) (fun _ _ _ _ _ _ us hl => match us, hl with | [_, _, _], _ => rfl) rfl (all_of ⟨F.noat 75 rfl, F.noat 76 rfl, trivial⟩) (by decide +kernel) (by decide) rfl
theorem ob_Alike_shows (F : Facts fa fn exK B) : n_Alike_shows.obl B 6 := obl_list (l := [.call "pair_parted" 2 g_pair_parted]) rfl ⟨(k_pair_parted F).mono (by decide), trivial⟩
theorem m_Alike_shows (F : Facts fa fn exK B) : MCallee B 7 "shows" "Alike" 3 g_Alike_shows := F.meth (bok F) 33 77 78 (q := "Alike.shows") rfl rfl rfl sc_Alike_shows ck_Alike_shows (ob_Alike_shows F) (fun _ _ _ _ _ _ us hl => match us, hl with | [_, _, _], _ => rfl)
theorem ob_Parted_shows (F : Facts fa fn exK B) : n_Parted_shows.obl B 6 := obl_list (l := [.call "is_let" 3 g_is_let, .fld "one" ["Parted", "Used"], .fld "other" ["Parted", "Used"], .call "is_let" 3 g_is_let, .fld "one" ["Parted", "Used"], .fld "other" ["Parted", "Used"]]) rfl ⟨(k_is_let F).mono (by decide), fld_of ⟨⟨F.cls 73 rfl, F.noat 75 rfl⟩, ⟨F.cls 79 rfl, F.noat 80 rfl⟩, trivial⟩, fld_of ⟨⟨F.cls 73 rfl, F.noat 76 rfl⟩, ⟨F.cls 79 rfl, F.noat 81 rfl⟩, trivial⟩, (k_is_let F).mono (by decide), fld_of ⟨⟨F.cls 73 rfl, F.noat 75 rfl⟩, ⟨F.cls 79 rfl, F.noat 80 rfl⟩, trivial⟩, fld_of ⟨⟨F.cls 73 rfl, F.noat 76 rfl⟩, ⟨F.cls 79 rfl, F.noat 81 rfl⟩, trivial⟩, trivial⟩
theorem m_Parted_shows (F : Facts fa fn exK B) : MCallee B 7 "shows" "Parted" 3 g_Parted_shows := F.meth (bok F) 34 73 82 (q := "Parted.shows") rfl rfl rfl sc_Parted_shows ck_Parted_shows (ob_Parted_shows F) (fun _ _ _ _ _ _ us hl => match us, hl with | [_, _, _], _ => rfl)
theorem ob_Used_shows (F : Facts fa fn exK B) : n_Used_shows.obl B 6 := obl_list (l := [.call "first_met" 3 g_first_met, .fld "one" ["Parted", "Used"], .fld "other" ["Parted", "Used"]]) rfl ⟨(k_first_met F).mono (by decide), fld_of ⟨⟨F.cls 73 rfl, F.noat 75 rfl⟩, ⟨F.cls 79 rfl, F.noat 80 rfl⟩, trivial⟩, fld_of ⟨⟨F.cls 73 rfl, F.noat 76 rfl⟩, ⟨F.cls 79 rfl, F.noat 81 rfl⟩, trivial⟩, trivial⟩
theorem m_Used_shows (F : Facts fa fn exK B) : MCallee B 7 "shows" "Used" 3 g_Used_shows := F.meth (bok F) 35 79 83 (q := "Used.shows") rfl rfl rfl sc_Used_shows ck_Used_shows (ob_Used_shows F) (fun _ _ _ _ _ _ us hl => match us, hl with | [_, _, _], _ => rfl)
theorem ob_Idle_shows (F : Facts fa fn exK B) : n_Idle_shows.obl B 6 := obl_list (l := [.call "pair_used" 2 g_pair_used]) rfl ⟨(k_pair_used F).mono (by decide), trivial⟩
theorem m_Idle_shows (F : Facts fa fn exK B) : MCallee B 7 "shows" "Idle" 3 g_Idle_shows := F.meth (bok F) 36 84 85 (q := "Idle.shows") rfl rfl rfl sc_Idle_shows ck_Idle_shows (ob_Idle_shows F) (fun _ _ _ _ _ _ us hl => match us, hl with | [_, _, _], _ => rfl)
theorem ob__law_two_right (F : Facts fa fn exK B) : n__law_two_right.obl B 7 := obl_list (l := [.call "_law_parted" 2 g__law_parted, .om "shows" 3 [("Alike", g_Alike_shows), ("Parted", g_Parted_shows), ("Used", g_Used_shows), ("Idle", g_Idle_shows)], .call "Alike" 0 g_Alike, .call "Parted" 2 g_Parted, .om "shows" 3 [("Alike", g_Alike_shows), ("Parted", g_Parted_shows), ("Used", g_Used_shows), ("Idle", g_Idle_shows)], .fld "one" ["Parted", "Used"], .fld "other" ["Parted", "Used"], .call "_law_lets" 3 g__law_lets, .call "_law_lets" 3 g__law_lets]) rfl ⟨(k__law_parted F).mono (by decide), om_of ⟨(m_Alike_shows F).mono (by decide), (m_Parted_shows F).mono (by decide), (m_Used_shows F).mono (by decide), (m_Idle_shows F).mono (by decide), trivial⟩, (k_Alike F).mono (by decide), (k_Parted F).mono (by decide), om_of ⟨(m_Alike_shows F).mono (by decide), (m_Parted_shows F).mono (by decide), (m_Used_shows F).mono (by decide), (m_Idle_shows F).mono (by decide), trivial⟩, fld_of ⟨⟨F.cls 73 rfl, F.noat 75 rfl⟩, ⟨F.cls 79 rfl, F.noat 80 rfl⟩, trivial⟩, fld_of ⟨⟨F.cls 73 rfl, F.noat 76 rfl⟩, ⟨F.cls 79 rfl, F.noat 81 rfl⟩, trivial⟩, (k__law_lets F).mono (by decide), (k__law_lets F).mono (by decide), trivial⟩
theorem k__law_two_right (F : Facts fa fn exK B) : Callee B 8 "_law_two_right" 3 g__law_two_right := F.callee (bok F) 37 86 rfl rfl sc__law_two_right ck__law_two_right (ob__law_two_right F) (fun _ _ _ _ _ _ us hl => match us, hl with | [_, _, _], _ => rfl) rfl
theorem ob__law_decided (F : Facts fa fn exK B) : n__law_decided.obl B 2 := obl_list (l := [.call "_law_sites" 1 g__law_sites, .call "_law_first" 3 g__law_first]) rfl ⟨(k__law_sites F).mono (by decide), (k__law_first F).mono (by decide), trivial⟩
theorem k__law_decided (F : Facts fa fn exK B) : Callee B 3 "_law_decided" 1 g__law_decided := F.callee (bok F) 38 87 rfl rfl sc__law_decided ck__law_decided (ob__law_decided F) (fun _ _ _ _ _ _ us hl => match us, hl with | [_], _ => rfl) rfl
theorem k_Idle (F : Facts fa fn exK B) : Callee B 0 "Idle" 0 g_Idle := F.madeO 88 rfl (exAt F.more 2 rfl) rfl
theorem ob_Used___init__ (F : Facts fa fn exK B) : n_Used___init__.obl B 0 := obl_list (l := []) rfl trivial
theorem k_Used (F : Facts fa fn exK B) : Callee B 2 "Used" 2 g_Used := F.made (bok F) 39 89 79 90 (fs := ["one", "other"]) (q := "Used.__init__") rfl rfl rfl rfl sc_Used___init__ ck_Used___init__ (ob_Used___init__ F) (fun _ _ _ _ _ _ us hl => match us, hl with | [_, _, _], _ => rfl) rfl (all_of ⟨F.noat 80 rfl, F.noat 81 rfl, trivial⟩) (by decide +kernel) (by decide) rfl
theorem ob_is_name (F : Facts fa fn exK B) : n_is_name.obl B 0 := obl_list (l := [.con "LONGEST" (.int 8), .con "LETTERS" (.str "abcdefghijklmnopqrstuvwxyz")]) rfl ⟨F.int 91 rfl, F.str 92 rfl, trivial⟩
theorem k_is_name (F : Facts fa fn exK B) : Callee B 1 "is_name" 1 g_is_name := F.callee (bok F) 40 93 rfl rfl sc_is_name ck_is_name (ob_is_name F) (fun _ _ _ _ _ _ us hl => match us, hl with | [_], _ => rfl) rfl
theorem ob_is_one_of (F : Facts fa fn exK B) : n_is_one_of.obl B 0 := obl_list (l := []) rfl trivial
theorem k_is_one_of (F : Facts fa fn exK B) : Callee B 1 "is_one_of" 2 g_is_one_of := F.callee (bok F) 41 94 rfl rfl sc_is_one_of ck_is_one_of (ob_is_one_of F) (fun _ _ _ _ _ _ us hl => match us, hl with | [_, _], _ => rfl) rfl
theorem ob_is_between (F : Facts fa fn exK B) : n_is_between.obl B 0 := obl_list (l := []) rfl trivial
theorem k_is_between (F : Facts fa fn exK B) : Callee B 1 "is_between" 3 g_is_between := F.callee (bok F) 42 95 rfl rfl sc_is_between ck_is_between (ob_is_between F) (fun _ _ _ _ _ _ us hl => match us, hl with | [_, _, _], _ => rfl) rfl
theorem ob_is_rule (F : Facts fa fn exK B) : n_is_rule.obl B 1 := obl_list (l := [.call "is_name" 1 g_is_name, .call "is_one_of" 2 g_is_one_of, .call "is_one_of" 2 g_is_one_of, .call "is_between" 3 g_is_between, .con "MOST_LAYER" (.int 3), .call "is_one_of" 2 g_is_one_of]) rfl ⟨(k_is_name F).mono (by decide), (k_is_one_of F).mono (by decide), (k_is_one_of F).mono (by decide), (k_is_between F).mono (by decide), F.int 32 rfl, (k_is_one_of F).mono (by decide), trivial⟩
theorem k_is_rule (F : Facts fa fn exK B) : Callee B 2 "is_rule" 1 g_is_rule := F.callee (bok F) 43 96 rfl rfl sc_is_rule ck_is_rule (ob_is_rule F) (fun _ _ _ _ _ _ us hl => match us, hl with | [_], _ => rfl) rfl
theorem ob_is_book (F : Facts fa fn exK B) : n_is_book.obl B 2 := obl_list (l := [.con "MOST_RULES" (.int 8), .call "is_rule" 1 g_is_rule]) rfl ⟨F.int 97 rfl, (k_is_rule F).mono (by decide), trivial⟩
theorem k_is_book (F : Facts fa fn exK B) : Callee B 3 "is_book" 1 g_is_book := F.callee (bok F) 44 98 rfl rfl sc_is_book ck_is_book (ob_is_book F) (fun _ _ _ _ _ _ us hl => match us, hl with | [_], _ => rfl) rfl
theorem ob_check_book (F : Facts fa fn exK B) : n_check_book.obl B 3 := obl_list (l := [.call "is_book" 1 g_is_book]) rfl ⟨(k_is_book F).mono (by decide), trivial⟩
theorem k_check_book (F : Facts fa fn exK B) : Callee B 4 "check_book" 1 g_check_book := F.callee (bok F) 45 99 rfl rfl sc_check_book ck_check_book (ob_check_book F) (fun _ _ _ _ _ _ us hl => match us, hl with | [_], _ => rfl) rfl
theorem ob_is_site (F : Facts fa fn exK B) : n_is_site.obl B 1 := obl_list (l := [.call "is_between" 3 g_is_between, .con "MOST_LAYER" (.int 3), .call "is_name" 1 g_is_name, .con "KINDS" (.tup [.str "door", .str "inner"]), .con "KINDS" (.tup [.str "door", .str "inner"])]) rfl ⟨(k_is_between F).mono (by decide), F.int 32 rfl, (k_is_name F).mono (by decide), F.tup (zs := ["door", "inner"]) 31 rfl (exAt F.more 0 rfl), F.tup (zs := ["door", "inner"]) 31 rfl (exAt F.more 0 rfl), trivial⟩
theorem k_is_site (F : Facts fa fn exK B) : Callee B 2 "is_site" 1 g_is_site := F.callee (bok F) 46 100 rfl rfl sc_is_site ck_is_site (ob_is_site F) (fun _ _ _ _ _ _ us hl => match us, hl with | [_], _ => rfl) rfl
theorem ob_decides (F : Facts fa fn exK B) : n_decides.obl B 6 := obl_list (l := [.call "check_book" 1 g_check_book, .call "is_site" 1 g_is_site, .call "is_site" 1 g_is_site, .call "first_met" 3 g_first_met]) rfl ⟨(k_check_book F).mono (by decide), (k_is_site F).mono (by decide), (k_is_site F).mono (by decide), (k_first_met F).mono (by decide), trivial⟩
theorem k_decides (F : Facts fa fn exK B) : Callee B 7 "decides" 3 g_decides := F.callee (bok F) 47 101 rfl rfl sc_decides ck_decides (ob_decides F) (fun _ _ _ _ _ _ us hl => match us, hl with | [_, _, _], _ => rfl) rfl
theorem ob__law_rules_right (F : Facts fa fn exK B) : n__law_rules_right.obl B 7 := obl_list (l := [.call "_law_decided" 1 g__law_decided, .om "shows" 3 [("Alike", g_Alike_shows), ("Parted", g_Parted_shows), ("Used", g_Used_shows), ("Idle", g_Idle_shows)], .call "Idle" 0 g_Idle, .call "Used" 2 g_Used, .fld "one" ["Parted", "Used"], .fld "other" ["Parted", "Used"], .om "shows" 3 [("Alike", g_Alike_shows), ("Parted", g_Parted_shows), ("Used", g_Used_shows), ("Idle", g_Idle_shows)], .call "_law_first" 3 g__law_first, .call "decides" 3 g_decides, .call "_law_first" 3 g__law_first]) rfl ⟨(k__law_decided F).mono (by decide), om_of ⟨(m_Alike_shows F).mono (by decide), (m_Parted_shows F).mono (by decide), (m_Used_shows F).mono (by decide), (m_Idle_shows F).mono (by decide), trivial⟩, (k_Idle F).mono (by decide), (k_Used F).mono (by decide), fld_of ⟨⟨F.cls 73 rfl, F.noat 75 rfl⟩, ⟨F.cls 79 rfl, F.noat 80 rfl⟩, trivial⟩, fld_of ⟨⟨F.cls 73 rfl, F.noat 76 rfl⟩, ⟨F.cls 79 rfl, F.noat 81 rfl⟩, trivial⟩, om_of ⟨(m_Alike_shows F).mono (by decide), (m_Parted_shows F).mono (by decide), (m_Used_shows F).mono (by decide), (m_Idle_shows F).mono (by decide), trivial⟩, (k__law_first F).mono (by decide), (k_decides F).mono (by decide), (k__law_first F).mono (by decide), trivial⟩
theorem k__law_rules_right (F : Facts fa fn exK B) : Callee B 8 "_law_rules_right" 2 g__law_rules_right := F.callee (bok F) 48 102 rfl rfl sc__law_rules_right ck__law_rules_right (ob__law_rules_right F) (fun _ _ _ _ _ _ us hl => match us, hl with | [_, _], _ => rfl) rfl
theorem ob_law (F : Facts fa fn exK B) : n_law.obl B 8 := obl_list (l := [.call "_law_words" 1 g__law_words, .call "_law_book" 2 g__law_book, .call "_law_some" 2 g__law_some, .call "_law_book" 2 g__law_book, .call "_law_rule" 2 g__law_rule, .call "_law_number" 3 g__law_number, .call "_law_two_right" 3 g__law_two_right, .call "_law_rules_right" 2 g__law_rules_right, .om "shows" 3 [("Alike", g_Alike_shows), ("Parted", g_Parted_shows), ("Used", g_Used_shows), ("Idle", g_Idle_shows)], .call "Used" 2 g_Used, .om "shows" 3 [("Alike", g_Alike_shows), ("Parted", g_Parted_shows), ("Used", g_Used_shows), ("Idle", g_Idle_shows)], .call "Used" 2 g_Used, .om "shows" 3 [("Alike", g_Alike_shows), ("Parted", g_Parted_shows), ("Used", g_Used_shows), ("Idle", g_Idle_shows)], .call "Used" 2 g_Used, .om "shows" 3 [("Alike", g_Alike_shows), ("Parted", g_Parted_shows), ("Used", g_Used_shows), ("Idle", g_Idle_shows)], .call "Used" 2 g_Used, .om "shows" 3 [("Alike", g_Alike_shows), ("Parted", g_Parted_shows), ("Used", g_Used_shows), ("Idle", g_Idle_shows)], .call "Idle" 0 g_Idle, .om "shows" 3 [("Alike", g_Alike_shows), ("Parted", g_Parted_shows), ("Used", g_Used_shows), ("Idle", g_Idle_shows)], .call "Idle" 0 g_Idle, .om "shows" 3 [("Alike", g_Alike_shows), ("Parted", g_Parted_shows), ("Used", g_Used_shows), ("Idle", g_Idle_shows)], .call "Parted" 2 g_Parted, .om "shows" 3 [("Alike", g_Alike_shows), ("Parted", g_Parted_shows), ("Used", g_Used_shows), ("Idle", g_Idle_shows)], .call "Parted" 2 g_Parted, .om "shows" 3 [("Alike", g_Alike_shows), ("Parted", g_Parted_shows), ("Used", g_Used_shows), ("Idle", g_Idle_shows)], .call "Alike" 0 g_Alike]) rfl ⟨(k__law_words F).mono (by decide), (k__law_book F).mono (by decide), (k__law_some F).mono (by decide), (k__law_book F).mono (by decide), (k__law_rule F).mono (by decide), (k__law_number F).mono (by decide), (k__law_two_right F).mono (by decide), (k__law_rules_right F).mono (by decide), om_of ⟨(m_Alike_shows F).mono (by decide), (m_Parted_shows F).mono (by decide), (m_Used_shows F).mono (by decide), (m_Idle_shows F).mono (by decide), trivial⟩, (k_Used F).mono (by decide), om_of ⟨(m_Alike_shows F).mono (by decide), (m_Parted_shows F).mono (by decide), (m_Used_shows F).mono (by decide), (m_Idle_shows F).mono (by decide), trivial⟩, (k_Used F).mono (by decide), om_of ⟨(m_Alike_shows F).mono (by decide), (m_Parted_shows F).mono (by decide), (m_Used_shows F).mono (by decide), (m_Idle_shows F).mono (by decide), trivial⟩, (k_Used F).mono (by decide), om_of ⟨(m_Alike_shows F).mono (by decide), (m_Parted_shows F).mono (by decide), (m_Used_shows F).mono (by decide), (m_Idle_shows F).mono (by decide), trivial⟩, (k_Used F).mono (by decide), om_of ⟨(m_Alike_shows F).mono (by decide), (m_Parted_shows F).mono (by decide), (m_Used_shows F).mono (by decide), (m_Idle_shows F).mono (by decide), trivial⟩, (k_Idle F).mono (by decide), om_of ⟨(m_Alike_shows F).mono (by decide), (m_Parted_shows F).mono (by decide), (m_Used_shows F).mono (by decide), (m_Idle_shows F).mono (by decide), trivial⟩, (k_Idle F).mono (by decide), om_of ⟨(m_Alike_shows F).mono (by decide), (m_Parted_shows F).mono (by decide), (m_Used_shows F).mono (by decide), (m_Idle_shows F).mono (by decide), trivial⟩, (k_Parted F).mono (by decide), om_of ⟨(m_Alike_shows F).mono (by decide), (m_Parted_shows F).mono (by decide), (m_Used_shows F).mono (by decide), (m_Idle_shows F).mono (by decide), trivial⟩, (k_Parted F).mono (by decide), om_of ⟨(m_Alike_shows F).mono (by decide), (m_Parted_shows F).mono (by decide), (m_Used_shows F).mono (by decide), (m_Idle_shows F).mono (by decide), trivial⟩, (k_Alike F).mono (by decide), trivial⟩
end
theorem law_fn {B : Bx} (F : Facts fa fn exK B) : ∃ fd, L2.Fun B.K "law" "law" (top 56) (He.fAd B.K ("law", none)) fd ∧ (∀ (s : Shared) (v : Value), BindsTo s fd ⟨[v], []⟩ [("_law_script", v)]) ∧ L2.FnOk B.P B.w B.K B.mg B.base (L2.CX B.P B.w) 9 (He.fAd B.K ("law", none)) fd ["_law_script"] (spN B.Y 1 g_law) := by
  obtain ⟨fd, G, b, ok⟩ := F.fnOk (bok F) 49 (at_ := ("law", none)) (x := "law") (q := "law") (st := top 56) (ps := ["_law_script"]) rfl sc_law ck_law (ob_law F) (fun _ _ _ _ _ _ us hl => match us, hl with | [_], _ => rfl)
  exact ⟨fd, G, bind_law G fun _ _ _ _ _ _ _ => rfl, ok⟩
end NN

set_option Elab.async false
set_option linter.all false
set_option maxRecDepth 100000
set_option maxHeartbeats 0
namespace NN
open PySem PySem.Spec PyProof.Rows L2
abbrev rowL : PySem.W.OpenRow := PySem.W.OpenLaw.row PySem.Challenge.rw_nameleave_k08_books_by_hand
abbrev hk : PySem.W.Hook := He.hookX 5 fa fn [] [] exK
def obL (s : PySem.W.SharedT) : He.AlX := He.obsX 5 fa fn [] [] exK (HandSHeadRun.getT s)
theorem obL_eq (s : PySem.W.SharedT) : obL s = hk.obs s.abs := He.obsX_eq (HandSHeadRun.getT_eq s)
def looseL : List PySem.Str := (["__name__", "LETTERS", "LONGEST", "KINDS", "MOST_LAYER", "MOST_RULES", "is_name", "is_between", "is_site", "is_one_of", "is_rule", "is_book", "Part", "From", "To", "Step", "Near", "Gap", "parts_of", "Reader", "first_met", "is_let", "sites_for", "fresh_names", "pair_parted", "pair_used", "Answer", "Alike", "Parted", "Used"] : List PySem.Str) ++ (["Idle", "LeaveError", "BadBook", "BadSite", "check_book", "decides", "_law_number", "_law_word", "_law_words", "_law_end", "_law_rule", "_law_book", "_law_meets", "_law_first", "_law_lets", "_law_decided", "_law_parted", "_law_sites", "_law_some", "_law_two_right", "_law_rules_right"] : List PySem.Str)
theorem runL (w : World) : HandSHeadRun.RunEq rowL (PySem.W.view rowL.prog [56]) hk obL 20000 looseL w := by
  intro os
  kernel_rfl
end NN

set_option Elab.async false
set_option linter.all false
set_option maxRecDepth 100000
set_option maxHeartbeats 4000000
namespace NN
open PySem
section
variable {env : Env} {st : Sto}
theorem bind_ok {α β : Type} {a : α} {f : α → Sto → Oc β} : (Oc.ok a st).bind f = f a st := rfl
theorem of_some {α : Type} {a : α} : Oc.of (some a) st = .ok a st := rfl
theorem tr_val {t : T} : tr (.ok (.val t) st) = .ok t st := rfl
theorem tr_fresh {c : Own} : tr (.ok (.fresh c) st) = .ok c.tree st := rfl
theorem truth_bl {b : Bool} : truthB (.ok (.val (.bl b)) st) = .ok b st := rfl
theorem view_val {t : T} : view env st (.val t) = some t := rfl
theorem view_fresh {c : Own} : view env st (.fresh c) = some c.tree := rfl
theorem view_slot {i : Nat} {c : Own} (h : env[i]? = some (some (.own c))) : view env st (.at (.slot i)) = some c.tree := by
  show (match env[i]? with
    | some (some (.own c)) => some c.tree
    | _ => none) = _
  rw [h]
theorem qv_var {i : Nat} {t : T} (h : env[i]? = some (some (.val t))) : ev (.var i) env st = .ok (.val t) st := by
  (conv => lhs; unfold ev)
  rw [h]
  try rfl
theorem qv_own {i : Nat} {c : Own} (h : env[i]? = some (some (.own c))) : ev (.var i) env st = .ok (.at (.slot i)) st := by
  (conv => lhs; unfold ev)
  rw [h]
  try rfl
theorem qv_v {i : Nat} : ev (.var i) env st = match env[i]? with
  | some (some (.val t)) => .ok (.val t) st
  | some (some (.own _)) => .ok (.at (.slot i)) st
  | _ => .bad := by
  (conv => lhs; unfold ev)
  try rfl
theorem view_at {i : Nat} : view env st (.at (.slot i)) = match env[i]? with
    | some (some (.own c)) => some c.tree
    | _ => none := rfl
theorem viewT_at {i : Nat} : viewQ true env st (.at (.slot i)) = match env[i]? with
    | some (some (.own c)) => some c.tree
    | _ => none := rfl
theorem qx_ap' {i : Nat} {e : N} : ex (.ap i e) env st = match env[i]? with
      | some (some (.own (.lst ts))) => (tr (ev e env st)).bind fun t st1 => if ts.length < LIM then .ok (.nx (env.set i (some (.own (.lst (ts ++ [t])))))) st1 else .bad
      | _ => .bad := by
  (conv => lhs; unfold ex)
  try rfl
theorem qx_xt' {i : Nat} {e : N} : ex (.xt i e) env st = match env[i]? with
      | some (some (.own (.lst ts))) => (ev e env st).bind fun t st1 => match t with
        | .fresh (.lst us) => if ts.length + us.length ≤ LIM then .ok (.nx (env.set i (some (.own (.lst (ts ++ us)))))) st1 else .bad
        | _ => .bad
      | _ => .bad := by
  (conv => lhs; unfold ex)
  try rfl
theorem qx_frz' {i : Nat} : ex (.frz i) env st = match env[i]? with
      | some (some (.own c)) => .ok (.nx (env.set i (some (.val c.tree)))) st
      | some (some (.val t)) => .ok (.nx env) st
      | _ => .bad := by
  (conv => lhs; unfold ex)
  try rfl
theorem slot_val {t : T} : slotOf env st (.val t) = some (.val t) := rfl
theorem slot_fresh {c : Own} : slotOf env st (.fresh c) = some (.own c) := rfl
theorem ret_val {t : T} : retOf env (.val t) = some (.val t) := rfl
theorem ret_fresh {c : Own} : retOf env (.fresh c) = some (.fresh c) := rfl
theorem ret_at {i : Nat} : retOf env (.at (.slot i)) = match env[i]? with
    | some (some (.own c)) => some (.fresh c)
    | _ => none := rfl
theorem qv_lit {t : T} : ev (.lit t) env st = .ok (.val t) st := by
  (conv => lhs; unfold ev)
  try rfl
theorem qv_glb {x : Str} {t : T} : ev (.glb x t) env st = .ok (.val t) st := by
  (conv => lhs; unfold ev)
  try rfl
theorem qv_bin {o : BO} {a b : N} : ev (.bin o a b) env st = (ev a env st).bind fun ra st1 => (ev b env st1).bind fun rb st2 => .of ((view env st2 ra).bind fun x => (view env st2 rb).bind fun y => binop o x y) st2 := by
  (conv => lhs; unfold ev)
  try rfl
theorem qv_neg {a : N} : ev (.neg a) env st = (ev a env st).bind fun ra st1 => match ra with
      | .val (.int i) => .ok (.val (.int (-i))) st1
      | _ => .bad := by
  (conv => lhs; unfold ev)
  try rfl
theorem qv_cmp {o : CO} {a b : N} : ev (.cmp o a b) env st = (ev a env st).bind fun ra st1 => (ev b env st1).bind fun rb st2 => .of (((view env st2 ra).bind fun x => (view env st2 rb).bind fun y => cmpop o x y).map fun c => .val (.bl c)) st2 := by
  (conv => lhs; unfold ev)
  try rfl
theorem qv_chain {o p : CO} {a b c : N} : ev (.chain o p a b c) env st = (ev a env st).bind fun ra st1 => (ev b env st1).bind fun rb st2 =>
      (Oc.of ((view env st2 ra).bind fun x => (view env st2 rb).bind fun y => cmpop o x y) st2).bind fun d st2 =>
        if d then (ev c env st2).bind fun rc st3 => .of (((view env st3 rb).bind fun y => (view env st3 rc).bind fun z => cmpop p y z).map fun c => .val (.bl c)) st3
        else .ok (.val (.bl false)) st2 := by
  (conv => lhs; unfold ev)
  try rfl
theorem qv_and {a b : N} : ev (.and a b) env st = (truthB (ev a env st)).bind fun c st1 => if c then ev b env st1 else .ok (.val (.bl false)) st1 := by
  (conv => lhs; unfold ev)
  try rfl
theorem qv_or {a b : N} : ev (.or a b) env st = (truthB (ev a env st)).bind fun c st1 => if c then .ok (.val (.bl true)) st1 else ev b env st1 := by
  (conv => lhs; unfold ev)
  try rfl
theorem qv_not {a : N} : ev (.not a) env st = (truthB (ev a env st)).bind fun c st1 => .ok (.val (.bl (!c))) st1 := by
  (conv => lhs; unfold ev)
  try rfl
theorem qv_ite {c a b : N} : ev (.ite c a b) env st = (truthB (ev c env st)).bind fun d st1 => if d then ev a env st1 else ev b env st1 := by
  (conv => lhs; unfold ev)
  try rfl
theorem qv_tup {r : N} : ev (.tup r) env st = (evs r env st).bind fun ts st1 => if ts.length ≤ LIM then .ok (.val (.tup ts)) st1 else .bad := by
  (conv => lhs; unfold ev)
  try rfl
theorem qv_lst {r : N} : ev (.lst r) env st = (evs r env st).bind fun ts st1 => if ts.length ≤ LIM then .ok (.fresh (.lst ts)) st1 else .bad := by
  (conv => lhs; unfold ev)
  try rfl
theorem qv_dnew : ev .dnew env st = .ok (.fresh (.dic 0 [] [])) st := by
  (conv => lhs; unfold ev)
  try rfl
theorem qv_ix {a i : N} : ev (.ix a i) env st = (ev a env st).bind fun ra st1 => (ev i env st1).bind fun ri st2 => .of (((view env st2 ra).bind fun x => (view env st2 ri).bind fun y => index x y).map .val) st2 := by
  (conv => lhs; unfold ev)
  try rfl
theorem qv_sl {a lo hi : N} : ev (.sl a lo hi) env st = (ev a env st).bind fun ra st1 => (evP lo env st1).bind fun l st2 => (evP hi env st2).bind fun h st3 => .of ((view env st3 ra).bind fun x => slice x l h) st3 := by
  (conv => lhs; unfold ev)
  try rfl
theorem qv_slst {a lo c : N} : ev (.slst a lo c) env st = (ev a env st).bind fun ra st1 => (evP lo env st1).bind fun l st2 => (evP c env st2).bind fun d st3 => .of ((view env st3 ra).bind fun x => stepT x l d) st3 := by
  (conv => lhs; unfold ev)
  try rfl
theorem qv_attr {a : N} {f : Str} {cs : List Str} : ev (.attr a f cs) env st = (ev a env st).bind fun ra st1 => match ra with
      | .val t => .of ((fldOf f cs t).map .val) st1
      | _ => .bad := by
  (conv => lhs; unfold ev)
  try rfl
theorem qv_bi {f : BI} {a : N} : ev (.bi f a) env st = (ev a env st).bind fun ra st1 => .of ((view env st1 ra).bind fun x => builtin f [x]) st1 := by
  (conv => lhs; unfold ev)
  try rfl
theorem qv_bi2 {f : BI} {a b : N} : ev (.bi2 f a b) env st = (ev a env st).bind fun ra st1 => (ev b env st1).bind fun rb st2 => .of ((view env st2 ra).bind fun x => (view env st2 rb).bind fun y => builtin f [x, y]) st2 := by
  (conv => lhs; unfold ev)
  try rfl
theorem qv_me {f : ME} {a b : N} : ev (.me f a b) env st = (ev a env st).bind fun ra st1 => match ra with
      | .val (.str x) => (ev b env st1).bind fun rb st2 => .of ((view env st2 rb).bind fun y => method f x y) st2
      | _ => .bad := by
  (conv => lhs; unfold ev)
  try rfl
theorem qv_isT {a : N} {ty : String} : ev (.isT a ty) env st = (ev a env st).bind fun ra st1 => .of (((view env st1 ra).bind fun x => isTy ty x).map fun b => .val (.bl b)) st1 := by
  (conv => lhs; unfold ev)
  try rfl
theorem qv_isC {a : N} {D : Str} {cs subs : List Str} : ev (.isC a D cs subs) env st = (ev a env st).bind fun ra st1 => match ra with
      | .val t => .of ((isCl cs subs t).map fun b => .val (.bl b)) st1
      | _ => .bad := by
  (conv => lhs; unfold ev)
  try rfl
theorem qv_call {x : Str} {n : Nat} {g : G} {r : N} : ev (.call x n g r) env st = (evs r env st).bind fun ts st1 => if ts.length = n then g ts st1 else .bad := by
  (conv => lhs; unfold ev)
  try rfl
theorem qv_om {m : Str} {n : Nat} {tb : List (Str × G)} {a r : N} : ev (.om m n tb a r) env st = (ev a env st).bind fun ra st1 => match ra with
      | .val (.ins C ns ts) => if ns.contains m then .bad else match tb.lookup C with
        | some g => (evs r env st1).bind fun us st2 => if us.length + 1 = n then g (.ins C ns ts :: us) st2 else .bad
        | none => .bad
      | _ => .bad := by
  (conv => lhs; unfold ev)
  try rfl
theorem qv_comp {tg : Tg} {own : List Nat} {it c e : N} : ev (.comp tg own it c e) env st = (evI true it env st).bind fun xs st1 =>
      (loopC (stepC env own tg (evc c) (ev e)) xs [] st1).bind fun ys st2 => .ok (.fresh (.lst ys)) st2 := by
  (conv => lhs; unfold ev)
  try rfl
theorem qp_nil : evP .nil env st = .ok none st := by
  (conv => lhs; unfold evP)
  try rfl
theorem qp_cons {a r : N} : evP (.cons a r) env st = (ev a env st).bind fun ra st1 => match ra with
      | .val (.int i) => .ok (some i) st1
      | _ => .bad := by
  (conv => lhs; unfold evP)
  try rfl
theorem qs_nil : evs .nil env st = .ok [] st := by
  (conv => lhs; unfold evs)
  try rfl
theorem qs_cons {a r : N} : evs (.cons a r) env st = (tr (ev a env st)).bind fun t st1 => (evs r env st1).bind fun ts st2 => .ok (t :: ts) st2 := by
  (conv => lhs; unfold evs)
  try rfl
theorem qc_nil : evc .nil env st = .ok true st := by
  (conv => lhs; unfold evc)
  try rfl
theorem qc_cons {a r : N} : evc (.cons a r) env st = truthB (ev a env st) := by
  (conv => lhs; unfold evc)
  try rfl
theorem qi_rng1 {q : Bool} {a : N} : evI q (.rng1 a) env st = (ev a env st).bind fun ra st1 => match ra with
      | .val (.int n) => if decide (-(2 ^ 62) ≤ n) && decide (n < 2 ^ 62) then .ok (rangeT 0 n.toNat) st1 else .bad
      | _ => .bad := by
  (conv => lhs; unfold evI)
  try rfl
theorem qi_enm {q : Bool} {a : N} : evI q (.enm a) env st = (ev a env st).bind fun ra st1 => .of ((viewQ q env st1 ra).bind fun t => match t with
      | .lst ts => some (enumT 0 ts)
      | _ => none) st1 := by
  (conv => lhs; unfold evI)
  try rfl
theorem qi_cons {q : Bool} {a r : N} : evI q (.cons a r) env st = (ev a env st).bind fun ra st1 => .of ((viewQ q env st1 ra).bind itemsOf) st1 := by
  (conv => lhs; unfold evI)
  try rfl
theorem viewQ_val {q : Bool} {t : T} : viewQ q env st (.val t) = some t := by cases q <;> rfl
theorem viewQ_fresh {q : Bool} {c : Own} : viewQ q env st (.fresh c) = some c.tree := by cases q <;> rfl
theorem viewQ_slot {i : Nat} {c : Own} (h : env[i]? = some (some (.own c))) : viewQ true env st (.at (.slot i)) = some c.tree := by
  show view env st (.at (.slot i)) = _
  exact view_slot h

theorem qx_nil : ex .nil env st = .ok (.nx env) st := by
  (conv => lhs; unfold ex)
  try rfl
theorem qx_pass : ex .pass env st = .ok (.nx env) st := by
  (conv => lhs; unfold ex)
  try rfl
theorem qx_seq' {a b : N} : ex (.seq a b) env st = (ex a env st).bind fun r st1 => match r with
      | .nx env1 => ex b env1 st1
      | r => .ok r st1 := by
  (conv => lhs; unfold ex)
  try rfl
theorem qx_asg {i : Nat} {e : N} : ex (.asg (.nm i) e) env st = (ev e env st).bind fun rv st1 => match slotOf env st1 rv with
      | some s => .ok (.nx (env.set i (some s))) st1
      | none => .bad := by
  (conv => lhs; unfold ex)
  try rfl
theorem qx_unp {is : List Nat} {e : N} : ex (.asg (.tp is) e) env st = (tr (ev e env st)).bind fun t st1 => match bindTg env (.tp is) t with
      | some env1 => .ok (.nx env1) st1
      | none => .bad := by
  (conv => lhs; unfold ex)
  try rfl
theorem qx_set2 {i j : Nat} {a b : N} : ex (.set2 i j a b) env st = (ev a env st).bind fun ra st1 => (ev b env st1).bind fun rb st2 => match slotOf env st2 ra, slotOf env st2 rb with
      | some s, some s' => .ok (.nx ((env.set i (some s)).set j (some s'))) st2
      | _, _ => .bad := by
  (conv => lhs; unfold ex)
  try rfl
theorem qx_set3 {i j k : Nat} {a b c : N} : ex (.set3 i j k a b c) env st = (ev a env st).bind fun ra st1 => (ev b env st1).bind fun rb st2 => (ev c env st2).bind fun rc st3 => match slotOf env st3 ra, slotOf env st3 rb, slotOf env st3 rc with
      | some s, some s', some s'' => .ok (.nx (((env.set i (some s)).set j (some s')).set k (some s''))) st3
      | _, _, _ => .bad := by
  (conv => lhs; unfold ex)
  try rfl
theorem qx_ap {i : Nat} {e : N} {ts : List T} (h : env[i]? = some (some (.own (.lst ts)))) : ex (.ap i e) env st = (tr (ev e env st)).bind fun t st1 => if ts.length < LIM then .ok (.nx (env.set i (some (.own (.lst (ts ++ [t])))))) st1 else .bad := by
  (conv => lhs; unfold ex)
  rw [h]
  try rfl
theorem qx_xt {i : Nat} {e : N} {ts : List T} (h : env[i]? = some (some (.own (.lst ts)))) : ex (.xt i e) env st = (ev e env st).bind fun t st1 => match t with
        | .fresh (.lst us) => if ts.length + us.length ≤ LIM then .ok (.nx (env.set i (some (.own (.lst (ts ++ us)))))) st1 else .bad
        | _ => .bad := by
  (conv => lhs; unfold ex)
  rw [h]
  try rfl
theorem qx_put {i : Nat} {k e : N} {ks vs : List T} (h : env[i]? = some (some (.own (.dic 0 ks vs)))) : ex (.put i k e) env st = (tr (ev e env st)).bind fun x st1 => (tr (ev k env st1)).bind fun t st2 => if (keyT t).isSome && decide (ks.length < LIM) then .ok (.nx (env.set i (some (.own (.dic 0 (dput ks vs t x).1 (dput ks vs t x).2))))) st2 else .bad := by
  (conv => lhs; unfold ex)
  rw [h]
  try rfl
theorem qx_iff {c a b : N} : ex (.iff c a b) env st = (truthB (ev c env st)).bind fun d st1 => if d then ex a env st1 else ex b env st1 := by
  (conv => lhs; unfold ex)
  try rfl
theorem qx_for {tg : Tg} {it b : N} : ex (.for_ tg it b) env st = (evI false it env st).bind fun xs st1 => loopS (stepS tg (ex b)) xs env st1 := by
  (conv => lhs; unfold ex)
  try rfl
theorem qx_ret {e : N} : ex (.ret e) env st = (ev e env st).bind fun rv st1 => match retOf env rv with
      | some r => .ok (.rt r) st1
      | none => .bad := by
  (conv => lhs; unfold ex)
  try rfl
theorem qx_retN : ex .retN env st = .ok (.rt (.val .non)) st := by
  (conv => lhs; unfold ex)
  try rfl
theorem qx_drop {e : N} : ex (.drop e) env st = (ev e env st).bind fun _ st1 => .ok (.nx env) st1 := by
  (conv => lhs; unfold ex)
  try rfl
theorem qx_frzO {i : Nat} {c : Own} (h : env[i]? = some (some (.own c))) : ex (.frz i) env st = .ok (.nx (env.set i (some (.val c.tree)))) st := by
  (conv => lhs; unfold ex)
  rw [h]
  try rfl
theorem qx_frzV {i : Nat} {t : T} (h : env[i]? = some (some (.val t))) : ex (.frz i) env st = .ok (.nx env) st := by
  (conv => lhs; unfold ex)
  rw [h]
  try rfl
end

theorem loopC_map {step : T → Sto → Oc (Option T)} {f : T → Option T} {st : Sto} : ∀ (xs acc : List T), (∀ x ∈ xs, step x st = .ok (f x) st) → acc.length + xs.length ≤ LIM → loopC step xs acc st = .ok (acc ++ xs.filterMap f) st
  | [], acc, _, _ => by rw [loopC]; simp
  | x :: xs, acc, h, hl => by
    rw [loopC, h x List.mem_cons_self, bind_ok]
    have h' : ∀ y ∈ xs, step y st = .ok (f y) st := fun y hy => h y (List.mem_cons_of_mem _ hy)
    rw [List.length_cons] at hl
    cases q : f x with
    | none => rw [List.filterMap_cons_none q]; exact loopC_map xs acc h' (by omega)
    | some y =>
      rw [List.filterMap_cons_some q]
      show (if acc.length < LIM then loopC step xs (acc ++ [y]) st else .bad) = _
      rw [if_pos (by omega), loopC_map xs (acc ++ [y]) h' (by simp; omega)]
      simp
theorem loopS_all {step : T → Env → Sto → Oc SR} {st : Sto} (I : List T → Env → Prop) : ∀ (xs done : List T) (env : Env), I done env → (∀ d x r env, done ++ xs = d ++ x :: r → I d env → ∃ env', step x env st = .ok (.nx env') st ∧ I (d ++ [x]) env') → ∃ env', loopS step xs env st = .ok (.nx env') st ∧ I (done ++ xs) env'
  | [], done, env, h, _ => ⟨env, rfl, by rw [List.append_nil]; exact h⟩
  | x :: xs, done, env, h, hs => by
    obtain ⟨env1, e1, h1⟩ := hs done x xs env rfl h
    obtain ⟨env2, e2, h2⟩ := loopS_all I xs (done ++ [x]) env1 h1 fun d y r e q i => hs d y r e (by rw [← q]; simp) i
    refine ⟨env2, ?_, by rw [List.append_assoc] at h2; exact h2⟩
    rw [loopS, e1]
    exact e2
end NN

set_option Elab.async false
set_option linter.all false
set_option maxRecDepth 100000
set_option maxHeartbeats 4000000
namespace NN
open PySem
structure Rule where
  (a b step near : Option Str) (gap : Option Int) (word : Str)
def tO : Option Str → T
  | none => .non
  | some s => .str s
def tI : Option Int → T
  | none => .non
  | some s => .int s
def tNa : Option Nat → T
  | none => .non
  | some s => .int (s : Nat)
def Rule.t (r : Rule) : T := .tup [tO r.a, tO r.b, tO r.step, tO r.near, tI r.gap, .str r.word]
structure Site where
  (l : Int) (f k : Str)
def Site.t (s : Site) : T := .tup [.int s.l, .str s.f, .str s.k]
def inK (x : Str) : Bool := ("door" : Str) == x || ("inner" : Str) == x
def endOk (e : Option Str) (s : Site) : Bool := match e with
  | none => true
  | some x => x == (if inK x then s.k else s.f)
def stepOf (a b : Site) : Str := if a.l = b.l then "level" else if a.l < b.l then "up" else "down"
def nearOf (a b : Site) : Str := if a.f = b.f then "same" else "other"
def optOk (e : Option Str) (x : Str) : Bool := match e with
  | none => true
  | some y => y == x
def gapOf (a b : Site) : Int := if a.l - b.l < 0 then -(a.l - b.l) else a.l - b.l
def gapOk (e : Option Int) (a b : Site) : Bool := match e with
  | none => true
  | some g => decide (g ≤ gapOf a b)
def meets (r : Rule) (a b : Site) : Bool := endOk r.a a && (endOk r.b b && (optOk r.step (stepOf a b) && (optOk r.near (nearOf a b) && gapOk r.gap a b)))
structure Rule.ok (r : Rule) : Prop where
  step : r.step ∈ [none, some ("up" : Str), some ("down" : Str), some ("level" : Str)]
  near : r.near ∈ [none, some ("same" : Str), some ("other" : Str)]
  gap : r.gap ∈ [none, some (1 : Int), some 2, some 3, some 0]
  word : r.word = "bar" ∨ r.word = "let"

theorem site_0 (s : Site) : index s.t (.int 0) = some (.int s.l) := rfl
theorem site_1 (s : Site) : index s.t (.int 1) = some (.str s.f) := rfl
theorem site_2 (s : Site) : index s.t (.int 2) = some (.str s.k) := rfl
theorem rule_0 (s : Rule) : index s.t (.int 0) = some (tO s.a) := rfl
theorem rule_1 (s : Rule) : index s.t (.int 1) = some (tO s.b) := rfl
theorem rule_2 (s : Rule) : index s.t (.int 2) = some (tO s.step) := rfl
theorem rule_3 (s : Rule) : index s.t (.int 3) = some (tO s.near) := rfl
theorem rule_4 (s : Rule) : index s.t (.int 4) = some (tI s.gap) := rfl
theorem rule_5 (s : Rule) : index s.t (.int 5) = some (.str s.word) := rfl
theorem eq_str (a b : Str) : cmpop .eq (.str a) (.str b) = some (a == b) := rfl
theorem ne_str (a b : Str) : cmpop .ne (.str a) (.str b) = some (!(a == b)) := rfl
theorem eq_int (a b : Int) : cmpop .eq (.int a) (.int b) = some (a == b) := rfl
theorem eq_bl (a b : Bool) : cmpop .eq (.bl a) (.bl b) = some (a == b) := rfl
theorem ne_bl (a b : Bool) : cmpop .ne (.bl a) (.bl b) = some (!(a == b)) := rfl
theorem lt_int (a b : Int) : cmpop .lt (.int a) (.int b) = some (decide (a < b)) := rfl
theorem ge_int (a b : Int) : cmpop .ge (.int a) (.int b) = some (decide (b ≤ a)) := rfl
theorem memK (x : Str) : cmpop .mem (.str x) (.tup [.str "door", .str "inner"]) = some (inK x) := by
  show some (eqF (.str "door") (.str x) || (eqF (.str "inner") (.str x) || false)) = _
  rw [Bool.or_false]; rfl
theorem isn_str (x : Str) : cmpop .isn (.str x) .non = some true := rfl
theorem isn_int (x : Int) : cmpop .isn (.int x) .non = some true := rfl
theorem isn_non : cmpop .isn .non .non = some false := rfl
theorem is_int (x : Int) : cmpop .is (.int x) .non = some false := rfl
theorem is_non : cmpop .is .non .non = some true := rfl
theorem abs_int (i : Int) : builtin .abs [.int i] = some (.val (.int (if i < 0 then -i else i))) := rfl
theorem sub_int (a b : Int) : binop .sub (.int a) (.int b) = some (.val (.int (a - b))) := rfl
theorem max_int (i j : Int) : builtin .max [.int i, .int j] = some (.val (.int (if j > i then j else i))) := rfl
theorem min_int (i j : Int) : builtin .min [.int i, .int j] = some (.val (.int (if j < i then j else i))) := rfl
abbrev pI (C : Str) (t : T) : T := .ins C ["told"] [t]
theorem told_From (t : T) : fldOf "told" ["From", "To", "Step", "Near", "Gap"] (pI "From" t) = some t := rfl
theorem told_To (t : T) : fldOf "told" ["From", "To", "Step", "Near", "Gap"] (pI "To" t) = some t := rfl
theorem told_Step (t : T) : fldOf "told" ["From", "To", "Step", "Near", "Gap"] (pI "Step" t) = some t := rfl
theorem told_Near (t : T) : fldOf "told" ["From", "To", "Step", "Near", "Gap"] (pI "Near" t) = some t := rfl
theorem told_Gap (t : T) : fldOf "told" ["From", "To", "Step", "Near", "Gap"] (pI "Gap" t) = some t := rfl
section
variable (s s2 : Site) (st : Sto)
theorem s_From (x : Str) : g_From_fits [pI "From" (.str x), s.t, s2.t] st = .ok (.val (.bl (endOk (some x) s))) st := by
  cases h : inK x <;> simp [g_From_fits, runDef, startE, n_From_fits, qx_seq', qx_ret, qx_retN, qx_iff, qx_asg, qx_set2, qx_set3, qx_for, qx_ap', qx_xt', qx_frz', qx_nil, qx_drop, qv_v, qv_lit, qv_glb, qv_bin, qv_neg, qv_cmp, qv_chain, qv_and, qv_or, qv_not, qv_ite, qv_tup, qv_lst, qv_ix, qv_sl, qv_attr, qv_bi, qv_bi2, qv_isT, qv_call, qv_om, qp_nil, qp_cons, qs_nil, qs_cons, qc_nil, qc_cons, bind_ok, of_some, tr_val, tr_fresh, truth_bl, view_val, view_fresh, view_at, slot_val, slot_fresh, ret_val, ret_fresh, ret_at, Own.tree, told_From, memK, h, site_1, site_2, eq_str, endOk]
theorem s_To (x : Str) : g_To_fits [pI "To" (.str x), s.t, s2.t] st = .ok (.val (.bl (endOk (some x) s2))) st := by
  cases h : inK x <;> simp [g_To_fits, runDef, startE, n_To_fits, qx_seq', qx_ret, qx_retN, qx_iff, qx_asg, qx_set2, qx_set3, qx_for, qx_ap', qx_xt', qx_frz', qx_nil, qx_drop, qv_v, qv_lit, qv_glb, qv_bin, qv_neg, qv_cmp, qv_chain, qv_and, qv_or, qv_not, qv_ite, qv_tup, qv_lst, qv_ix, qv_sl, qv_attr, qv_bi, qv_bi2, qv_isT, qv_call, qv_om, qp_nil, qp_cons, qs_nil, qs_cons, qc_nil, qc_cons, bind_ok, of_some, tr_val, tr_fresh, truth_bl, view_val, view_fresh, view_at, slot_val, slot_fresh, ret_val, ret_fresh, ret_at, Own.tree, told_To, memK, h, site_1, site_2, eq_str, endOk]
theorem s_Step (x : Str) : g_Step_fits [pI "Step" (.str x), s.t, s2.t] st = .ok (.val (.bl (optOk (some x) (stepOf s s2)))) st := by
  by_cases h : s.l = s2.l
  · simp [g_Step_fits, runDef, startE, n_Step_fits, qx_seq', qx_ret, qx_retN, qx_iff, qx_asg, qx_set2, qx_set3, qx_for, qx_ap', qx_xt', qx_frz', qx_nil, qx_drop, qv_v, qv_lit, qv_glb, qv_bin, qv_neg, qv_cmp, qv_chain, qv_and, qv_or, qv_not, qv_ite, qv_tup, qv_lst, qv_ix, qv_sl, qv_attr, qv_bi, qv_bi2, qv_isT, qv_call, qv_om, qp_nil, qp_cons, qs_nil, qs_cons, qc_nil, qc_cons, bind_ok, of_some, tr_val, tr_fresh, truth_bl, view_val, view_fresh, view_at, slot_val, slot_fresh, ret_val, ret_fresh, ret_at, Own.tree, told_Step, site_0, eq_str, eq_int, h, optOk, stepOf]
  · by_cases h2 : s.l < s2.l <;> simp [g_Step_fits, runDef, startE, n_Step_fits, qx_seq', qx_ret, qx_retN, qx_iff, qx_asg, qx_set2, qx_set3, qx_for, qx_ap', qx_xt', qx_frz', qx_nil, qx_drop, qv_v, qv_lit, qv_glb, qv_bin, qv_neg, qv_cmp, qv_chain, qv_and, qv_or, qv_not, qv_ite, qv_tup, qv_lst, qv_ix, qv_sl, qv_attr, qv_bi, qv_bi2, qv_isT, qv_call, qv_om, qp_nil, qp_cons, qs_nil, qs_cons, qc_nil, qc_cons, bind_ok, of_some, tr_val, tr_fresh, truth_bl, view_val, view_fresh, view_at, slot_val, slot_fresh, ret_val, ret_fresh, ret_at, Own.tree, told_Step, site_0, eq_str, eq_int, lt_int, h, h2, optOk, stepOf]
theorem s_Near (x : Str) (hx : x = "same" ∨ x = "other") : g_Near_fits [pI "Near" (.str x), s.t, s2.t] st = .ok (.val (.bl (optOk (some x) (nearOf s s2)))) st := by
  have e : optOk (some x) (nearOf s s2) = ((x == ("same" : Str)) == (s.f == s2.f)) := by
    unfold optOk nearOf
    by_cases h : s.f = s2.f
    · rw [if_pos h, h, beq_self_eq_true]
      rcases hx with rfl | rfl <;> decide +kernel
    · rw [if_neg h, beq_eq_false_iff_ne.mpr h]
      rcases hx with rfl | rfl <;> decide +kernel
  rw [e]
  simp [g_Near_fits, runDef, startE, n_Near_fits, qx_seq', qx_ret, qx_retN, qx_iff, qx_asg, qx_set2, qx_set3, qx_for, qx_ap', qx_xt', qx_frz', qx_nil, qx_drop, qv_v, qv_lit, qv_glb, qv_bin, qv_neg, qv_cmp, qv_chain, qv_and, qv_or, qv_not, qv_ite, qv_tup, qv_lst, qv_ix, qv_sl, qv_attr, qv_bi, qv_bi2, qv_isT, qv_call, qv_om, qp_nil, qp_cons, qs_nil, qs_cons, qc_nil, qc_cons, bind_ok, of_some, tr_val, tr_fresh, truth_bl, view_val, view_fresh, view_at, slot_val, slot_fresh, ret_val, ret_fresh, ret_at, Own.tree, told_Near, site_1, eq_str, eq_bl]
theorem s_Gap (x : Int) : g_Gap_fits [pI "Gap" (.int x), s.t, s2.t] st = .ok (.val (.bl (gapOk (some x) s s2))) st := by
  simp [g_Gap_fits, runDef, startE, n_Gap_fits, qx_seq', qx_ret, qx_retN, qx_iff, qx_asg, qx_set2, qx_set3, qx_for, qx_ap', qx_xt', qx_frz', qx_nil, qx_drop, qv_v, qv_lit, qv_glb, qv_bin, qv_neg, qv_cmp, qv_chain, qv_and, qv_or, qv_not, qv_ite, qv_tup, qv_lst, qv_ix, qv_sl, qv_attr, qv_bi, qv_bi2, qv_isT, qv_call, qv_om, qp_nil, qp_cons, qs_nil, qs_cons, qc_nil, qc_cons, bind_ok, of_some, tr_val, tr_fresh, truth_bl, view_val, view_fresh, view_at, slot_val, slot_fresh, ret_val, ret_fresh, ret_at, Own.tree, told_Gap, site_0, sub_int, abs_int, ge_int, gapOk, gapOf]
  first
    | done
    | exact decide_eq_decide.mpr .rfl
end

theorem tup2_ix0 (a b : T) : index (.tup [a, b]) (.int 0) = some a := rfl
theorem max_min (a b : Int) : (if b > a then b else a) - (if b < a then b else a) = if a - b < 0 then -(a - b) else a - b := by
  split <;> split <;> split <;> omega
section
variable (e0 e1 e2 e3 e4 e5 e6 : Option Slot) (st : Sto)
theorem c_end (e : Option Str) (s : Site) : ev (.and (.cmp .isn (.var 4) (.lit .non)) (.cmp .ne (.var 4) (.ix (.var 5) (.ite (.cmp .mem (.var 4) (.tup (.cons (.lit (.str "door")) (.cons (.lit (.str "inner")) .nil)))) (.lit (.int 2)) (.lit (.int 1)))))) [e0, e1, e2, e3, some (.val (tO e)), some (.val s.t), e6] st = .ok (.val (.bl (!endOk e s))) st := by
  cases e with
  | none => simp [qx_seq', qx_ret, qx_retN, qx_iff, qx_asg, qx_set2, qx_set3, qx_for, qx_ap', qx_xt', qx_frz', qx_nil, qx_drop, qv_v, qv_lit, qv_glb, qv_bin, qv_neg, qv_cmp, qv_chain, qv_and, qv_or, qv_not, qv_ite, qv_tup, qv_lst, qv_ix, qv_sl, qv_attr, qv_bi, qv_bi2, qv_isT, qv_call, qv_om, qp_nil, qp_cons, qs_nil, qs_cons, qc_nil, qc_cons, bind_ok, of_some, tr_val, tr_fresh, truth_bl, view_val, view_fresh, view_at, slot_val, slot_fresh, ret_val, ret_fresh, ret_at, Own.tree, tO, isn_non, endOk]
  | some x => cases h : inK x <;> simp [qx_seq', qx_ret, qx_retN, qx_iff, qx_asg, qx_set2, qx_set3, qx_for, qx_ap', qx_xt', qx_frz', qx_nil, qx_drop, qv_v, qv_lit, qv_glb, qv_bin, qv_neg, qv_cmp, qv_chain, qv_and, qv_or, qv_not, qv_ite, qv_tup, qv_lst, qv_ix, qv_sl, qv_attr, qv_bi, qv_bi2, qv_isT, qv_call, qv_om, qp_nil, qp_cons, qs_nil, qs_cons, qc_nil, qc_cons, bind_ok, of_some, tr_val, tr_fresh, truth_bl, view_val, view_fresh, view_at, slot_val, slot_fresh, ret_val, ret_fresh, ret_at, Own.tree, tO, isn_str, memK, h, site_1, site_2, ne_str, endOk, LIM]
theorem c_step (r : Rule) (z : Str) : ev (.and (.cmp .isn (.ix (.var 0) (.lit (.int 2))) (.lit .non)) (.cmp .ne (.ix (.var 0) (.lit (.int 2))) (.var 6))) [some (.val r.t), e1, e2, e3, e4, e5, some (.val (.str z))] st = .ok (.val (.bl (!optOk r.step z))) st := by
  simp only [qx_seq', qx_ret, qx_retN, qx_iff, qx_asg, qx_set2, qx_set3, qx_for, qx_ap', qx_xt', qx_frz', qx_nil, qx_drop, qv_v, qv_lit, qv_glb, qv_bin, qv_neg, qv_cmp, qv_chain, qv_and, qv_or, qv_not, qv_ite, qv_tup, qv_lst, qv_ix, qv_sl, qv_attr, qv_bi, qv_bi2, qv_isT, qv_call, qv_om, qp_nil, qp_cons, qs_nil, qs_cons, qc_nil, qc_cons, bind_ok, of_some, tr_val, tr_fresh, truth_bl, view_val, view_fresh, view_at, slot_val, slot_fresh, ret_val, ret_fresh, ret_at, Own.tree, rule_2, List.getElem?_cons_zero, List.getElem?_cons_succ, Option.bind_some, Option.map_some]
  cases r.step with
  | none => simp [qx_seq', qx_ret, qx_retN, qx_iff, qx_asg, qx_set2, qx_set3, qx_for, qx_ap', qx_xt', qx_frz', qx_nil, qx_drop, qv_v, qv_lit, qv_glb, qv_bin, qv_neg, qv_cmp, qv_chain, qv_and, qv_or, qv_not, qv_ite, qv_tup, qv_lst, qv_ix, qv_sl, qv_attr, qv_bi, qv_bi2, qv_isT, qv_call, qv_om, qp_nil, qp_cons, qs_nil, qs_cons, qc_nil, qc_cons, bind_ok, of_some, tr_val, tr_fresh, truth_bl, view_val, view_fresh, view_at, slot_val, slot_fresh, ret_val, ret_fresh, ret_at, Own.tree, tO, isn_non, optOk]
  | some x => simp [qx_seq', qx_ret, qx_retN, qx_iff, qx_asg, qx_set2, qx_set3, qx_for, qx_ap', qx_xt', qx_frz', qx_nil, qx_drop, qv_v, qv_lit, qv_glb, qv_bin, qv_neg, qv_cmp, qv_chain, qv_and, qv_or, qv_not, qv_ite, qv_tup, qv_lst, qv_ix, qv_sl, qv_attr, qv_bi, qv_bi2, qv_isT, qv_call, qv_om, qp_nil, qp_cons, qs_nil, qs_cons, qc_nil, qc_cons, bind_ok, of_some, tr_val, tr_fresh, truth_bl, view_val, view_fresh, view_at, slot_val, slot_fresh, ret_val, ret_fresh, ret_at, Own.tree, tO, isn_str, ne_str, optOk]
theorem c_near (r : Rule) (s s2 : Site) : ev (.and (.cmp .isn (.ix (.var 0) (.lit (.int 3))) (.lit .non)) (.cmp .ne (.ix (.var 0) (.lit (.int 3))) (.ite (.cmp .eq (.ix (.var 1) (.lit (.int 1))) (.ix (.var 2) (.lit (.int 1)))) (.lit (.str "same")) (.lit (.str "other"))))) [some (.val r.t), some (.val s.t), some (.val s2.t), e3, e4, e5, e6] st = .ok (.val (.bl (!optOk r.near (nearOf s s2)))) st := by
  simp only [qx_seq', qx_ret, qx_retN, qx_iff, qx_asg, qx_set2, qx_set3, qx_for, qx_ap', qx_xt', qx_frz', qx_nil, qx_drop, qv_v, qv_lit, qv_glb, qv_bin, qv_neg, qv_cmp, qv_chain, qv_and, qv_or, qv_not, qv_ite, qv_tup, qv_lst, qv_ix, qv_sl, qv_attr, qv_bi, qv_bi2, qv_isT, qv_call, qv_om, qp_nil, qp_cons, qs_nil, qs_cons, qc_nil, qc_cons, bind_ok, of_some, tr_val, tr_fresh, truth_bl, view_val, view_fresh, view_at, slot_val, slot_fresh, ret_val, ret_fresh, ret_at, Own.tree, rule_3, site_1, eq_str, List.getElem?_cons_zero, List.getElem?_cons_succ, Option.bind_some, Option.map_some]
  cases r.near with
  | none => simp [qx_seq', qx_ret, qx_retN, qx_iff, qx_asg, qx_set2, qx_set3, qx_for, qx_ap', qx_xt', qx_frz', qx_nil, qx_drop, qv_v, qv_lit, qv_glb, qv_bin, qv_neg, qv_cmp, qv_chain, qv_and, qv_or, qv_not, qv_ite, qv_tup, qv_lst, qv_ix, qv_sl, qv_attr, qv_bi, qv_bi2, qv_isT, qv_call, qv_om, qp_nil, qp_cons, qs_nil, qs_cons, qc_nil, qc_cons, bind_ok, of_some, tr_val, tr_fresh, truth_bl, view_val, view_fresh, view_at, slot_val, slot_fresh, ret_val, ret_fresh, ret_at, Own.tree, tO, isn_non, optOk]
  | some x => by_cases h : s.f = s2.f <;> simp [qx_seq', qx_ret, qx_retN, qx_iff, qx_asg, qx_set2, qx_set3, qx_for, qx_ap', qx_xt', qx_frz', qx_nil, qx_drop, qv_v, qv_lit, qv_glb, qv_bin, qv_neg, qv_cmp, qv_chain, qv_and, qv_or, qv_not, qv_ite, qv_tup, qv_lst, qv_ix, qv_sl, qv_attr, qv_bi, qv_bi2, qv_isT, qv_call, qv_om, qp_nil, qp_cons, qs_nil, qs_cons, qc_nil, qc_cons, bind_ok, of_some, tr_val, tr_fresh, truth_bl, view_val, view_fresh, view_at, slot_val, slot_fresh, ret_val, ret_fresh, ret_at, Own.tree, tO, isn_str, ne_str, optOk, nearOf, h]
theorem c_lev (s s2 : Site) : ev (.ite (.cmp .eq (.ix (.var 1) (.lit (.int 0))) (.ix (.var 2) (.lit (.int 0)))) (.lit (.str "level")) (.ite (.cmp .lt (.ix (.var 1) (.lit (.int 0))) (.ix (.var 2) (.lit (.int 0)))) (.lit (.str "up")) (.lit (.str "down")))) [e0, some (.val s.t), some (.val s2.t), e3, e4, e5, e6] st = .ok (.val (.str (stepOf s s2))) st := by
  by_cases h : s.l = s2.l
  · simp [qx_seq', qx_ret, qx_retN, qx_iff, qx_asg, qx_set2, qx_set3, qx_for, qx_ap', qx_xt', qx_frz', qx_nil, qx_drop, qv_v, qv_lit, qv_glb, qv_bin, qv_neg, qv_cmp, qv_chain, qv_and, qv_or, qv_not, qv_ite, qv_tup, qv_lst, qv_ix, qv_sl, qv_attr, qv_bi, qv_bi2, qv_isT, qv_call, qv_om, qp_nil, qp_cons, qs_nil, qs_cons, qc_nil, qc_cons, bind_ok, of_some, tr_val, tr_fresh, truth_bl, view_val, view_fresh, view_at, slot_val, slot_fresh, ret_val, ret_fresh, ret_at, Own.tree, site_0, eq_int, h, stepOf]
  · by_cases h2 : s.l < s2.l <;> simp [qx_seq', qx_ret, qx_retN, qx_iff, qx_asg, qx_set2, qx_set3, qx_for, qx_ap', qx_xt', qx_frz', qx_nil, qx_drop, qv_v, qv_lit, qv_glb, qv_bin, qv_neg, qv_cmp, qv_chain, qv_and, qv_or, qv_not, qv_ite, qv_tup, qv_lst, qv_ix, qv_sl, qv_attr, qv_bi, qv_bi2, qv_isT, qv_call, qv_om, qp_nil, qp_cons, qs_nil, qs_cons, qc_nil, qc_cons, bind_ok, of_some, tr_val, tr_fresh, truth_bl, view_val, view_fresh, view_at, slot_val, slot_fresh, ret_val, ret_fresh, ret_at, Own.tree, site_0, eq_int, lt_int, h, h2, stepOf]
theorem c_gap (r : Rule) (s s2 : Site) : ev (.or (.cmp .is (.ix (.var 0) (.lit (.int 4))) (.lit .non)) (.cmp .ge (.bin .sub (.bi2 .max (.ix (.var 1) (.lit (.int 0))) (.ix (.var 2) (.lit (.int 0)))) (.bi2 .min (.ix (.var 1) (.lit (.int 0))) (.ix (.var 2) (.lit (.int 0))))) (.ix (.var 0) (.lit (.int 4))))) [some (.val r.t), some (.val s.t), some (.val s2.t), e3, e4, e5, e6] st = .ok (.val (.bl (gapOk r.gap s s2))) st := by
  simp only [qx_seq', qx_ret, qx_retN, qx_iff, qx_asg, qx_set2, qx_set3, qx_for, qx_ap', qx_xt', qx_frz', qx_nil, qx_drop, qv_v, qv_lit, qv_glb, qv_bin, qv_neg, qv_cmp, qv_chain, qv_and, qv_or, qv_not, qv_ite, qv_tup, qv_lst, qv_ix, qv_sl, qv_attr, qv_bi, qv_bi2, qv_isT, qv_call, qv_om, qp_nil, qp_cons, qs_nil, qs_cons, qc_nil, qc_cons, bind_ok, of_some, tr_val, tr_fresh, truth_bl, view_val, view_fresh, view_at, slot_val, slot_fresh, ret_val, ret_fresh, ret_at, Own.tree, rule_4, site_0, List.getElem?_cons_zero, List.getElem?_cons_succ, Option.bind_some, Option.map_some]
  cases r.gap with
  | none => simp [qx_seq', qx_ret, qx_retN, qx_iff, qx_asg, qx_set2, qx_set3, qx_for, qx_ap', qx_xt', qx_frz', qx_nil, qx_drop, qv_v, qv_lit, qv_glb, qv_bin, qv_neg, qv_cmp, qv_chain, qv_and, qv_or, qv_not, qv_ite, qv_tup, qv_lst, qv_ix, qv_sl, qv_attr, qv_bi, qv_bi2, qv_isT, qv_call, qv_om, qp_nil, qp_cons, qs_nil, qs_cons, qc_nil, qc_cons, bind_ok, of_some, tr_val, tr_fresh, truth_bl, view_val, view_fresh, view_at, slot_val, slot_fresh, ret_val, ret_fresh, ret_at, Own.tree, tI, is_non, gapOk]
  | some x =>
    simp only [qx_seq', qx_ret, qx_retN, qx_iff, qx_asg, qx_set2, qx_set3, qx_for, qx_ap', qx_xt', qx_frz', qx_nil, qx_drop, qv_v, qv_lit, qv_glb, qv_bin, qv_neg, qv_cmp, qv_chain, qv_and, qv_or, qv_not, qv_ite, qv_tup, qv_lst, qv_ix, qv_sl, qv_attr, qv_bi, qv_bi2, qv_isT, qv_call, qv_om, qp_nil, qp_cons, qs_nil, qs_cons, qc_nil, qc_cons, bind_ok, of_some, tr_val, tr_fresh, truth_bl, view_val, view_fresh, view_at, slot_val, slot_fresh, ret_val, ret_fresh, ret_at, Own.tree, tI, is_int, site_0, max_int, min_int, sub_int, ge_int, Option.bind_some, Option.map_some, max_min]
    rfl
end
theorem s_meets (r : Rule) (s s2 : Site) (st : Sto) : g__law_meets [r.t, s.t, s2.t] st = .ok (.val (.bl (meets r s s2))) st := by
  unfold meets
  cases h1 : endOk r.a s <;> cases h2 : endOk r.b s2 <;> cases h3 : optOk r.step (stepOf s s2) <;> cases h4 : optOk r.near (nearOf s s2) <;>
    simp [g__law_meets, runDef, startE, n__law_meets, qx_seq', qx_asg, qx_ret, qx_iff, qx_for, qx_frz', qx_nil, qi_cons, viewQ_val, itemsOf, loopS, stepS, bindTg, setMany, qv_lst, qv_tup, qs_cons, qs_nil, bind_ok, of_some, tr_val, truth_bl, slot_val, slot_fresh, ret_val, Own.tree, view_val, qv_v, qv_lit, qv_ix, rule_0, rule_1, c_end, c_step, c_near, c_lev, c_gap, h1, h2, h3, h4, LIM]

structure Fine (n : Nat) (t : T) : Prop where
  ok : t.pdOk = true
  can : t.pd.canLay0 = true
  dep : t.pd.depth ≤ n
theorem fine_non {n : Nat} : Fine n .non := ⟨rfl, by simp [T.pd, PyData.canLay0], by simp [T.pd, PyData.depth]⟩
theorem fine_bl {n : Nat} {b : Bool} : Fine n (.bl b) := ⟨rfl, by simp [T.pd, PyData.canLay0], by simp [T.pd, PyData.depth]⟩
theorem fine_int {n : Nat} {b : Int} : Fine n (.int b) := ⟨rfl, by simp [T.pd, PyData.canLay0], by simp [T.pd, PyData.depth]⟩
theorem fine_str {n : Nat} {b : Str} (h : PyData.strOk b = true) : Fine n (.str b) := ⟨rfl, by simp [T.pd, PyData.canLay0, h], by simp [T.pd, PyData.depth]⟩
theorem fine_all {n : Nat} : ∀ {ts : List T}, (∀ t ∈ ts, Fine n t) → T.pdsOk ts = true ∧ PyData.canLayAll0 (T.pds ts) = true ∧ PyData.depthAll (T.pds ts) ≤ n
  | [], _ => ⟨rfl, by simp [T.pds, PyData.canLayAll0], by simp [T.pds, PyData.depthAll]⟩
  | t :: ts, h => by
    obtain ⟨h1, h2, h3⟩ := fine_all fun z hz => h z (List.mem_cons_of_mem _ hz)
    have f := h t List.mem_cons_self
    refine ⟨by simp [T.pdsOk, f.ok, h1], by simp [T.pds, PyData.canLayAll0, f.can, h2], ?_⟩
    have := f.dep
    simp only [T.pds, PyData.depthAll]
    omega
theorem fine_lst {n : Nat} {ts : List T} (h : ∀ t ∈ ts, Fine n t) : Fine (n + 1) (.lst ts) := by
  obtain ⟨h1, h2, h3⟩ := fine_all h
  refine ⟨by simp [T.pdOk, h1], by simp [T.pd, PyData.canLay0, h2], ?_⟩
  simp only [T.pd, PyData.depth]
  omega
theorem fine_tup {n : Nat} {ts : List T} (h : ∀ t ∈ ts, Fine n t) : Fine (n + 1) (.tup ts) := by
  obtain ⟨h1, h2, h3⟩ := fine_all h
  refine ⟨by simp [T.pdOk, h1], by simp [T.pd, PyData.canLay0, h2], ?_⟩
  simp only [T.pd, PyData.depth]
  omega
theorem Fine.mono {n m : Nat} {t : T} (f : Fine n t) (h : n ≤ m) : Fine m t := ⟨f.ok, f.can, Nat.le_trans f.dep h⟩
theorem eqD_fine {a b : T} (fa : Fine 60 a) (fb : Fine 60 b) : eqD a b = some (PyData.eqv a.pd b.pd) := by
  unfold eqD SeqAt.shaped
  rw [fa.ok, fb.ok, fa.can, fb.can, decide_eq_true (Nat.le_trans fa.dep (by decide)), decide_eq_true (Nat.le_trans fb.dep (by decide))]
  rfl
theorem eqv_same {a : T} (fa : Fine 60 a) : eqD a a = some true := by
  rw [eqD_fine fa fa, SeqAt.eqv_refl _ fa.can]
theorem lst_eq (xs ys : List T) : cmpop .eq (.lst xs) (.lst ys) = eqD (.lst xs) (.lst ys) := rfl
theorem lst_ne (xs ys : List T) : cmpop .ne (.lst xs) (.lst ys) = (eqD (.lst xs) (.lst ys)).map (!·) := rfl
theorem tup_eq (xs ys : List T) : cmpop .eq (.tup xs) (.tup ys) = eqD (.tup xs) (.tup ys) := rfl
theorem tup_ne (xs ys : List T) : cmpop .ne (.tup xs) (.tup ys) = (eqD (.tup xs) (.tup ys)).map (!·) := rfl
theorem ne_nil {xs : List T} (h : Fine 60 (.lst xs)) : cmpop .ne (.lst xs) (.lst []) = some (!xs.isEmpty) := by
  rw [lst_ne, eqD_fine h (fine_lst (n := 59) fun t ht => by cases ht)]
  cases xs <;> rfl
theorem fine_ints (xs : List Nat) : Fine 60 (.lst (xs.map fun i => T.int (i : Nat))) := fine_lst (n := 59) fun t ht => by
  obtain ⟨i, _, rfl⟩ := List.mem_map.mp ht
  exact fine_int
def idxs (k : Nat) : List Bool → List Nat
  | [] => []
  | b :: bs => if b then k :: idxs (k + 1) bs else idxs (k + 1) bs
theorem idxs_len : ∀ (bs : List Bool) (k : Nat), (idxs k bs).length ≤ bs.length
  | [], _ => Nat.le_refl _
  | b :: bs, k => by
    have := idxs_len bs (k + 1)
    unfold idxs
    split <;> simp <;> omega
def fst (rs : List Rule) (s s2 : Site) : Option Nat := (idxs 0 (rs.map fun r => meets r s s2)).head?
def tRs (rs : List Rule) : T := .lst (rs.map Rule.t)
theorem enum_pick {α : Type} {f : T → Option T} {t : α → T} {p : α → Bool} (hf : ∀ (i : Nat) (x : α), f (.tup [.int i, t x]) = if p x then some (.int i) else none) : ∀ (xs : List α) (k : Nat), (enumT k (xs.map t)).filterMap f = (idxs k (xs.map p)).map fun i => T.int (i : Nat)
  | [], _ => rfl
  | x :: xs, k => by
    have ih := enum_pick hf xs (k + 1)
    have h := hf k x
    show List.filterMap f (.tup [.int k, t x] :: enumT (k + 1) (xs.map t)) = (if p x then k :: idxs (k + 1) (xs.map p) else idxs (k + 1) (xs.map p)).map _
    cases q : p x with
    | true =>
      rw [q] at h
      rw [List.filterMap_cons_some (by rw [h]; rfl), ih]; rfl
    | false =>
      rw [q] at h
      rw [List.filterMap_cons_none (by rw [h]; rfl), ih]; rfl
theorem enum_mem {ts : List T} : ∀ {k : Nat} {x : T}, x ∈ enumT k ts → ∃ (i : Nat) (t : T), x = .tup [.int i, t] ∧ t ∈ ts := by
  induction ts with
  | nil => intro k x h; cases h
  | cons t ts ih =>
    intro k x h
    rcases List.mem_cons.mp h with rfl | h
    · exact ⟨k, t, rfl, List.mem_cons_self⟩
    · obtain ⟨i, z, e, hz⟩ := ih h
      exact ⟨i, z, e, List.mem_cons_of_mem _ hz⟩
theorem enum_len : ∀ (ts : List T) (k : Nat), (enumT k ts).length = ts.length
  | [], _ => rfl
  | t :: ts, k => by simp [enumT, enum_len ts (k + 1)]
def okT (o : Oc RV) : Bool := match o with
  | .ok (.val (.bl b)) _ => b
  | _ => false
theorem fin_noxT {α : Type} {t : α} {b : Bool} {st : Sto} : (((truthB (Oc.ok (RV.val (T.bl b)) st)).bind fun c st1 => if c = true then Oc.ok (some t) st1 else Oc.ok none st1) : Oc (Option α)).nox = Oc.ok (if b then some t else none) st := by
  cases b <;> rfl
theorem s_first (rs : List Rule) (s s2 : Site) (st : Sto) (hl : rs.length ≤ 1000) : g__law_first [tRs rs, s.t, s2.t] st = .ok (.val (tNa (fst rs s s2))) st := by
  have hstep : ∀ x ∈ enumT 0 (rs.map Rule.t), stepC [some (.val (tRs rs)), some (.val s.t), some (.val s2.t), none, none, none] [4, 5] (.tp [4, 5]) (evc (.cons (.call "_law_meets" 3 g__law_meets (.cons (.var 5) (.cons (.var 1) (.cons (.var 2) .nil)))) .nil)) (ev (.var 4)) x st =
      .ok ((fun x => match x with
        | .tup [.int i, t] => if okT (g__law_meets [t, s.t, s2.t] st) then some (.int i) else none
        | _ => none) x) st := fun x hx => by
    obtain ⟨i, t, rfl, ht⟩ := enum_mem hx
    obtain ⟨r, _, rfl⟩ := List.mem_map.mp ht
    have e := s_meets r s s2 st
    simp [stepC, wipeE, bindTg, setMany, qc_cons, qv_call, qs_cons, qs_nil, qv_v, bind_ok, tr_val, e, okT, fin_noxT]
  have hc := loopC_map (enumT 0 (rs.map Rule.t)) [] hstep (by rw [enum_len, List.length_map]; unfold LIM; simp; omega)
  rw [enum_pick (p := fun r => meets r s s2) (t := Rule.t) (fun i r => by
    show (if okT (g__law_meets [r.t, s.t, s2.t] st) then some (T.int i) else none) = _
    rw [s_meets r s s2 st]; rfl), List.nil_append] at hc
  have hfin : ∀ L : List Nat, (ev (.ite (.cmp .ne (.var 3) (.lst .nil)) (.ix (.var 3) (.lit (.int 0))) (.lit .non)) [some (.val (tRs rs)), some (.val s.t), some (.val s2.t), some (.own (.lst (L.map fun i => T.int (i : Nat)))), none, none] st) = .ok (.val (tNa L.head?)) st := fun L => by
    have e := ne_nil (fine_ints L)
    cases L with
    | nil => simp at e; simp [qx_seq', qx_ret, qx_retN, qx_iff, qx_asg, qx_set2, qx_set3, qx_for, qx_ap', qx_xt', qx_frz', qx_nil, qx_drop, qv_v, qv_lit, qv_glb, qv_bin, qv_neg, qv_cmp, qv_chain, qv_and, qv_or, qv_not, qv_ite, qv_tup, qv_lst, qv_ix, qv_sl, qv_attr, qv_bi, qv_bi2, qv_isT, qv_call, qv_om, qp_nil, qp_cons, qs_nil, qs_cons, qc_nil, qc_cons, bind_ok, of_some, tr_val, tr_fresh, truth_bl, view_val, view_fresh, view_at, slot_val, slot_fresh, ret_val, ret_fresh, ret_at, Own.tree, e, tNa, LIM]
    | cons a L => simp at e; simp [qx_seq', qx_ret, qx_retN, qx_iff, qx_asg, qx_set2, qx_set3, qx_for, qx_ap', qx_xt', qx_frz', qx_nil, qx_drop, qv_v, qv_lit, qv_glb, qv_bin, qv_neg, qv_cmp, qv_chain, qv_and, qv_or, qv_not, qv_ite, qv_tup, qv_lst, qv_ix, qv_sl, qv_attr, qv_bi, qv_bi2, qv_isT, qv_call, qv_om, qp_nil, qp_cons, qs_nil, qs_cons, qc_nil, qc_cons, bind_ok, of_some, tr_val, tr_fresh, truth_bl, view_val, view_fresh, view_at, slot_val, slot_fresh, ret_val, ret_fresh, ret_at, Own.tree, e, tNa, index, ixN, LIM]
  have e1 : evI true (.enm (.var 0)) [some (.val (tRs rs)), some (.val s.t), some (.val s2.t), none, none, none] st = .ok (enumT 0 (rs.map Rule.t)) st := by
    simp [qi_enm, qv_v, bind_ok, of_some, viewQ_val, tRs]
  have hf := hfin (idxs 0 (rs.map fun r => meets r s s2))
  simp only [g__law_first, runDef, startE, n__law_first, qx_seq', qx_asg, qx_ret, qv_comp, List.map, List.replicate, List.length, List.append, List.cons_append, List.nil_append]
  rw [e1, bind_ok, hc, bind_ok, bind_ok]
  simp only [slot_fresh, bind_ok, List.set]
  rw [hf]
  rfl
end NN

set_option Elab.async false
set_option linter.all false
set_option maxRecDepth 100000
set_option maxHeartbeats 4000000
namespace NN
open PySem
theorem qv_comp' {tg : Tg} {own : List Nat} {it c e : N} {env : Env} {st : Sto} {xs : List T} {f : T → Option T} (hi : evI true it env st = .ok xs st) (hs : ∀ x ∈ xs, stepC env own tg (evc c) (ev e) x st = .ok (f x) st) (hl : xs.length ≤ LIM) :
    ev (.comp tg own it c e) env st = .ok (.fresh (.lst (xs.filterMap f))) st := by
  rw [qv_comp, hi, bind_ok, loopC_map xs [] hs (by simpa using hl), bind_ok, List.nil_append]
theorem qv_compM {tg : Tg} {own : List Nat} {it e : N} {env : Env} {st : Sto} {xs : List T} {f : T → T} (hi : evI true it env st = .ok xs st) (hs : ∀ x ∈ xs, stepC env own tg (evc .nil) (ev e) x st = .ok (some (f x)) st) (hl : xs.length ≤ LIM) :
    ev (.comp tg own it .nil e) env st = .ok (.fresh (.lst (xs.map f))) st := by
  rw [qv_comp' (f := fun x => some (f x)) hi hs hl, List.filterMap_eq_map']
  
def lets (rs : List Rule) (s s2 : Site) : Bool := match fst rs s s2 with
  | none => true
  | some i => match rs[i]? with
    | some r => r.word == "let"
    | none => true
theorem idxs_lt : ∀ (bs : List Bool) (k i : Nat), i ∈ idxs k bs → i < k + bs.length ∧ k ≤ i
  | [], _, _, h => by cases h
  | b :: bs, k, i, h => by
    unfold idxs at h
    have : i = k ∨ i ∈ idxs (k + 1) bs := by
      split at h
      · exact List.mem_cons.mp h
      · exact .inr h
    rcases this with rfl | h
    · simp
    · have := idxs_lt bs (k + 1) i h
      simp only [List.length_cons]
      omega
theorem fst_lt {rs : List Rule} {s s2 : Site} {i : Nat} (h : fst rs s s2 = some i) : i < rs.length := by
  have := idxs_lt _ 0 i (List.mem_of_head? h)
  simpa using this.1
theorem lst_ix {ts : List T} {i : Nat} {t : T} (h : ts[i]? = some t) : index (.lst ts) (.int (i : Nat)) = some t := by
  have hi : i < ts.length := (List.getElem?_eq_some_iff.mp h).1
  show (ixN ts.length (i : Int)).bind _ = _
  unfold ixN
  rw [if_pos (Int.natCast_nonneg i), if_pos (by exact_mod_cast hi)]
  simpa using h
theorem s_lets (rs : List Rule) (s s2 : Site) (st : Sto) (hl : rs.length ≤ 1000) : g__law_lets [tRs rs, s.t, s2.t] st = .ok (.val (.bl (lets rs s s2))) st := by
  have e := s_first rs s s2 st hl
  unfold lets
  cases h : fst rs s s2 with
  | none => rw [h] at e; simp [g__law_lets, runDef, startE, n__law_lets, qx_seq', qx_ret, qx_retN, qx_iff, qx_asg, qx_set2, qx_set3, qx_for, qx_ap', qx_xt', qx_frz', qx_nil, qx_drop, qv_v, qv_lit, qv_glb, qv_bin, qv_neg, qv_cmp, qv_chain, qv_and, qv_or, qv_not, qv_ite, qv_tup, qv_lst, qv_ix, qv_sl, qv_attr, qv_bi, qv_bi2, qv_isT, qv_call, qv_om, qp_nil, qp_cons, qs_nil, qs_cons, qc_nil, qc_cons, bind_ok, of_some, tr_val, tr_fresh, truth_bl, view_val, view_fresh, view_at, slot_val, slot_fresh, ret_val, ret_fresh, ret_at, Own.tree, e, tNa, is_non]
  | some i =>
    rw [h] at e
    have hi := fst_lt h
    have e2 : index (tRs rs) (.int (i : Nat)) = some (rs[i]).t := lst_ix (by rw [List.getElem?_map, List.getElem?_eq_getElem hi]; rfl)
    simp [g__law_lets, runDef, startE, n__law_lets, qx_seq', qx_ret, qx_retN, qx_iff, qx_asg, qx_set2, qx_set3, qx_for, qx_ap', qx_xt', qx_frz', qx_nil, qx_drop, qv_v, qv_lit, qv_glb, qv_bin, qv_neg, qv_cmp, qv_chain, qv_and, qv_or, qv_not, qv_ite, qv_tup, qv_lst, qv_ix, qv_sl, qv_attr, qv_bi, qv_bi2, qv_isT, qv_call, qv_om, qp_nil, qp_cons, qs_nil, qs_cons, qc_nil, qc_cons, bind_ok, of_some, tr_val, tr_fresh, truth_bl, view_val, view_fresh, view_at, slot_val, slot_fresh, ret_val, ret_fresh, ret_at, Own.tree, e, tNa, is_int, e2, rule_5, eq_str, List.getElem?_eq_getElem hi]

def partsT (r : Rule) : List T := ((match r.a with | none => [] | some x => [pI "From" (.str x)]) ++ (match r.b with | none => [] | some x => [pI "To" (.str x)])) ++ ((match r.step with | none => [] | some x => [pI "Step" (.str x)]) ++ ((match r.near with | none => [] | some x => [pI "Near" (.str x)]) ++ (match r.gap with | none => [] | some x => [pI "Gap" (.int x)])))
theorem m_From (t : T) (st : Sto) : g_From [t] st = .ok (.val (pI "From" t)) st := by simp [g_From, gMake, startI, n_Part___init__, qx_seq', qx_ret, qx_retN, qx_iff, qx_asg, qx_set2, qx_set3, qx_for, qx_ap', qx_xt', qx_frz', qx_nil, qx_drop, qv_v, qv_lit, qv_glb, qv_bin, qv_neg, qv_cmp, qv_chain, qv_and, qv_or, qv_not, qv_ite, qv_tup, qv_lst, qv_ix, qv_sl, qv_attr, qv_bi, qv_bi2, qv_isT, qv_call, qv_om, qp_nil, qp_cons, qs_nil, qs_cons, qc_nil, qc_cons, bind_ok, of_some, tr_val, tr_fresh, truth_bl, view_val, view_fresh, view_at, slot_val, slot_fresh, ret_val, ret_fresh, ret_at, Own.tree]
theorem m_To (t : T) (st : Sto) : g_To [t] st = .ok (.val (pI "To" t)) st := by simp [g_To, gMake, startI, n_Part___init__, qx_seq', qx_ret, qx_retN, qx_iff, qx_asg, qx_set2, qx_set3, qx_for, qx_ap', qx_xt', qx_frz', qx_nil, qx_drop, qv_v, qv_lit, qv_glb, qv_bin, qv_neg, qv_cmp, qv_chain, qv_and, qv_or, qv_not, qv_ite, qv_tup, qv_lst, qv_ix, qv_sl, qv_attr, qv_bi, qv_bi2, qv_isT, qv_call, qv_om, qp_nil, qp_cons, qs_nil, qs_cons, qc_nil, qc_cons, bind_ok, of_some, tr_val, tr_fresh, truth_bl, view_val, view_fresh, view_at, slot_val, slot_fresh, ret_val, ret_fresh, ret_at, Own.tree]
theorem m_Step (t : T) (st : Sto) : g_Step [t] st = .ok (.val (pI "Step" t)) st := by simp [g_Step, gMake, startI, n_Part___init__, qx_seq', qx_ret, qx_retN, qx_iff, qx_asg, qx_set2, qx_set3, qx_for, qx_ap', qx_xt', qx_frz', qx_nil, qx_drop, qv_v, qv_lit, qv_glb, qv_bin, qv_neg, qv_cmp, qv_chain, qv_and, qv_or, qv_not, qv_ite, qv_tup, qv_lst, qv_ix, qv_sl, qv_attr, qv_bi, qv_bi2, qv_isT, qv_call, qv_om, qp_nil, qp_cons, qs_nil, qs_cons, qc_nil, qc_cons, bind_ok, of_some, tr_val, tr_fresh, truth_bl, view_val, view_fresh, view_at, slot_val, slot_fresh, ret_val, ret_fresh, ret_at, Own.tree]
theorem m_Near (t : T) (st : Sto) : g_Near [t] st = .ok (.val (pI "Near" t)) st := by simp [g_Near, gMake, startI, n_Part___init__, qx_seq', qx_ret, qx_retN, qx_iff, qx_asg, qx_set2, qx_set3, qx_for, qx_ap', qx_xt', qx_frz', qx_nil, qx_drop, qv_v, qv_lit, qv_glb, qv_bin, qv_neg, qv_cmp, qv_chain, qv_and, qv_or, qv_not, qv_ite, qv_tup, qv_lst, qv_ix, qv_sl, qv_attr, qv_bi, qv_bi2, qv_isT, qv_call, qv_om, qp_nil, qp_cons, qs_nil, qs_cons, qc_nil, qc_cons, bind_ok, of_some, tr_val, tr_fresh, truth_bl, view_val, view_fresh, view_at, slot_val, slot_fresh, ret_val, ret_fresh, ret_at, Own.tree]
theorem m_Gap (t : T) (st : Sto) : g_Gap [t] st = .ok (.val (pI "Gap" t)) st := by simp [g_Gap, gMake, startI, n_Part___init__, qx_seq', qx_ret, qx_retN, qx_iff, qx_asg, qx_set2, qx_set3, qx_for, qx_ap', qx_xt', qx_frz', qx_nil, qx_drop, qv_v, qv_lit, qv_glb, qv_bin, qv_neg, qv_cmp, qv_chain, qv_and, qv_or, qv_not, qv_ite, qv_tup, qv_lst, qv_ix, qv_sl, qv_attr, qv_bi, qv_bi2, qv_isT, qv_call, qv_om, qp_nil, qp_cons, qs_nil, qs_cons, qc_nil, qc_cons, bind_ok, of_some, tr_val, tr_fresh, truth_bl, view_val, view_fresh, view_at, slot_val, slot_fresh, ret_val, ret_fresh, ret_at, Own.tree]
theorem s_parts (r : Rule) (st : Sto) : g_parts_of [r.t] st = .ok (.fresh (.lst (partsT r))) st := by
  obtain ⟨a, b, step, near, gap, word⟩ := r
  have hL : (5 : Nat) ≤ LIM := by decide
  cases a <;> cases b <;> cases step <;> cases near <;> cases gap <;>
    simp [g_parts_of, runDef, startE, n_parts_of, qx_seq', qx_ret, qx_retN, qx_iff, qx_asg, qx_set2, qx_set3, qx_for, qx_ap', qx_xt', qx_frz', qx_nil, qx_drop, qv_v, qv_lit, qv_glb, qv_bin, qv_neg, qv_cmp, qv_chain, qv_and, qv_or, qv_not, qv_ite, qv_tup, qv_lst, qv_ix, qv_sl, qv_attr, qv_bi, qv_bi2, qv_isT, qv_call, qv_om, qp_nil, qp_cons, qs_nil, qs_cons, qc_nil, qc_cons, bind_ok, of_some, tr_val, tr_fresh, truth_bl, view_val, view_fresh, view_at, slot_val, slot_fresh, ret_val, ret_fresh, ret_at, Own.tree, m_From, m_To, m_Step, m_Near, m_Gap, rule_0, rule_1, rule_2, rule_3, rule_4, qv_comp, qi_cons, viewT_at, itemsOf, loopC, stepC, wipeE, bindTg, told_From, told_To, told_Step, told_Near, told_Gap, tO, tI, isn_non, isn_str, isn_int, Oc.nox, partsT, hL, show (0:Nat) < LIM by decide, show (1:Nat) < LIM by decide, show (2:Nat) < LIM by decide, show (3:Nat) < LIM by decide, show (4:Nat) < LIM by decide]
end NN

set_option Elab.async false
set_option linter.all false
set_option maxRecDepth 100000
set_option maxHeartbeats 4000000
namespace NN
open PySem
theorem near_of {r : Rule} (ok : r.ok) {x : Str} (h : r.near = some x) : x = "same" ∨ x = "other" := by
  have := ok.near
  rw [h] at this
  simp at this
  exact this
theorem no_told : (Str.ofString "fits" = Str.ofString "told") = False := eq_false (by decide +kernel)
theorem lk_From : List.lookup (Str.ofString "From") [("From", g_From_fits), ("To", g_To_fits), ("Step", g_Step_fits), ("Near", g_Near_fits), ("Gap", g_Gap_fits)] = some g_From_fits := rfl
theorem lk_To : List.lookup (Str.ofString "To") [("From", g_From_fits), ("To", g_To_fits), ("Step", g_Step_fits), ("Near", g_Near_fits), ("Gap", g_Gap_fits)] = some g_To_fits := rfl
theorem lk_Step : List.lookup (Str.ofString "Step") [("From", g_From_fits), ("To", g_To_fits), ("Step", g_Step_fits), ("Near", g_Near_fits), ("Gap", g_Gap_fits)] = some g_Step_fits := rfl
theorem lk_Near : List.lookup (Str.ofString "Near") [("From", g_From_fits), ("To", g_To_fits), ("Step", g_Step_fits), ("Near", g_Near_fits), ("Gap", g_Gap_fits)] = some g_Near_fits := rfl
theorem lk_Gap : List.lookup (Str.ofString "Gap") [("From", g_From_fits), ("To", g_To_fits), ("Step", g_Step_fits), ("Near", g_Near_fits), ("Gap", g_Gap_fits)] = some g_Gap_fits := rfl
theorem s_all (r : Rule) (ok : r.ok) (s s2 : Site) (st : Sto) (e0 e3 e5 : Option Slot) : ev (.bi .all (.comp (.nm 5) [5] (.cons (.var 4) .nil) (.nil) (.om "fits" 3 [("From", g_From_fits), ("To", g_To_fits), ("Step", g_Step_fits), ("Near", g_Near_fits), ("Gap", g_Gap_fits)] (.var 5) (.cons (.var 1) (.cons (.var 2) .nil)))))
    [e0, some (.val s.t), some (.val s2.t), e3, some (.val (.lst (partsT r))), e5] st = .ok (.val (.bl (meets r s s2))) st := by
  have hL : (5 : Nat) ≤ LIM := by decide
  have hn := @near_of r ok
  obtain ⟨a, b, step, near, gap, word⟩ := r
  cases near with
  | none =>
    cases a <;> cases b <;> cases step <;> cases gap <;>
      simp [qx_seq', qx_ret, qx_retN, qx_iff, qx_asg, qx_set2, qx_set3, qx_for, qx_ap', qx_xt', qx_frz', qx_nil, qx_drop, qv_v, qv_lit, qv_glb, qv_bin, qv_neg, qv_cmp, qv_chain, qv_and, qv_or, qv_not, qv_ite, qv_tup, qv_lst, qv_ix, qv_sl, qv_attr, qv_bi, qv_bi2, qv_isT, qv_call, qv_om, qp_nil, qp_cons, qs_nil, qs_cons, qc_nil, qc_cons, bind_ok, of_some, tr_val, tr_fresh, truth_bl, view_val, view_fresh, view_at, slot_val, slot_fresh, ret_val, ret_fresh, ret_at, Own.tree, qv_comp, qi_cons, viewQ_val, itemsOf, loopC, stepC, wipeE, bindTg, s_From, s_To, s_Step, s_Gap, Oc.nox, no_told, lk_From, lk_To, lk_Step, lk_Near, lk_Gap, partsT, builtin, bls?, meets, endOk, optOk, gapOk, show (0:Nat) < LIM by decide, show (1:Nat) < LIM by decide, show (2:Nat) < LIM by decide, show (3:Nat) < LIM by decide, show (4:Nat) < LIM by decide]
  | some x =>
    have hx := hn rfl
    cases a <;> cases b <;> cases step <;> cases gap <;>
      simp [qx_seq', qx_ret, qx_retN, qx_iff, qx_asg, qx_set2, qx_set3, qx_for, qx_ap', qx_xt', qx_frz', qx_nil, qx_drop, qv_v, qv_lit, qv_glb, qv_bin, qv_neg, qv_cmp, qv_chain, qv_and, qv_or, qv_not, qv_ite, qv_tup, qv_lst, qv_ix, qv_sl, qv_attr, qv_bi, qv_bi2, qv_isT, qv_call, qv_om, qp_nil, qp_cons, qs_nil, qs_cons, qc_nil, qc_cons, bind_ok, of_some, tr_val, tr_fresh, truth_bl, view_val, view_fresh, view_at, slot_val, slot_fresh, ret_val, ret_fresh, ret_at, Own.tree, qv_comp, qi_cons, viewQ_val, itemsOf, loopC, stepC, wipeE, bindTg, s_From, s_To, s_Step, s_Near _ _ _ _ hx, s_Gap, Oc.nox, no_told, lk_From, lk_To, lk_Step, lk_Near, lk_Gap, partsT, builtin, bls?, meets, endOk, optOk, gapOk, show (0:Nat) < LIM by decide, show (1:Nat) < LIM by decide, show (2:Nat) < LIM by decide, show (3:Nat) < LIM by decide, show (4:Nat) < LIM by decide]

def tRd (rs : List Rule) : T := .ins "Reader" ["rows", "last"] [.lst (rs.map fun r => .lst (partsT r)), .lst (rs.map fun r => .str r.word)]
theorem s_Reader (rs : List Rule) (st : Sto) (hl : rs.length ≤ 1000) : g_Reader [tRs rs] st = .ok (.val (tRd rs)) st := by
  have hL : (rs.map Rule.t).length ≤ LIM := by rw [List.length_map]; unfold LIM; omega
  have e1 : ∀ e : N, evI true (.cons (.var 1) .nil) [none, some (.val (tRs rs)), none] st = .ok (rs.map Rule.t) st := fun _ => by
    simp [qi_cons, qx_seq', qx_ret, qx_retN, qx_iff, qx_asg, qx_set2, qx_set3, qx_for, qx_ap', qx_xt', qx_frz', qx_nil, qx_drop, qv_v, qv_lit, qv_glb, qv_bin, qv_neg, qv_cmp, qv_chain, qv_and, qv_or, qv_not, qv_ite, qv_tup, qv_lst, qv_ix, qv_sl, qv_attr, qv_bi, qv_bi2, qv_isT, qv_call, qv_om, qp_nil, qp_cons, qs_nil, qs_cons, qc_nil, qc_cons, bind_ok, of_some, tr_val, tr_fresh, truth_bl, view_val, view_fresh, view_at, slot_val, slot_fresh, ret_val, ret_fresh, ret_at, Own.tree, viewQ_val, itemsOf, tRs]
  have e2 : ev (.comp (.nm 2) [2] (.cons (.var 1) .nil) .nil (.call "parts_of" 1 g_parts_of (.cons (.var 2) .nil))) [none, some (.val (tRs rs)), none] st = .ok (.fresh (.lst ((rs.map Rule.t).map fun t => match g_parts_of [t] st with | .ok (.fresh c) _ => c.tree | _ => .non))) st := by
    refine qv_compM (e1 .nil) (fun x hx => ?_) hL
    obtain ⟨r, _, rfl⟩ := List.mem_map.mp hx
    simp [stepC, wipeE, bindTg, qx_seq', qx_ret, qx_retN, qx_iff, qx_asg, qx_set2, qx_set3, qx_for, qx_ap', qx_xt', qx_frz', qx_nil, qx_drop, qv_v, qv_lit, qv_glb, qv_bin, qv_neg, qv_cmp, qv_chain, qv_and, qv_or, qv_not, qv_ite, qv_tup, qv_lst, qv_ix, qv_sl, qv_attr, qv_bi, qv_bi2, qv_isT, qv_call, qv_om, qp_nil, qp_cons, qs_nil, qs_cons, qc_nil, qc_cons, bind_ok, of_some, tr_val, tr_fresh, truth_bl, view_val, view_fresh, view_at, slot_val, slot_fresh, ret_val, ret_fresh, ret_at, Own.tree, s_parts, Oc.nox]
  have e3 : ev (.comp (.nm 2) [2] (.cons (.var 1) .nil) .nil (.ix (.var 2) (.lit (.int 5)))) [none, some (.val (tRs rs)), none] st = .ok (.fresh (.lst ((rs.map Rule.t).map fun t => (index t (.int 5)).getD .non))) st := by
    refine qv_compM (e1 .nil) (fun x hx => ?_) hL
    obtain ⟨r, _, rfl⟩ := List.mem_map.mp hx
    simp [stepC, wipeE, bindTg, qx_seq', qx_ret, qx_retN, qx_iff, qx_asg, qx_set2, qx_set3, qx_for, qx_ap', qx_xt', qx_frz', qx_nil, qx_drop, qv_v, qv_lit, qv_glb, qv_bin, qv_neg, qv_cmp, qv_chain, qv_and, qv_or, qv_not, qv_ite, qv_tup, qv_lst, qv_ix, qv_sl, qv_attr, qv_bi, qv_bi2, qv_isT, qv_call, qv_om, qp_nil, qp_cons, qs_nil, qs_cons, qc_nil, qc_cons, bind_ok, of_some, tr_val, tr_fresh, truth_bl, view_val, view_fresh, view_at, slot_val, slot_fresh, ret_val, ret_fresh, ret_at, Own.tree, rule_5, Oc.nox]
  rw [List.map_map] at e2 e3
  have f2 : ((fun t => match g_parts_of [t] st with | .ok (.fresh c) _ => c.tree | _ => .non) ∘ Rule.t) = fun r => .lst (partsT r) := funext fun r => by
    show (match g_parts_of [r.t] st with | .ok (.fresh c) _ => c.tree | _ => .non) = _
    rw [s_parts]; rfl
  have f3 : ((fun t => (index t (.int 5)).getD .non) ∘ Rule.t) = fun r => .str r.word := funext fun r => rfl
  rw [f2] at e2
  rw [f3] at e3
  simp [g_Reader, gMake, startI, n_Reader___init__, qs_cons, qs_nil, e2, e3, bind_ok, tr_fresh, Own.tree, tRd]
theorem rows_of (rs : List Rule) : fldOf "rows" ["Reader"] (tRd rs) = some (.lst (rs.map fun r => .lst (partsT r))) := rfl
theorem last_of (rs : List Rule) : fldOf "last" ["Reader"] (tRd rs) = some (.lst (rs.map fun r => .str r.word)) := rfl
theorem first_loop (s s2 : Site) (st : Sto) (e0 : Option Slot) : ∀ (rs : List Rule) (k : Nat) (e3 e4 e5 : Option Slot), (∀ r ∈ rs, r.ok) →
    ∃ r, loopS (stepS (.tp [3, 4]) (ex (.seq (.iff (.bi .all (.comp (.nm 5) [5] (.cons (.var 4) .nil) (.nil) (.om "fits" 3 [("From", g_From_fits), ("To", g_To_fits), ("Step", g_Step_fits), ("Near", g_Near_fits), ("Gap", g_Gap_fits)] (.var 5) (.cons (.var 1) (.cons (.var 2) .nil))))) (.seq (.ret (.var 3)) .nil) (.nil)) .nil)))
      (enumT k (rs.map fun r => .lst (partsT r))) [e0, some (.val s.t), some (.val s2.t), e3, e4, e5] st = .ok r st ∧
      (match (idxs k (rs.map fun r => meets r s s2)).head? with
        | some i => r = .rt (.val (.int (i : Nat)))
        | none => ∃ e3 e4 e5, r = .nx [e0, some (.val s.t), some (.val s2.t), e3, e4, e5])
  | [], k, e3, e4, e5, _ => ⟨_, rfl, e3, e4, e5, rfl⟩
  | r :: rs, k, e3, e4, e5, h => by
    have ea := s_all r (h r List.mem_cons_self) s s2 st e0 (some (.val (.int (k : Nat)))) e5
    have hc : stepS (.tp [3, 4]) (ex (.seq (.iff (.bi .all (.comp (.nm 5) [5] (.cons (.var 4) .nil) (.nil) (.om "fits" 3 [("From", g_From_fits), ("To", g_To_fits), ("Step", g_Step_fits), ("Near", g_Near_fits), ("Gap", g_Gap_fits)] (.var 5) (.cons (.var 1) (.cons (.var 2) .nil))))) (.seq (.ret (.var 3)) .nil) (.nil)) .nil))
        (.tup [.int (k : Nat), .lst (partsT r)]) [e0, some (.val s.t), some (.val s2.t), e3, e4, e5] st = .ok (if meets r s s2 then .rt (.val (.int (k : Nat))) else .nx [e0, some (.val s.t), some (.val s2.t), some (.val (.int (k : Nat))), some (.val (.lst (partsT r))), e5]) st := by
      simp only [stepS, bindTg, setMany, List.set, qx_seq', qx_iff]
      rw [ea, truth_bl, bind_ok]
      cases meets r s s2 <;> simp [qx_seq', qx_ret, qx_retN, qx_iff, qx_asg, qx_set2, qx_set3, qx_for, qx_ap', qx_xt', qx_frz', qx_nil, qx_drop, qv_v, qv_lit, qv_glb, qv_bin, qv_neg, qv_cmp, qv_chain, qv_and, qv_or, qv_not, qv_ite, qv_tup, qv_lst, qv_ix, qv_sl, qv_attr, qv_bi, qv_bi2, qv_isT, qv_call, qv_om, qp_nil, qp_cons, qs_nil, qs_cons, qc_nil, qc_cons, bind_ok, of_some, tr_val, tr_fresh, truth_bl, view_val, view_fresh, view_at, slot_val, slot_fresh, ret_val, ret_fresh, ret_at, Own.tree]
    show ∃ q, (stepS _ _ (.tup [.int (k : Nat), .lst (partsT r)]) _ st).bind _ = .ok q st ∧ _
    rw [hc, bind_ok]
    cases hm : meets r s s2 with
    | true => exact ⟨_, rfl, by simp [idxs, hm]⟩
    | false =>
      obtain ⟨q, h1, h2⟩ := first_loop s s2 st e0 rs (k + 1) (some (.val (.int (k : Nat)))) (some (.val (.lst (partsT r)))) e5 fun z hz => h z (List.mem_cons_of_mem _ hz)
      refine ⟨q, h1, ?_⟩
      simpa [idxs, hm] using h2
theorem s_rfirst (rs : List Rule) (ok : ∀ r ∈ rs, r.ok) (s s2 : Site) (st : Sto) : g_Reader_first [tRd rs, s.t, s2.t] st = .ok (.val (tNa (fst rs s s2))) st := by
  obtain ⟨r, h1, h2⟩ := first_loop s s2 st (some (.val (tRd rs))) rs 0 none none none ok
  have e1 : evI false (.enm (.attr (.var 0) "rows" ["Reader"])) [some (.val (tRd rs)), some (.val s.t), some (.val s2.t), none, none, none] st = .ok (enumT 0 (rs.map fun r => .lst (partsT r))) st := by
    simp [qi_enm, qv_attr, qv_v, bind_ok, of_some, rows_of, viewQ_val]
  simp only [g_Reader_first, runDef, startE, n_Reader_first, List.map, List.replicate, List.length, List.append, List.cons_append, List.nil_append]
  rw [qx_seq', qx_for, e1, bind_ok, h1, bind_ok]
  unfold fst
  cases h : (idxs 0 (rs.map fun r => meets r s s2)).head? with
  | none =>
    rw [h] at h2
    obtain ⟨e3, e4, e5, rfl⟩ := h2
    simp [qx_seq', qx_ret, qx_retN, qx_iff, qx_asg, qx_set2, qx_set3, qx_for, qx_ap', qx_xt', qx_frz', qx_nil, qx_drop, qv_v, qv_lit, qv_glb, qv_bin, qv_neg, qv_cmp, qv_chain, qv_and, qv_or, qv_not, qv_ite, qv_tup, qv_lst, qv_ix, qv_sl, qv_attr, qv_bi, qv_bi2, qv_isT, qv_call, qv_om, qp_nil, qp_cons, qs_nil, qs_cons, qc_nil, qc_cons, bind_ok, of_some, tr_val, tr_fresh, truth_bl, view_val, view_fresh, view_at, slot_val, slot_fresh, ret_val, ret_fresh, ret_at, Own.tree, tNa]
  | some i =>
    rw [h] at h2
    subst h2
    simp [qx_seq', qx_ret, qx_retN, qx_iff, qx_asg, qx_set2, qx_set3, qx_for, qx_ap', qx_xt', qx_frz', qx_nil, qx_drop, qv_v, qv_lit, qv_glb, qv_bin, qv_neg, qv_cmp, qv_chain, qv_and, qv_or, qv_not, qv_ite, qv_tup, qv_lst, qv_ix, qv_sl, qv_attr, qv_bi, qv_bi2, qv_isT, qv_call, qv_om, qp_nil, qp_cons, qs_nil, qs_cons, qc_nil, qc_cons, bind_ok, of_some, tr_val, tr_fresh, truth_bl, view_val, view_fresh, view_at, slot_val, slot_fresh, ret_val, ret_fresh, ret_at, Own.tree, tNa]
end NN

set_option Elab.async false
set_option linter.all false
set_option maxRecDepth 100000
set_option maxHeartbeats 4000000
namespace NN
open PySem
theorem no_rd1 : (Str.ofString "first" = Str.ofString "rows") = False := eq_false (by decide +kernel)
theorem no_rd2 : (Str.ofString "first" = Str.ofString "last") = False := eq_false (by decide +kernel)
theorem no_rd3 : (Str.ofString "lets" = Str.ofString "rows") = False := eq_false (by decide +kernel)
theorem no_rd4 : (Str.ofString "lets" = Str.ofString "last") = False := eq_false (by decide +kernel)
theorem lk_first : List.lookup (Str.ofString "Reader") [("Reader", g_Reader_first)] = some g_Reader_first := rfl
theorem lk_lets : List.lookup (Str.ofString "Reader") [("Reader", g_Reader_lets)] = some g_Reader_lets := rfl
theorem om_first {env : Env} {st : Sto} {a r : N} {rs : List Rule} {ts : List T} (ha : ev a env st = .ok (.val (tRd rs)) st) (hr : evs r env st = .ok ts st) (hl : ts.length + 1 = 3) : ev (.om "first" 3 [("Reader", g_Reader_first)] a r) env st = g_Reader_first (tRd rs :: ts) st := by
  rw [qv_om, ha, bind_ok]
  have hl2 : ts.length = 2 := by omega
  simp [tRd, no_rd1, no_rd2, lk_first, hr, bind_ok, hl2]
theorem om_lets {env : Env} {st : Sto} {a r : N} {rs : List Rule} {ts : List T} (ha : ev a env st = .ok (.val (tRd rs)) st) (hr : evs r env st = .ok ts st) (hl : ts.length + 1 = 3) : ev (.om "lets" 3 [("Reader", g_Reader_lets)] a r) env st = g_Reader_lets (tRd rs :: ts) st := by
  rw [qv_om, ha, bind_ok]
  have hl2 : ts.length = 2 := by omega
  simp [tRd, no_rd3, no_rd4, lk_lets, hr, bind_ok, hl2]
section
variable (rs : List Rule) (ok : ∀ r ∈ rs, r.ok) (s s2 : Site) (st : Sto)
include ok
theorem s_rlets : g_Reader_lets [tRd rs, s.t, s2.t] st = .ok (.val (.bl (lets rs s s2))) st := by
  have e := s_rfirst rs ok s s2 st
  have e1 : ev (.om "first" 3 [("Reader", g_Reader_first)] (.var 0) (.cons (.var 1) (.cons (.var 2) .nil))) [some (.val (tRd rs)), some (.val s.t), some (.val s2.t), none] st = .ok (.val (tNa (fst rs s s2))) st := by
    rw [om_first (rs := rs) (ts := [s.t, s2.t]) (by simp [qv_v]) (by simp [qx_seq', qx_ret, qx_retN, qx_iff, qx_asg, qx_set2, qx_set3, qx_for, qx_ap', qx_xt', qx_frz', qx_nil, qx_drop, qv_v, qv_lit, qv_glb, qv_bin, qv_neg, qv_cmp, qv_chain, qv_and, qv_or, qv_not, qv_ite, qv_tup, qv_lst, qv_ix, qv_sl, qv_attr, qv_bi, qv_bi2, qv_isT, qv_call, qv_om, qp_nil, qp_cons, qs_nil, qs_cons, qc_nil, qc_cons, bind_ok, of_some, tr_val, tr_fresh, truth_bl, view_val, view_fresh, view_at, slot_val, slot_fresh, ret_val, ret_fresh, ret_at, Own.tree]) rfl, e]
  unfold lets
  cases h : fst rs s s2 with
  | none => rw [h] at e1; simp [g_Reader_lets, runDef, startE, n_Reader_lets, qx_seq', qx_asg, e1, qx_ret, qv_or, qv_cmp, qv_v, qv_lit, bind_ok, of_some, slot_val, ret_val, tNa, is_non, view_val, truth_bl]
  | some i =>
    rw [h] at e1
    have hi := fst_lt h
    have e2 : index (.lst (rs.map fun r => .str r.word)) (.int (i : Nat)) = some (.str (rs[i]).word) := lst_ix (by rw [List.getElem?_map, List.getElem?_eq_getElem hi]; rfl)
    simp [g_Reader_lets, runDef, startE, n_Reader_lets, qx_seq', qx_asg, e1, qx_ret, qv_or, qv_cmp, qv_ix, qv_attr, qv_v, qv_lit, bind_ok, of_some, slot_val, ret_val, tNa, is_int, view_val, truth_bl, last_of, e2, eq_str, List.getElem?_eq_getElem hi]
theorem s_met (hl : rs.length ≤ 1000) : g_first_met [tRs rs, s.t, s2.t] st = .ok (.val (tNa (fst rs s s2))) st := by
  have e1 : ev (.om "first" 3 [("Reader", g_Reader_first)] (.call "Reader" 1 g_Reader (.cons (.var 0) .nil)) (.cons (.var 1) (.cons (.var 2) .nil))) [some (.val (tRs rs)), some (.val s.t), some (.val s2.t)] st = .ok (.val (tNa (fst rs s s2))) st := by
    rw [om_first (rs := rs) (ts := [s.t, s2.t]) (by simp [qx_seq', qx_ret, qx_retN, qx_iff, qx_asg, qx_set2, qx_set3, qx_for, qx_ap', qx_xt', qx_frz', qx_nil, qx_drop, qv_v, qv_lit, qv_glb, qv_bin, qv_neg, qv_cmp, qv_chain, qv_and, qv_or, qv_not, qv_ite, qv_tup, qv_lst, qv_ix, qv_sl, qv_attr, qv_bi, qv_bi2, qv_isT, qv_call, qv_om, qp_nil, qp_cons, qs_nil, qs_cons, qc_nil, qc_cons, bind_ok, of_some, tr_val, tr_fresh, truth_bl, view_val, view_fresh, view_at, slot_val, slot_fresh, ret_val, ret_fresh, ret_at, Own.tree, s_Reader rs st hl]) (by simp [qx_seq', qx_ret, qx_retN, qx_iff, qx_asg, qx_set2, qx_set3, qx_for, qx_ap', qx_xt', qx_frz', qx_nil, qx_drop, qv_v, qv_lit, qv_glb, qv_bin, qv_neg, qv_cmp, qv_chain, qv_and, qv_or, qv_not, qv_ite, qv_tup, qv_lst, qv_ix, qv_sl, qv_attr, qv_bi, qv_bi2, qv_isT, qv_call, qv_om, qp_nil, qp_cons, qs_nil, qs_cons, qc_nil, qc_cons, bind_ok, of_some, tr_val, tr_fresh, truth_bl, view_val, view_fresh, view_at, slot_val, slot_fresh, ret_val, ret_fresh, ret_at, Own.tree]) rfl, s_rfirst rs ok s s2 st]
  simp [g_first_met, runDef, startE, n_first_met, qx_seq', qx_ret, e1, bind_ok, ret_val]
theorem s_islet (hl : rs.length ≤ 1000) : g_is_let [tRs rs, s.t, s2.t] st = .ok (.val (.bl (lets rs s s2))) st := by
  have e1 : ev (.om "lets" 3 [("Reader", g_Reader_lets)] (.call "Reader" 1 g_Reader (.cons (.var 0) .nil)) (.cons (.var 1) (.cons (.var 2) .nil))) [some (.val (tRs rs)), some (.val s.t), some (.val s2.t)] st = .ok (.val (.bl (lets rs s s2))) st := by
    rw [om_lets (rs := rs) (ts := [s.t, s2.t]) (by simp [qx_seq', qx_ret, qx_retN, qx_iff, qx_asg, qx_set2, qx_set3, qx_for, qx_ap', qx_xt', qx_frz', qx_nil, qx_drop, qv_v, qv_lit, qv_glb, qv_bin, qv_neg, qv_cmp, qv_chain, qv_and, qv_or, qv_not, qv_ite, qv_tup, qv_lst, qv_ix, qv_sl, qv_attr, qv_bi, qv_bi2, qv_isT, qv_call, qv_om, qp_nil, qp_cons, qs_nil, qs_cons, qc_nil, qc_cons, bind_ok, of_some, tr_val, tr_fresh, truth_bl, view_val, view_fresh, view_at, slot_val, slot_fresh, ret_val, ret_fresh, ret_at, Own.tree, s_Reader rs st hl]) (by simp [qx_seq', qx_ret, qx_retN, qx_iff, qx_asg, qx_set2, qx_set3, qx_for, qx_ap', qx_xt', qx_frz', qx_nil, qx_drop, qv_v, qv_lit, qv_glb, qv_bin, qv_neg, qv_cmp, qv_chain, qv_and, qv_or, qv_not, qv_ite, qv_tup, qv_lst, qv_ix, qv_sl, qv_attr, qv_bi, qv_bi2, qv_isT, qv_call, qv_om, qp_nil, qp_cons, qs_nil, qs_cons, qc_nil, qc_cons, bind_ok, of_some, tr_val, tr_fresh, truth_bl, view_val, view_fresh, view_at, slot_val, slot_fresh, ret_val, ret_fresh, ret_at, Own.tree]) rfl, s_rlets rs ok s s2 st]
  simp [g_is_let, runDef, startE, n_is_let, qx_seq', qx_ret, e1, bind_ok, ret_val]
end
end NN

set_option Elab.async false
set_option linter.all false
set_option maxRecDepth 100000
set_option maxHeartbeats 4000000
namespace NN
open PySem
theorem loop_grow {α β : Type} {t : α → T} {step : T → Env → Sto → Oc SR} {st : Sto} {g : α → List T} {E : List T → β → Env} : ∀ (xs : List α) (acc : List T) (o : β),
    (∀ x ∈ xs, ∀ acc o, acc.length + (g x).length ≤ LIM → ∃ o', step (t x) (E acc o) st = .ok (.nx (E (acc ++ g x) o')) st) → acc.length + (xs.flatMap g).length ≤ LIM → ∃ o', loopS step (xs.map t) (E acc o) st = .ok (.nx (E (acc ++ xs.flatMap g) o')) st
  | [], acc, o, _, _ => ⟨o, by simp [loopS]⟩
  | x :: xs, acc, o, h, hl => by
    rw [List.flatMap_cons, List.length_append] at hl
    obtain ⟨o1, e1⟩ := h x List.mem_cons_self acc o (by omega)
    obtain ⟨o2, e2⟩ := loop_grow xs (acc ++ g x) o1 (fun y hy => h y (List.mem_cons_of_mem _ hy)) (by rw [List.length_append]; omega)
    refine ⟨o2, ?_⟩
    rw [List.map_cons, loopS, e1]
    show loopS step (xs.map t) _ st = _
    rw [e2, List.flatMap_cons, List.append_assoc]
def foldE : Option Str → List Str
  | none => []
  | some x => if inK x then [] else [x]
def endF (r : Rule) : List Str := foldE r.a ++ foldE r.b
def folders (bks : List (List Rule)) : List Str := bks.flatMap fun rs => rs.flatMap endF
theorem nmemK (x : Str) : cmpop .nmem (.str x) (.tup [.str "door", .str "inner"]) = some (!inK x) := by
  show some (!(eqF (.str "door") (.str x) || (eqF (.str "inner") (.str x) || false))) = _
  rw [Bool.or_false]; rfl
theorem nmemL (x : Str) : cmpop .nmem (.str x) (.tup [.non, .str "door", .str "inner"]) = some (!inK x) := by
  show some (!(eqF .non (.str x) || (eqF (.str "door") (.str x) || (eqF (.str "inner") (.str x) || false)))) = _
  rw [Bool.or_false]; rfl
theorem nmemL0 : cmpop .nmem .non (.tup [.non, .str "door", .str "inner"]) = some false := rfl
theorem rule_sl (r : Rule) : slice r.t none (some 2) = some (.val (.tup [tO r.a, tO r.b])) := rfl
theorem endF_len (r : Rule) : (endF r).length ≤ 2 := by
  unfold endF foldE
  cases r.a <;> cases r.b <;> simp <;> (repeat' split) <;> simp
abbrev env11 (e0 : Option Slot) (acc : List T) (o : Option Slot × Option Slot) : Env := [e0, some (.own (.lst acc)), o.1, none, none, none, o.2, none, none, none, none]
def bR : N := .seq (.xt 1 (.comp (.nm 9) [9] (.cons (.sl (.var 6) (.nil) (.cons (.lit (.int 2)) .nil)) .nil) (.cons (.and (.cmp .isn (.var 9) (.lit .non)) (.cmp .nmem (.var 9) (.glb "KINDS" (.tup [.str "door", .str "inner"])))) .nil) (.var 9))) .nil
theorem bR_run (r : Rule) (e0 e2 : Option Slot) (acc : List T) (st : Sto) (h : acc.length + (endF r).length ≤ LIM) : ex bR (env11 e0 acc (e2, some (.val r.t))) st = .ok (.nx (env11 e0 (acc ++ (endF r).map T.str) (e2, some (.val r.t)))) st := by
  have e : ev (.comp (.nm 9) [9] (.cons (.sl (.var 6) (.nil) (.cons (.lit (.int 2)) .nil)) .nil) (.cons (.and (.cmp .isn (.var 9) (.lit .non)) (.cmp .nmem (.var 9) (.glb "KINDS" (.tup [.str "door", .str "inner"])))) .nil) (.var 9)) (env11 e0 acc (e2, some (.val r.t))) st = .ok (.fresh (.lst ((endF r).map T.str))) st := by
    obtain ⟨a, b, step, near, gap, word⟩ := r
    cases a with
    | none =>
      cases b with
      | none => simp [qx_seq', qx_ret, qx_retN, qx_iff, qx_asg, qx_set2, qx_set3, qx_for, qx_ap', qx_xt', qx_frz', qx_nil, qx_drop, qv_v, qv_lit, qv_glb, qv_bin, qv_neg, qv_cmp, qv_chain, qv_and, qv_or, qv_not, qv_ite, qv_tup, qv_lst, qv_ix, qv_sl, qv_attr, qv_bi, qv_bi2, qv_isT, qv_call, qv_om, qp_nil, qp_cons, qs_nil, qs_cons, qc_nil, qc_cons, bind_ok, of_some, tr_val, tr_fresh, truth_bl, view_val, view_fresh, view_at, slot_val, slot_fresh, ret_val, ret_fresh, ret_at, Own.tree, qv_comp, qi_cons, rule_sl, viewQ_val, itemsOf, loopC, stepC, wipeE, bindTg, tO, isn_non, Oc.nox, endF, foldE]
      | some y => cases hy : inK y <;> simp [qx_seq', qx_ret, qx_retN, qx_iff, qx_asg, qx_set2, qx_set3, qx_for, qx_ap', qx_xt', qx_frz', qx_nil, qx_drop, qv_v, qv_lit, qv_glb, qv_bin, qv_neg, qv_cmp, qv_chain, qv_and, qv_or, qv_not, qv_ite, qv_tup, qv_lst, qv_ix, qv_sl, qv_attr, qv_bi, qv_bi2, qv_isT, qv_call, qv_om, qp_nil, qp_cons, qs_nil, qs_cons, qc_nil, qc_cons, bind_ok, of_some, tr_val, tr_fresh, truth_bl, view_val, view_fresh, view_at, slot_val, slot_fresh, ret_val, ret_fresh, ret_at, Own.tree, qv_comp, qi_cons, rule_sl, viewQ_val, itemsOf, loopC, stepC, wipeE, bindTg, tO, isn_non, isn_str, nmemK, hy, Oc.nox, endF, foldE, show (0:Nat) < LIM by decide]
    | some x =>
      cases b with
      | none => cases hx : inK x <;> simp [qx_seq', qx_ret, qx_retN, qx_iff, qx_asg, qx_set2, qx_set3, qx_for, qx_ap', qx_xt', qx_frz', qx_nil, qx_drop, qv_v, qv_lit, qv_glb, qv_bin, qv_neg, qv_cmp, qv_chain, qv_and, qv_or, qv_not, qv_ite, qv_tup, qv_lst, qv_ix, qv_sl, qv_attr, qv_bi, qv_bi2, qv_isT, qv_call, qv_om, qp_nil, qp_cons, qs_nil, qs_cons, qc_nil, qc_cons, bind_ok, of_some, tr_val, tr_fresh, truth_bl, view_val, view_fresh, view_at, slot_val, slot_fresh, ret_val, ret_fresh, ret_at, Own.tree, qv_comp, qi_cons, rule_sl, viewQ_val, itemsOf, loopC, stepC, wipeE, bindTg, tO, isn_non, isn_str, nmemK, hx, Oc.nox, endF, foldE, show (0:Nat) < LIM by decide]
      | some y => cases hx : inK x <;> cases hy : inK y <;> simp [qx_seq', qx_ret, qx_retN, qx_iff, qx_asg, qx_set2, qx_set3, qx_for, qx_ap', qx_xt', qx_frz', qx_nil, qx_drop, qv_v, qv_lit, qv_glb, qv_bin, qv_neg, qv_cmp, qv_chain, qv_and, qv_or, qv_not, qv_ite, qv_tup, qv_lst, qv_ix, qv_sl, qv_attr, qv_bi, qv_bi2, qv_isT, qv_call, qv_om, qp_nil, qp_cons, qs_nil, qs_cons, qc_nil, qc_cons, bind_ok, of_some, tr_val, tr_fresh, truth_bl, view_val, view_fresh, view_at, slot_val, slot_fresh, ret_val, ret_fresh, ret_at, Own.tree, qv_comp, qi_cons, rule_sl, viewQ_val, itemsOf, loopC, stepC, wipeE, bindTg, tO, isn_non, isn_str, nmemK, hx, hy, Oc.nox, endF, foldE, show (0:Nat) < LIM by decide, show (1:Nat) < LIM by decide]
  unfold bR
  rw [qx_seq', qx_xt']
  simp only [List.getElem?_cons_succ, List.getElem?_cons_zero]
  rw [e, bind_ok]
  simp only
  rw [if_pos (by rw [List.length_map]; exact h), bind_ok]
  simp [qx_nil]
theorem folders_run (bks : List (List Rule)) (e0 : Option Slot) (acc : List T) (o : Option Slot × Option Slot) (st : Sto) (h : acc.length + (folders bks).length ≤ LIM) :
    ∃ o', loopS (stepS (.nm 2) (ex (.seq (.for_ (.nm 6) (.cons (.var 2) .nil) bR) .nil))) (bks.map tRs) (env11 e0 acc o) st = .ok (.nx (env11 e0 (acc ++ (folders bks).map T.str) o')) st := by
  have e : (folders bks).map T.str = bks.flatMap fun rs => (rs.flatMap endF).map T.str := by
    unfold folders; rw [List.map_flatMap]
  rw [e]
  refine loop_grow (E := env11 e0) bks acc o (fun rs hrs acc o hl => ?_) ?_
  · rw [List.length_map] at hl
    have e2 : (rs.flatMap endF).map T.str = rs.flatMap fun r => (endF r).map T.str := List.map_flatMap ..
    obtain ⟨o', h'⟩ := loop_grow (t := Rule.t) (step := stepS (.nm 6) (ex bR)) (st := st) (g := fun r => (endF r).map T.str) (E := fun acc (q : Option Slot) => env11 e0 acc (some (.val (tRs rs)), q)) rs acc o.2 (fun r hr acc q hq => ⟨some (.val r.t), by
      rw [List.length_map] at hq
      have := bR_run r e0 (some (.val (tRs rs))) acc st hq
      simpa [stepS, bindTg] using this⟩) (by rw [← e2, List.length_map]; exact hl)
    refine ⟨(some (.val (tRs rs)), o'), ?_⟩
    have hi : evI false (.cons (.var 2) .nil) (env11 e0 acc (some (.val (tRs rs)), o.2)) st = .ok (rs.map Rule.t) st := by
      simp [qi_cons, qv_v, bind_ok, of_some, viewQ_val, tRs, itemsOf]
    rw [e2]
    simp only [stepS, bindTg, List.set]
    rw [qx_seq', qx_for, hi, bind_ok, h', bind_ok]
    simp [qx_nil]
  · rw [← e, List.length_map]; exact h

def fresh (i : Nat) : Str := "x" ++ (⟨#[97 + i]⟩ : Str)
theorem letter : ∀ i < 26, ((ixN ("abcdefghijklmnopqrstuvwxyz" : Str).length (i : Nat)).bind fun j => ("abcdefghijklmnopqrstuvwxyz" : Str).cps.toList[j]?) = some (97 + i) := by decide +kernel
theorem letter_ix {i : Nat} (h : i < 26) : index (.str "abcdefghijklmnopqrstuvwxyz") (.int (i : Nat)) = some (.str ⟨#[97 + i]⟩) := by
  show (if ("abcdefghijklmnopqrstuvwxyz" : Str).length ≤ LIM then (((ixN ("abcdefghijklmnopqrstuvwxyz" : Str).length (i : Nat)).bind fun j => ("abcdefghijklmnopqrstuvwxyz" : Str).cps.toList[j]?).map fun c => T.str ⟨#[c]⟩) else none) = _
  rw [if_pos (by decide +kernel), letter i h]; rfl
theorem x_add (i : Nat) : binop .add (.str "x") (.str ⟨#[97 + i]⟩) = some (.val (.str (fresh i))) := by
  have h : ("x" : Str).length + (⟨#[97 + i]⟩ : Str).length ≤ LIM := by
    show 1 + 1 ≤ LIM
    decide
  show (if ("x" : Str).length + (⟨#[97 + i]⟩ : Str).length ≤ LIM then some (RV.val (.str (("x" : Str) ++ (⟨#[97 + i]⟩ : Str)))) else none) = _
  rw [if_pos h]; rfl
theorem rng_ok {n : Nat} (h : n ≤ 1000) : (decide (-(2 ^ 62) ≤ (n : Int)) && decide ((n : Int) < 2 ^ 62)) = true := by
  have e : (2 : Int) ^ 62 = 4611686018427387904 := by decide +kernel
  rw [e, Bool.and_eq_true, decide_eq_true_eq, decide_eq_true_eq]
  omega
theorem rng1_run {q : Bool} {a : N} {env : Env} {st : Sto} {n : Nat} (ha : ev a env st = .ok (.val (.int (n : Nat))) st) (h : n ≤ 1000) : evI q (.rng1 a) env st = .ok ((List.range n).map fun (k : Nat) => T.int (k : Int)) st := by
  rw [qi_rng1, ha, bind_ok]
  simp only [rng_ok h, if_true, Int.toNat_natCast]
  unfold rangeT
  congr 1
  exact List.map_congr_left fun k _ => by rw [Int.zero_add]
theorem s_fresh (n : Nat) (h : n ≤ 26) (st : Sto) : g_fresh_names [.int (n : Nat)] st = .ok (.fresh (.lst ((List.range n).map fun i => T.str (fresh i)))) st := by
  have hi : evI true (.rng1 (.var 0)) [some (.val (.int (n : Nat))), none] st = .ok ((List.range n).map fun (k : Nat) => T.int (k : Int)) st :=
    rng1_run (by simp [qv_v]) (by omega)
  have e : ev (.comp (.nm 1) [1] (.rng1 (.var 0)) .nil (.bin .add (.lit (.str "x")) (.ix (.lit (.str "abcdefghijklmnopqrstuvwxyz")) (.var 1)))) [some (.val (.int (n : Nat))), none] st = .ok (.fresh (.lst (((List.range n).map fun (k : Nat) => T.int (k : Int)).map fun t => match t with
      | .int k => .str (fresh k.toNat)
      | _ => .non))) st := by
    refine qv_compM hi (fun x hx => ?_) (by rw [List.length_map, List.length_range]; unfold LIM; omega)
    obtain ⟨k, hk, rfl⟩ := List.mem_map.mp hx
    have hk : k < 26 := by have := List.mem_range.mp hk; omega
    simp [stepC, wipeE, bindTg, qx_seq', qx_ret, qx_retN, qx_iff, qx_asg, qx_set2, qx_set3, qx_for, qx_ap', qx_xt', qx_frz', qx_nil, qx_drop, qv_v, qv_lit, qv_glb, qv_bin, qv_neg, qv_cmp, qv_chain, qv_and, qv_or, qv_not, qv_ite, qv_tup, qv_lst, qv_ix, qv_sl, qv_attr, qv_bi, qv_bi2, qv_isT, qv_call, qv_om, qp_nil, qp_cons, qs_nil, qs_cons, qc_nil, qc_cons, bind_ok, of_some, tr_val, tr_fresh, truth_bl, view_val, view_fresh, view_at, slot_val, slot_fresh, ret_val, ret_fresh, ret_at, Own.tree, letter_ix hk, x_add, Oc.nox]
  rw [List.map_map] at e
  simp only [g_fresh_names, runDef, startE, n_fresh_names, List.map, List.replicate, List.length, List.append, List.cons_append, List.nil_append, qx_seq', qx_ret]
  rw [e]
  rfl
def twoNew (F : List Str) : List Str := (((List.range (F.length + 2)).map fresh).filter fun x => !F.contains x).take 2
theorem flat_strs (F : List Str) : (F.map T.str).all T.flat = true := by
  induction F with
  | nil => rfl
  | cons x F ih => simp [T.flat, ih]
theorem any_strs (x : Str) (F : List Str) : ((F.map T.str).any fun y => eqF y (.str x)) = F.contains x := by
  induction F with
  | nil => rfl
  | cons y F ih =>
    rw [List.map_cons, List.any_cons, ih, List.contains_cons]
    congr 1
    exact Bool.beq_comm
theorem nmemF (x : Str) (F : List Str) : cmpop .nmem (.str x) (.lst (F.map T.str)) = some (!F.contains x) := by
  show (if (T.str x).flat && (F.map T.str).all T.flat then some (!(F.map T.str).any fun y => eqF y (.str x)) else none) = _
  rw [flat_strs, any_strs]; rfl
theorem filterMap_str (p : Str → Bool) (xs : List Str) : (xs.map T.str).filterMap (fun t => match t with
    | .str x => if p x then some (.str x) else none
    | _ => none) = (xs.filter p).map T.str := by
  induction xs with
  | nil => rfl
  | cons x xs ih =>
    rw [List.map_cons, List.filter_cons]
    cases h : p x with
    | true => rw [List.filterMap_cons_some (b := .str x) (by simp [h]), ih]; rfl
    | false => rw [List.filterMap_cons_none (by simp [h]), ih]; rfl
theorem cut2 (L : List Str) : cut (L.map T.str) none (some 2) = (L.take 2).map T.str := by
  have e : sIx (L.map T.str).length (L.map T.str).length (some 2) = min 2 L.length := by rw [List.length_map]; rfl
  have e0 : sIx (L.map T.str).length 0 none = 0 := rfl
  unfold cut
  rw [e, e0, List.drop_zero, Nat.sub_zero, ← List.map_take]
  refine congrArg (List.map T.str) ?_
  rcases L with _ | ⟨x, _ | ⟨y, L⟩⟩ <;> simp
theorem len_strs (F : List Str) : builtin .len [.lst (F.map T.str)] = some (.val (.int (F.length : Nat))) := by
  have e : builtin .len [.lst (F.map T.str)] = some (.val (.int ((F.map T.str).length : Nat))) := rfl
  rw [e, List.length_map]
theorem add_int (a b : Int) : binop .add (.int a) (.int b) = some (.val (.int (a + b))) := rfl
theorem two_arg (F : List Str) (e0 : Option Slot) (o : Option Slot × Option Slot) (st : Sto) : evs (.cons (.bin .add (.bi .len (.var 1)) (.lit (.int 2))) .nil) (env11 e0 (F.map T.str) o) st = .ok [.int ((F.length : Int) + 2)] st := by
  simp only [qs_cons, qs_nil, qv_bin, qv_bi, qv_v, qv_lit, List.getElem?_cons_zero, List.getElem?_cons_succ, bind_ok, view_at, Option.bind_some, Own.tree, len_strs, of_some, view_val, add_int, tr_val]
theorem fresh2 (n : Nat) (h : n ≤ 24) (st : Sto) : g_fresh_names [.int ((n : Int) + 2)] st = .ok (.fresh (.lst (((List.range (n + 2)).map fresh).map T.str))) st := by
  have hf := s_fresh (n + 2) (by omega) st
  rw [Int.natCast_add] at hf
  rw [List.map_map]
  exact hf
theorem two_it (F : List Str) (e0 : Option Slot) (o : Option Slot × Option Slot) (st : Sto) (h : F.length ≤ 24) :
    evI true (.cons (.call "fresh_names" 1 g_fresh_names (.cons (.bin .add (.bi .len (.var 1)) (.lit (.int 2))) .nil)) .nil) (env11 e0 (F.map T.str) o) st = .ok (((List.range (F.length + 2)).map fresh).map T.str) st := by
  rw [qi_cons, qv_call, two_arg, bind_ok, if_pos (show ([T.int ((F.length : Int) + 2)] : List T).length = 1 from rfl), fresh2 _ h, bind_ok, viewQ_fresh, Own.tree, Option.bind_some, itemsOf, of_some]
theorem two_run (F : List Str) (e0 : Option Slot) (o : Option Slot × Option Slot) (st : Sto) (h : F.length ≤ 24) :
    ev (.sl (.comp (.nm 8) [8] (.cons (.call "fresh_names" 1 g_fresh_names (.cons (.bin .add (.bi .len (.var 1)) (.lit (.int 2))) .nil)) .nil) (.cons (.cmp .nmem (.var 8) (.var 1)) .nil) (.var 8)) (.nil) (.cons (.lit (.int 2)) .nil)) (env11 e0 (F.map T.str) o) st = .ok (.fresh (.lst ((twoNew F).map T.str))) st := by
  have hc : ev (.comp (.nm 8) [8] (.cons (.call "fresh_names" 1 g_fresh_names (.cons (.bin .add (.bi .len (.var 1)) (.lit (.int 2))) .nil)) .nil) (.cons (.cmp .nmem (.var 8) (.var 1)) .nil) (.var 8)) (env11 e0 (F.map T.str) o) st = .ok (.fresh (.lst ((((List.range (F.length + 2)).map fresh).filter fun x => !F.contains x).map T.str))) st := by
    rw [← filterMap_str]
    refine qv_comp' (two_it F e0 o st h) (fun x hx => ?_) (by rw [List.length_map, List.length_map, List.length_range]; unfold LIM; omega)
    obtain ⟨y, _, rfl⟩ := List.mem_map.mp hx
    by_cases hy : y ∈ F <;> simp [stepC, wipeE, bindTg, qc_cons, qv_cmp, qv_v, bind_ok, view_val, view_at, Own.tree, nmemF, of_some, truth_bl, tr_val, hy, Oc.nox]
  have h2 : evP (.cons (.lit (.int 2)) .nil) (env11 e0 (F.map T.str) o) st = .ok (some 2) st := by rw [qp_cons, qv_lit, bind_ok]
  rw [qv_sl, hc, bind_ok, qp_nil, bind_ok, h2, bind_ok, view_fresh, Own.tree, Option.bind_some, slice, of_some, cut2]
  unfold twoNew
  rfl
end NN

set_option Elab.async false
set_option linter.all false
set_option maxRecDepth 100000
set_option maxHeartbeats 4000000
namespace NN
open PySem
def twoS (l : Nat) (f : Str) : List Site := [⟨(l : Nat), f, "door"⟩, ⟨(l : Nat), f, "inner"⟩]
def sitesOf (names : List Str) : List Site := (List.range 4).flatMap fun l => names.flatMap fun f => twoS l f
def tSs (ss : List Site) : T := .lst (ss.map Site.t)
abbrev env11b (e0 e1 e2 e3 e6 : Option Slot) (acc : List T) (o : Option Slot × Option Slot) : Env := [e0, e1, e2, e3, some (.own (.lst acc)), o.1, e6, o.2, none, none, none]
def bS : N := .seq (.xt 4 (.comp (.nm 10) [10] (.cons (.glb "KINDS" (.tup [.str "door", .str "inner"])) .nil) (.nil) (.tup (.cons (.var 5) (.cons (.var 7) (.cons (.var 10) .nil)))))) .nil
theorem bS_run (l : Nat) (f : Str) (e0 e1 e2 e3 e6 : Option Slot) (acc : List T) (st : Sto) (h : acc.length + 2 ≤ LIM) :
    ex bS (env11b e0 e1 e2 e3 e6 acc (some (.val (.int (l : Nat))), some (.val (.str f)))) st = .ok (.nx (env11b e0 e1 e2 e3 e6 (acc ++ (twoS l f).map Site.t) (some (.val (.int (l : Nat))), some (.val (.str f))))) st := by
  have e : ev (.comp (.nm 10) [10] (.cons (.glb "KINDS" (.tup [.str "door", .str "inner"])) .nil) (.nil) (.tup (.cons (.var 5) (.cons (.var 7) (.cons (.var 10) .nil))))) (env11b e0 e1 e2 e3 e6 acc (some (.val (.int (l : Nat))), some (.val (.str f)))) st = .ok (.fresh (.lst ((twoS l f).map Site.t))) st := by
    simp [qx_seq', qx_ret, qx_retN, qx_iff, qx_asg, qx_set2, qx_set3, qx_for, qx_ap', qx_xt', qx_frz', qx_nil, qx_drop, qv_v, qv_lit, qv_glb, qv_bin, qv_neg, qv_cmp, qv_chain, qv_and, qv_or, qv_not, qv_ite, qv_tup, qv_lst, qv_ix, qv_sl, qv_attr, qv_bi, qv_bi2, qv_isT, qv_call, qv_om, qp_nil, qp_cons, qs_nil, qs_cons, qc_nil, qc_cons, bind_ok, of_some, tr_val, tr_fresh, truth_bl, view_val, view_fresh, view_at, slot_val, slot_fresh, ret_val, ret_fresh, ret_at, Own.tree, qv_comp, qi_cons, viewQ_val, itemsOf, loopC, stepC, wipeE, bindTg, Oc.nox, twoS, Site.t, show (0:Nat) < LIM by decide, show (1:Nat) < LIM by decide, show (3:Nat) ≤ LIM by decide]
  unfold bS
  rw [qx_seq', qx_xt']
  simp only [List.getElem?_cons_succ, List.getElem?_cons_zero]
  rw [e, bind_ok]
  simp only
  rw [if_pos (by simpa [twoS] using h), bind_ok]
  simp [qx_nil]
theorem strs_some (F : List Str) : strs? (F.map T.str) = some F := by
  induction F with
  | nil => rfl
  | cons x F ih => simp [strs?, ih]
theorem sset_run (F : List Str) (h : F.length < 64) : builtin .ssorted [.lst (F.map T.str)] = some (.fresh (.lst ((sortStr (uniqS F)).map T.str))) := by
  show ((strs? (F.map T.str)).bind fun ss => if ss.length < 64 then some (RV.fresh (.lst ((sortStr (uniqS ss)).map .str))) else none) = _
  rw [strs_some]
  show (if F.length < 64 then some (RV.fresh (.lst ((sortStr (uniqS F)).map .str))) else none) = _
  rw [if_pos h]
theorem cat_strs (A C : List Str) (h : A.length + C.length ≤ LIM) : binop .add (.lst (A.map T.str)) (.lst (C.map T.str)) = some (.fresh (.lst ((A ++ C).map T.str))) := by
  show (if (A.map T.str).length + (C.map T.str).length ≤ LIM then some (RV.fresh (.lst (A.map T.str ++ C.map T.str))) else none) = _
  rw [if_pos (by rw [List.length_map, List.length_map]; exact h), List.map_append]
theorem two_len (l : Nat) (names : List Str) : (names.flatMap fun f => (twoS l f).map Site.t).length = 2 * names.length := by
  induction names with
  | nil => rfl
  | cons f names ih =>
    rw [List.flatMap_cons, List.length_append, List.length_cons, ih, List.length_map]
    show 2 + _ = _
    omega
theorem sites_map (names : List Str) : (sitesOf names).map Site.t = (List.range 4).flatMap fun l => names.flatMap fun f => (twoS l f).map Site.t := by
  unfold sitesOf
  rw [List.map_flatMap]
  simp only [List.map_flatMap]
theorem sites_len (names : List Str) : (sitesOf names).length = 8 * names.length := by
  have h := congrArg List.length (sites_map names)
  rw [List.length_map] at h
  rw [h]
  show (List.flatMap _ [0, 1, 2, 3]).length = _
  simp only [List.flatMap_cons, List.flatMap_nil, List.length_append, two_len, List.length_nil]
  omega
theorem sites_loop {b : N} {it : N} {E : List T → Option Slot × Option Slot → Env} {i5 i7 : Nat} {names : List Str} {st : Sto} (hn : names.length ≤ 1000)
    (h5 : ∀ acc o x, (E acc o).set i5 x = E acc (x, o.2)) (h7 : ∀ acc o x, (E acc o).set i7 x = E acc (o.1, x))
    (hit : ∀ acc o, evI false it (E acc o) st = .ok (names.map T.str) st)
    (hb : ∀ (l : Nat) (f : Str) (acc : List T), acc.length + 2 ≤ LIM → ex b (E acc (some (.val (.int (l : Nat))), some (.val (.str f)))) st = .ok (.nx (E (acc ++ (twoS l f).map Site.t) (some (.val (.int (l : Nat))), some (.val (.str f))))) st) (o : Option Slot × Option Slot) :
    ∃ o', loopS (stepS (.nm i5) (ex (.seq (.for_ (.nm i7) it b) .nil))) ((List.range 4).map fun (k : Nat) => T.int (k : Int)) (E [] o) st = .ok (.nx (E ((sitesOf names).map Site.t) o')) st := by
  have hs := sites_len names
  rw [sites_map]
  have h := loop_grow (t := fun (k : Nat) => T.int (k : Int)) (step := stepS (.nm i5) (ex (.seq (.for_ (.nm i7) it b) .nil))) (st := st) (g := fun l => names.flatMap fun f => (twoS l f).map Site.t) (E := E) (List.range 4) [] o (fun l _ acc o hl => ?_) ?_
  · rwa [List.nil_append] at h
  · have hl : acc.length + (names.flatMap fun f => (twoS l f).map Site.t).length ≤ LIM := hl
    obtain ⟨o', h'⟩ := loop_grow (t := T.str) (step := stepS (.nm i7) (ex b)) (st := st) (g := fun f => (twoS l f).map Site.t) (E := fun acc (q : Option Slot) => E acc (some (.val (.int (l : Nat))), q)) names acc o.2 (fun f _ acc q hq => ⟨some (.val (.str f)), by
      have := hb l f acc (by simpa [twoS] using hq)
      simp only [stepS, bindTg, h7]
      exact this⟩) hl
    refine ⟨(some (.val (.int (l : Nat))), o'), ?_⟩
    simp only [stepS, bindTg, h5]
    rw [qx_seq', qx_for, hit, bind_ok, h', bind_ok]
    simp [qx_nil]
  · rw [← sites_map, List.length_map, hs, List.length_nil]
    unfold LIM
    omega
theorem twoNew_len (F : List Str) : (twoNew F).length ≤ 2 := by
  unfold twoNew
  rw [List.length_take]
  omega
theorem uniqS_len : ∀ F : List Str, (uniqS F).length ≤ F.length
  | [] => Nat.le_refl _
  | x :: F => by
    have := uniqS_len F
    unfold uniqS
    split <;> simp <;> omega
theorem insStr_len (x : Str) : ∀ l : List Str, (insStr x l).length = l.length + 1
  | [] => rfl
  | y :: l => by
    unfold insStr
    split
    · rfl
    · rw [List.length_cons, insStr_len x l]; rfl
theorem sortStr_len : ∀ l : List Str, (sortStr l).length = l.length
  | [] => rfl
  | x :: l => by
    show (insStr x (sortStr l)).length = _
    rw [insStr_len, sortStr_len l]; rfl
theorem four_it {q : Bool} {env : Env} {st : Sto} {a : N} (ha : ev a env st = .ok (.val (.int 4)) st) : evI q (.rng1 a) env st = .ok ((List.range 4).map fun (k : Nat) => T.int (k : Int)) st := rng1_run (n := 4) ha (by decide)
def nms (bks : List (List Rule)) : List Str := sortStr (uniqS (folders bks))
theorem s_sites (bks : List (List Rule)) (h : (folders bks).length ≤ 24) (st : Sto) : g_sites_for [.lst (bks.map tRs)] st = .ok (.fresh (.lst ((sitesOf (nms bks ++ twoNew (folders bks))).map Site.t))) st := by
  have hnm : (nms bks).length ≤ 24 := by
    unfold nms
    rw [sortStr_len]
    exact Nat.le_trans (uniqS_len _) h
  have htw := twoNew_len (folders bks)
  obtain ⟨o1, h1⟩ := folders_run bks (some (.val (.lst (bks.map tRs)))) [] (none, none) st (by unfold LIM; simp; omega)
  rw [List.nil_append] at h1
  have h2 := two_run (folders bks) (some (.val (.lst (bks.map tRs)))) o1 st h
  have hcat : ∀ e0 acc o, evI false (.cons (.bin .add (.bi .ssorted (.var 1)) (.var 3)) .nil) (env11b e0 (some (.own (.lst ((folders bks).map T.str)))) o1.1 (some (.own (.lst ((twoNew (folders bks)).map T.str)))) o1.2 acc o) st = .ok ((nms bks ++ twoNew (folders bks)).map T.str) st := fun e0 acc o => by
    have hc := cat_strs (nms bks) (twoNew (folders bks)) (by unfold LIM; omega)
    have hss := sset_run (folders bks) (by omega)
    unfold nms at hc ⊢
    simp only [qi_cons, qv_bin, qv_bi, qv_v, List.getElem?_cons_succ, List.getElem?_cons_zero, bind_ok, view_at, Option.bind_some, Own.tree, hss, of_some, view_fresh, hc, viewQ_fresh, itemsOf]
  obtain ⟨o2, h3⟩ := sites_loop (b := bS) (names := nms bks ++ twoNew (folders bks)) (st := st) (i5 := 5) (i7 := 7) (E := env11b (some (.val (.lst (bks.map tRs)))) (some (.own (.lst ((folders bks).map T.str)))) o1.1 (some (.own (.lst ((twoNew (folders bks)).map T.str)))) o1.2) (by rw [List.length_append]; omega) (fun _ _ _ => rfl) (fun _ _ _ => rfl) (hcat _) (fun l f acc hl => bS_run l f _ _ _ _ _ acc st hl) (none, none)
  have hb0 : evI false (.cons (.var 0) .nil) (env11 (some (.val (.lst (bks.map tRs)))) [] (none, none)) st = .ok (bks.map tRs) st := by
    simp [qi_cons, qv_v, bind_ok, of_some, viewQ_val, itemsOf]
  have h4 : ∀ e0 e1 e2 e3 e6 acc o, evI false (.rng1 (.bin .add (.glb "MOST_LAYER" (.int 3)) (.lit (.int 1)))) (env11b e0 e1 e2 e3 e6 acc o) st = .ok ((List.range 4).map fun (k : Nat) => T.int (k : Int)) st := fun _ _ _ _ _ _ _ => four_it (by
    simp only [qv_bin, qv_glb, qv_lit, bind_ok, view_val, Option.bind_some, add_int, of_some]
    rfl)
  have e : n_sites_for = .seq (.asg (.nm 1) (.lst (.nil))) (.seq (.for_ (.nm 2) (.cons (.var 0) .nil) (.seq (.for_ (.nm 6) (.cons (.var 2) .nil) bR) .nil)) (.seq (.asg (.nm 3) (.sl (.comp (.nm 8) [8] (.cons (.call "fresh_names" 1 g_fresh_names (.cons (.bin .add (.bi .len (.var 1)) (.lit (.int 2))) .nil)) .nil) (.cons (.cmp .nmem (.var 8) (.var 1)) .nil) (.var 8)) (.nil) (.cons (.lit (.int 2)) .nil))) (.seq (.asg (.nm 4) (.lst (.nil))) (.seq (.for_ (.nm 5) (.rng1 (.bin .add (.glb "MOST_LAYER" (.int 3)) (.lit (.int 1)))) (.seq (.for_ (.nm 7) (.cons (.bin .add (.bi .ssorted (.var 1)) (.var 3)) .nil) bS) .nil)) (.seq (.ret (.var 4)) .nil))))) := rfl
  have hrun : ex n_sites_for [some (.val (.lst (bks.map tRs))), none, none, none, none, none, none, none, none, none, none] st = .ok (.rt (.fresh (.lst ((sitesOf (nms bks ++ twoNew (folders bks))).map Site.t)))) st := by
    rw [e, qx_seq', qx_asg, qv_lst, qs_nil, bind_ok, if_pos (by decide), bind_ok]
    simp only [slot_fresh, List.set, bind_ok]
    rw [qx_seq', qx_for, hb0, bind_ok, h1, bind_ok]
    simp only
    rw [qx_seq', qx_asg, h2, bind_ok]
    simp only [slot_fresh, List.set, bind_ok]
    rw [qx_seq', qx_asg, qv_lst, qs_nil, bind_ok, if_pos (by decide), bind_ok]
    simp only [slot_fresh, List.set, bind_ok]
    rw [qx_seq', qx_for]
    refine Eq.trans (congrArg (fun z => (Oc.bind (Oc.bind z _) _)) (h4 _ _ _ _ _ [] (none, none))) ?_
    rw [bind_ok]
    refine Eq.trans (congrArg (fun z => Oc.bind z _) h3) ?_
    rw [bind_ok]
    simp only
    rw [qx_seq', qx_ret, qv_v]
    simp only [List.getElem?_cons_succ, List.getElem?_cons_zero, bind_ok, ret_at]
  simp only [g_sites_for, runDef, startE, List.map, List.replicate, List.length, List.append, List.cons_append, List.nil_append]
  rw [hrun, bind_ok]
end NN

set_option Elab.async false
set_option linter.all false
set_option maxRecDepth 100000
set_option maxHeartbeats 4000000
namespace NN
open PySem
abbrev env8 (e0 : Option Slot) (acc : List T) (o : Option Slot × Option Slot) : Env := [e0, some (.own (.lst acc)), o.1, none, none, o.2, none, none]
def cR : N := .seq (.asg (.nm 1) (.bin .add (.var 1) (.comp (.nm 7) [7] (.cons (.sl (.var 5) (.nil) (.cons (.lit (.int 2)) .nil)) .nil) (.cons (.cmp .nmem (.var 7) (.tup (.cons (.lit .non) (.cons (.lit (.str "door")) (.cons (.lit (.str "inner")) .nil))))) .nil) (.var 7)))) .nil
theorem cat_lst (A C : List T) (h : A.length + C.length ≤ LIM) : binop .add (.lst A) (.lst C) = some (.fresh (.lst (A ++ C))) := by
  show (if A.length + C.length ≤ LIM then some (RV.fresh (.lst (A ++ C))) else none) = _
  rw [if_pos h]
theorem cR_run (r : Rule) (e0 e2 : Option Slot) (acc : List T) (st : Sto) (h : acc.length + (endF r).length ≤ LIM) : ex cR (env8 e0 acc (e2, some (.val r.t))) st = .ok (.nx (env8 e0 (acc ++ (endF r).map T.str) (e2, some (.val r.t)))) st := by
  have e : ev (.comp (.nm 7) [7] (.cons (.sl (.var 5) (.nil) (.cons (.lit (.int 2)) .nil)) .nil) (.cons (.cmp .nmem (.var 7) (.tup (.cons (.lit .non) (.cons (.lit (.str "door")) (.cons (.lit (.str "inner")) .nil))))) .nil) (.var 7)) (env8 e0 acc (e2, some (.val r.t))) st = .ok (.fresh (.lst ((endF r).map T.str))) st := by
    obtain ⟨a, b, step, near, gap, word⟩ := r
    have hL : (3 : Nat) ≤ LIM := by decide
    cases a with
    | none =>
      cases b with
      | none => simp [qx_seq', qx_ret, qx_retN, qx_iff, qx_asg, qx_set2, qx_set3, qx_for, qx_ap', qx_xt', qx_frz', qx_nil, qx_drop, qv_v, qv_lit, qv_glb, qv_bin, qv_neg, qv_cmp, qv_chain, qv_and, qv_or, qv_not, qv_ite, qv_tup, qv_lst, qv_ix, qv_sl, qv_attr, qv_bi, qv_bi2, qv_isT, qv_call, qv_om, qp_nil, qp_cons, qs_nil, qs_cons, qc_nil, qc_cons, bind_ok, of_some, tr_val, tr_fresh, truth_bl, view_val, view_fresh, view_at, slot_val, slot_fresh, ret_val, ret_fresh, ret_at, Own.tree, qv_comp, qi_cons, rule_sl, viewQ_val, itemsOf, loopC, stepC, wipeE, bindTg, tO, nmemL0, hL, Oc.nox, endF, foldE]
      | some y => cases hy : inK y <;> simp [qx_seq', qx_ret, qx_retN, qx_iff, qx_asg, qx_set2, qx_set3, qx_for, qx_ap', qx_xt', qx_frz', qx_nil, qx_drop, qv_v, qv_lit, qv_glb, qv_bin, qv_neg, qv_cmp, qv_chain, qv_and, qv_or, qv_not, qv_ite, qv_tup, qv_lst, qv_ix, qv_sl, qv_attr, qv_bi, qv_bi2, qv_isT, qv_call, qv_om, qp_nil, qp_cons, qs_nil, qs_cons, qc_nil, qc_cons, bind_ok, of_some, tr_val, tr_fresh, truth_bl, view_val, view_fresh, view_at, slot_val, slot_fresh, ret_val, ret_fresh, ret_at, Own.tree, qv_comp, qi_cons, rule_sl, viewQ_val, itemsOf, loopC, stepC, wipeE, bindTg, tO, nmemL0, hL, nmemL, hy, Oc.nox, endF, foldE, show (0:Nat) < LIM by decide]
    | some x =>
      cases b with
      | none => cases hx : inK x <;> simp [qx_seq', qx_ret, qx_retN, qx_iff, qx_asg, qx_set2, qx_set3, qx_for, qx_ap', qx_xt', qx_frz', qx_nil, qx_drop, qv_v, qv_lit, qv_glb, qv_bin, qv_neg, qv_cmp, qv_chain, qv_and, qv_or, qv_not, qv_ite, qv_tup, qv_lst, qv_ix, qv_sl, qv_attr, qv_bi, qv_bi2, qv_isT, qv_call, qv_om, qp_nil, qp_cons, qs_nil, qs_cons, qc_nil, qc_cons, bind_ok, of_some, tr_val, tr_fresh, truth_bl, view_val, view_fresh, view_at, slot_val, slot_fresh, ret_val, ret_fresh, ret_at, Own.tree, qv_comp, qi_cons, rule_sl, viewQ_val, itemsOf, loopC, stepC, wipeE, bindTg, tO, nmemL0, hL, nmemL, hx, Oc.nox, endF, foldE, show (0:Nat) < LIM by decide]
      | some y => cases hx : inK x <;> cases hy : inK y <;> simp [qx_seq', qx_ret, qx_retN, qx_iff, qx_asg, qx_set2, qx_set3, qx_for, qx_ap', qx_xt', qx_frz', qx_nil, qx_drop, qv_v, qv_lit, qv_glb, qv_bin, qv_neg, qv_cmp, qv_chain, qv_and, qv_or, qv_not, qv_ite, qv_tup, qv_lst, qv_ix, qv_sl, qv_attr, qv_bi, qv_bi2, qv_isT, qv_call, qv_om, qp_nil, qp_cons, qs_nil, qs_cons, qc_nil, qc_cons, bind_ok, of_some, tr_val, tr_fresh, truth_bl, view_val, view_fresh, view_at, slot_val, slot_fresh, ret_val, ret_fresh, ret_at, Own.tree, qv_comp, qi_cons, rule_sl, viewQ_val, itemsOf, loopC, stepC, wipeE, bindTg, tO, nmemL, hL, hx, hy, Oc.nox, endF, foldE, show (0:Nat) < LIM by decide, show (1:Nat) < LIM by decide]
  unfold cR
  rw [qx_seq', qx_asg, qv_bin, qv_v]
  simp only [List.getElem?_cons_succ, List.getElem?_cons_zero, bind_ok]
  rw [e, bind_ok, view_at]
  simp only [List.getElem?_cons_succ, List.getElem?_cons_zero, Option.bind_some, Own.tree, view_fresh]
  rw [cat_lst _ _ (by rw [List.length_map]; exact h), of_some, bind_ok, slot_fresh]
  simp [bind_ok, qx_nil]
theorem lfold_run (bks : List (List Rule)) (e0 : Option Slot) (acc : List T) (o : Option Slot × Option Slot) (st : Sto) (h : acc.length + (folders bks).length ≤ LIM) :
    ∃ o', loopS (stepS (.nm 2) (ex (.seq (.for_ (.nm 5) (.cons (.var 2) .nil) cR) .nil))) (bks.map tRs) (env8 e0 acc o) st = .ok (.nx (env8 e0 (acc ++ (folders bks).map T.str) o')) st := by
  have e : (folders bks).map T.str = bks.flatMap fun rs => (rs.flatMap endF).map T.str := by
    unfold folders; rw [List.map_flatMap]
  rw [e]
  refine loop_grow (E := env8 e0) bks acc o (fun rs hrs acc o hl => ?_) ?_
  · rw [List.length_map] at hl
    have e2 : (rs.flatMap endF).map T.str = rs.flatMap fun r => (endF r).map T.str := List.map_flatMap ..
    obtain ⟨o', h'⟩ := loop_grow (t := Rule.t) (step := stepS (.nm 5) (ex cR)) (st := st) (g := fun r => (endF r).map T.str) (E := fun acc (q : Option Slot) => env8 e0 acc (some (.val (tRs rs)), q)) rs acc o.2 (fun r hr acc q hq => ⟨some (.val r.t), by
      rw [List.length_map] at hq
      have := cR_run r e0 (some (.val (tRs rs))) acc st hq
      simpa [stepS, bindTg] using this⟩) (by rw [← e2, List.length_map]; exact hl)
    refine ⟨(some (.val (tRs rs)), o'), ?_⟩
    have hi : evI false (.cons (.var 2) .nil) (env8 e0 acc (some (.val (tRs rs)), o.2)) st = .ok (rs.map Rule.t) st := by
      simp [qi_cons, qv_v, bind_ok, of_some, viewQ_val, tRs, itemsOf]
    rw [e2]
    simp only [stepS, bindTg, List.set]
    rw [qx_seq', qx_for, hi, bind_ok, h', bind_ok]
    simp [qx_nil]
  · rw [← e, List.length_map]; exact h
abbrev env8b (e0 e1 e2 e5 : Option Slot) (acc : List T) (o : Option Slot × Option Slot) : Env := [e0, e1, e2, some (.own (.lst acc)), o.1, e5, o.2, none]
def cS : N := .seq (.asg (.nm 3) (.bin .add (.var 3) (.lst (.cons (.tup (.cons (.var 4) (.cons (.var 6) (.cons (.lit (.str "door")) .nil)))) (.cons (.tup (.cons (.var 4) (.cons (.var 6) (.cons (.lit (.str "inner")) .nil)))) .nil))))) .nil
theorem cS_run (l : Nat) (f : Str) (e0 e1 e2 e5 : Option Slot) (acc : List T) (st : Sto) (h : acc.length + 2 ≤ LIM) :
    ex cS (env8b e0 e1 e2 e5 acc (some (.val (.int (l : Nat))), some (.val (.str f)))) st = .ok (.nx (env8b e0 e1 e2 e5 (acc ++ (twoS l f).map Site.t) (some (.val (.int (l : Nat))), some (.val (.str f))))) st := by
  have e : ev (.lst (.cons (.tup (.cons (.var 4) (.cons (.var 6) (.cons (.lit (.str "door")) .nil)))) (.cons (.tup (.cons (.var 4) (.cons (.var 6) (.cons (.lit (.str "inner")) .nil)))) .nil))) (env8b e0 e1 e2 e5 acc (some (.val (.int (l : Nat))), some (.val (.str f)))) st = .ok (.fresh (.lst ((twoS l f).map Site.t))) st := by
    simp [qx_seq', qx_ret, qx_retN, qx_iff, qx_asg, qx_set2, qx_set3, qx_for, qx_ap', qx_xt', qx_frz', qx_nil, qx_drop, qv_v, qv_lit, qv_glb, qv_bin, qv_neg, qv_cmp, qv_chain, qv_and, qv_or, qv_not, qv_ite, qv_tup, qv_lst, qv_ix, qv_sl, qv_attr, qv_bi, qv_bi2, qv_isT, qv_call, qv_om, qp_nil, qp_cons, qs_nil, qs_cons, qc_nil, qc_cons, bind_ok, of_some, tr_val, tr_fresh, truth_bl, view_val, view_fresh, view_at, slot_val, slot_fresh, ret_val, ret_fresh, ret_at, Own.tree, twoS, Site.t, show (3:Nat) ≤ LIM by decide, show (2:Nat) ≤ LIM by decide]
  unfold cS
  rw [qx_seq', qx_asg, qv_bin, qv_v]
  simp only [List.getElem?_cons_succ, List.getElem?_cons_zero, bind_ok]
  rw [e, bind_ok, view_at]
  simp only [List.getElem?_cons_succ, List.getElem?_cons_zero, Option.bind_some, Own.tree, view_fresh]
  rw [cat_lst _ _ (by simpa [twoS] using h), of_some, bind_ok, slot_fresh]
  simp [bind_ok, qx_nil]
def lawNew : List Str := ["nowhere", "elsewhr"]
theorem s_lsites (bks : List (List Rule)) (h : (folders bks).length ≤ 24) (st : Sto) : g__law_sites [.lst (bks.map tRs)] st = .ok (.fresh (.lst ((sitesOf (nms bks ++ lawNew)).map Site.t))) st := by
  have hnm : (nms bks).length ≤ 24 := by
    unfold nms
    rw [sortStr_len]
    exact Nat.le_trans (uniqS_len _) h
  obtain ⟨o1, h1⟩ := lfold_run bks (some (.val (.lst (bks.map tRs)))) [] (none, none) st (by unfold LIM; simp; omega)
  rw [List.nil_append] at h1
  have hcat : ∀ e0 acc o, evI false (.cons (.bin .add (.bi .ssorted (.var 1)) (.lst (.cons (.lit (.str "nowhere")) (.cons (.lit (.str "elsewhr")) .nil)))) .nil) (env8b e0 (some (.own (.lst ((folders bks).map T.str)))) o1.1 o1.2 acc o) st = .ok ((nms bks ++ lawNew).map T.str) st := fun e0 acc o => by
    have hc := cat_strs (nms bks) lawNew (by unfold LIM lawNew; simp; omega)
    have hss := sset_run (folders bks) (by omega)
    have hl : ev (.lst (.cons (.lit (.str "nowhere")) (.cons (.lit (.str "elsewhr")) .nil))) (env8b e0 (some (.own (.lst ((folders bks).map T.str)))) o1.1 o1.2 acc o) st = .ok (.fresh (.lst (lawNew.map T.str))) st := by
      simp [qx_seq', qx_ret, qx_retN, qx_iff, qx_asg, qx_set2, qx_set3, qx_for, qx_ap', qx_xt', qx_frz', qx_nil, qx_drop, qv_v, qv_lit, qv_glb, qv_bin, qv_neg, qv_cmp, qv_chain, qv_and, qv_or, qv_not, qv_ite, qv_tup, qv_lst, qv_ix, qv_sl, qv_attr, qv_bi, qv_bi2, qv_isT, qv_call, qv_om, qp_nil, qp_cons, qs_nil, qs_cons, qc_nil, qc_cons, bind_ok, of_some, tr_val, tr_fresh, truth_bl, view_val, view_fresh, view_at, slot_val, slot_fresh, ret_val, ret_fresh, ret_at, Own.tree, lawNew, show (2:Nat) ≤ LIM by decide]
    unfold nms at hc ⊢
    simp only [qi_cons, qv_bin, qv_bi, qv_v, List.getElem?_cons_succ, List.getElem?_cons_zero, bind_ok, view_at, Option.bind_some, Own.tree, hss, of_some, view_fresh, hl, hc, viewQ_fresh, itemsOf]
  obtain ⟨o2, h3⟩ := sites_loop (b := cS) (names := nms bks ++ lawNew) (st := st) (i5 := 4) (i7 := 6) (E := env8b (some (.val (.lst (bks.map tRs)))) (some (.own (.lst ((folders bks).map T.str)))) o1.1 o1.2) (by rw [List.length_append]; show _ + 2 ≤ _; omega) (fun _ _ _ => rfl) (fun _ _ _ => rfl) (hcat _) (fun l f acc hl => cS_run l f _ _ _ _ acc st hl) (none, none)
  have hb0 : evI false (.cons (.var 0) .nil) (env8 (some (.val (.lst (bks.map tRs)))) [] (none, none)) st = .ok (bks.map tRs) st := by
    simp [qi_cons, qv_v, bind_ok, of_some, viewQ_val, itemsOf]
  have h4 : ∀ e0 e1 e2 e5 acc o, evI false (.rng1 (.lit (.int 4))) (env8b e0 e1 e2 e5 acc o) st = .ok ((List.range 4).map fun (k : Nat) => T.int (k : Int)) st := fun _ _ _ _ _ _ => four_it qv_lit
  have e : n__law_sites = .seq (.asg (.nm 1) (.lst (.nil))) (.seq (.for_ (.nm 2) (.cons (.var 0) .nil) (.seq (.for_ (.nm 5) (.cons (.var 2) .nil) cR) .nil)) (.seq (.asg (.nm 3) (.lst (.nil))) (.seq (.for_ (.nm 4) (.rng1 (.lit (.int 4))) (.seq (.for_ (.nm 6) (.cons (.bin .add (.bi .ssorted (.var 1)) (.lst (.cons (.lit (.str "nowhere")) (.cons (.lit (.str "elsewhr")) .nil)))) .nil) cS) .nil)) (.seq (.ret (.var 3)) .nil)))) := rfl
  have hrun : ex n__law_sites [some (.val (.lst (bks.map tRs))), none, none, none, none, none, none, none] st = .ok (.rt (.fresh (.lst ((sitesOf (nms bks ++ lawNew)).map Site.t)))) st := by
    rw [e, qx_seq', qx_asg, qv_lst, qs_nil, bind_ok, if_pos (by decide), bind_ok]
    simp only [slot_fresh, List.set, bind_ok]
    rw [qx_seq', qx_for, hb0, bind_ok, h1, bind_ok]
    simp only
    rw [qx_seq', qx_asg, qv_lst, qs_nil, bind_ok, if_pos (by decide), bind_ok]
    simp only [slot_fresh, List.set, bind_ok]
    rw [qx_seq', qx_for]
    refine Eq.trans (congrArg (fun z => (Oc.bind (Oc.bind z _) _)) (h4 _ _ _ _ [] (none, none))) ?_
    rw [bind_ok]
    refine Eq.trans (congrArg (fun z => Oc.bind z _) h3) ?_
    rw [bind_ok]
    simp only
    rw [qx_seq', qx_ret, qv_v]
    simp only [List.getElem?_cons_succ, List.getElem?_cons_zero, bind_ok, ret_at]
  simp only [g__law_sites, runDef, startE, List.map, List.replicate, List.length, List.append, List.cons_append, List.nil_append]
  rw [hrun, bind_ok]
end NN

set_option Elab.async false
set_option linter.all false
set_option maxRecDepth 100000
set_option maxHeartbeats 4000000
namespace NN
open PySem
theorem loop_find {α β : Type} {t : α → T} {step : T → Env → Sto → Oc SR} {st : Sto} {p : α → Bool} {r : α → RV} {E : β → Env} : ∀ (xs : List α) (o : β),
    (∀ x ∈ xs, ∀ o, ∃ o', step (t x) (E o) st = .ok (if p x then .rt (r x) else .nx (E o')) st) → ∃ o', loopS step (xs.map t) (E o) st = .ok (match xs.find? p with | some x => .rt (r x) | none => .nx (E o')) st
  | [], o, _ => ⟨o, rfl⟩
  | x :: xs, o, h => by
    obtain ⟨o1, e1⟩ := h x List.mem_cons_self o
    cases hp : p x with
    | true =>
      refine ⟨o, ?_⟩
      rw [hp] at e1
      rw [List.map_cons, loopS, e1, List.find?_cons_of_pos hp]
      rfl
    | false =>
      rw [hp] at e1
      obtain ⟨o2, e2⟩ := loop_find xs o1 fun y hy => h y (List.mem_cons_of_mem _ hy)
      refine ⟨o2, ?_⟩
      rw [List.map_cons, loopS, e1, List.find?_cons_of_neg (by rw [hp]; exact Bool.false_ne_true)]
      exact e2
def pairOf (ss : List Site) (D : Site → Site → Bool) : Option (Site × Site) := match ss.find? fun s => ss.any (D s) with
  | some s => (ss.find? (D s)).map fun s2 => (s, s2)
  | none => none
def tPr : Option (Site × Site) → T
  | none => .non
  | some (s, s2) => .tup [s.t, s2.t]
theorem pairOf_none {ss : List Site} {D : Site → Site → Bool} : pairOf ss D = none ↔ ∀ s ∈ ss, ∀ s2 ∈ ss, D s s2 = false := by
  unfold pairOf
  cases h : ss.find? fun s => ss.any (D s) with
  | none =>
    rw [List.find?_eq_none] at h
    refine ⟨fun _ s hs s2 hs2 => ?_, fun _ => rfl⟩
    have := h s hs
    cases q : D s s2 with
    | false => rfl
    | true => exact absurd (List.any_eq_true.mpr ⟨s2, hs2, q⟩) this
  | some s =>
    have h1 := List.find?_some h
    have h2 := List.mem_of_find?_eq_some h
    obtain ⟨s2, hs2, q⟩ := List.any_eq_true.mp h1
    have : (ss.find? (D s)).isSome = true := List.find?_isSome.mpr ⟨s2, hs2, q⟩
    obtain ⟨z, hz⟩ := Option.isSome_iff_exists.mp this
    refine ⟨fun e => ?_, fun e => ?_⟩
    · have e : (ss.find? (D s)).map (fun s2 => (s, s2)) = none := e
      rw [hz] at e; cases e
    · rw [e s h2 s2 hs2] at q; cases q
theorem pairOf_some {ss : List Site} {D : Site → Site → Bool} {s s2 : Site} (h : pairOf ss D = some (s, s2)) : s ∈ ss ∧ s2 ∈ ss ∧ D s s2 = true := by
  unfold pairOf at h
  split at h
  · rename_i z hz
    cases q : ss.find? (D z) with
    | none => rw [q] at h; cases h
    | some y =>
      rw [q] at h; cases h
      exact ⟨List.mem_of_find?_eq_some hz, List.mem_of_find?_eq_some q, List.find?_some q⟩
  · cases h
theorem pair_loop {b : N} {it : N} {st : Sto} {ss : List Site} {D : Site → Site → Bool} {i j : Nat} {E : Option Slot → Option Slot → Env} {k : N} (hk : ∀ a b, ex k (E a b) st = .ok (.nx (E a b)) st)
    (hi : ∀ a b x, (E a b).set i x = E x b) (hj : ∀ a b x, (E a b).set j x = E a x) (hit : ∀ a b, evI false it (E a b) st = .ok (ss.map Site.t) st)
    (hb : ∀ s ∈ ss, ∀ s2 ∈ ss, ex b (E (some (.val s.t)) (some (.val s2.t))) st = .ok (if D s s2 then .rt (.val (.tup [s.t, s2.t])) else .nx (E (some (.val s.t)) (some (.val s2.t)))) st) (a0 b0 : Option Slot) :
    ∃ a b1, loopS (stepS (.nm i) (ex (.seq k (.seq (.for_ (.nm j) it b) .nil)))) (ss.map Site.t) (E a0 b0) st = .ok (match pairOf ss D with | some (s, s2) => .rt (.val (.tup [s.t, s2.t])) | none => .nx (E a b1)) st := by
  have h := loop_find (t := Site.t) (step := stepS (.nm i) (ex (.seq k (.seq (.for_ (.nm j) it b) .nil)))) (st := st) (p := fun s => ss.any (D s)) (r := fun s => match ss.find? (D s) with | some s2 => .val (.tup [s.t, s2.t]) | none => .val .non) (E := fun o : Option Slot × Option Slot => E o.1 o.2) ss (a0, b0) fun s hs o => by
    obtain ⟨o', h'⟩ := loop_find (t := Site.t) (step := stepS (.nm j) (ex b)) (st := st) (p := D s) (r := fun s2 => .val (.tup [s.t, s2.t])) (E := fun o : Option Slot => E (some (.val s.t)) o) ss o.2 fun s2 hs2 o => ⟨some (.val s2.t), by
      simp only [stepS, bindTg, hj]
      exact hb s hs s2 hs2⟩
    refine ⟨(some (.val s.t), o'), ?_⟩
    simp only [stepS, bindTg, hi]
    rw [qx_seq', hk, bind_ok]
    simp only
    rw [qx_seq', qx_for, hit, bind_ok, h', bind_ok]
    cases hf : ss.find? (D s) with
    | none =>
      have : ss.any (D s) = false := by
        cases q : ss.any (D s) with
        | false => rfl
        | true =>
          obtain ⟨z, hz, qz⟩ := List.any_eq_true.mp q
          exact absurd qz (List.find?_eq_none.mp hf z hz)
      rw [this]
      simp [qx_nil]
    | some s2 =>
      have : ss.any (D s) = true := List.any_eq_true.mpr ⟨s2, List.mem_of_find?_eq_some hf, List.find?_some hf⟩
      rw [this]
      simp
  obtain ⟨o', h'⟩ := h
  refine ⟨o'.1, o'.2, ?_⟩
  rw [h']
  unfold pairOf
  cases hf : ss.find? fun s => ss.any (D s) with
  | none => rfl
  | some s =>
    have hany : ss.any (D s) = true := List.find?_some (p := fun s => ss.any (D s)) hf
    obtain ⟨z, hz, qz⟩ := List.any_eq_true.mp hany
    obtain ⟨y, hy⟩ := Option.isSome_iff_exists.mp (List.find?_isSome.mpr ⟨z, hz, qz⟩)
    show Oc.ok (SR.rt (match ss.find? (D s) with | some s2 => RV.val (.tup [s.t, s2.t]) | none => .val .non)) st = Oc.ok (match (ss.find? (D s)).map (fun s2 => (s, s2)) with | some (s, s2) => SR.rt (.val (.tup [s.t, s2.t])) | none => .nx (E o'.1 o'.2)) st
    rw [hy]; rfl
def parts2 (A C : List Rule) (s s2 : Site) : Bool := !(lets A s s2 == lets C s s2)
def progS (bks : List (List Rule)) : List Site := sitesOf (nms bks ++ twoNew (folders bks))
def lawS (bks : List (List Rule)) : List Site := sitesOf (nms bks ++ lawNew)
theorem s_parted (A C : List Rule) (hA : ∀ r ∈ A, r.ok) (hC : ∀ r ∈ C, r.ok) (lA : A.length ≤ 1000) (lC : C.length ≤ 1000) (h : (folders [A, C]).length ≤ 24) (st : Sto) : g_pair_parted [tRs A, tRs C] st = .ok (.val (tPr (pairOf (progS [A, C]) (parts2 A C)))) st := by
  have hs := s_sites [A, C] h st
  have hb : ∀ s ∈ progS [A, C], ∀ s2 ∈ progS [A, C], ex (.seq (.frz 3) (.seq (.frz 4) (.seq (.iff (.cmp .ne (.om "lets" 3 [("Reader", g_Reader_lets)] (.var 3) (.cons (.var 5) (.cons (.var 6) .nil))) (.om "lets" 3 [("Reader", g_Reader_lets)] (.var 4) (.cons (.var 5) (.cons (.var 6) .nil)))) (.seq (.ret (.tup (.cons (.var 5) (.cons (.var 6) .nil)))) .nil) (.nil)) .nil)))
      [some (.val (tRs A)), some (.val (tRs C)), some (.val (tSs (progS [A, C]))), some (.val (tRd A)), some (.val (tRd C)), some (.val s.t), some (.val s2.t)] st =
      .ok (if parts2 A C s s2 then .rt (.val (.tup [s.t, s2.t])) else .nx [some (.val (tRs A)), some (.val (tRs C)), some (.val (tSs (progS [A, C]))), some (.val (tRd A)), some (.val (tRd C)), some (.val s.t), some (.val s2.t)]) st := fun s _ s2 _ => by
    have e1 : ev (.om "lets" 3 [("Reader", g_Reader_lets)] (.var 3) (.cons (.var 5) (.cons (.var 6) .nil))) [some (.val (tRs A)), some (.val (tRs C)), some (.val (tSs (progS [A, C]))), some (.val (tRd A)), some (.val (tRd C)), some (.val s.t), some (.val s2.t)] st = .ok (.val (.bl (lets A s s2))) st := by
      rw [om_lets (rs := A) (ts := [s.t, s2.t]) (by simp [qv_v]) (by simp [qx_seq', qx_ret, qx_retN, qx_iff, qx_asg, qx_set2, qx_set3, qx_for, qx_ap', qx_xt', qx_frz', qx_nil, qx_drop, qv_v, qv_lit, qv_glb, qv_bin, qv_neg, qv_cmp, qv_chain, qv_and, qv_or, qv_not, qv_ite, qv_tup, qv_lst, qv_ix, qv_sl, qv_attr, qv_bi, qv_bi2, qv_isT, qv_call, qv_om, qp_nil, qp_cons, qs_nil, qs_cons, qc_nil, qc_cons, bind_ok, of_some, tr_val, tr_fresh, truth_bl, view_val, view_fresh, view_at, slot_val, slot_fresh, ret_val, ret_fresh, ret_at, Own.tree]) rfl, s_rlets A hA s s2 st]
    have e2 : ev (.om "lets" 3 [("Reader", g_Reader_lets)] (.var 4) (.cons (.var 5) (.cons (.var 6) .nil))) [some (.val (tRs A)), some (.val (tRs C)), some (.val (tSs (progS [A, C]))), some (.val (tRd A)), some (.val (tRd C)), some (.val s.t), some (.val s2.t)] st = .ok (.val (.bl (lets C s s2))) st := by
      rw [om_lets (rs := C) (ts := [s.t, s2.t]) (by simp [qv_v]) (by simp [qx_seq', qx_ret, qx_retN, qx_iff, qx_asg, qx_set2, qx_set3, qx_for, qx_ap', qx_xt', qx_frz', qx_nil, qx_drop, qv_v, qv_lit, qv_glb, qv_bin, qv_neg, qv_cmp, qv_chain, qv_and, qv_or, qv_not, qv_ite, qv_tup, qv_lst, qv_ix, qv_sl, qv_attr, qv_bi, qv_bi2, qv_isT, qv_call, qv_om, qp_nil, qp_cons, qs_nil, qs_cons, qc_nil, qc_cons, bind_ok, of_some, tr_val, tr_fresh, truth_bl, view_val, view_fresh, view_at, slot_val, slot_fresh, ret_val, ret_fresh, ret_at, Own.tree]) rfl, s_rlets C hC s s2 st]
    have hL : (2 : Nat) ≤ LIM := by decide
    unfold parts2
    cases q : lets A s s2 == lets C s s2 <;> simp [qx_seq', qx_frz', qx_iff, qv_cmp, e1, e2, bind_ok, view_val, ne_bl, of_some, truth_bl, qx_ret, qv_tup, qs_cons, qs_nil, qv_v, tr_val, ret_val, qx_nil, q, hL]
  obtain ⟨a, b1, hl⟩ := pair_loop (i := 5) (j := 6) (k := .frz 2) (it := .cons (.var 2) .nil) (ss := progS [A, C]) (D := parts2 A C) (st := st) (E := fun a b => [some (.val (tRs A)), some (.val (tRs C)), some (.val (tSs (progS [A, C]))), some (.val (tRd A)), some (.val (tRd C)), a, b])
    (fun a b => by simp [qx_frz']) (fun _ _ _ => rfl) (fun _ _ _ => rfl) (fun a b => by simp [qi_cons, qv_v, bind_ok, of_some, viewQ_val, tSs, itemsOf]) hb none none
  have hL : (2 : Nat) ≤ LIM := by decide
  have hrun : ex n_pair_parted [some (.val (tRs A)), some (.val (tRs C)), none, none, none, none, none] st = .ok (.rt (.val (tPr (pairOf (progS [A, C]) (parts2 A C))))) st := by
    have e0 : evs (.cons (.lst (.cons (.var 0) (.cons (.var 1) .nil))) .nil) [some (.val (tRs A)), some (.val (tRs C)), none, none, none, none, none] st = .ok [.lst ([A, C].map tRs)] st := by simp [qx_seq', qx_ret, qx_retN, qx_iff, qx_asg, qx_set2, qx_set3, qx_for, qx_ap', qx_xt', qx_frz', qx_nil, qx_drop, qv_v, qv_lit, qv_glb, qv_bin, qv_neg, qv_cmp, qv_chain, qv_and, qv_or, qv_not, qv_ite, qv_tup, qv_lst, qv_ix, qv_sl, qv_attr, qv_bi, qv_bi2, qv_isT, qv_call, qv_om, qp_nil, qp_cons, qs_nil, qs_cons, qc_nil, qc_cons, bind_ok, of_some, tr_val, tr_fresh, truth_bl, view_val, view_fresh, view_at, slot_val, slot_fresh, ret_val, ret_fresh, ret_at, Own.tree, hL]
    have e1 : ∀ e2 e3 : Option Slot, evs (.cons (.var 0) .nil) [some (.val (tRs A)), some (.val (tRs C)), none, none, none, none, none] st = .ok [tRs A] st := fun _ _ => by simp [qx_seq', qx_ret, qx_retN, qx_iff, qx_asg, qx_set2, qx_set3, qx_for, qx_ap', qx_xt', qx_frz', qx_nil, qx_drop, qv_v, qv_lit, qv_glb, qv_bin, qv_neg, qv_cmp, qv_chain, qv_and, qv_or, qv_not, qv_ite, qv_tup, qv_lst, qv_ix, qv_sl, qv_attr, qv_bi, qv_bi2, qv_isT, qv_call, qv_om, qp_nil, qp_cons, qs_nil, qs_cons, qc_nil, qc_cons, bind_ok, of_some, tr_val, tr_fresh, truth_bl, view_val, view_fresh, view_at, slot_val, slot_fresh, ret_val, ret_fresh, ret_at, Own.tree]
    have e2 : ∀ e2 e3 : Option Slot, evs (.cons (.var 1) .nil) [some (.val (tRs A)), some (.val (tRs C)), none, none, none, none, none] st = .ok [tRs C] st := fun _ _ => by simp [qx_seq', qx_ret, qx_retN, qx_iff, qx_asg, qx_set2, qx_set3, qx_for, qx_ap', qx_xt', qx_frz', qx_nil, qx_drop, qv_v, qv_lit, qv_glb, qv_bin, qv_neg, qv_cmp, qv_chain, qv_and, qv_or, qv_not, qv_ite, qv_tup, qv_lst, qv_ix, qv_sl, qv_attr, qv_bi, qv_bi2, qv_isT, qv_call, qv_om, qp_nil, qp_cons, qs_nil, qs_cons, qc_nil, qc_cons, bind_ok, of_some, tr_val, tr_fresh, truth_bl, view_val, view_fresh, view_at, slot_val, slot_fresh, ret_val, ret_fresh, ret_at, Own.tree]
    have hit : evI false (.cons (.var 2) .nil) [some (.val (tRs A)), some (.val (tRs C)), some (.val (tSs (progS [A, C]))), some (.val (tRd A)), some (.val (tRd C)), none, none] st = .ok ((progS [A, C]).map Site.t) st := by simp [qi_cons, qv_v, bind_ok, of_some, viewQ_val, tSs, itemsOf]
    unfold n_pair_parted
    rw [qx_seq', qx_set3, qv_call, e0, bind_ok, if_pos (by rfl), hs, bind_ok, qv_call, e1 none none, bind_ok, if_pos (by rfl), s_Reader A st lA, bind_ok, qv_call, e2 none none, bind_ok, if_pos (by rfl), s_Reader C st lC, bind_ok]
    simp only [slot_fresh, slot_val, List.set, bind_ok]
    rw [qx_seq', qx_frz']
    simp only [List.getElem?_cons_succ, List.getElem?_cons_zero, bind_ok, List.set]
    rw [qx_seq', qx_for]
    refine Eq.trans (congrArg (fun z => (Oc.bind (Oc.bind z _) _)) hit) ?_
    rw [bind_ok]
    refine Eq.trans (congrArg (fun z => Oc.bind z _) hl) ?_
    rw [bind_ok]
    cases hp : pairOf (progS [A, C]) (parts2 A C) with
    | none => simp [qx_seq', qx_ret, qv_lit, bind_ok, ret_val, tPr]
    | some q => simp [tPr]
  simp only [g_pair_parted, runDef, startE, List.map, List.replicate, List.length, List.append, List.cons_append, List.nil_append]
  rw [hrun, bind_ok]
end NN

set_option Elab.async false
set_option linter.all false
set_option maxRecDepth 100000
set_option maxHeartbeats 4000000
namespace NN
open PySem
theorem eq_na (x : Option Nat) (c : Nat) : cmpop .eq (tNa x) (.int (c : Nat)) = some (x == some c) := by
  cases x with
  | none => rfl
  | some i =>
    show some ((i : Int) == (c : Int)) = some (some i == some c)
    congr 1
    by_cases h : i = c
    · subst h; simp
    · rw [beq_eq_false_iff_ne.mpr (by exact_mod_cast h), beq_eq_false_iff_ne.mpr (by simpa using h)]
theorem s_used (A : List Rule) (hA : ∀ r ∈ A, r.ok) (lA : A.length ≤ 1000) (h : (folders [A]).length ≤ 24) (c : Nat) (st : Sto) : g_pair_used [tRs A, .int (c : Nat)] st = .ok (.val (tPr (pairOf (progS [A]) fun s s2 => fst A s s2 == some c))) st := by
  have hs := s_sites [A] h st
  have hL : (2 : Nat) ≤ LIM := by decide
  have hb : ∀ s ∈ progS [A], ∀ s2 ∈ progS [A], ex (.seq (.frz 3) (.seq (.iff (.cmp .eq (.om "first" 3 [("Reader", g_Reader_first)] (.var 3) (.cons (.var 4) (.cons (.var 5) .nil))) (.var 1)) (.seq (.ret (.tup (.cons (.var 4) (.cons (.var 5) .nil)))) .nil) (.nil)) .nil))
      [some (.val (tRs A)), some (.val (.int (c : Nat))), some (.val (tSs (progS [A]))), some (.val (tRd A)), some (.val s.t), some (.val s2.t)] st =
      .ok (if (fst A s s2 == some c) then .rt (.val (.tup [s.t, s2.t])) else .nx [some (.val (tRs A)), some (.val (.int (c : Nat))), some (.val (tSs (progS [A]))), some (.val (tRd A)), some (.val s.t), some (.val s2.t)]) st := fun s _ s2 _ => by
    have e1 : ev (.om "first" 3 [("Reader", g_Reader_first)] (.var 3) (.cons (.var 4) (.cons (.var 5) .nil))) [some (.val (tRs A)), some (.val (.int (c : Nat))), some (.val (tSs (progS [A]))), some (.val (tRd A)), some (.val s.t), some (.val s2.t)] st = .ok (.val (tNa (fst A s s2))) st := by
      rw [om_first (rs := A) (ts := [s.t, s2.t]) (by simp [qv_v]) (by simp [qx_seq', qx_ret, qx_retN, qx_iff, qx_asg, qx_set2, qx_set3, qx_for, qx_ap', qx_xt', qx_frz', qx_nil, qx_drop, qv_v, qv_lit, qv_glb, qv_bin, qv_neg, qv_cmp, qv_chain, qv_and, qv_or, qv_not, qv_ite, qv_tup, qv_lst, qv_ix, qv_sl, qv_attr, qv_bi, qv_bi2, qv_isT, qv_call, qv_om, qp_nil, qp_cons, qs_nil, qs_cons, qc_nil, qc_cons, bind_ok, of_some, tr_val, tr_fresh, truth_bl, view_val, view_fresh, view_at, slot_val, slot_fresh, ret_val, ret_fresh, ret_at, Own.tree]) rfl, s_rfirst A hA s s2 st]
    have e2 := eq_na (fst A s s2) c
    cases q : fst A s s2 == some c <;> rw [q] at e2 <;> simp [qx_seq', qx_frz', qx_iff, qv_cmp, e1, e2, bind_ok, view_val, of_some, truth_bl, qx_ret, qv_tup, qs_cons, qs_nil, qv_v, tr_val, ret_val, qx_nil, hL]
  obtain ⟨a, b1, hl⟩ := pair_loop (i := 4) (j := 5) (k := .frz 2) (it := .cons (.var 2) .nil) (ss := progS [A]) (D := fun s s2 => fst A s s2 == some c) (st := st) (E := fun a b => [some (.val (tRs A)), some (.val (.int (c : Nat))), some (.val (tSs (progS [A]))), some (.val (tRd A)), a, b])
    (fun a b => by simp [qx_frz']) (fun _ _ _ => rfl) (fun _ _ _ => rfl) (fun a b => by simp [qi_cons, qv_v, bind_ok, of_some, viewQ_val, tSs, itemsOf]) hb none none
  have hrun : ex n_pair_used [some (.val (tRs A)), some (.val (.int (c : Nat))), none, none, none, none] st = .ok (.rt (.val (tPr (pairOf (progS [A]) fun s s2 => fst A s s2 == some c)))) st := by
    have e0 : evs (.cons (.lst (.cons (.var 0) .nil)) .nil) [some (.val (tRs A)), some (.val (.int (c : Nat))), none, none, none, none] st = .ok [.lst ([A].map tRs)] st := by simp [qx_seq', qx_ret, qx_retN, qx_iff, qx_asg, qx_set2, qx_set3, qx_for, qx_ap', qx_xt', qx_frz', qx_nil, qx_drop, qv_v, qv_lit, qv_glb, qv_bin, qv_neg, qv_cmp, qv_chain, qv_and, qv_or, qv_not, qv_ite, qv_tup, qv_lst, qv_ix, qv_sl, qv_attr, qv_bi, qv_bi2, qv_isT, qv_call, qv_om, qp_nil, qp_cons, qs_nil, qs_cons, qc_nil, qc_cons, bind_ok, of_some, tr_val, tr_fresh, truth_bl, view_val, view_fresh, view_at, slot_val, slot_fresh, ret_val, ret_fresh, ret_at, Own.tree, show (1 : Nat) ≤ LIM by decide]
    have e1 : evs (.cons (.var 0) .nil) [some (.val (tRs A)), some (.val (.int (c : Nat))), none, none, none, none] st = .ok [tRs A] st := by simp [qx_seq', qx_ret, qx_retN, qx_iff, qx_asg, qx_set2, qx_set3, qx_for, qx_ap', qx_xt', qx_frz', qx_nil, qx_drop, qv_v, qv_lit, qv_glb, qv_bin, qv_neg, qv_cmp, qv_chain, qv_and, qv_or, qv_not, qv_ite, qv_tup, qv_lst, qv_ix, qv_sl, qv_attr, qv_bi, qv_bi2, qv_isT, qv_call, qv_om, qp_nil, qp_cons, qs_nil, qs_cons, qc_nil, qc_cons, bind_ok, of_some, tr_val, tr_fresh, truth_bl, view_val, view_fresh, view_at, slot_val, slot_fresh, ret_val, ret_fresh, ret_at, Own.tree]
    have hit : evI false (.cons (.var 2) .nil) [some (.val (tRs A)), some (.val (.int (c : Nat))), some (.val (tSs (progS [A]))), some (.val (tRd A)), none, none] st = .ok ((progS [A]).map Site.t) st := by simp [qi_cons, qv_v, bind_ok, of_some, viewQ_val, tSs, itemsOf]
    unfold n_pair_used
    rw [qx_seq', qx_set2, qv_call, e0, bind_ok, if_pos (by rfl), hs, bind_ok, qv_call, e1, bind_ok, if_pos (by rfl), s_Reader A st lA, bind_ok]
    simp only [slot_fresh, slot_val, List.set, bind_ok]
    rw [qx_seq', qx_frz']
    simp only [List.getElem?_cons_succ, List.getElem?_cons_zero, bind_ok, List.set]
    rw [qx_seq', qx_for]
    refine Eq.trans (congrArg (fun z => (Oc.bind (Oc.bind z _) _)) hit) ?_
    rw [bind_ok]
    refine Eq.trans (congrArg (fun z => Oc.bind z _) hl) ?_
    rw [bind_ok]
    cases hp : pairOf (progS [A]) fun s s2 => fst A s s2 == some c with
    | none => simp [qx_seq', qx_ret, qv_lit, bind_ok, ret_val, tPr]
    | some q => simp [tPr]
  simp only [g_pair_used, runDef, startE, List.map, List.replicate, List.length, List.append, List.cons_append, List.nil_append]
  rw [hrun, bind_ok]
theorem bls_some (bs : List Bool) : bls? (bs.map T.bl) = some bs := by
  induction bs with
  | nil => rfl
  | cons x F ih => simp [bls?, ih]
theorem any_run (bs : List Bool) : builtin .any [.lst (bs.map T.bl)] = some (.val (.bl (bs.any id))) := by
  show (bls? (bs.map T.bl)).map _ = _
  rw [bls_some]; rfl
theorem s_lparted (A C : List Rule) (lA : A.length ≤ 1000) (lC : C.length ≤ 1000) (h : (folders [A, C]).length ≤ 24) (st : Sto) : g__law_parted [tRs A, tRs C] st = .ok (.val (.bl ((lawS [A, C]).any fun s => (lawS [A, C]).any fun s2 => parts2 A C s s2))) st := by
  have hs := s_lsites [A, C] h st
  have hL : (2 : Nat) ≤ LIM := by decide
  have hlen : (lawS [A, C]).length ≤ 1000 := by
    unfold lawS
    rw [sites_len, List.length_append]
    have : (nms [A, C]).length ≤ 24 := by
      unfold nms
      rw [sortStr_len]
      exact Nat.le_trans (uniqS_len _) h
    show 8 * (_ + 2) ≤ _
    omega
  have hcond : ∀ (s : Site) (e4 : Option Slot), ev (.bi .any (.comp (.nm 4) [4] (.cons (.var 2) .nil) (.nil) (.cmp .ne (.call "_law_lets" 3 g__law_lets (.cons (.var 0) (.cons (.var 3) (.cons (.var 4) .nil)))) (.call "_law_lets" 3 g__law_lets (.cons (.var 1) (.cons (.var 3) (.cons (.var 4) .nil)))))))
      [some (.val (tRs A)), some (.val (tRs C)), some (.val (tSs (lawS [A, C]))), some (.val s.t), e4] st = .ok (.val (.bl ((lawS [A, C]).any fun s2 => parts2 A C s s2))) st := fun s e4 => by
    have hc : ev (.comp (.nm 4) [4] (.cons (.var 2) .nil) (.nil) (.cmp .ne (.call "_law_lets" 3 g__law_lets (.cons (.var 0) (.cons (.var 3) (.cons (.var 4) .nil)))) (.call "_law_lets" 3 g__law_lets (.cons (.var 1) (.cons (.var 3) (.cons (.var 4) .nil))))))
      [some (.val (tRs A)), some (.val (tRs C)), some (.val (tSs (lawS [A, C]))), some (.val s.t), e4] st = .ok (.fresh (.lst (((lawS [A, C]).map Site.t).map fun t => match g__law_lets [tRs A, s.t, t] st, g__law_lets [tRs C, s.t, t] st with
        | .ok (.val (.bl a)) _, .ok (.val (.bl b)) _ => .bl (!(a == b))
        | _, _ => .non))) st := by
      refine qv_compM (by simp [qi_cons, qv_v, bind_ok, of_some, viewQ_val, tSs, itemsOf]) (fun x hx => ?_) (by rw [List.length_map]; unfold LIM; omega)
      obtain ⟨s2, _, rfl⟩ := List.mem_map.mp hx
      simp [stepC, wipeE, bindTg, qx_seq', qx_ret, qx_retN, qx_iff, qx_asg, qx_set2, qx_set3, qx_for, qx_ap', qx_xt', qx_frz', qx_nil, qx_drop, qv_v, qv_lit, qv_glb, qv_bin, qv_neg, qv_cmp, qv_chain, qv_and, qv_or, qv_not, qv_ite, qv_tup, qv_lst, qv_ix, qv_sl, qv_attr, qv_bi, qv_bi2, qv_isT, qv_call, qv_om, qp_nil, qp_cons, qs_nil, qs_cons, qc_nil, qc_cons, bind_ok, of_some, tr_val, tr_fresh, truth_bl, view_val, view_fresh, view_at, slot_val, slot_fresh, ret_val, ret_fresh, ret_at, Own.tree, s_lets A s s2 st lA, s_lets C s s2 st lC, ne_bl, Oc.nox]
    rw [List.map_map] at hc
    have hf : ((fun t => match g__law_lets [tRs A, s.t, t] st, g__law_lets [tRs C, s.t, t] st with
        | .ok (.val (.bl a)) _, .ok (.val (.bl b)) _ => T.bl (!(a == b))
        | _, _ => .non) ∘ Site.t) = T.bl ∘ fun s2 => parts2 A C s s2 := funext fun s2 => by
      show (match g__law_lets [tRs A, s.t, s2.t] st, g__law_lets [tRs C, s.t, s2.t] st with
        | .ok (.val (.bl a)) _, .ok (.val (.bl b)) _ => T.bl (!(a == b))
        | _, _ => .non) = _
      rw [s_lets A s s2 st lA, s_lets C s s2 st lC]; rfl
    rw [hf, ← List.map_map] at hc
    rw [qv_bi, hc, bind_ok, view_fresh, Own.tree, Option.bind_some, any_run, of_some, List.any_map]
    rfl
  obtain ⟨o', hl⟩ := loop_find (t := Site.t) (step := stepS (.nm 3) (ex (.seq (.iff (.bi .any (.comp (.nm 4) [4] (.cons (.var 2) .nil) (.nil) (.cmp .ne (.call "_law_lets" 3 g__law_lets (.cons (.var 0) (.cons (.var 3) (.cons (.var 4) .nil)))) (.call "_law_lets" 3 g__law_lets (.cons (.var 1) (.cons (.var 3) (.cons (.var 4) .nil))))))) (.seq (.ret (.lit (.bl true))) .nil) (.nil)) .nil))) (st := st)
      (p := fun s => (lawS [A, C]).any fun s2 => parts2 A C s s2) (r := fun _ => .val (.bl true)) (E := fun o : Option Slot => [some (.val (tRs A)), some (.val (tRs C)), some (.val (tSs (lawS [A, C]))), o, none]) (lawS [A, C]) none fun s _ o => ⟨some (.val s.t), by
    simp only [stepS, bindTg, List.set]
    rw [qx_seq', qx_iff, hcond s none, truth_bl, bind_ok]
    cases (lawS [A, C]).any fun s2 => parts2 A C s s2 <;> simp [qx_seq', qx_ret, qv_lit, bind_ok, ret_val, qx_nil]⟩
  have hrun : ex n__law_parted [some (.val (tRs A)), some (.val (tRs C)), none, none, none] st = .ok (.rt (.val (.bl ((lawS [A, C]).any fun s => (lawS [A, C]).any fun s2 => parts2 A C s s2)))) st := by
    have e0 : evs (.cons (.lst (.cons (.var 0) (.cons (.var 1) .nil))) .nil) [some (.val (tRs A)), some (.val (tRs C)), none, none, none] st = .ok [.lst ([A, C].map tRs)] st := by simp [qx_seq', qx_ret, qx_retN, qx_iff, qx_asg, qx_set2, qx_set3, qx_for, qx_ap', qx_xt', qx_frz', qx_nil, qx_drop, qv_v, qv_lit, qv_glb, qv_bin, qv_neg, qv_cmp, qv_chain, qv_and, qv_or, qv_not, qv_ite, qv_tup, qv_lst, qv_ix, qv_sl, qv_attr, qv_bi, qv_bi2, qv_isT, qv_call, qv_om, qp_nil, qp_cons, qs_nil, qs_cons, qc_nil, qc_cons, bind_ok, of_some, tr_val, tr_fresh, truth_bl, view_val, view_fresh, view_at, slot_val, slot_fresh, ret_val, ret_fresh, ret_at, Own.tree, hL]
    have hit : evI false (.cons (.var 2) .nil) [some (.val (tRs A)), some (.val (tRs C)), some (.val (tSs (lawS [A, C]))), none, none] st = .ok ((lawS [A, C]).map Site.t) st := by simp [qi_cons, qv_v, bind_ok, of_some, viewQ_val, tSs, itemsOf]
    unfold n__law_parted
    rw [qx_seq', qx_asg, qv_call, e0, bind_ok, if_pos (by rfl), hs, bind_ok]
    simp only [slot_fresh, List.set, bind_ok]
    rw [qx_seq', qx_frz']
    simp only [List.getElem?_cons_succ, List.getElem?_cons_zero, bind_ok, List.set]
    rw [qx_seq', qx_for]
    refine Eq.trans (congrArg (fun z => (Oc.bind (Oc.bind z _) _)) hit) ?_
    rw [bind_ok]
    refine Eq.trans (congrArg (fun z => Oc.bind z _) hl) ?_
    rw [bind_ok]
    cases hp : (lawS [A, C]).find? fun s => (lawS [A, C]).any fun s2 => parts2 A C s s2 with
    | none =>
      have : ((lawS [A, C]).any fun s => (lawS [A, C]).any fun s2 => parts2 A C s s2) = false := by
        cases q : (lawS [A, C]).any fun s => (lawS [A, C]).any fun s2 => parts2 A C s s2 with
        | false => rfl
        | true =>
          obtain ⟨z, hz, qz⟩ := List.any_eq_true.mp q
          exact absurd qz (List.find?_eq_none.mp hp z hz)
      rw [this]
      simp [qx_seq', qx_ret, qv_lit, bind_ok, ret_val]
    | some s =>
      have : ((lawS [A, C]).any fun s => (lawS [A, C]).any fun s2 => parts2 A C s s2) = true := List.any_eq_true.mpr ⟨s, List.mem_of_find?_eq_some hp, List.find?_some (p := fun s => (lawS [A, C]).any fun s2 => parts2 A C s s2) hp⟩
      rw [this]
  simp only [g__law_parted, runDef, startE, List.map, List.replicate, List.length, List.append, List.cons_append, List.nil_append]
  rw [hrun, bind_ok]
end NN

set_option Elab.async false
set_option linter.all false
set_option maxRecDepth 100000
set_option maxHeartbeats 4000000
namespace NN
open PySem
theorem nodup_le {α : Type} [DecidableEq α] : ∀ (l D : List α), l.Nodup → (∀ x ∈ l, x ∈ D) → l.length ≤ D.length
  | [], _, _, _ => Nat.zero_le _
  | x :: l, D, h, hs => by
    obtain ⟨h1, h2⟩ := List.nodup_cons.mp h
    have hx := hs x List.mem_cons_self
    have := nodup_le l (D.erase x) h2 fun y hy => (List.mem_erase_of_ne (by rintro rfl; exact h1 hy)).mpr (hs y (List.mem_cons_of_mem _ hy))
    rw [List.length_erase_of_mem hx] at this
    have : 0 < D.length := List.length_pos_of_mem hx
    rw [List.length_cons]
    omega
theorem filter_split {α : Type} (p : α → Bool) : ∀ l : List α, (l.filter p).length + (l.filter fun x => !p x).length = l.length
  | [] => rfl
  | x :: l => by
    have := filter_split p l
    cases h : p x <;> simp [List.filter_cons, h] <;> omega
theorem fresh_inj {i j : Nat} (h : fresh i = fresh j) : i = j := by
  have h2 : ("x" : Str).cps ++ #[97 + i] = ("x" : Str).cps ++ #[97 + j] := congrArg Str.cps h
  have h3 := congrArg Array.toList h2
  simp at h3
  exact h3
theorem twoNew_spec (F : List Str) : ∃ a b, twoNew F = [a, b] ∧ a ≠ b ∧ a ∉ F ∧ b ∉ F := by
  have nd : ((List.range (F.length + 2)).map fresh).Nodup := by
    rw [List.nodup_iff_pairwise_ne, List.pairwise_map]
    exact List.nodup_range.imp fun h e => h (fresh_inj e)
  have hs := filter_split (fun x => F.contains x) ((List.range (F.length + 2)).map fresh)
  have hle := nodup_le (((List.range (F.length + 2)).map fresh).filter fun x => F.contains x) F (nd.filter _) fun x hx => by
    have := (List.mem_filter.mp hx).2
    simpa using this
  rw [List.length_map, List.length_range] at hs
  have ndL : (((List.range (F.length + 2)).map fresh).filter fun x => !F.contains x).Nodup := nd.filter _
  have hm : ∀ x ∈ ((List.range (F.length + 2)).map fresh).filter fun x => !F.contains x, x ∉ F := fun x hx => by
    have := (List.mem_filter.mp hx).2
    simpa using this
  have hl : 2 ≤ (((List.range (F.length + 2)).map fresh).filter fun x => !F.contains x).length := by omega
  unfold twoNew
  generalize ((List.range (F.length + 2)).map fresh).filter (fun x => !F.contains x) = L at hl ndL hm
  match L, hl, ndL, hm with
  | [], hl, _, _ => simp at hl
  | [_], hl, _, _ => simp at hl
  | a :: b :: L, _, nd, hm => exact ⟨a, b, rfl, fun e => (List.nodup_cons.mp nd).1 (by simp [e]), hm a (by simp), hm b (by simp)⟩
theorem nms_mem (bks : List (List Rule)) (x : Str) : x ∈ nms bks ↔ x ∈ folders bks := by
  unfold nms
  rw [(sortStr_perm _).mem_iff, uniqS_mem]
section
variable (S : List Str) (a1 a2 b1 b2 : Str)
def ren (f : Str) : Str := if f = a1 then b1 else if f = a2 then b2 else f
def renS (s : Site) : Site := ⟨s.l, ren a1 a2 b1 b2 s.f, s.k⟩
structure Apart : Prop where
  a12 : a1 ≠ a2
  b12 : b1 ≠ b2
  a1S : a1 ∉ S
  a2S : a2 ∉ S
  b1S : b1 ∉ S
  b2S : b2 ∉ S
variable {S a1 a2 b1 b2}
theorem ren_eq (h : Apart S a1 a2 b1 b2) {x f : Str} (hx : x ∈ S) (hf : f ∈ S ++ [a1, a2]) : (x == ren a1 a2 b1 b2 f) = (x == f) := by
  unfold ren
  have n1 : x ≠ a1 := by rintro rfl; exact h.a1S hx
  have n2 : x ≠ a2 := by rintro rfl; exact h.a2S hx
  have n3 : x ≠ b1 := by rintro rfl; exact h.b1S hx
  have n4 : x ≠ b2 := by rintro rfl; exact h.b2S hx
  split
  · rename_i e; rw [e, beq_eq_false_iff_ne.mpr n1, beq_eq_false_iff_ne.mpr n3]
  · split
    · rename_i e; rw [e, beq_eq_false_iff_ne.mpr n2, beq_eq_false_iff_ne.mpr n4]
    · rfl
theorem ren_inj (h : Apart S a1 a2 b1 b2) {f g : Str} (hf : f ∈ S ++ [a1, a2]) (hg : g ∈ S ++ [a1, a2]) : ren a1 a2 b1 b2 f = ren a1 a2 b1 b2 g ↔ f = g := by
  refine ⟨fun e => ?_, fun e => by rw [e]⟩
  have inS : ∀ z, z ∈ S ++ [a1, a2] → z ≠ a1 → z ≠ a2 → z ∈ S := fun z hz n1 n2 => by simpa [n1, n2] using hz
  unfold ren at e
  by_cases f1 : f = a1
  · by_cases g1 : g = a1
    · rw [f1, g1]
    · rw [if_pos f1, if_neg g1] at e
      by_cases g2 : g = a2
      · rw [if_pos g2] at e; exact absurd e h.b12
      · rw [if_neg g2] at e; exact absurd (e ▸ inS g hg g1 g2) h.b1S
  · rw [if_neg f1] at e
    by_cases g1 : g = a1
    · rw [if_pos g1] at e
      by_cases f2 : f = a2
      · rw [if_pos f2] at e; exact absurd e.symm h.b12
      · rw [if_neg f2] at e; exact absurd (e ▸ inS f hf f1 f2) h.b1S
    · rw [if_neg g1] at e
      by_cases f2 : f = a2
      · rw [if_pos f2] at e
        by_cases g2 : g = a2
        · rw [f2, g2]
        · rw [if_neg g2] at e; exact absurd (e ▸ inS g hg g1 g2) h.b2S
      · rw [if_neg f2] at e
        by_cases g2 : g = a2
        · rw [if_pos g2] at e; exact absurd (e ▸ inS f hf f1 f2) h.b2S
        · rw [if_neg g2] at e; exact e
theorem endOk_ren (h : Apart S a1 a2 b1 b2) {e : Option Str} {s : Site} (he : ∀ x ∈ foldE e, x ∈ S) (hs : s.f ∈ S ++ [a1, a2]) : endOk e (renS a1 a2 b1 b2 s) = endOk e s := by
  cases e with
  | none => rfl
  | some x =>
    unfold endOk
    show (x == if inK x then s.k else ren a1 a2 b1 b2 s.f) = (x == if inK x then s.k else s.f)
    cases hk : inK x with
    | true => rfl
    | false => exact ren_eq h (he x (by simp [foldE, hk])) hs
theorem meets_ren (h : Apart S a1 a2 b1 b2) {r : Rule} {s s2 : Site} (hr : ∀ x ∈ endF r, x ∈ S) (hs : s.f ∈ S ++ [a1, a2]) (hs2 : s2.f ∈ S ++ [a1, a2]) : meets r (renS a1 a2 b1 b2 s) (renS a1 a2 b1 b2 s2) = meets r s s2 := by
  unfold meets
  rw [endOk_ren h (fun x hx => hr x (List.mem_append_left _ hx)) hs, endOk_ren h (fun x hx => hr x (List.mem_append_right _ hx)) hs2]
  have e1 : stepOf (renS a1 a2 b1 b2 s) (renS a1 a2 b1 b2 s2) = stepOf s s2 := rfl
  have e2 : nearOf (renS a1 a2 b1 b2 s) (renS a1 a2 b1 b2 s2) = nearOf s s2 := by
    unfold nearOf
    show (if ren a1 a2 b1 b2 s.f = ren a1 a2 b1 b2 s2.f then _ else _) = _
    by_cases c : s.f = s2.f
    · rw [if_pos c, if_pos ((ren_inj h hs hs2).mpr c)]
    · rw [if_neg c, if_neg fun z => c ((ren_inj h hs hs2).mp z)]
  rw [e1, e2]
  rfl
theorem fst_ren (h : Apart S a1 a2 b1 b2) {rs : List Rule} {s s2 : Site} (hr : ∀ r ∈ rs, ∀ x ∈ endF r, x ∈ S) (hs : s.f ∈ S ++ [a1, a2]) (hs2 : s2.f ∈ S ++ [a1, a2]) : fst rs (renS a1 a2 b1 b2 s) (renS a1 a2 b1 b2 s2) = fst rs s s2 := by
  unfold fst
  congr 2
  exact List.map_congr_left fun r hr' => meets_ren h (hr r hr') hs hs2
theorem lets_ren (h : Apart S a1 a2 b1 b2) {rs : List Rule} {s s2 : Site} (hr : ∀ r ∈ rs, ∀ x ∈ endF r, x ∈ S) (hs : s.f ∈ S ++ [a1, a2]) (hs2 : s2.f ∈ S ++ [a1, a2]) : lets rs (renS a1 a2 b1 b2 s) (renS a1 a2 b1 b2 s2) = lets rs s s2 := by
  unfold lets
  rw [fst_ren h hr hs hs2]
theorem sites_mem {N : List Str} {s : Site} : s ∈ sitesOf N ↔ ∃ l < 4, ∃ f ∈ N, s = ⟨(l : Nat), f, "door"⟩ ∨ s = ⟨(l : Nat), f, "inner"⟩ := by
  unfold sitesOf twoS
  simp only [List.mem_flatMap, List.mem_range, List.mem_cons, List.not_mem_nil, or_false]
theorem sites_f {N : List Str} {s : Site} (h : s ∈ sitesOf N) : s.f ∈ N := by
  obtain ⟨l, _, f, hf, rfl | rfl⟩ := sites_mem.mp h <;> exact hf
theorem ren_mem {s : Site} (hs : s ∈ sitesOf (S ++ [a1, a2])) : renS a1 a2 b1 b2 s ∈ sitesOf (S ++ [b1, b2]) := by
  obtain ⟨l, hl, f, hf, e⟩ := sites_mem.mp hs
  refine sites_mem.mpr ⟨l, hl, ren a1 a2 b1 b2 f, ?_, ?_⟩
  · unfold ren
    split
    · simp
    · split
      · simp
      · rename_i n1 n2
        have : f ∈ S := by simpa [n1, n2] using hf
        simp [this]
  · rcases e with rfl | rfl
    · exact .inl rfl
    · exact .inr rfl
theorem move (h : Apart S a1 a2 b1 b2) {D : Site → Site → Bool} (hD : ∀ s s2 : Site, s.f ∈ S ++ [a1, a2] → s2.f ∈ S ++ [a1, a2] → D (renS a1 a2 b1 b2 s) (renS a1 a2 b1 b2 s2) = D s s2)
    (e : ∃ s ∈ sitesOf (S ++ [a1, a2]), ∃ s2 ∈ sitesOf (S ++ [a1, a2]), D s s2 = true) : ∃ s ∈ sitesOf (S ++ [b1, b2]), ∃ s2 ∈ sitesOf (S ++ [b1, b2]), D s s2 = true := by
  obtain ⟨s, hs, s2, hs2, q⟩ := e
  exact ⟨_, ren_mem hs, _, ren_mem hs2, by rw [hD s s2 (sites_f hs) (sites_f hs2)]; exact q⟩
end
end NN

set_option Elab.async false
set_option linter.all false
set_option maxRecDepth 100000
set_option maxHeartbeats 4000000
namespace NN
open PySem
theorem loop_inv {α β : Type} {t : α → T} {step : T → Env → Sto → Oc SR} {st : Sto} {E : β → Env} (I : List α → β → Prop) : ∀ (xs done : List α) (b : β), I done b →
    (∀ x d r b, done ++ xs = d ++ x :: r → I d b → ∃ b', step (t x) (E b) st = .ok (.nx (E b')) st ∧ I (d ++ [x]) b') → ∃ b', loopS step (xs.map t) (E b) st = .ok (.nx (E b')) st ∧ I (done ++ xs) b'
  | [], done, b, h, _ => ⟨b, rfl, by rw [List.append_nil]; exact h⟩
  | x :: xs, done, b, h, hs => by
    obtain ⟨b1, e1, h1⟩ := hs x done xs b rfl h
    obtain ⟨b2, e2, h2⟩ := loop_inv I xs (done ++ [x]) b1 h1 fun y d r b q i => hs y d r b (by rw [← q]; simp) i
    refine ⟨b2, ?_, by rw [List.append_assoc] at h2; exact h2⟩
    rw [List.map_cons, loopS, e1]
    exact e2
theorem keyT_na (x : Option Nat) : ∃ k, keyT (tNa x) = some k ∧ ∀ y, keyT (tNa y) = some k → x = y := by
  cases x with
  | none => exact ⟨none, rfl, fun y h => by cases y with | none => rfl | some j => cases h⟩
  | some i => exact ⟨some (.inl (i : Nat)), rfl, fun y h => by
      cases y with
      | none => cases h
      | some j =>
        have h : (some (some (Sum.inl (j : Int))) : Option (Option L2.Key)) = some (some (.inl (i : Int))) := h
        simp at h
        have h : j = i := by exact_mod_cast h
        rw [h]⟩
theorem eqK_na (x y : Option Nat) : eqK (tNa y) (tNa x) = decide (y = x) := by
  obtain ⟨k, h1, h2⟩ := keyT_na x
  unfold eqK
  by_cases c : y = x
  · subst c; simp
  · rw [decide_eq_false c]
    exact decide_eq_false fun e => c (h2 y (e.trans h1)).symm
theorem dput_na (ks : List (Option Nat)) (vs : List T) (x : Option Nat) (v : T) : ∃ ks' : List (Option Nat), (dput (ks.map tNa) vs (tNa x) v).1 = ks'.map tNa ∧ (∀ y, y ∈ ks' ↔ y = x ∨ y ∈ ks) ∧ ks'.length ≤ ks.length + 1 := by
  have e : (ks.map tNa).any (eqK · (tNa x)) = decide (x ∈ ks) := by
    induction ks with
    | nil => rfl
    | cons k ks ih =>
      rw [List.map_cons, List.any_cons, ih, eqK_na]
      by_cases c : k = x
      · subst c; simp
      · have : ¬ x = k := fun z => c z.symm
        simp [c, this]
  unfold dput
  rw [e]
  by_cases c : x ∈ ks
  · rw [if_pos (decide_eq_true c)]
    exact ⟨ks, rfl, fun y => ⟨.inr, fun z => z.elim (fun q => q ▸ c) id⟩, Nat.le_succ _⟩
  · rw [if_neg (by rw [decide_eq_false c]; exact Bool.false_ne_true)]
    exact ⟨ks ++ [x], by simp, fun y => by simp [or_comm], by simp⟩
theorem list_dic (ks vs : List T) : builtin .list [.dic 0 ks vs] = some (.fresh (.lst ks)) := rfl
abbrev envD (A : List Rule) (ss : List Site) (q : List (Option Nat) × List T) (a b : Option Slot) : Env := [some (.val (tRs A)), some (.own (.dic 0 (q.1.map tNa) q.2)), some (.val (tSs ss)), a, b]
theorem s_decided (A : List Rule) (lA : A.length ≤ 1000) (h : (folders [A]).length ≤ 24) (st : Sto) : ∃ ks : List (Option Nat), g__law_decided [tRs A] st = .ok (.fresh (.lst (ks.map tNa))) st ∧ ∀ x, x ∈ ks ↔ ∃ s ∈ lawS [A], ∃ s2 ∈ lawS [A], fst A s s2 = x := by
  have hs := s_lsites [A] h st
  have hlen : (lawS [A]).length ≤ 300 := by
    unfold lawS
    rw [sites_len, List.length_append]
    have : (nms [A]).length ≤ 24 := by
      unfold nms
      rw [sortStr_len]
      exact Nat.le_trans (uniqS_len _) h
    show 8 * (_ + 2) ≤ _
    omega
  have hput : ∀ (s s2 : Site) (q : List (Option Nat) × List T), q.1.length ≤ 100000 → ∃ q' : List (Option Nat) × List T, ex (.seq (.put 1 (.call "_law_first" 3 g__law_first (.cons (.var 0) (.cons (.var 3) (.cons (.var 4) .nil)))) (.lit (.bl true))) .nil) (envD A (lawS [A]) q (some (.val s.t)) (some (.val s2.t))) st = .ok (.nx (envD A (lawS [A]) q' (some (.val s.t)) (some (.val s2.t)))) st ∧
      (∀ y, y ∈ q'.1 ↔ y = fst A s s2 ∨ y ∈ q.1) ∧ q'.1.length ≤ q.1.length + 1 := fun s s2 q hq => by
    obtain ⟨ks', e1, e2, e3⟩ := dput_na q.1 q.2 (fst A s s2) (.bl true)
    refine ⟨(ks', (dput (q.1.map tNa) q.2 (tNa (fst A s s2)) (.bl true)).2), ?_, e2, e3⟩
    obtain ⟨k, hk, _⟩ := keyT_na (fst A s s2)
    have hc : ev (.call "_law_first" 3 g__law_first (.cons (.var 0) (.cons (.var 3) (.cons (.var 4) .nil)))) (envD A (lawS [A]) q (some (.val s.t)) (some (.val s2.t))) st = .ok (.val (tNa (fst A s s2))) st := by
      simp [qx_seq', qx_ret, qx_retN, qx_iff, qx_asg, qx_set2, qx_set3, qx_for, qx_ap', qx_xt', qx_frz', qx_nil, qx_drop, qv_v, qv_lit, qv_glb, qv_bin, qv_neg, qv_cmp, qv_chain, qv_and, qv_or, qv_not, qv_ite, qv_tup, qv_lst, qv_ix, qv_sl, qv_attr, qv_bi, qv_bi2, qv_isT, qv_call, qv_om, qp_nil, qp_cons, qs_nil, qs_cons, qc_nil, qc_cons, bind_ok, of_some, tr_val, tr_fresh, truth_bl, view_val, view_fresh, view_at, slot_val, slot_fresh, ret_val, ret_fresh, ret_at, Own.tree, s_first A s s2 st lA]
    rw [qx_seq', qx_put (ks := q.1.map tNa) (vs := q.2) rfl, qv_lit, tr_val, bind_ok, hc, tr_val, bind_ok, hk]
    rw [if_pos (by rw [List.length_map]; unfold LIM; simp; omega), bind_ok]
    simp only [List.set]
    rw [qx_nil, e1]
  have hi2 : ∀ q a b, evI false (.cons (.var 2) .nil) (envD A (lawS [A]) q a b) st = .ok ((lawS [A]).map Site.t) st := fun q a b => by simp [qi_cons, qv_v, bind_ok, of_some, viewQ_val, tSs, itemsOf]
  obtain ⟨⟨q, a, b⟩, hl, hI⟩ := loop_inv (t := Site.t) (step := stepS (.nm 3) (ex (.seq (.frz 2) (.seq (.for_ (.nm 4) (.cons (.var 2) .nil) (.seq (.put 1 (.call "_law_first" 3 g__law_first (.cons (.var 0) (.cons (.var 3) (.cons (.var 4) .nil)))) (.lit (.bl true))) .nil)) .nil)))) (st := st)
      (E := fun z : (List (Option Nat) × List T) × Option Slot × Option Slot => envD A (lawS [A]) z.1 z.2.1 z.2.2) (I := fun d z => (∀ y, y ∈ z.1.1 ↔ ∃ s ∈ d, ∃ s2 ∈ lawS [A], fst A s s2 = y) ∧ z.1.1.length ≤ d.length * 300) (lawS [A]) [] (([], []), none, none) ⟨fun y => by simp, Nat.zero_le _⟩ fun s d r z hd ⟨hI, hz⟩ => by
    have hdl : d.length < 300 := by
      have := congrArg List.length hd
      simp at this
      omega
    obtain ⟨⟨q', b'⟩, hl', hI', hz'⟩ := loop_inv (t := Site.t) (step := stepS (.nm 4) (ex (.seq (.put 1 (.call "_law_first" 3 g__law_first (.cons (.var 0) (.cons (.var 3) (.cons (.var 4) .nil)))) (.lit (.bl true))) .nil))) (st := st)
      (E := fun w : (List (Option Nat) × List T) × Option Slot => envD A (lawS [A]) w.1 (some (.val s.t)) w.2) (I := fun e w => (∀ y, y ∈ w.1.1 ↔ (∃ s2 ∈ e, fst A s s2 = y) ∨ y ∈ z.1.1) ∧ w.1.1.length ≤ z.1.1.length + e.length) (lawS [A]) [] (z.1, z.2.2) ⟨fun y => by simp, by simp⟩ fun s2 e r2 w he ⟨hI2, hz2⟩ => by
        have hel : e.length < 300 := by
          have := congrArg List.length he
          simp at this
          omega
        obtain ⟨q', p1, p2, p3⟩ := hput s s2 w.1 (by
          have : d.length * 300 ≤ 300 * 300 := Nat.mul_le_mul (Nat.le_of_lt hdl) (Nat.le_refl _)
          omega)
        refine ⟨(q', some (.val s2.t)), by simpa only [stepS, bindTg, List.set] using p1, fun y => ?_, by simp only [List.length_append, List.length_singleton]; omega⟩
        rw [p2 y, hI2 y]
        constructor
        · rintro (rfl | ⟨x, hx, rfl⟩ | hy)
          · exact .inl ⟨s2, by simp, rfl⟩
          · exact .inl ⟨x, by simp [hx], rfl⟩
          · exact .inr hy
        · rintro (⟨x, hx, rfl⟩ | hy)
          · rcases List.mem_append.mp hx with hx | hx
            · exact .inr (.inl ⟨x, hx, rfl⟩)
            · rw [List.mem_singleton.mp hx]; exact .inl rfl
          · exact .inr (.inr hy)
    refine ⟨(q', some (.val s.t), b'), ?_, fun y => ?_, ?_⟩
    · simp only [stepS, bindTg, List.set]
      rw [qx_seq', qx_frz']
      simp only [List.getElem?_cons_succ, List.getElem?_cons_zero, bind_ok]
      rw [qx_seq', qx_for]
      refine Eq.trans (congrArg (fun z => (Oc.bind (Oc.bind z _) _)) (hi2 z.1 (some (.val s.t)) z.2.2)) ?_
      rw [bind_ok]
      refine Eq.trans (congrArg (fun z => Oc.bind z _) hl') ?_
      rw [bind_ok]
      simp [qx_nil]
    · rw [hI' y, List.nil_append, hI y]
      constructor
      · rintro (⟨s2, h2, rfl⟩ | ⟨x, hx, s2, h2, rfl⟩)
        · exact ⟨s, by simp, s2, h2, rfl⟩
        · exact ⟨x, by simp [hx], s2, h2, rfl⟩
      · rintro ⟨x, hx, s2, h2, rfl⟩
        rcases List.mem_append.mp hx with hx | hx
        · exact .inr ⟨x, hx, s2, h2, rfl⟩
        · rw [List.mem_singleton.mp hx]; exact .inl ⟨s2, h2, rfl⟩
    · rw [List.nil_append] at hz'
      simp only [List.length_append, List.length_singleton] at hz' ⊢
      have hz' : q'.1.length ≤ z.1.1.length + (lawS [A]).length := hz'
      show q'.1.length ≤ _
      omega
  rw [List.nil_append] at hI
  refine ⟨q.1, ?_, hI.1⟩
  have hrun : ex n__law_decided [some (.val (tRs A)), none, none, none, none] st = .ok (.rt (.fresh (.lst (q.1.map tNa)))) st := by
    have e0 : evs (.cons (.lst (.cons (.var 0) .nil)) .nil) [some (.val (tRs A)), none, none, none, none] st = .ok [.lst ([A].map tRs)] st := by simp [qx_seq', qx_ret, qx_retN, qx_iff, qx_asg, qx_set2, qx_set3, qx_for, qx_ap', qx_xt', qx_frz', qx_nil, qx_drop, qv_v, qv_lit, qv_glb, qv_bin, qv_neg, qv_cmp, qv_chain, qv_and, qv_or, qv_not, qv_ite, qv_tup, qv_lst, qv_ix, qv_sl, qv_attr, qv_bi, qv_bi2, qv_isT, qv_call, qv_om, qp_nil, qp_cons, qs_nil, qs_cons, qc_nil, qc_cons, bind_ok, of_some, tr_val, tr_fresh, truth_bl, view_val, view_fresh, view_at, slot_val, slot_fresh, ret_val, ret_fresh, ret_at, Own.tree, show (1 : Nat) ≤ LIM by decide]
    unfold n__law_decided
    rw [qx_seq', qx_set2, qv_dnew, bind_ok, qv_call, e0, bind_ok, if_pos (by rfl), hs, bind_ok]
    simp only [slot_fresh, List.set, bind_ok]
    rw [qx_seq', qx_frz']
    simp only [List.getElem?_cons_succ, List.getElem?_cons_zero, bind_ok, List.set]
    rw [qx_seq', qx_for]
    refine Eq.trans (congrArg (fun z => (Oc.bind (Oc.bind z _) _)) (hi2 ([], []) none none)) ?_
    rw [bind_ok]
    refine Eq.trans (congrArg (fun z => Oc.bind z _) hl) ?_
    rw [bind_ok]
    simp only
    rw [qx_seq', qx_ret, qv_bi, qv_v]
    simp only [List.getElem?_cons_succ, List.getElem?_cons_zero, bind_ok, view_at, Option.bind_some, Own.tree, list_dic, of_some, ret_fresh]
  simp only [g__law_decided, runDef, startE, List.map, List.replicate, List.length, List.append, List.cons_append, List.nil_append]
  rw [hrun, bind_ok]
end NN

set_option Elab.async false
set_option linter.all false
set_option maxRecDepth 100000
set_option maxHeartbeats 4000000
namespace NN
open PySem
def NoNew (bks : List (List Rule)) : Prop := ("nowhere" : Str) ∉ folders bks ∧ ("elsewhr" : Str) ∉ folders bks
theorem apart_of {bks : List (List Rule)} (h : NoNew bks) : ∃ a b, twoNew (folders bks) = [a, b] ∧ Apart (nms bks) a b "nowhere" "elsewhr" ∧ Apart (nms bks) "nowhere" "elsewhr" a b := by
  obtain ⟨a, b, e, hab, ha, hb⟩ := twoNew_spec (folders bks)
  have n : ("nowhere" : Str) ≠ "elsewhr" := by decide +kernel
  have m := nms_mem bks
  exact ⟨a, b, e, ⟨hab, n, fun z => ha ((m a).mp z), fun z => hb ((m b).mp z), fun z => h.1 ((m _).mp z), fun z => h.2 ((m _).mp z)⟩, ⟨n, hab, fun z => h.1 ((m _).mp z), fun z => h.2 ((m _).mp z), fun z => ha ((m a).mp z), fun z => hb ((m b).mp z)⟩⟩
theorem both {bks : List (List Rule)} (h : NoNew bks) {D : Site → Site → Bool} (hD : ∀ a1 a2 b1 b2, Apart (nms bks) a1 a2 b1 b2 → ∀ s s2 : Site, s.f ∈ nms bks ++ [a1, a2] → s2.f ∈ nms bks ++ [a1, a2] → D (renS a1 a2 b1 b2 s) (renS a1 a2 b1 b2 s2) = D s s2) :
    (∃ s ∈ progS bks, ∃ s2 ∈ progS bks, D s s2 = true) ↔ ∃ s ∈ lawS bks, ∃ s2 ∈ lawS bks, D s s2 = true := by
  obtain ⟨a, b, e, h1, h2⟩ := apart_of h
  unfold progS lawS lawNew
  rw [e]
  exact ⟨move h1 (hD _ _ _ _ h1), move h2 (hD _ _ _ _ h2)⟩
theorem fold_in {bks : List (List Rule)} {rs : List Rule} (h : rs ∈ bks) : ∀ r ∈ rs, ∀ x ∈ endF r, x ∈ nms bks := fun r hr x hx => (nms_mem bks x).mpr (by
  unfold folders
  exact List.mem_flatMap.mpr ⟨rs, h, List.mem_flatMap.mpr ⟨r, hr, hx⟩⟩)
theorem none_iff {ss : List Site} {D : Site → Site → Bool} : pairOf ss D = none ↔ ¬ ∃ s ∈ ss, ∃ s2 ∈ ss, D s s2 = true := by
  rw [pairOf_none]
  constructor
  · rintro h ⟨s, hs, s2, hs2, q⟩
    rw [h s hs s2 hs2] at q; cases q
  · intro h s hs s2 hs2
    cases q : D s s2 with
    | false => rfl
    | true => exact absurd ⟨s, hs, s2, hs2, q⟩ h
theorem parted_same {A C : List Rule} (h : NoNew [A, C]) : (pairOf (progS [A, C]) (parts2 A C)).isNone = !((lawS [A, C]).any fun s => (lawS [A, C]).any fun s2 => parts2 A C s s2) := by
  have hb := both (bks := [A, C]) h (D := parts2 A C) fun a1 a2 b1 b2 ap s s2 hs hs2 => by
    unfold parts2
    rw [lets_ren ap (fold_in (by simp)) hs hs2, lets_ren ap (fold_in (by simp)) hs hs2]
  cases q : (lawS [A, C]).any fun s => (lawS [A, C]).any fun s2 => parts2 A C s s2 with
  | true =>
    obtain ⟨s, hs, q2⟩ := List.any_eq_true.mp q
    obtain ⟨s2, hs2, q3⟩ := List.any_eq_true.mp q2
    cases p : pairOf (progS [A, C]) (parts2 A C) with
    | none => exact absurd (hb.mpr ⟨s, hs, s2, hs2, q3⟩) (none_iff.mp p)
    | some z => rfl
  | false =>
    have : pairOf (progS [A, C]) (parts2 A C) = none := none_iff.mpr fun z => by
      obtain ⟨s, hs, s2, hs2, q3⟩ := hb.mp z
      have := List.any_eq_false.mp q s hs
      exact absurd (List.any_eq_true.mpr ⟨s2, hs2, q3⟩) this
    rw [this]; rfl
theorem used_same {A : List Rule} (h : NoNew [A]) (c : Nat) : pairOf (progS [A]) (fun s s2 => fst A s s2 == some c) = none ↔ ¬ ∃ s ∈ lawS [A], ∃ s2 ∈ lawS [A], fst A s s2 = some c := by
  have hb := both (bks := [A]) h (D := fun s s2 => fst A s s2 == some c) fun a1 a2 b1 b2 ap s s2 hs hs2 => by
    rw [fst_ren ap (fold_in (by simp)) hs hs2]
  rw [none_iff, hb]
  simp only [beq_iff_eq]
theorem is_tup (ts : List T) : cmpop .is (.tup ts) .non = some false := rfl
theorem is_pr (p : Option (Site × Site)) : cmpop .is (tPr p) .non = some p.isNone := by
  rcases p with _ | ⟨s, s2⟩ <;> rfl
def tAn (C : Str) (s s2 : Site) : T := .ins C ["one", "other"] [s.t, s2.t]
theorem m_Alike (st : Sto) : g_Alike [] st = .ok (.val (.ins "Alike" [] [])) st := by simp [g_Alike, gMake, startI, qs_nil, bind_ok]
theorem m_Idle (st : Sto) : g_Idle [] st = .ok (.val (.ins "Idle" [] [])) st := by simp [g_Idle, gMake, startI, qs_nil, bind_ok]
theorem m_Parted (s s2 : Site) (st : Sto) : g_Parted [s.t, s2.t] st = .ok (.val (tAn "Parted" s s2)) st := by simp [g_Parted, gMake, startI, n_Parted___init__, qx_seq', qx_ret, qx_retN, qx_iff, qx_asg, qx_set2, qx_set3, qx_for, qx_ap', qx_xt', qx_frz', qx_nil, qx_drop, qv_v, qv_lit, qv_glb, qv_bin, qv_neg, qv_cmp, qv_chain, qv_and, qv_or, qv_not, qv_ite, qv_tup, qv_lst, qv_ix, qv_sl, qv_attr, qv_bi, qv_bi2, qv_isT, qv_call, qv_om, qp_nil, qp_cons, qs_nil, qs_cons, qc_nil, qc_cons, bind_ok, of_some, tr_val, tr_fresh, truth_bl, view_val, view_fresh, view_at, slot_val, slot_fresh, ret_val, ret_fresh, ret_at, Own.tree, tAn]
theorem m_Used (s s2 : Site) (st : Sto) : g_Used [s.t, s2.t] st = .ok (.val (tAn "Used" s s2)) st := by simp [g_Used, gMake, startI, n_Used___init__, qx_seq', qx_ret, qx_retN, qx_iff, qx_asg, qx_set2, qx_set3, qx_for, qx_ap', qx_xt', qx_frz', qx_nil, qx_drop, qv_v, qv_lit, qv_glb, qv_bin, qv_neg, qv_cmp, qv_chain, qv_and, qv_or, qv_not, qv_ite, qv_tup, qv_lst, qv_ix, qv_sl, qv_attr, qv_bi, qv_bi2, qv_isT, qv_call, qv_om, qp_nil, qp_cons, qs_nil, qs_cons, qc_nil, qc_cons, bind_ok, of_some, tr_val, tr_fresh, truth_bl, view_val, view_fresh, view_at, slot_val, slot_fresh, ret_val, ret_fresh, ret_at, Own.tree, tAn]
theorem one_P (s s2 : Site) : fldOf "one" ["Parted", "Used"] (tAn "Parted" s s2) = some s.t := rfl
theorem other_P (s s2 : Site) : fldOf "other" ["Parted", "Used"] (tAn "Parted" s s2) = some s2.t := rfl
theorem one_U (s s2 : Site) : fldOf "one" ["Parted", "Used"] (tAn "Used" s s2) = some s.t := rfl
theorem other_U (s s2 : Site) : fldOf "other" ["Parted", "Used"] (tAn "Used" s s2) = some s2.t := rfl
section
variable (A C : List Rule) (hA : ∀ r ∈ A, r.ok) (hC : ∀ r ∈ C, r.ok) (lA : A.length ≤ 1000) (lC : C.length ≤ 1000) (s s2 : Site) (st : Sto)
include hA hC lA lC in
theorem sh_Alike (h : (folders [A, C]).length ≤ 24) : g_Alike_shows [.ins "Alike" [] [], tRs A, tRs C] st = .ok (.val (.bl (pairOf (progS [A, C]) (parts2 A C)).isNone)) st := by
  simp [g_Alike_shows, runDef, startE, n_Alike_shows, qx_seq', qx_ret, qx_retN, qx_iff, qx_asg, qx_set2, qx_set3, qx_for, qx_ap', qx_xt', qx_frz', qx_nil, qx_drop, qv_v, qv_lit, qv_glb, qv_bin, qv_neg, qv_cmp, qv_chain, qv_and, qv_or, qv_not, qv_ite, qv_tup, qv_lst, qv_ix, qv_sl, qv_attr, qv_bi, qv_bi2, qv_isT, qv_call, qv_om, qp_nil, qp_cons, qs_nil, qs_cons, qc_nil, qc_cons, bind_ok, of_some, tr_val, tr_fresh, truth_bl, view_val, view_fresh, view_at, slot_val, slot_fresh, ret_val, ret_fresh, ret_at, Own.tree, s_parted A C hA hC lA lC h st, is_pr]
include hA hC lA lC in
theorem sh_Parted : g_Parted_shows [tAn "Parted" s s2, tRs A, tRs C] st = .ok (.val (.bl (parts2 A C s s2))) st := by
  simp [g_Parted_shows, runDef, startE, n_Parted_shows, qx_seq', qx_ret, qx_retN, qx_iff, qx_asg, qx_set2, qx_set3, qx_for, qx_ap', qx_xt', qx_frz', qx_nil, qx_drop, qv_v, qv_lit, qv_glb, qv_bin, qv_neg, qv_cmp, qv_chain, qv_and, qv_or, qv_not, qv_ite, qv_tup, qv_lst, qv_ix, qv_sl, qv_attr, qv_bi, qv_bi2, qv_isT, qv_call, qv_om, qp_nil, qp_cons, qs_nil, qs_cons, qc_nil, qc_cons, bind_ok, of_some, tr_val, tr_fresh, truth_bl, view_val, view_fresh, view_at, slot_val, slot_fresh, ret_val, ret_fresh, ret_at, Own.tree, one_P, other_P, s_islet A hA s s2 st lA, s_islet C hC s s2 st lC, ne_bl, parts2]
include hA lA in
theorem sh_Used (c : Nat) : g_Used_shows [tAn "Used" s s2, tRs A, .int (c : Nat)] st = .ok (.val (.bl (fst A s s2 == some c))) st := by
  simp [g_Used_shows, runDef, startE, n_Used_shows, qx_seq', qx_ret, qx_retN, qx_iff, qx_asg, qx_set2, qx_set3, qx_for, qx_ap', qx_xt', qx_frz', qx_nil, qx_drop, qv_v, qv_lit, qv_glb, qv_bin, qv_neg, qv_cmp, qv_chain, qv_and, qv_or, qv_not, qv_ite, qv_tup, qv_lst, qv_ix, qv_sl, qv_attr, qv_bi, qv_bi2, qv_isT, qv_call, qv_om, qp_nil, qp_cons, qs_nil, qs_cons, qc_nil, qc_cons, bind_ok, of_some, tr_val, tr_fresh, truth_bl, view_val, view_fresh, view_at, slot_val, slot_fresh, ret_val, ret_fresh, ret_at, Own.tree, one_U, other_U, s_met A hA s s2 st lA, eq_na]
include hA lA in
theorem sh_Idle (h : (folders [A]).length ≤ 24) (c : Nat) : g_Idle_shows [.ins "Idle" [] [], tRs A, .int (c : Nat)] st = .ok (.val (.bl (pairOf (progS [A]) fun s s2 => fst A s s2 == some c).isNone)) st := by
  simp [g_Idle_shows, runDef, startE, n_Idle_shows, qx_seq', qx_ret, qx_retN, qx_iff, qx_asg, qx_set2, qx_set3, qx_for, qx_ap', qx_xt', qx_frz', qx_nil, qx_drop, qv_v, qv_lit, qv_glb, qv_bin, qv_neg, qv_cmp, qv_chain, qv_and, qv_or, qv_not, qv_ite, qv_tup, qv_lst, qv_ix, qv_sl, qv_attr, qv_bi, qv_bi2, qv_isT, qv_call, qv_om, qp_nil, qp_cons, qs_nil, qs_cons, qc_nil, qc_cons, bind_ok, of_some, tr_val, tr_fresh, truth_bl, view_val, view_fresh, view_at, slot_val, slot_fresh, ret_val, ret_fresh, ret_at, Own.tree, s_used A hA lA h c st, is_pr]
end
end NN

set_option Elab.async false
set_option linter.all false
set_option maxRecDepth 100000
set_option maxHeartbeats 4000000
namespace NN
open PySem
structure GoodN (x : Str) : Prop where
  lo : 1 ≤ x.length
  hi : x.length ≤ 8
  all : ∀ c ∈ x.cps.toList, c ∈ ("abcdefghijklmnopqrstuvwxyz" : Str).cps.toList
theorem all_run (bs : List Bool) : builtin .all [.lst (bs.map T.bl)] = some (.val (.bl (bs.all id))) := by
  show (bls? (bs.map T.bl)).map _ = _
  rw [bls_some]; rfl
theorem len_str {x : Str} (h : x.length ≤ 1000) : builtin .len [.str x] = some (.val (.int (x.length : Nat))) := by
  show (if x.length ≤ LIM then some (RV.val (.int (x.length : Nat))) else none) = _
  rw [if_pos (by unfold LIM; omega)]
theorem le_int (a b : Int) : cmpop .le (.int a) (.int b) = some (decide (a ≤ b)) := rfl
theorem mem_sign (c : Nat) (y : Str) : cmpop .mem (.str ⟨#[c]⟩) (.str y) = some (decide (c ∈ y.cps.toList)) := rfl
theorem isT_str (x : Str) : isTy "str" (.str x) = some true := rfl
theorem isT_int (x : Int) : isTy "int" (.int x) = some true := rfl
theorem isT_intb (x : Int) : isTy "bool" (.int x) = some false := rfl
theorem isT_bl (x : Bool) : isTy "bool" (.bl x) = some true := rfl
theorem isT_tup (x : List T) : isTy "tuple" (.tup x) = some true := rfl
theorem isT_lst (x : List T) : isTy "list" (.lst x) = some true := rfl
theorem s_name {x : Str} (h : GoodN x) (st : Sto) : g_is_name [.str x] st = .ok (.val (.bl true)) st := by
  have hc : ev (.comp (.nm 1) [1] (.cons (.var 0) .nil) .nil (.cmp .mem (.var 1) (.glb "LETTERS" (.str "abcdefghijklmnopqrstuvwxyz")))) [some (.val (.str x)), none] st = .ok (.fresh (.lst ((x.cps.toList.map fun c => T.str ⟨#[c]⟩).map fun _ => T.bl true))) st := by
    refine qv_compM (by simp [qi_cons, qv_v, bind_ok, of_some, viewQ_val, itemsOf]) (fun y hy => ?_) ?_
    · obtain ⟨c, hcm, rfl⟩ := List.mem_map.mp hy
      simp [stepC, wipeE, bindTg, qx_seq', qx_ret, qx_retN, qx_iff, qx_asg, qx_set2, qx_set3, qx_for, qx_ap', qx_xt', qx_frz', qx_nil, qx_drop, qv_v, qv_lit, qv_glb, qv_bin, qv_neg, qv_cmp, qv_chain, qv_and, qv_or, qv_not, qv_ite, qv_tup, qv_lst, qv_ix, qv_sl, qv_attr, qv_bi, qv_bi2, qv_isT, qv_call, qv_om, qp_nil, qp_cons, qs_nil, qs_cons, qc_nil, qc_cons, bind_ok, of_some, tr_val, tr_fresh, truth_bl, view_val, view_fresh, view_at, slot_val, slot_fresh, ret_val, ret_fresh, ret_at, Own.tree, mem_sign, h.all c hcm, Oc.nox]
    · have := h.hi
      rw [List.length_map, Array.length_toList]
      have : x.cps.size ≤ 8 := h.hi
      unfold LIM; omega
  have e : (x.cps.toList.map fun c => T.str ⟨#[c]⟩).map (fun _ => T.bl true) = (x.cps.toList.map fun _ => true).map T.bl := by
    rw [List.map_map, List.map_map]; rfl
  rw [e] at hc
  have ha := all_run (x.cps.toList.map fun _ => true)
  have ht : (x.cps.toList.map fun _ => true).all id = true := by simp
  rw [ht] at ha
  have hl := len_str (x := x) (by have := h.hi; omega)
  have h1 : decide ((1 : Int) ≤ (x.length : Int)) = true := decide_eq_true (by have := h.lo; omega)
  have h2 : decide ((x.length : Int) ≤ (8 : Int)) = true := decide_eq_true (by have := h.hi; omega)
  have hi : ev (.or (.not (.isT (.var 0) "str")) (.not (.chain .le .le (.lit (.int 1)) (.bi .len (.var 0)) (.glb "LONGEST" (.int 8))))) [some (.val (.str x)), none] st = .ok (.val (.bl false)) st := by
    simp only [qv_or, qv_not, qv_isT, qv_v, qv_chain, qv_lit, qv_glb, qv_bi, List.getElem?_cons_zero, bind_ok, view_val, Option.bind_some, Option.map_some, isT_str, of_some, truth_bl, hl, le_int, h1, h2, if_true, Bool.not_true, Bool.false_eq_true, if_false]
  simp only [g_is_name, runDef, startE, n_is_name, List.map, List.replicate, List.length, List.append, List.cons_append, List.nil_append]
  rw [qx_seq', qx_iff, hi, truth_bl, bind_ok]
  simp only [Bool.false_eq_true, if_false]
  rw [qx_nil, bind_ok]
  simp only
  rw [qx_seq', qx_ret, qv_bi, hc, bind_ok, view_fresh, Own.tree, Option.bind_some, ha, of_some, bind_ok, ret_val]
  rfl
theorem good_kind : GoodN "door" ∧ GoodN "inner" := ⟨⟨by decide +kernel, by decide +kernel, by decide +kernel⟩, ⟨by decide +kernel, by decide +kernel, by decide +kernel⟩⟩
structure Rule.fit (r : Rule) : Prop extends r.ok where
  ga : ∀ x, r.a = some x → GoodN x
  gb : ∀ x, r.b = some x → GoodN x
theorem s_oneof0 (ws : List T) (st : Sto) : g_is_one_of [.non, .tup ws] st = .ok (.val (.bl true)) st := by
  simp [g_is_one_of, runDef, startE, n_is_one_of, qx_seq', qx_ret, qx_retN, qx_iff, qx_asg, qx_set2, qx_set3, qx_for, qx_ap', qx_xt', qx_frz', qx_nil, qx_drop, qv_v, qv_lit, qv_glb, qv_bin, qv_neg, qv_cmp, qv_chain, qv_and, qv_or, qv_not, qv_ite, qv_tup, qv_lst, qv_ix, qv_sl, qv_attr, qv_bi, qv_bi2, qv_isT, qv_call, qv_om, qp_nil, qp_cons, qs_nil, qs_cons, qc_nil, qc_cons, bind_ok, of_some, tr_val, tr_fresh, truth_bl, view_val, view_fresh, view_at, slot_val, slot_fresh, ret_val, ret_fresh, ret_at, Own.tree, is_non]
theorem s_oneof (x : Str) (ws : List T) (b : Bool) (h : cmpop .mem (.str x) (.tup ws) = some b) (st : Sto) : g_is_one_of [.str x, .tup ws] st = .ok (.val (.bl b)) st := by
  have e : cmpop .is (.str x) .non = some false := rfl
  simp [g_is_one_of, runDef, startE, n_is_one_of, qx_seq', qx_ret, qx_retN, qx_iff, qx_asg, qx_set2, qx_set3, qx_for, qx_ap', qx_xt', qx_frz', qx_nil, qx_drop, qv_v, qv_lit, qv_glb, qv_bin, qv_neg, qv_cmp, qv_chain, qv_and, qv_or, qv_not, qv_ite, qv_tup, qv_lst, qv_ix, qv_sl, qv_attr, qv_bi, qv_bi2, qv_isT, qv_call, qv_om, qp_nil, qp_cons, qs_nil, qs_cons, qc_nil, qc_cons, bind_ok, of_some, tr_val, tr_fresh, truth_bl, view_val, view_fresh, view_at, slot_val, slot_fresh, ret_val, ret_fresh, ret_at, Own.tree, e, isT_str, h]
theorem s_between (i lo hi : Int) (h1 : lo ≤ i) (h2 : i ≤ hi) (st : Sto) : g_is_between [.int i, .int lo, .int hi] st = .ok (.val (.bl true)) st := by
  simp [g_is_between, runDef, startE, n_is_between, qx_seq', qx_ret, qx_retN, qx_iff, qx_asg, qx_set2, qx_set3, qx_for, qx_ap', qx_xt', qx_frz', qx_nil, qx_drop, qv_v, qv_lit, qv_glb, qv_bin, qv_neg, qv_cmp, qv_chain, qv_and, qv_or, qv_not, qv_ite, qv_tup, qv_lst, qv_ix, qv_sl, qv_attr, qv_bi, qv_bi2, qv_isT, qv_call, qv_om, qp_nil, qp_cons, qs_nil, qs_cons, qc_nil, qc_cons, bind_ok, of_some, tr_val, tr_fresh, truth_bl, view_val, view_fresh, view_at, slot_val, slot_fresh, ret_val, ret_fresh, ret_at, Own.tree, isT_int, isT_intb, le_int, h1, h2]

theorem rule_len (r : Rule) : builtin .len [r.t] = some (.val (.int 6)) := rfl
theorem len6 : cmpop .ne (.int 6) (.int 6) = some false := rfl
theorem len3 : cmpop .ne (.int 3) (.int 3) = some false := rfl
theorem isT_rule (r : Rule) : isTy "tuple" r.t = some true := rfl
theorem isT_site (s : Site) : isTy "tuple" s.t = some true := rfl
theorem site_len (s : Site) : builtin .len [s.t] = some (.val (.int 3)) := rfl
theorem mem_step (x : Str) (h : x = "up" ∨ x = "down" ∨ x = "level") : cmpop .mem (.str x) (.tup [.str "up", .str "down", .str "level"]) = some true := by
  show some (eqF (.str "up") (.str x) || (eqF (.str "down") (.str x) || (eqF (.str "level") (.str x) || false))) = _
  rcases h with rfl | rfl | rfl <;> decide +kernel
theorem mem_near (x : Str) (h : x = "same" ∨ x = "other") : cmpop .mem (.str x) (.tup [.str "same", .str "other"]) = some true := by
  show some (eqF (.str "same") (.str x) || (eqF (.str "other") (.str x) || false)) = _
  rcases h with rfl | rfl <;> decide +kernel
theorem mem_word (x : Str) (h : x = "bar" ∨ x = "let") : cmpop .mem (.str x) (.tup [.str "let", .str "bar"]) = some true := by
  show some (eqF (.str "let") (.str x) || (eqF (.str "bar") (.str x) || false)) = _
  rcases h with rfl | rfl <;> decide +kernel
theorem s_oneofO (e : Option Str) (ws : List T) (h : ∀ x, e = some x → cmpop .mem (.str x) (.tup ws) = some true) (st : Sto) : g_is_one_of [tO e, .tup ws] st = .ok (.val (.bl true)) st := by
  cases e with
  | none => exact s_oneof0 ws st
  | some x => exact s_oneof x ws true (h x rfl) st
theorem s_isrule {r : Rule} (h : r.fit) (st : Sto) : g_is_rule [r.t] st = .ok (.val (.bl true)) st := by
  have h3 : (3 : Nat) ≤ LIM := by decide
  have h2 : (2 : Nat) ≤ LIM := by decide
  have h0 : (0 : Nat) < LIM := by decide
  have h1 : (1 : Nat) < LIM := by decide
  have c1 : ev (.or (.not (.isT (.var 0) "tuple")) (.cmp .ne (.bi .len (.var 0)) (.lit (.int 6)))) [some (.val r.t), none] st = .ok (.val (.bl false)) st := by
    simp [qv_or, qv_not, qv_isT, qv_v, qv_cmp, qv_bi, qv_lit, bind_ok, view_val, isT_rule, of_some, truth_bl, rule_len, len6]
  have c2 : ev (.not (.bi .all (.comp (.nm 1) [1] (.cons (.sl (.var 0) (.nil) (.cons (.lit (.int 2)) .nil)) .nil) (.nil) (.or (.cmp .is (.var 1) (.lit .non)) (.call "is_name" 1 g_is_name (.cons (.var 1) .nil)))))) [some (.val r.t), none] st = .ok (.val (.bl false)) st := by
    have ga := h.ga
    have gb := h.gb
    have e : ∀ x : Str, cmpop .is (.str x) .non = some false := fun _ => rfl
    obtain ⟨a, b, step, near, gap, word⟩ := r
    cases a with
    | none =>
      cases b with
      | none => simp [qx_seq', qx_ret, qx_retN, qx_iff, qx_asg, qx_set2, qx_set3, qx_for, qx_ap', qx_xt', qx_frz', qx_nil, qx_drop, qv_v, qv_lit, qv_glb, qv_bin, qv_neg, qv_cmp, qv_chain, qv_and, qv_or, qv_not, qv_ite, qv_tup, qv_lst, qv_ix, qv_sl, qv_attr, qv_bi, qv_bi2, qv_isT, qv_call, qv_om, qp_nil, qp_cons, qs_nil, qs_cons, qc_nil, qc_cons, bind_ok, of_some, tr_val, tr_fresh, truth_bl, view_val, view_fresh, view_at, slot_val, slot_fresh, ret_val, ret_fresh, ret_at, Own.tree, qv_comp, qi_cons, rule_sl, viewQ_val, itemsOf, loopC, stepC, wipeE, bindTg, tO, is_non, Oc.nox, builtin, bls?, h0, h1]
      | some y => simp [qx_seq', qx_ret, qx_retN, qx_iff, qx_asg, qx_set2, qx_set3, qx_for, qx_ap', qx_xt', qx_frz', qx_nil, qx_drop, qv_v, qv_lit, qv_glb, qv_bin, qv_neg, qv_cmp, qv_chain, qv_and, qv_or, qv_not, qv_ite, qv_tup, qv_lst, qv_ix, qv_sl, qv_attr, qv_bi, qv_bi2, qv_isT, qv_call, qv_om, qp_nil, qp_cons, qs_nil, qs_cons, qc_nil, qc_cons, bind_ok, of_some, tr_val, tr_fresh, truth_bl, view_val, view_fresh, view_at, slot_val, slot_fresh, ret_val, ret_fresh, ret_at, Own.tree, qv_comp, qi_cons, rule_sl, viewQ_val, itemsOf, loopC, stepC, wipeE, bindTg, tO, is_non, e, s_name (gb y rfl), Oc.nox, builtin, bls?, h0, h1]
    | some x =>
      cases b with
      | none => simp [qx_seq', qx_ret, qx_retN, qx_iff, qx_asg, qx_set2, qx_set3, qx_for, qx_ap', qx_xt', qx_frz', qx_nil, qx_drop, qv_v, qv_lit, qv_glb, qv_bin, qv_neg, qv_cmp, qv_chain, qv_and, qv_or, qv_not, qv_ite, qv_tup, qv_lst, qv_ix, qv_sl, qv_attr, qv_bi, qv_bi2, qv_isT, qv_call, qv_om, qp_nil, qp_cons, qs_nil, qs_cons, qc_nil, qc_cons, bind_ok, of_some, tr_val, tr_fresh, truth_bl, view_val, view_fresh, view_at, slot_val, slot_fresh, ret_val, ret_fresh, ret_at, Own.tree, qv_comp, qi_cons, rule_sl, viewQ_val, itemsOf, loopC, stepC, wipeE, bindTg, tO, is_non, e, s_name (ga x rfl), Oc.nox, builtin, bls?, h0, h1]
      | some y => simp [qx_seq', qx_ret, qx_retN, qx_iff, qx_asg, qx_set2, qx_set3, qx_for, qx_ap', qx_xt', qx_frz', qx_nil, qx_drop, qv_v, qv_lit, qv_glb, qv_bin, qv_neg, qv_cmp, qv_chain, qv_and, qv_or, qv_not, qv_ite, qv_tup, qv_lst, qv_ix, qv_sl, qv_attr, qv_bi, qv_bi2, qv_isT, qv_call, qv_om, qp_nil, qp_cons, qs_nil, qs_cons, qc_nil, qc_cons, bind_ok, of_some, tr_val, tr_fresh, truth_bl, view_val, view_fresh, view_at, slot_val, slot_fresh, ret_val, ret_fresh, ret_at, Own.tree, qv_comp, qi_cons, rule_sl, viewQ_val, itemsOf, loopC, stepC, wipeE, bindTg, tO, is_non, e, s_name (ga x rfl), s_name (gb y rfl), Oc.nox, builtin, bls?, h0, h1]
  have c3 : ev (.or (.not (.call "is_one_of" 2 g_is_one_of (.cons (.ix (.var 0) (.lit (.int 2))) (.cons (.tup (.cons (.lit (.str "up")) (.cons (.lit (.str "down")) (.cons (.lit (.str "level")) .nil)))) .nil)))) (.not (.call "is_one_of" 2 g_is_one_of (.cons (.ix (.var 0) (.lit (.int 3))) (.cons (.tup (.cons (.lit (.str "same")) (.cons (.lit (.str "other")) .nil))) .nil))))) [some (.val r.t), none] st = .ok (.val (.bl false)) st := by
    have e1 := s_oneofO r.step [.str "up", .str "down", .str "level"] (fun x hx => mem_step x (by have := h.step; rw [hx] at this; simpa using this)) st
    have e2 := s_oneofO r.near [.str "same", .str "other"] (fun x hx => mem_near x (by have := h.near; rw [hx] at this; simpa using this)) st
    simp [qx_seq', qx_ret, qx_retN, qx_iff, qx_asg, qx_set2, qx_set3, qx_for, qx_ap', qx_xt', qx_frz', qx_nil, qx_drop, qv_v, qv_lit, qv_glb, qv_bin, qv_neg, qv_cmp, qv_chain, qv_and, qv_or, qv_not, qv_ite, qv_tup, qv_lst, qv_ix, qv_sl, qv_attr, qv_bi, qv_bi2, qv_isT, qv_call, qv_om, qp_nil, qp_cons, qs_nil, qs_cons, qc_nil, qc_cons, bind_ok, of_some, tr_val, tr_fresh, truth_bl, view_val, view_fresh, view_at, slot_val, slot_fresh, ret_val, ret_fresh, ret_at, Own.tree, rule_2, rule_3, e1, e2, h3, h2]
  have c4 : ev (.and (.cmp .isn (.ix (.var 0) (.lit (.int 4))) (.lit .non)) (.not (.call "is_between" 3 g_is_between (.cons (.ix (.var 0) (.lit (.int 4))) (.cons (.lit (.int 0)) (.cons (.glb "MOST_LAYER" (.int 3)) .nil)))))) [some (.val r.t), none] st = .ok (.val (.bl false)) st := by
    have hg := h.gap
    simp only [qx_seq', qx_ret, qx_retN, qx_iff, qx_asg, qx_set2, qx_set3, qx_for, qx_ap', qx_xt', qx_frz', qx_nil, qx_drop, qv_v, qv_lit, qv_glb, qv_bin, qv_neg, qv_cmp, qv_chain, qv_and, qv_or, qv_not, qv_ite, qv_tup, qv_lst, qv_ix, qv_sl, qv_attr, qv_bi, qv_bi2, qv_isT, qv_call, qv_om, qp_nil, qp_cons, qs_nil, qs_cons, qc_nil, qc_cons, bind_ok, of_some, tr_val, tr_fresh, truth_bl, view_val, view_fresh, view_at, slot_val, slot_fresh, ret_val, ret_fresh, ret_at, Own.tree, rule_4, List.getElem?_cons_zero, Option.bind_some, Option.map_some]
    cases hgap : r.gap with
    | none => simp [tI, isn_non, qx_seq', qx_ret, qx_retN, qx_iff, qx_asg, qx_set2, qx_set3, qx_for, qx_ap', qx_xt', qx_frz', qx_nil, qx_drop, qv_v, qv_lit, qv_glb, qv_bin, qv_neg, qv_cmp, qv_chain, qv_and, qv_or, qv_not, qv_ite, qv_tup, qv_lst, qv_ix, qv_sl, qv_attr, qv_bi, qv_bi2, qv_isT, qv_call, qv_om, qp_nil, qp_cons, qs_nil, qs_cons, qc_nil, qc_cons, bind_ok, of_some, tr_val, tr_fresh, truth_bl, view_val, view_fresh, view_at, slot_val, slot_fresh, ret_val, ret_fresh, ret_at, Own.tree]
    | some g =>
      rw [hgap] at hg
      have hg2 : 0 ≤ g ∧ g ≤ 3 := by
        simp at hg
        omega
      simp [tI, isn_int, qx_seq', qx_ret, qx_retN, qx_iff, qx_asg, qx_set2, qx_set3, qx_for, qx_ap', qx_xt', qx_frz', qx_nil, qx_drop, qv_v, qv_lit, qv_glb, qv_bin, qv_neg, qv_cmp, qv_chain, qv_and, qv_or, qv_not, qv_ite, qv_tup, qv_lst, qv_ix, qv_sl, qv_attr, qv_bi, qv_bi2, qv_isT, qv_call, qv_om, qp_nil, qp_cons, qs_nil, qs_cons, qc_nil, qc_cons, bind_ok, of_some, tr_val, tr_fresh, truth_bl, view_val, view_fresh, view_at, slot_val, slot_fresh, ret_val, ret_fresh, ret_at, Own.tree, s_between g 0 3 hg2.1 hg2.2 st]
  have c5 : ev (.and (.cmp .isn (.ix (.var 0) (.lit (.int 5))) (.lit .non)) (.call "is_one_of" 2 g_is_one_of (.cons (.ix (.var 0) (.lit (.int 5))) (.cons (.tup (.cons (.lit (.str "let")) (.cons (.lit (.str "bar")) .nil))) .nil)))) [some (.val r.t), none] st = .ok (.val (.bl true)) st := by
    simp [qx_seq', qx_ret, qx_retN, qx_iff, qx_asg, qx_set2, qx_set3, qx_for, qx_ap', qx_xt', qx_frz', qx_nil, qx_drop, qv_v, qv_lit, qv_glb, qv_bin, qv_neg, qv_cmp, qv_chain, qv_and, qv_or, qv_not, qv_ite, qv_tup, qv_lst, qv_ix, qv_sl, qv_attr, qv_bi, qv_bi2, qv_isT, qv_call, qv_om, qp_nil, qp_cons, qs_nil, qs_cons, qc_nil, qc_cons, bind_ok, of_some, tr_val, tr_fresh, truth_bl, view_val, view_fresh, view_at, slot_val, slot_fresh, ret_val, ret_fresh, ret_at, Own.tree, rule_5, isn_str, s_oneof r.word [.str "let", .str "bar"] true (mem_word r.word h.word) st, h2]
  simp only [g_is_rule, runDef, startE, n_is_rule, List.map, List.replicate, List.length, List.append, List.cons_append, List.nil_append]
  simp [qx_seq', qx_iff, c1, c2, c3, c4, c5, truth_bl, bind_ok, qx_nil, qx_ret, ret_val]
theorem s_isbook {rs : List Rule} (h : ∀ r ∈ rs, r.fit) (hl : rs.length ≤ 8) (st : Sto) : g_is_book [tRs rs] st = .ok (.val (.bl true)) st := by
  have hc : ev (.comp (.nm 1) [1] (.cons (.var 0) .nil) .nil (.call "is_rule" 1 g_is_rule (.cons (.var 1) .nil))) [some (.val (tRs rs)), none] st = .ok (.fresh (.lst ((rs.map Rule.t).map fun _ => T.bl true))) st := by
    refine qv_compM (by simp [qi_cons, qv_v, bind_ok, of_some, viewQ_val, tRs, itemsOf]) (fun y hy => ?_) (by rw [List.length_map]; unfold LIM; omega)
    obtain ⟨r, hr, rfl⟩ := List.mem_map.mp hy
    simp [stepC, wipeE, bindTg, qx_seq', qx_ret, qx_retN, qx_iff, qx_asg, qx_set2, qx_set3, qx_for, qx_ap', qx_xt', qx_frz', qx_nil, qx_drop, qv_v, qv_lit, qv_glb, qv_bin, qv_neg, qv_cmp, qv_chain, qv_and, qv_or, qv_not, qv_ite, qv_tup, qv_lst, qv_ix, qv_sl, qv_attr, qv_bi, qv_bi2, qv_isT, qv_call, qv_om, qp_nil, qp_cons, qs_nil, qs_cons, qc_nil, qc_cons, bind_ok, of_some, tr_val, tr_fresh, truth_bl, view_val, view_fresh, view_at, slot_val, slot_fresh, ret_val, ret_fresh, ret_at, Own.tree, s_isrule (h r hr), Oc.nox]
  have e : (rs.map Rule.t).map (fun _ => T.bl true) = (rs.map fun _ => true).map T.bl := by
    rw [List.map_map, List.map_map]; rfl
  rw [e] at hc
  have ha := all_run (rs.map fun _ => true)
  have ht : (rs.map fun _ => true).all id = true := by simp
  rw [ht] at ha
  rw [List.map_map] at ha hc
  have hn : builtin .len [tRs rs] = some (.val (.int (rs.length : Nat))) := by
    have e : builtin .len [tRs rs] = some (.val (.int ((rs.map Rule.t).length : Nat))) := rfl
    rw [e, List.length_map]
  have h8 : decide ((rs.length : Int) ≤ 8) = true := decide_eq_true (by omega)
  have hi : isTy "list" (tRs rs) = some true := rfl
  simp [g_is_book, runDef, startE, n_is_book, qx_seq', qx_ret, qv_and, qv_isT, qv_v, bind_ok, view_val, hi, of_some, truth_bl, qv_cmp, qv_bi, qv_glb, hn, le_int, h8, hc, view_fresh, Own.tree, ha, ret_val]
theorem s_check {rs : List Rule} (h : ∀ r ∈ rs, r.fit) (hl : rs.length ≤ 8) (st : Sto) : g_check_book [tRs rs] st = .ok (.val .non) st := by
  simp [g_check_book, runDef, startE, n_check_book, qx_seq', qx_ret, qx_retN, qx_iff, qx_asg, qx_set2, qx_set3, qx_for, qx_ap', qx_xt', qx_frz', qx_nil, qx_drop, qv_v, qv_lit, qv_glb, qv_bin, qv_neg, qv_cmp, qv_chain, qv_and, qv_or, qv_not, qv_ite, qv_tup, qv_lst, qv_ix, qv_sl, qv_attr, qv_bi, qv_bi2, qv_isT, qv_call, qv_om, qp_nil, qp_cons, qs_nil, qs_cons, qc_nil, qc_cons, bind_ok, of_some, tr_val, tr_fresh, truth_bl, view_val, view_fresh, view_at, slot_val, slot_fresh, ret_val, ret_fresh, ret_at, Own.tree, s_isbook h hl st]
structure Site.fit (s : Site) : Prop where
  lay : 0 ≤ s.l ∧ s.l ≤ 3
  good : GoodN s.f
  nok : inK s.f = false
  kind : s.k = "door" ∨ s.k = "inner"
theorem s_issite {s : Site} (h : s.fit) (st : Sto) : g_is_site [s.t] st = .ok (.val (.bl true)) st := by
  have hk : inK s.k = true := by
    rcases h.kind with e | e <;> rw [e] <;> decide +kernel
  simp [g_is_site, runDef, startE, n_is_site, qx_seq', qx_ret, qx_retN, qx_iff, qx_asg, qx_set2, qx_set3, qx_for, qx_ap', qx_xt', qx_frz', qx_nil, qx_drop, qv_v, qv_lit, qv_glb, qv_bin, qv_neg, qv_cmp, qv_chain, qv_and, qv_or, qv_not, qv_ite, qv_tup, qv_lst, qv_ix, qv_sl, qv_attr, qv_bi, qv_bi2, qv_isT, qv_call, qv_om, qp_nil, qp_cons, qs_nil, qs_cons, qc_nil, qc_cons, bind_ok, of_some, tr_val, tr_fresh, truth_bl, view_val, view_fresh, view_at, slot_val, slot_fresh, ret_val, ret_fresh, ret_at, Own.tree, isT_site, site_len, len3, site_0, site_1, site_2, s_between s.l 0 3 h.lay.1 h.lay.2 st, s_name h.good st, nmemK, h.nok, isT_str, memK, hk]
theorem s_decides {rs : List Rule} (h : ∀ r ∈ rs, r.fit) (hl : rs.length ≤ 8) {s s2 : Site} (hs : s.fit) (hs2 : s2.fit) (st : Sto) : g_decides [tRs rs, s.t, s2.t] st = .ok (.val (tNa (fst rs s s2))) st := by
  have e := s_met rs (fun r hr => (h r hr).took) s s2 st (by omega)
  simp [g_decides, runDef, startE, n_decides, qx_seq', qx_ret, qx_retN, qx_iff, qx_asg, qx_set2, qx_set3, qx_for, qx_ap', qx_xt', qx_frz', qx_nil, qx_drop, qv_v, qv_lit, qv_glb, qv_bin, qv_neg, qv_cmp, qv_chain, qv_and, qv_or, qv_not, qv_ite, qv_tup, qv_lst, qv_ix, qv_sl, qv_attr, qv_bi, qv_bi2, qv_isT, qv_call, qv_om, qp_nil, qp_cons, qs_nil, qs_cons, qc_nil, qc_cons, bind_ok, of_some, tr_val, tr_fresh, truth_bl, view_val, view_fresh, view_at, slot_val, slot_fresh, ret_val, ret_fresh, ret_at, Own.tree, s_check h hl st, s_issite hs st, s_issite hs2 st, e]
end NN

set_option Elab.async false
set_option linter.all false
set_option maxRecDepth 100000
set_option maxHeartbeats 4000000
namespace NN
open PySem
theorem loop_thru {α β : Type} {t : α → T} {step : T → Env → Sto → Oc SR} {st : Sto} {E : β → Env} : ∀ (xs : List α) (o : β),
    (∀ x ∈ xs, ∀ o, ∃ o', step (t x) (E o) st = .ok (.nx (E o')) st) → ∃ o', loopS step (xs.map t) (E o) st = .ok (.nx (E o')) st
  | [], o, _ => ⟨o, rfl⟩
  | x :: xs, o, h => by
    obtain ⟨o1, e1⟩ := h x List.mem_cons_self o
    obtain ⟨o2, e2⟩ := loop_thru xs o1 fun y hy => h y (List.mem_cons_of_mem _ hy)
    refine ⟨o2, ?_⟩
    rw [List.map_cons, loopS, e1]
    exact e2
abbrev tbS : List (Str × G) := [("Alike", g_Alike_shows), ("Parted", g_Parted_shows), ("Used", g_Used_shows), ("Idle", g_Idle_shows)]
theorem no_sh1 : (Str.ofString "shows" = Str.ofString "one") = False := eq_false (by decide +kernel)
theorem no_sh2 : (Str.ofString "shows" = Str.ofString "other") = False := eq_false (by decide +kernel)
theorem lk_A : List.lookup (Str.ofString "Alike") tbS = some g_Alike_shows := rfl
theorem lk_P : List.lookup (Str.ofString "Parted") tbS = some g_Parted_shows := rfl
theorem lk_U : List.lookup (Str.ofString "Used") tbS = some g_Used_shows := rfl
theorem lk_I : List.lookup (Str.ofString "Idle") tbS = some g_Idle_shows := rfl
section
variable {env : Env} {st : Sto} {a r : N} {ts : List T} {s s2 : Site}
theorem om_A (ha : ev a env st = .ok (.val (.ins "Alike" [] [])) st) (hr : evs r env st = .ok ts st) (hl : ts.length = 2) : ev (.om "shows" 3 tbS a r) env st = g_Alike_shows (.ins "Alike" [] [] :: ts) st := by
  rw [qv_om, ha, bind_ok]
  simp only [lk_A, hr, bind_ok, hl]
  rfl
theorem om_I (ha : ev a env st = .ok (.val (.ins "Idle" [] [])) st) (hr : evs r env st = .ok ts st) (hl : ts.length = 2) : ev (.om "shows" 3 tbS a r) env st = g_Idle_shows (.ins "Idle" [] [] :: ts) st := by
  rw [qv_om, ha, bind_ok]
  simp only [lk_I, hr, bind_ok, hl]
  rfl
theorem om_P (ha : ev a env st = .ok (.val (tAn "Parted" s s2)) st) (hr : evs r env st = .ok ts st) (hl : ts.length = 2) : ev (.om "shows" 3 tbS a r) env st = g_Parted_shows (tAn "Parted" s s2 :: ts) st := by
  rw [qv_om, ha, bind_ok]
  simp [tAn, no_sh1, no_sh2, lk_P, hr, bind_ok, hl]
theorem om_U (ha : ev a env st = .ok (.val (tAn "Used" s s2)) st) (hr : evs r env st = .ok ts st) (hl : ts.length = 2) : ev (.om "shows" 3 tbS a r) env st = g_Used_shows (tAn "Used" s s2 :: ts) st := by
  rw [qv_om, ha, bind_ok]
  simp [tAn, no_sh1, no_sh2, lk_U, hr, bind_ok, hl]
end
theorem good_ok {x : Str} (h : GoodN x) : PyData.strOk x = true := by
  unfold PyData.strOk
  rw [← Array.all_toList, List.all_eq_true]
  intro c hc
  have : ∀ c ∈ ("abcdefghijklmnopqrstuvwxyz" : Str).cps.toList, decide (c < 0x110000) = true := by decide +kernel
  exact this c (h.all c hc)
theorem fine_site {s : Site} (h : s.fit) : Fine 1 s.t := fine_tup (n := 0) fun t ht => by
  simp only [List.mem_cons, List.not_mem_nil, or_false] at ht
  rcases ht with rfl | rfl | rfl
  · exact fine_int
  · exact fine_str (good_ok h.good)
  · rcases h.kind with e | e <;> rw [e] <;> exact fine_str (by decide +kernel)
theorem pr_same {s s2 : Site} (h : s.fit) (h2 : s2.fit) : cmpop .ne (.tup [s.t, s2.t]) (.tup [s.t, s2.t]) = some false := by
  rw [tup_ne, eqv_same ((fine_tup (n := 1) fun t ht => by
    simp only [List.mem_cons, List.not_mem_nil, or_false] at ht
    rcases ht with rfl | rfl
    · exact fine_site h
    · exact fine_site h2).mono (by decide))]
  rfl
end NN

set_option Elab.async false
set_option linter.all false
set_option maxRecDepth 100000
set_option maxHeartbeats 4000000
namespace NN
open PySem
theorem stepL_map {α β : Type} (f : α → β) (xs : List α) (lo hi st : Option Int) : stepL (xs.map f) lo hi st = (stepL xs lo hi st).map f := by
  unfold stepL
  rw [List.length_map, List.map_filterMap]
  congr 1
  funext i
  rw [List.getElem?_map]
theorem stepL_mem {α : Type} {xs : List α} {lo hi st : Option Int} {x : α} (h : x ∈ stepL xs lo hi st) : x ∈ xs := by
  unfold stepL at h
  obtain ⟨i, _, e⟩ := List.mem_filterMap.mp h
  exact List.mem_of_getElem? e
theorem flat_na (ks : List (Option Nat)) : (ks.map tNa).all T.flat = true := by
  induction ks with
  | nil => rfl
  | cons x F ih => cases x <;> simp [T.flat, ih, tNa]
theorem eqF_na (x : Option Nat) (k : Nat) : eqF (tNa x) (.int (k : Nat)) = (x == some k) := by
  cases x with
  | none => rfl
  | some i =>
    show ((i : Int) == (k : Int)) = (some i == some k)
    by_cases h : i = k
    · subst h; simp
    · rw [beq_eq_false_iff_ne.mpr (by exact_mod_cast h), beq_eq_false_iff_ne.mpr (by simpa using h)]
theorem nmem_na (ks : List (Option Nat)) (k : Nat) : cmpop .nmem (.int (k : Nat)) (.lst (ks.map tNa)) = some (!decide (some k ∈ ks)) := by
  show (if (T.int (k : Nat)).flat && (ks.map tNa).all T.flat then some (!(ks.map tNa).any fun y => eqF y (.int (k : Nat))) else none) = _
  rw [flat_na]
  have : ((ks.map tNa).any fun y => eqF y (.int (k : Nat))) = decide (some k ∈ ks) := by
    induction ks with
    | nil => rfl
    | cons x ks ih =>
      rw [List.map_cons, List.any_cons, ih, eqF_na]
      by_cases c : x = some k
      · subst c; simp
      · have : ¬ some k = x := fun z => c z.symm
        simp [c, this]
  rw [this]; rfl
theorem fine_nas (xs : List (Option Nat)) : Fine 60 (.lst (xs.map tNa)) := fine_lst (n := 59) fun t ht => by
  obtain ⟨i, _, rfl⟩ := List.mem_map.mp ht
  cases i with
  | none => exact fine_non
  | some i => exact fine_int
theorem mod_int (a b : Int) (h : 0 < b) : binop .mod (.int a) (.int b) = some (.val (.int (a % b))) := by
  show (if 0 < b then some (RV.val (.int (a % b))) else none) = _
  rw [if_pos h]
theorem step3 (ss : List Site) (i : Int) : stepT (tSs ss) (some i) (some 3) = some (.fresh (.lst ((stepL ss (some i) none (some 3)).map Site.t))) := by
  show (if (3 : Int) = 0 then none else some (RV.fresh (.lst (stepL (ss.map Site.t) (some i) none (some 3))))) = _
  rw [if_neg (by decide), stepL_map]
theorem ne_bl_same (b : Bool) : cmpop .ne (.bl b) (.bl b) = some false := by rw [ne_bl]; simp
theorem len_rs (A : List Rule) : builtin .len [tRs A] = some (.val (.int (A.length : Nat))) := by
  have e : builtin .len [tRs A] = some (.val (.int ((A.map Rule.t).length : Nat))) := rfl
  rw [e, List.length_map]
end NN

set_option Elab.async false
set_option linter.all false
set_option maxRecDepth 100000
set_option maxHeartbeats 4000000
namespace NN
open PySem
theorem mul_r (a b : Int) (h : bigOk b = true) : binop .mul (.int a) (.int b) = some (.val (.int (a * b))) := by
  show (if bigOk a || bigOk b then some (RV.val (.int (a * b))) else none) = _
  rw [h, Bool.or_true]; rfl
theorem mul_l (a b : Int) (h : bigOk a = true) : binop .mul (.int a) (.int b) = some (.val (.int (a * b))) := by
  show (if bigOk a || bigOk b then some (RV.val (.int (a * b))) else none) = _
  rw [h, Bool.true_or]; rfl
theorem fdiv_int (a b : Int) (h : 0 < b) (h2 : b < 1073741824) : binop .fdiv (.int a) (.int b) = some (.val (.int (a / b))) := by
  show (if decide (0 < b) && decide (b < 1073741824) then some (RV.val (.int (a / b))) else none) = _
  rw [decide_eq_true h, decide_eq_true h2]; rfl
def mixF (c a w : Int) : Int := ((c % 1000003 + 977 * a) * 48271 + 31 * (c / 1000003 % 999983) + w % 65521) % 2147483647
def numF (c a w : Int) : Int := mixF c a w * (mixF c a w + 31 * a + 7) % 2147483629 * 65537 + c / 1000003 % 999983
theorem mix_big (c a w : Int) : bigOk (mixF c a w) = true := by
  unfold mixF bigOk
  generalize ((c % 1000003 + 977 * a) * 48271 + 31 * (c / 1000003 % 999983) + w % 65521) = z
  have h1 := Int.emod_nonneg z (show (2147483647 : Int) ≠ 0 by decide)
  have h2 := Int.emod_lt_of_pos z (show (0 : Int) < 2147483647 by decide)
  have e : (2 : Int) ^ 64 = 18446744073709551616 := by decide +kernel
  rw [e, Bool.and_eq_true, decide_eq_true_eq, decide_eq_true_eq]
  omega
theorem s_number (c a w : Int) (st : Sto) : g__law_number [.int c, .int a, .int w] st = .ok (.val (.int (numF c a w))) st := by
  have m1 : ∀ x : Int, binop .mod (.int x) (.int 1000003) = some (.val (.int (x % 1000003))) := fun x => mod_int _ _ (by decide)
  have m2 : ∀ x : Int, binop .mod (.int x) (.int 999983) = some (.val (.int (x % 999983))) := fun x => mod_int _ _ (by decide)
  have m3 : ∀ x : Int, binop .mod (.int x) (.int 65521) = some (.val (.int (x % 65521))) := fun x => mod_int _ _ (by decide)
  have m4 : ∀ x : Int, binop .mod (.int x) (.int 2147483647) = some (.val (.int (x % 2147483647))) := fun x => mod_int _ _ (by decide)
  have m5 : ∀ x : Int, binop .mod (.int x) (.int 2147483629) = some (.val (.int (x % 2147483629))) := fun x => mod_int _ _ (by decide)
  have d1 : ∀ x : Int, binop .fdiv (.int x) (.int 1000003) = some (.val (.int (x / 1000003))) := fun x => fdiv_int _ _ (by decide) (by decide)
  have p1 : ∀ x : Int, binop .mul (.int 977) (.int x) = some (.val (.int (977 * x))) := fun x => mul_l _ _ (by decide +kernel)
  have p2 : ∀ x : Int, binop .mul (.int x) (.int 48271) = some (.val (.int (x * 48271))) := fun x => mul_r _ _ (by decide +kernel)
  have p3 : ∀ x : Int, binop .mul (.int 31) (.int x) = some (.val (.int (31 * x))) := fun x => mul_l _ _ (by decide +kernel)
  have p4 : ∀ x : Int, binop .mul (.int x) (.int 65537) = some (.val (.int (x * 65537))) := fun x => mul_r _ _ (by decide +kernel)
  have p5 : ∀ x : Int, binop .mul (.int (mixF c a w)) (.int x) = some (.val (.int (mixF c a w * x))) := fun x => mul_l _ _ (mix_big c a w)
  have e0 : ((c % 1000003 + 977 * a) * 48271 + 31 * (c / 1000003 % 999983) + w % 65521) % 2147483647 = mixF c a w := rfl
  simp only [g__law_number, runDef, startE, n__law_number, List.map, List.replicate, List.length, List.append, List.cons_append, List.nil_append]
  simp only [qx_seq', qx_set2, qx_asg, qx_ret, qx_nil, qv_bin, qv_v, qv_lit, List.getElem?_cons_zero, List.getElem?_cons_succ, List.set, bind_ok, view_val, Option.bind_some, slot_val, ret_val, m1, m2, m3, m4, d1, p1, p2, p3, add_int, of_some, e0, p5, m5, p4]
  rfl

def wRest : N := match n__law_words with
  | .seq _ r => r
  | _ => .nil
def wOf (k : Nat) : List (List Str) := match ex wRest [none, some (.val (.int (k : Nat))), some (.own (.lst [])), none, none] [] with
  | .ok (.rt (.fresh (.lst ts))) _ => ts.map fun t => match t with
    | .lst us => (strs? us).getD []
    | _ => []
  | _ => []
def wT (W : List (List Str)) : List T := W.map fun w => .lst (w.map T.str)
theorem words_k (x : Option Slot) (st : Sto) : ∀ (k : Nat), k < 26 → ex wRest [x, some (.val (.int (k : Nat))), some (.own (.lst [])), none, none] st = .ok (.rt (.fresh (.lst (wT (wOf k))))) st
  | 0, _ => by kernel_rfl
  | 1, _ => by kernel_rfl
  | 2, _ => by kernel_rfl
  | 3, _ => by kernel_rfl
  | 4, _ => by kernel_rfl
  | 5, _ => by kernel_rfl
  | 6, _ => by kernel_rfl
  | 7, _ => by kernel_rfl
  | 8, _ => by kernel_rfl
  | 9, _ => by kernel_rfl
  | 10, _ => by kernel_rfl
  | 11, _ => by kernel_rfl
  | 12, _ => by kernel_rfl
  | 13, _ => by kernel_rfl
  | 14, _ => by kernel_rfl
  | 15, _ => by kernel_rfl
  | 16, _ => by kernel_rfl
  | 17, _ => by kernel_rfl
  | 18, _ => by kernel_rfl
  | 19, _ => by kernel_rfl
  | 20, _ => by kernel_rfl
  | 21, _ => by kernel_rfl
  | 22, _ => by kernel_rfl
  | 23, _ => by kernel_rfl
  | 24, _ => by kernel_rfl
  | 25, _ => by kernel_rfl
  | k + 26, h => absurd h (by omega)
def okF (x : Str) : Bool := decide (1 ≤ x.length) && decide (x.length ≤ 8) && x.cps.toList.all (fun c => decide (c ∈ ("abcdefghijklmnopqrstuvwxyz" : Str).cps.toList)) && !inK x && decide (x ≠ "nowhere") && decide (x ≠ "elsewhr")
def okWs (W : List (List Str)) : Bool := match W with
  | [ns, fs] => decide (ns.length = 8) && decide (fs.length = 4) && ns.all okF && fs.all okF && decide ns.Nodup && decide fs.Nodup
  | _ => false
theorem words_ok : ∀ k < 26, okWs (wOf k) = true := by decide +kernel
structure GoodFs (fs : List Str) : Prop where
  len : fs.length = 4
  good : ∀ x ∈ fs, GoodN x
  nok : ∀ x ∈ fs, inK x = false
  n1 : ("nowhere" : Str) ∉ fs
  n2 : ("elsewhr" : Str) ∉ fs
theorem okF_good {x : Str} (h : okF x = true) : GoodN x ∧ inK x = false ∧ x ≠ "nowhere" ∧ x ≠ "elsewhr" := by
  unfold okF at h
  simp only [Bool.and_eq_true, decide_eq_true_eq, List.all_eq_true, Bool.not_eq_true'] at h
  obtain ⟨⟨⟨⟨⟨h1, h2⟩, h3⟩, h4⟩, h5⟩, h6⟩ := h
  exact ⟨⟨h1, h2, h3⟩, h4, h5, h6⟩
structure GoodNs (ns : List Str) : Prop where
  len : ns.length = 8
  good : ∀ x ∈ ns, GoodN x
  nd : ns.Nodup
theorem words_good {k : Nat} (h : k < 26) : ∃ ns fs, wOf k = [ns, fs] ∧ GoodNs ns ∧ GoodFs fs ∧ fs.Nodup := by
  have := words_ok k h
  unfold okWs at this
  split at this
  · rename_i ns fs e
    simp only [Bool.and_eq_true, decide_eq_true_eq, List.all_eq_true] at this
    obtain ⟨⟨⟨⟨⟨h1, h2⟩, h3⟩, h4⟩, h5⟩, h6⟩ := this
    exact ⟨ns, fs, e, ⟨h1, fun x hx => (okF_good (h3 x hx)).1, h5⟩, ⟨h2, fun x hx => (okF_good (h4 x hx)).1, fun x hx => (okF_good (h4 x hx)).2.1, fun z => (okF_good (h4 _ z)).2.2.1 rfl, fun z => (okF_good (h4 _ z)).2.2.2 rfl⟩, h6⟩
  · cases this
def tIs (ns : List Int) : List T := ns.map T.int
theorem ints_some (ns : List Int) : ints? (tIs ns) = some ns := by
  induction ns with
  | nil => rfl
  | cons x F ih =>
    show (ints? (tIs F)).map (x :: ·) = _
    rw [ih]; rfl
theorem sum_ints (ns : List Int) : builtin .sum [.lst (tIs ns)] = some (.val (.int ns.sum)) := by
  show (ints? (tIs ns)).map _ = _
  rw [ints_some]; rfl
theorem cut_to {α : Type} (xs : List α) (n : Nat) : cut xs none (some (n : Nat)) = xs.take n := by
  have e : sIx xs.length xs.length (some ((n : Nat) : Int)) = min n xs.length := by
    show (if ((n : Nat) : Int) < 0 then (((n : Nat) : Int) + xs.length).toNat else min ((n : Nat) : Int).toNat xs.length) = _
    rw [if_neg (by omega), Int.toNat_natCast]
  unfold cut
  rw [e]
  show List.take (min n xs.length - 0) (List.drop 0 xs) = _
  rw [List.drop_zero, Nat.sub_zero]
  rcases Nat.le_total n xs.length with h | h
  · rw [Nat.min_eq_left h]
  · rw [Nat.min_eq_right h, List.take_length, List.take_of_length_le h]
theorem cut63 {α : Type} (xs : List α) (h : xs.length ≤ 63) : cut xs none (some 63) = xs := (cut_to xs 63).trans (List.take_of_length_le h)
theorem slice63 (ns : List Int) (h : ns.length ≤ 63) : slice (.lst (tIs ns)) none (some 63) = some (.fresh (.lst (tIs ns))) := by
  show some (RV.fresh (.lst (cut (tIs ns) none (some 63)))) = _
  rw [cut63 _ (by unfold tIs; rw [List.length_map]; exact h)]
def shiftOf (ns : List Int) : Nat := (ns.sum / 3 % 26).toNat
theorem shift_lt (ns : List Int) : shiftOf ns < 26 := by
  unfold shiftOf
  omega
theorem shift_eq (ns : List Int) : ns.sum / 3 % 26 = (shiftOf ns : Nat) := by
  unfold shiftOf
  omega
def wordsOf (ns : List Int) : List (List Str) := wOf (shiftOf ns)
def namesOf (ns : List Int) : List Str := (wordsOf ns).getD 0 []
def foldsOf (ns : List Int) : List Str := (wordsOf ns).getD 1 []
theorem wordsOf_eq (ns : List Int) : wordsOf ns = [namesOf ns, foldsOf ns] := by
  obtain ⟨a, b, e, _⟩ := words_good (shift_lt ns)
  unfold namesOf foldsOf wordsOf
  rw [e]; rfl
theorem good_names (ns : List Int) : GoodNs (namesOf ns) := by
  obtain ⟨a, b, e, h, _⟩ := words_good (shift_lt ns)
  unfold namesOf wordsOf
  rw [e]; exact h
theorem good_folds (ns : List Int) : GoodFs (foldsOf ns) := by
  obtain ⟨a, b, e, _, h, _⟩ := words_good (shift_lt ns)
  unfold foldsOf wordsOf
  rw [e]; exact h
theorem s_words (ns : List Int) (h : ns.length ≤ 63) (st : Sto) : g__law_words [.lst (tIs ns)] st = .ok (.fresh (.lst [.lst ((namesOf ns).map T.str), .lst ((foldsOf ns).map T.str)])) st := by
  have d1 : ∀ x : Int, binop .fdiv (.int x) (.int 3) = some (.val (.int (x / 3))) := fun x => fdiv_int _ _ (by decide) (by decide)
  have m1 : ∀ x : Int, binop .mod (.int x) (.int 26) = some (.val (.int (x % 26))) := fun x => mod_int _ _ (by decide)
  have e1 : ex n__law_words [some (.val (.lst (tIs ns))), none, none, none, none] st = ex wRest [some (.val (.lst (tIs ns))), some (.val (.int (shiftOf ns : Nat))), some (.own (.lst [])), none, none] st := by
    show ex (.seq (.set2 1 2 (.bin .mod (.bin .fdiv (.bi .sum (.sl (.var 0) (.nil) (.cons (.lit (.int 63)) .nil))) (.lit (.int 3))) (.lit (.int 26))) (.lst (.nil))) wRest) _ _ = _
    rw [qx_seq', qx_set2]
    simp only [qv_bin, qv_bi, qv_sl, qv_v, qv_lit, qv_lst, qs_nil, qp_nil, qp_cons, List.getElem?_cons_zero, bind_ok, view_val, Option.bind_some, slice63 ns h, of_some, view_fresh, Own.tree, sum_ints, d1, m1, slot_val, slot_fresh, List.set, List.length_nil, Nat.zero_le, if_true]
    rw [shift_eq]
  simp only [g__law_words, runDef, startE, List.map, List.replicate, List.length, List.append, List.cons_append, List.nil_append]
  rw [e1, words_k _ _ _ (shift_lt ns), bind_ok]
  show Oc.ok (RV.fresh (.lst (wT (wordsOf ns)))) st = _
  rw [wordsOf_eq]
  rfl
end NN

set_option Elab.async false
set_option linter.all false
set_option maxRecDepth 100000
set_option maxHeartbeats 4000000
namespace NN
open PySem
theorem tup_ix {ts : List T} {i : Nat} {t : T} (h : ts[i]? = some t) : index (.tup ts) (.int (i : Nat)) = some t := by
  have hi : i < ts.length := (List.getElem?_eq_some_iff.mp h).1
  show (ixN ts.length (i : Int)).bind _ = _
  unfold ixN
  rw [if_pos (Int.natCast_nonneg i), if_pos (by exact_mod_cast hi)]
  simpa using h
theorem lst_pick {ts : List T} {i : Int} (h0 : 0 ≤ i) (h1 : i < ts.length) : ∃ t ∈ ts, index (.lst ts) (.int i) = some t := by
  obtain ⟨n, rfl⟩ := Int.eq_ofNat_of_zero_le h0
  have hn : n < ts.length := by exact_mod_cast h1
  exact ⟨ts[n], List.getElem_mem hn, lst_ix (List.getElem?_eq_getElem hn)⟩
theorem tup_pick {ts : List T} {i : Int} (h0 : 0 ≤ i) (h1 : i < ts.length) : ∃ t ∈ ts, index (.tup ts) (.int i) = some t := by
  obtain ⟨n, rfl⟩ := Int.eq_ofNat_of_zero_le h0
  have hn : n < ts.length := by exact_mod_cast h1
  exact ⟨ts[n], List.getElem_mem hn, tup_ix (List.getElem?_eq_getElem hn)⟩
theorem str_pick {fs : List Str} {i : Int} (h0 : 0 ≤ i) (h1 : i < fs.length) : ∃ x ∈ fs, index (.lst (fs.map T.str)) (.int i) = some (.str x) := by
  obtain ⟨t, ht, e⟩ := lst_pick (ts := fs.map T.str) h0 (by rw [List.length_map]; exact h1)
  obtain ⟨x, hx, rfl⟩ := List.mem_map.mp ht
  exact ⟨x, hx, e⟩
def EndOf (fs : List Str) (e : Option Str) : Prop := e = none ∨ e = some ("door" : Str) ∨ e = some ("inner" : Str) ∨ ∃ x ∈ fs, e = some x
theorem tO_non : tO none = .non := rfl
theorem tO_str (x : Str) : tO (some x) = .str x := rfl
theorem tI_non : tI none = .non := rfl
theorem tI_int (x : Int) : tI (some x) = .int x := rfl
theorem s_end (n : Int) {fs : List Str} (hl : fs.length = 4) (st : Sto) : ∃ e, EndOf fs e ∧ g__law_end [.int n, .lst (fs.map T.str)] st = .ok (.val (tO e)) st := by
  obtain ⟨x, hx, e1⟩ := str_pick (fs := fs) (i := n / 7 % 3) (by omega) (by omega)
  obtain ⟨y, hy, e2⟩ := str_pick (fs := fs) (i := n / 7 % 4) (by omega) (by omega)
  have key : ∃ e, EndOf fs e ∧ index (.tup [.non, .non, .str "door", .str "inner", .str x, .str y, .non]) (.int (n % 7)) = some (tO e) := by
    obtain ⟨t, ht, et⟩ := tup_pick (ts := [.non, .non, .str "door", .str "inner", .str x, .str y, .non]) (i := n % 7) (by omega) (by simp only [List.length_cons, List.length_nil]; omega)
    simp only [List.mem_cons, List.not_mem_nil, or_false] at ht
    rcases ht with rfl | rfl | rfl | rfl | rfl | rfl | rfl
    · exact ⟨none, .inl rfl, et⟩
    · exact ⟨none, .inl rfl, et⟩
    · exact ⟨some ("door" : Str), .inr (.inl rfl), et⟩
    · exact ⟨some ("inner" : Str), .inr (.inr (.inl rfl)), et⟩
    · exact ⟨some x, .inr (.inr (.inr ⟨x, hx, rfl⟩)), et⟩
    · exact ⟨some y, .inr (.inr (.inr ⟨y, hy, rfl⟩)), et⟩
    · exact ⟨none, .inl rfl, et⟩
  obtain ⟨e, he, ee⟩ := key
  have d7 : ∀ x : Int, binop .fdiv (.int x) (.int 7) = some (.val (.int (x / 7))) := fun x => fdiv_int _ _ (by decide) (by decide)
  have m3 : ∀ x : Int, binop .mod (.int x) (.int 3) = some (.val (.int (x % 3))) := fun x => mod_int _ _ (by decide)
  have m4 : ∀ x : Int, binop .mod (.int x) (.int 4) = some (.val (.int (x % 4))) := fun x => mod_int _ _ (by decide)
  have m7 : ∀ x : Int, binop .mod (.int x) (.int 7) = some (.val (.int (x % 7))) := fun x => mod_int _ _ (by decide)
  have h7 : (7 : Nat) ≤ LIM := by decide
  refine ⟨e, he, ?_⟩
  simp only [g__law_end, runDef, startE, n__law_end, List.replicate, List.length, List.append, List.cons_append, List.nil_append, List.map_cons, List.map_nil]
  simp [qx_seq', qx_ret, qx_retN, qx_iff, qx_asg, qx_set2, qx_set3, qx_for, qx_ap', qx_xt', qx_frz', qx_nil, qx_drop, qv_v, qv_lit, qv_glb, qv_bin, qv_neg, qv_cmp, qv_chain, qv_and, qv_or, qv_not, qv_ite, qv_tup, qv_lst, qv_ix, qv_sl, qv_attr, qv_bi, qv_bi2, qv_isT, qv_call, qv_om, qp_nil, qp_cons, qs_nil, qs_cons, qc_nil, qc_cons, bind_ok, of_some, tr_val, tr_fresh, truth_bl, view_val, view_fresh, view_at, slot_val, slot_fresh, ret_val, ret_fresh, ret_at, Own.tree, d7, m3, m4, m7, e1, e2, ee, h7]
structure RuleOf (fs : List Str) (r : Rule) : Prop extends r.ok where
  ea : EndOf fs r.a
  eb : EndOf fs r.b
theorem tup_opt (ws : List (Option Str)) {i : Int} (h0 : 0 ≤ i) (h1 : i < ws.length) : ∃ e ∈ ws, index (.tup (ws.map tO)) (.int i) = some (tO e) := by
  obtain ⟨t, ht, e⟩ := tup_pick (ts := ws.map tO) h0 (by rw [List.length_map]; exact h1)
  obtain ⟨x, hx, rfl⟩ := List.mem_map.mp ht
  exact ⟨x, hx, e⟩
theorem tup_opi (ws : List (Option Int)) {i : Int} (h0 : 0 ≤ i) (h1 : i < ws.length) : ∃ e ∈ ws, index (.tup (ws.map tI)) (.int i) = some (tI e) := by
  obtain ⟨t, ht, e⟩ := tup_pick (ts := ws.map tI) h0 (by rw [List.length_map]; exact h1)
  obtain ⟨x, hx, rfl⟩ := List.mem_map.mp ht
  exact ⟨x, hx, e⟩
theorem s_rule (n : Int) {fs : List Str} (hl : fs.length = 4) (st : Sto) : ∃ r, RuleOf fs r ∧ g__law_rule [.int n, .lst (fs.map T.str)] st = .ok (.val r.t) st := by
  obtain ⟨a, ha, ea⟩ := s_end (n / 20580) hl st
  obtain ⟨b, hb, eb⟩ := s_end (n / 20580 / 28) hl st
  obtain ⟨step, hs, es⟩ := tup_opt [none, none, some "up", some "down", some "level"] (i := n / 49 % 5) (by omega) (by simp only [List.length_cons, List.length_nil]; omega)
  obtain ⟨near, hn, en⟩ := tup_opt [none, none, some "same", some "other"] (i := n / 245 % 4) (by omega) (by simp only [List.length_cons, List.length_nil]; omega)
  obtain ⟨gap, hg, eg⟩ := tup_opi [none, none, none, some 1, some 2, some 3, some 0] (i := n / 980 % 7) (by omega) (by simp only [List.length_cons, List.length_nil]; omega)
  obtain ⟨word, hw, ew⟩ := tup_opt [some "bar", some "bar", some "let"] (i := n / 6860 % 3) (by omega) (by simp only [List.length_cons, List.length_nil]; omega)
  simp only [List.map_cons, List.map_nil, tO_non, tO_str, tI_non, tI_int] at es en eg ew
  obtain ⟨w, rfl, hw2⟩ : ∃ w, word = some w ∧ (w = "bar" ∨ w = "let") := by
    simp only [List.mem_cons, List.not_mem_nil, or_false] at hw
    rcases hw with rfl | rfl | rfl
    · exact ⟨_, rfl, .inl rfl⟩
    · exact ⟨_, rfl, .inl rfl⟩
    · exact ⟨_, rfl, .inr rfl⟩
  rw [tO_str] at ew
  refine ⟨⟨a, b, step, near, gap, w⟩, ⟨⟨by simpa using hs, by simpa using hn, by simpa using hg, hw2⟩, ha, hb⟩, ?_⟩
  have d1 : ∀ x : Int, binop .fdiv (.int x) (.int 49) = some (.val (.int (x / 49))) := fun x => fdiv_int _ _ (by decide) (by decide)
  have d2 : ∀ x : Int, binop .fdiv (.int x) (.int 245) = some (.val (.int (x / 245))) := fun x => fdiv_int _ _ (by decide) (by decide)
  have d3 : ∀ x : Int, binop .fdiv (.int x) (.int 980) = some (.val (.int (x / 980))) := fun x => fdiv_int _ _ (by decide) (by decide)
  have d4 : ∀ x : Int, binop .fdiv (.int x) (.int 6860) = some (.val (.int (x / 6860))) := fun x => fdiv_int _ _ (by decide) (by decide)
  have d5 : ∀ x : Int, binop .fdiv (.int x) (.int 20580) = some (.val (.int (x / 20580))) := fun x => fdiv_int _ _ (by decide) (by decide)
  have d6 : ∀ x : Int, binop .fdiv (.int x) (.int 28) = some (.val (.int (x / 28))) := fun x => fdiv_int _ _ (by decide) (by decide)
  have m3 : ∀ x : Int, binop .mod (.int x) (.int 3) = some (.val (.int (x % 3))) := fun x => mod_int _ _ (by decide)
  have m4 : ∀ x : Int, binop .mod (.int x) (.int 4) = some (.val (.int (x % 4))) := fun x => mod_int _ _ (by decide)
  have m5 : ∀ x : Int, binop .mod (.int x) (.int 5) = some (.val (.int (x % 5))) := fun x => mod_int _ _ (by decide)
  have m7 : ∀ x : Int, binop .mod (.int x) (.int 7) = some (.val (.int (x % 7))) := fun x => mod_int _ _ (by decide)
  have h3 : (3 : Nat) ≤ LIM := by decide
  have h4 : (4 : Nat) ≤ LIM := by decide
  have h5 : (5 : Nat) ≤ LIM := by decide
  have h6 : (6 : Nat) ≤ LIM := by decide
  have h7 : (7 : Nat) ≤ LIM := by decide
  simp only [g__law_rule, runDef, startE, n__law_rule, List.replicate, List.length, List.append, List.cons_append, List.nil_append, List.map_cons, List.map_nil]
  simp [qx_seq', qx_ret, qx_retN, qx_iff, qx_asg, qx_set2, qx_set3, qx_for, qx_ap', qx_xt', qx_frz', qx_nil, qx_drop, qv_v, qv_lit, qv_glb, qv_bin, qv_neg, qv_cmp, qv_chain, qv_and, qv_or, qv_not, qv_ite, qv_tup, qv_lst, qv_ix, qv_sl, qv_attr, qv_bi, qv_bi2, qv_isT, qv_call, qv_om, qp_nil, qp_cons, qs_nil, qs_cons, qc_nil, qc_cons, bind_ok, of_some, tr_val, tr_fresh, truth_bl, view_val, view_fresh, view_at, slot_val, slot_fresh, ret_val, ret_fresh, ret_at, Own.tree, d1, d2, d3, d4, d5, d6, m3, m4, m5, m7, es, en, eg, ew, ea, eb, h3, h4, h5, h6, h7, Rule.t]
theorem RuleOf.fit {fs : List Str} {r : Rule} (G : GoodFs fs) (h : RuleOf fs r) : r.fit := by
  have g : ∀ {e : Option Str}, EndOf fs e → ∀ x, e = some x → GoodN x := fun he x hx => by
    rcases he with rfl | rfl | rfl | ⟨y, hy, rfl⟩
    · cases hx
    · cases hx; exact good_kind.1
    · cases hx; exact good_kind.2
    · cases hx; exact G.good _ hy
  exact ⟨h.took, g h.ea, g h.eb⟩
theorem RuleOf.ends {fs : List Str} {r : Rule} (h : RuleOf fs r) : ∀ x ∈ endF r, x ∈ fs := by
  have g : ∀ {e : Option Str}, EndOf fs e → ∀ x ∈ foldE e, x ∈ fs := fun he x hx => by
    rcases he with rfl | rfl | rfl | ⟨y, hy, rfl⟩
    · cases hx
    · rw [show foldE (some ("door" : Str)) = [] by decide +kernel] at hx; cases hx
    · rw [show foldE (some ("inner" : Str)) = [] by decide +kernel] at hx; cases hx
    · have hx : x ∈ (if inK y then [] else [y]) := hx
      split at hx
      · cases hx
      · rw [List.mem_singleton.mp hx]; exact hy
  intro x hx
  rcases List.mem_append.mp hx with hx | hx
  · exact g h.ea x hx
  · exact g h.eb x hx
def cellsOf (ns : List Int) : List Int := if ns = [] then [5] else ns
theorem cells_len (ns : List Int) (h : ns.length ≤ 63) : 1 ≤ (cellsOf ns).length ∧ (cellsOf ns).length ≤ 63 := by
  unfold cellsOf
  split
  · exact ⟨by decide, by decide⟩
  · rename_i n
    exact ⟨List.length_pos_iff.mpr n, h⟩
theorem fine_intL (ns : List Int) : Fine 60 (.lst (tIs ns)) := fine_lst (n := 59) fun t ht => by
  obtain ⟨i, _, rfl⟩ := List.mem_map.mp ht
  exact fine_int
theorem cells_run {env : Env} {st : Sto} {ns : List Int} (h : ns.length ≤ 63) (h0 : env[0]? = some (some (.val (.lst (tIs ns))))) : ev (.ite (.cmp .ne (.var 0) (.lst .nil)) (.sl (.var 0) .nil (.cons (.lit (.int 63)) .nil)) (.lst (.cons (.lit (.int 5)) .nil))) env st = .ok (.fresh (.lst (tIs (cellsOf ns)))) st := by
  have e := ne_nil (fine_intL ns)
  have h1 : (1 : Nat) ≤ LIM := by decide
  simp only [qv_ite, qv_cmp, qv_var h0, qv_lst, qs_nil, bind_ok, List.length_nil, Nat.zero_le, if_true, view_val, view_fresh, Own.tree, Option.bind_some, e, Option.map_some, of_some, truth_bl]
  unfold cellsOf
  cases ns with
  | nil => simp [tIs, qv_lst, qs_cons, qs_nil, qv_lit, bind_ok, tr_val, h1]
  | cons n ns =>
    have s := slice63 (n :: ns) h
    simp only [tIs, List.map_cons, List.isEmpty_cons, Bool.not_false, if_true, qv_sl, qv_var h0, qp_nil, qp_cons, qv_lit, bind_ok, view_val, Option.bind_some] at s ⊢
    rw [s]
    simp [of_some]
theorem s_len_ints (ns : List Int) : builtin .len [.lst (tIs ns)] = some (.val (.int (ns.length : Nat))) := by
  show some (RV.val (.int ((ns.map T.int).length : Nat))) = _
  rw [List.length_map]
theorem int_pick {ns : List Int} {i : Int} (h0 : 0 ≤ i) (h1 : i < ns.length) : ∃ x ∈ ns, index (.lst (tIs ns)) (.int i) = some (.int x) := by
  obtain ⟨t, ht, e⟩ := lst_pick (ts := tIs ns) h0 (by unfold tIs; rw [List.length_map]; exact h1)
  obtain ⟨x, hx, rfl⟩ := List.mem_map.mp ht
  exact ⟨x, hx, e⟩
def bookB : N := match n__law_book with
  | .seq _ (.seq _ (.seq _ (.seq (.for_ _ _ b) _))) => b
  | _ => .nil
abbrev envK (ns : List Int) (by_ w : Int) (rs : List Rule) (o : Option Slot) : Env := [some (.val (.lst (tIs ns))), some (.val (.int by_)), some (.own (.lst (tIs (cellsOf ns)))), some (.val (.int w)), some (.val (.lst ((foldsOf ns).map T.str))), some (.own (.lst (rs.map Rule.t))), o]
theorem bookB_run (ns : List Int) (h : ns.length ≤ 63) (by_ w : Int) (rs : List Rule) (hr : rs.length < 1000) (k : Nat) (st : Sto) : ∃ r, RuleOf (foldsOf ns) r ∧ ex bookB (envK ns by_ w rs (some (.val (.int (k : Nat))))) st = .ok (.nx (envK ns by_ w (rs ++ [r]) (some (.val (.int (k : Nat)))))) st := by
  have hc := cells_len ns h
  obtain ⟨c, _, ec⟩ := int_pick (ns := cellsOf ns) (i := ((k : Int) + by_) % ((cellsOf ns).length : Int)) (Int.emod_nonneg _ (by omega)) (Int.emod_lt_of_pos _ (by omega))
  have p9 : ∀ x : Int, binop .mul (.int 9) (.int x) = some (.val (.int (9 * x))) := fun x => mul_l _ _ (by decide +kernel)
  have ml : binop .mod (.int ((k : Int) + by_)) (.int ((cellsOf ns).length : Nat)) = some (.val (.int (((k : Int) + by_) % ((cellsOf ns).length : Int)))) := mod_int _ _ (by omega)
  obtain ⟨r, hr1, hr2⟩ := s_rule (numF (c + k) (k + 9 * by_) w) (good_folds ns).len st
  have hL : rs.length < LIM := by unfold LIM; omega
  refine ⟨r, hr1, ?_⟩
  show ex (.seq (.frz 3) (.seq (.frz 4) (.seq (.ap 5 (.call "_law_rule" 2 g__law_rule (.cons (.call "_law_number" 3 g__law_number (.cons (.bin .add (.ix (.var 2) (.bin .mod (.bin .add (.var 6) (.var 1)) (.bi .len (.var 2)))) (.var 6)) (.cons (.bin .add (.var 6) (.bin .mul (.lit (.int 9)) (.var 1))) (.cons (.var 3) .nil)))) (.cons (.var 4) .nil)))) .nil))) _ _ = _
  simp [qx_seq', qx_ret, qx_retN, qx_iff, qx_asg, qx_set2, qx_set3, qx_for, qx_ap', qx_xt', qx_frz', qx_nil, qx_drop, qv_v, qv_lit, qv_glb, qv_bin, qv_neg, qv_cmp, qv_chain, qv_and, qv_or, qv_not, qv_ite, qv_tup, qv_lst, qv_ix, qv_sl, qv_attr, qv_bi, qv_bi2, qv_isT, qv_call, qv_om, qp_nil, qp_cons, qs_nil, qs_cons, qc_nil, qc_cons, bind_ok, of_some, tr_val, tr_fresh, truth_bl, view_val, view_fresh, view_at, slot_val, slot_fresh, ret_val, ret_fresh, ret_at, Own.tree, add_int, s_len_ints, ml, ec, p9, s_number, hr2, hL]
theorem s_book (ns : List Int) (h : ns.length ≤ 63) (by_ : Int) (st : Sto) : ∃ rs : List Rule, rs.length ≤ 6 ∧ (∀ r ∈ rs, RuleOf (foldsOf ns) r) ∧ g__law_book [.lst (tIs ns), .int by_] st = .ok (.fresh (.lst (rs.map Rule.t))) st := by
  have p1 : ∀ x : Int, binop .mul (.int 101) (.int x) = some (.val (.int (101 * x))) := fun x => mul_l _ _ (by decide +kernel)
  have d5 : ∀ x : Int, binop .fdiv (.int x) (.int 5) = some (.val (.int (x / 5))) := fun x => fdiv_int _ _ (by decide) (by decide)
  have m7 : ∀ x : Int, binop .mod (.int x) (.int 7) = some (.val (.int (x % 7))) := fun x => mod_int _ _ (by decide)
  obtain ⟨m, hm, em⟩ : ∃ m : Nat, m < 7 ∧ numF ((cellsOf ns).sum + 101 * by_) by_ 3 / 5 % 7 = (m : Nat) := ⟨(numF ((cellsOf ns).sum + 101 * by_) by_ 3 / 5 % 7).toNat, by omega, by omega⟩
  obtain ⟨⟨rs, o⟩, hl, hI⟩ := loop_inv (t := fun (k : Nat) => T.int (k : Int)) (step := stepS (.nm 6) (ex bookB)) (st := st) (E := fun z : List Rule × Option Slot => envK ns by_ ((cellsOf ns).sum + 101 * by_) z.1 z.2)
    (I := fun d z => z.1.length = d.length ∧ ∀ r ∈ z.1, RuleOf (foldsOf ns) r) (List.range m) [] ([], none) ⟨rfl, fun _ z => by cases z⟩ fun k d r z hd ⟨hz, hr⟩ => by
    have hdl : d.length < 7 := by
      have := congrArg List.length hd
      simp at this
      omega
    obtain ⟨q, hq1, hq2⟩ := bookB_run ns h by_ ((cellsOf ns).sum + 101 * by_) z.1 (by omega) k st
    exact ⟨(z.1 ++ [q], some (.val (.int (k : Nat)))), by simpa only [stepS, bindTg, List.set] using hq2, by simp [hz], fun r hr' => by
      rcases List.mem_append.mp hr' with h' | h'
      · exact hr r h'
      · rw [List.mem_singleton.mp h']; exact hq1⟩
  have hlen : rs.length ≤ 6 := by
    have := hI.1
    simp at this
    omega
  refine ⟨rs, hlen, hI.2, ?_⟩
  have e0 := cells_run (env := [some (.val (.lst (tIs ns))), some (.val (.int by_)), none, none, none, none, none]) (st := st) h rfl
  have eit : evI false (.rng1 (.bin .mod (.bin .fdiv (.call "_law_number" 3 g__law_number (.cons (.var 3) (.cons (.var 1) (.cons (.lit (.int 3)) .nil)))) (.lit (.int 5))) (.lit (.int 7)))) (envK ns by_ ((cellsOf ns).sum + 101 * by_) [] none) st = .ok ((List.range m).map fun (k : Nat) => T.int (k : Int)) st :=
    rng1_run (by simp [qx_seq', qx_ret, qx_retN, qx_iff, qx_asg, qx_set2, qx_set3, qx_for, qx_ap', qx_xt', qx_frz', qx_nil, qx_drop, qv_v, qv_lit, qv_glb, qv_bin, qv_neg, qv_cmp, qv_chain, qv_and, qv_or, qv_not, qv_ite, qv_tup, qv_lst, qv_ix, qv_sl, qv_attr, qv_bi, qv_bi2, qv_isT, qv_call, qv_om, qp_nil, qp_cons, qs_nil, qs_cons, qc_nil, qc_cons, bind_ok, of_some, tr_val, tr_fresh, truth_bl, view_val, view_fresh, view_at, slot_val, slot_fresh, ret_val, ret_fresh, ret_at, Own.tree, s_number, d5, m7, em]) (by omega)
  have ix1 : ∀ a b : T, index (.lst [a, b]) (.int 1) = some b := fun _ _ => rfl
  have hrun : ex n__law_book [some (.val (.lst (tIs ns))), some (.val (.int by_)), none, none, none, none, none] st = .ok (.rt (.fresh (.lst (rs.map Rule.t)))) st := by
    show ex (.seq (.asg (.nm 2) (.ite (.cmp .ne (.var 0) (.lst (.nil))) (.sl (.var 0) (.nil) (.cons (.lit (.int 63)) .nil)) (.lst (.cons (.lit (.int 5)) .nil)))) (.seq (.set3 3 4 5 (.bin .add (.bi .sum (.var 2)) (.bin .mul (.lit (.int 101)) (.var 1))) (.ix (.call "_law_words" 1 g__law_words (.cons (.var 0) .nil)) (.lit (.int 1))) (.lst (.nil))) (.seq (.frz 3) (.seq (.for_ (.nm 6) (.rng1 (.bin .mod (.bin .fdiv (.call "_law_number" 3 g__law_number (.cons (.var 3) (.cons (.var 1) (.cons (.lit (.int 3)) .nil)))) (.lit (.int 5))) (.lit (.int 7)))) bookB) (.seq (.ret (.var 5)) .nil))))) _ _ = _
    rw [qx_seq', qx_asg, e0, bind_ok]
    simp only [slot_fresh, bind_ok, List.set]
    rw [qx_seq', qx_set3]
    simp only [qv_bin, qv_bi, qv_v, qv_ix, qv_call, qs_cons, qs_nil, qv_lit, qv_lst, List.getElem?_cons_zero, List.getElem?_cons_succ, bind_ok, view_at, view_val, view_fresh, Own.tree, Option.bind_some, sum_ints, of_some, p1, add_int, tr_val, List.length_cons, List.length_nil, Nat.zero_add, if_true, s_words ns h st, ix1, Option.map_some, Nat.zero_le, slot_val, slot_fresh, List.set]
    rw [qx_seq', qx_frz']
    simp only [List.getElem?_cons_zero, List.getElem?_cons_succ, bind_ok]
    rw [qx_seq', qx_for]
    simp only [envK, List.map_nil] at eit hl
    rw [eit, bind_ok, hl, bind_ok]
    simp [qx_seq', qx_ret, qx_retN, qx_iff, qx_asg, qx_set2, qx_set3, qx_for, qx_ap', qx_xt', qx_frz', qx_nil, qx_drop, qv_v, qv_lit, qv_glb, qv_bin, qv_neg, qv_cmp, qv_chain, qv_and, qv_or, qv_not, qv_ite, qv_tup, qv_lst, qv_ix, qv_sl, qv_attr, qv_bi, qv_bi2, qv_isT, qv_call, qv_om, qp_nil, qp_cons, qs_nil, qs_cons, qc_nil, qc_cons, bind_ok, of_some, tr_val, tr_fresh, truth_bl, view_val, view_fresh, view_at, slot_val, slot_fresh, ret_val, ret_fresh, ret_at, Own.tree]
  simp only [g__law_book, runDef, startE, List.map_cons, List.map_nil, List.replicate, List.length, List.append, List.cons_append, List.nil_append]
  rw [hrun, bind_ok]
end NN

set_option Elab.async false
set_option linter.all false
set_option maxRecDepth 100000
set_option maxHeartbeats 4000000
namespace NN
open PySem
theorem len_ss (ss : List Site) : builtin .len [.lst (ss.map Site.t)] = some (.val (.int (ss.length : Nat))) := by
  show some (RV.val (.int ((ss.map Site.t).length : Nat))) = _
  rw [List.length_map]
theorem site_pick {ss : List Site} {i : Int} (h0 : 0 ≤ i) (h1 : i < ss.length) : ∃ s ∈ ss, index (.lst (ss.map Site.t)) (.int i) = some s.t := by
  obtain ⟨t, ht, e⟩ := lst_pick (ts := ss.map Site.t) h0 (by rw [List.length_map]; exact h1)
  obtain ⟨x, hx, rfl⟩ := List.mem_map.mp ht
  exact ⟨x, hx, e⟩
theorem lawS_len (A : List Rule) : 0 < (lawS [A]).length := by
  unfold lawS
  rw [sites_len, List.length_append]
  show 0 < 8 * (_ + 2)
  omega
theorem good_new : GoodN "nowhere" ∧ GoodN "elsewhr" ∧ inK "nowhere" = false ∧ inK "elsewhr" = false := ⟨⟨by decide +kernel, by decide +kernel, by decide +kernel⟩, ⟨by decide +kernel, by decide +kernel, by decide +kernel⟩, by decide +kernel, by decide +kernel⟩
theorem folders_in {fs : List Str} {bks : List (List Rule)} (h : ∀ A ∈ bks, ∀ r ∈ A, RuleOf fs r) : ∀ x ∈ folders bks, x ∈ fs := fun x hx => by
  unfold folders at hx
  obtain ⟨A, hA, hx⟩ := List.mem_flatMap.mp hx
  obtain ⟨r, hr, hx⟩ := List.mem_flatMap.mp hx
  exact (h A hA r hr).ends x hx
theorem noNew_of {fs : List Str} (G : GoodFs fs) {bks : List (List Rule)} (h : ∀ A ∈ bks, ∀ r ∈ A, RuleOf fs r) : NoNew bks := ⟨fun z => G.n1 (folders_in h _ z), fun z => G.n2 (folders_in h _ z)⟩
theorem site_fit {fs : List Str} (G : GoodFs fs) {A : List Rule} (h : ∀ r ∈ A, RuleOf fs r) {s : Site} (hs : s ∈ lawS [A]) : s.fit := by
  have hf : GoodN s.f ∧ inK s.f = false := by
    have := sites_f hs
    rcases List.mem_append.mp this with z | z
    · have := folders_in (bks := [A]) (fun B hB r hr => by rw [List.mem_singleton.mp hB] at hr; exact h r hr) s.f ((nms_mem [A] s.f).mp z)
      exact ⟨G.good _ this, G.nok _ this⟩
    · have z : s.f = "nowhere" ∨ s.f = "elsewhr" := by simpa [lawNew] using z
      rcases z with z | z <;> rw [z]
      · exact ⟨good_new.1, good_new.2.2.1⟩
      · exact ⟨good_new.2.1, good_new.2.2.2⟩
  obtain ⟨l, hl, f, _, e⟩ := sites_mem.mp hs
  refine ⟨?_, hf.1, hf.2, ?_⟩
  · rcases e with e | e <;> rw [e] <;> exact ⟨by show (0 : Int) ≤ (l : Int); omega, by show (l : Int) ≤ 3; omega⟩
  · rcases e with e | e <;> rw [e]
    · exact .inl rfl
    · exact .inr rfl
theorem flat_len (A : List Rule) : (A.flatMap endF).length ≤ 2 * A.length := by
  induction A with
  | nil => exact Nat.le_refl _
  | cons r A ih =>
    rw [List.flatMap_cons, List.length_append, List.length_cons]
    have := endF_len r
    omega
theorem folders1 (A : List Rule) : (folders [A]).length ≤ 2 * A.length := by
  unfold folders
  rw [List.flatMap_cons, List.flatMap_nil, List.append_nil]
  exact flat_len A
theorem folders2 (A C : List Rule) : (folders [A, C]).length ≤ 2 * A.length + 2 * C.length := by
  unfold folders
  rw [List.flatMap_cons, List.flatMap_cons, List.flatMap_nil, List.append_nil, List.length_append]
  have := flat_len A
  have := flat_len C
  omega
theorem cut_m1 {α : Type} (xs : List α) : cut xs none (some (-1)) = xs.take (xs.length - 1) := by
  have e : sIx xs.length xs.length (some (-1)) = xs.length - 1 := by
    show (if (-1 : Int) < 0 then ((-1 : Int) + xs.length).toNat else min (-1 : Int).toNat xs.length) = _
    rw [if_pos (by decide)]
    omega
  unfold cut
  rw [e]
  show List.take (xs.length - 1 - 0) (List.drop 0 xs) = _
  rw [List.drop_zero, Nat.sub_zero]
theorem int_last {ns : List Int} (h : 1 ≤ ns.length) : ∃ x, index (.lst (tIs ns)) (.int (-1)) = some (.int x) := by
  have hl : (tIs ns).length = ns.length := List.length_map ..
  have hi : ns.length - 1 < ns.length := by omega
  refine ⟨ns[ns.length - 1], ?_⟩
  show (ixN (tIs ns).length (-1)).bind _ = _
  unfold ixN
  rw [if_neg (by decide), if_pos (by omega), hl]
  show (tIs ns)[((-1 : Int) + (ns.length : Int)).toNat]? = _
  rw [show ((-1 : Int) + (ns.length : Int)).toNat = ns.length - 1 by omega]
  unfold tIs
  rw [List.getElem?_map, List.getElem?_eq_getElem hi]; rfl

end NN

set_option Elab.async false
set_option linter.all false
set_option maxRecDepth 100000
set_option maxHeartbeats 4000000
namespace NN
open PySem
theorem s_two {A C : List Rule} (hA : ∀ r ∈ A, r.ok) (hC : ∀ r ∈ C, r.ok) (lA : A.length ≤ 1000) (lC : C.length ≤ 1000) (h : (folders [A, C]).length ≤ 24) (hn : NoNew [A, C]) {ss : List Site} (hs : ∀ s ∈ ss, s.fit) (st : Sto) : g__law_two_right [tRs A, tRs C, tSs ss] st = .ok (.val (.bl true)) st := by
  have hL : (2 : Nat) ≤ LIM := by decide
  have hp := parted_same hn
  have hlp := s_lparted A C lA lC h st
  generalize ((lawS [A, C]).any fun s => (lawS [A, C]).any fun s2 => parts2 A C s s2) = par at hp hlp
  have hsh := sh_Alike A C hA hC lA lC st h
  rw [hp] at hsh
  have c1 : ∀ e4 e5 e6 e7 : Option Slot, ev (.cmp .ne (.om "shows" 3 tbS (.call "Alike" 0 g_Alike (.nil)) (.cons (.var 0) (.cons (.var 1) .nil))) (.not (.var 3))) [some (.val (tRs A)), some (.val (tRs C)), some (.val (tSs ss)), some (.val (.bl par)), e4, e5, e6, e7] st = .ok (.val (.bl false)) st := fun e4 e5 e6 e7 => by
    rw [qv_cmp, om_A (ts := [tRs A, tRs C]) (by simp [qv_call, qs_nil, bind_ok, m_Alike]) (by simp [qx_seq', qx_ret, qx_retN, qx_iff, qx_asg, qx_set2, qx_set3, qx_for, qx_ap', qx_xt', qx_frz', qx_nil, qx_drop, qv_v, qv_lit, qv_glb, qv_bin, qv_neg, qv_cmp, qv_chain, qv_and, qv_or, qv_not, qv_ite, qv_tup, qv_lst, qv_ix, qv_sl, qv_attr, qv_bi, qv_bi2, qv_isT, qv_call, qv_om, qp_nil, qp_cons, qs_nil, qs_cons, qc_nil, qc_cons, bind_ok, of_some, tr_val, tr_fresh, truth_bl, view_val, view_fresh, view_at, slot_val, slot_fresh, ret_val, ret_fresh, ret_at, Own.tree]) rfl, hsh, bind_ok]
    simp [qv_not, qv_v, truth_bl, bind_ok, view_val, ne_bl, of_some]
  have hit : ∀ e4 e5 e6 e7 : Option Slot, evI false (.cons (.var 2) .nil) [some (.val (tRs A)), some (.val (tRs C)), some (.val (tSs ss)), some (.val (.bl par)), e4, e5, e6, e7] st = .ok (ss.map Site.t) st := fun _ _ _ _ => by simp [qi_cons, qv_v, bind_ok, of_some, viewQ_val, tSs, itemsOf]
  obtain ⟨o', hl⟩ := loop_thru (t := Site.t) (step := stepS (.nm 4) (ex (.seq (.for_ (.nm 5) (.cons (.var 2) .nil) (.seq (.asg (.nm 6) (.call "Parted" 2 g_Parted (.cons (.var 4) (.cons (.var 5) .nil)))) (.seq (.frz 6) (.seq (.asg (.nm 7) (.om "shows" 3 tbS (.var 6) (.cons (.var 0) (.cons (.var 1) .nil)))) (.seq (.frz 6) (.seq (.iff (.or (.cmp .ne (.tup (.cons (.attr (.var 6) "one" ["Parted", "Used"]) (.cons (.attr (.var 6) "other" ["Parted", "Used"]) .nil))) (.tup (.cons (.var 4) (.cons (.var 5) .nil)))) (.not (.isT (.var 7) "bool"))) (.seq (.ret (.lit (.bl false))) .nil) (.nil)) (.seq (.iff (.cmp .ne (.var 7) (.cmp .ne (.call "_law_lets" 3 g__law_lets (.cons (.var 0) (.cons (.var 4) (.cons (.var 5) .nil)))) (.call "_law_lets" 3 g__law_lets (.cons (.var 1) (.cons (.var 4) (.cons (.var 5) .nil)))))) (.seq (.ret (.lit (.bl false))) .nil) (.nil)) .nil))))))) .nil))) (st := st)
      (E := fun o : Option Slot × Option Slot × Option Slot × Option Slot => [some (.val (tRs A)), some (.val (tRs C)), some (.val (tSs ss)), some (.val (.bl par)), o.1, o.2.1, o.2.2.1, o.2.2.2]) ss (none, none, none, none) fun s hss o => by
    obtain ⟨o2, hl2⟩ := loop_thru (t := Site.t) (step := stepS (.nm 5) (ex (.seq (.asg (.nm 6) (.call "Parted" 2 g_Parted (.cons (.var 4) (.cons (.var 5) .nil)))) (.seq (.frz 6) (.seq (.asg (.nm 7) (.om "shows" 3 tbS (.var 6) (.cons (.var 0) (.cons (.var 1) .nil)))) (.seq (.frz 6) (.seq (.iff (.or (.cmp .ne (.tup (.cons (.attr (.var 6) "one" ["Parted", "Used"]) (.cons (.attr (.var 6) "other" ["Parted", "Used"]) .nil))) (.tup (.cons (.var 4) (.cons (.var 5) .nil)))) (.not (.isT (.var 7) "bool"))) (.seq (.ret (.lit (.bl false))) .nil) (.nil)) (.seq (.iff (.cmp .ne (.var 7) (.cmp .ne (.call "_law_lets" 3 g__law_lets (.cons (.var 0) (.cons (.var 4) (.cons (.var 5) .nil)))) (.call "_law_lets" 3 g__law_lets (.cons (.var 1) (.cons (.var 4) (.cons (.var 5) .nil)))))) (.seq (.ret (.lit (.bl false))) .nil) (.nil)) .nil)))))))) (st := st)
        (E := fun o : Option Slot × Option Slot × Option Slot => [some (.val (tRs A)), some (.val (tRs C)), some (.val (tSs ss)), some (.val (.bl par)), some (.val s.t), o.1, o.2.1, o.2.2]) ss (o.2.1, o.2.2.1, o.2.2.2) fun s2 hs2 o => ⟨(some (.val s2.t), some (.val (tAn "Parted" s s2)), some (.val (.bl (parts2 A C s s2)))), by
      have e1 : ev (.om "shows" 3 tbS (.var 6) (.cons (.var 0) (.cons (.var 1) .nil))) [some (.val (tRs A)), some (.val (tRs C)), some (.val (tSs ss)), some (.val (.bl par)), some (.val s.t), some (.val s2.t), some (.val (tAn "Parted" s s2)), o.2.2] st = .ok (.val (.bl (parts2 A C s s2))) st := by
        rw [om_P (s := s) (s2 := s2) (ts := [tRs A, tRs C]) (by simp [qv_v]) (by simp [qx_seq', qx_ret, qx_retN, qx_iff, qx_asg, qx_set2, qx_set3, qx_for, qx_ap', qx_xt', qx_frz', qx_nil, qx_drop, qv_v, qv_lit, qv_glb, qv_bin, qv_neg, qv_cmp, qv_chain, qv_and, qv_or, qv_not, qv_ite, qv_tup, qv_lst, qv_ix, qv_sl, qv_attr, qv_bi, qv_bi2, qv_isT, qv_call, qv_om, qp_nil, qp_cons, qs_nil, qs_cons, qc_nil, qc_cons, bind_ok, of_some, tr_val, tr_fresh, truth_bl, view_val, view_fresh, view_at, slot_val, slot_fresh, ret_val, ret_fresh, ret_at, Own.tree]) rfl, sh_Parted A C hA hC lA lC s s2 st]
      have e2 := pr_same (hs s hss) (hs s2 hs2)
      have e3 : cmpop .ne (.bl (parts2 A C s s2)) (.bl (!(lets A s s2 == lets C s s2))) = some false := by
        rw [ne_bl]
        unfold parts2
        simp
      simp only [stepS, bindTg, List.set]
      simp [qx_seq', qx_asg, qv_call, qs_cons, qs_nil, qv_v, bind_ok, tr_val, m_Parted, slot_val, qx_frz', e1, qx_iff, qv_or, qv_cmp, qv_tup, qv_attr, one_P, other_P, of_some, hL, view_val, e2, truth_bl, qv_not, qv_isT, isT_bl, s_lets A s s2 st lA, s_lets C s s2 st lC, ne_bl, e3, qx_nil]⟩
    refine ⟨(some (.val s.t), o2.1, o2.2.1, o2.2.2), ?_⟩
    simp only [stepS, bindTg, List.set]
    rw [qx_seq', qx_for, hit, bind_ok]
    refine Eq.trans (congrArg (fun z => Oc.bind z _) hl2) ?_
    rw [bind_ok]
    simp [qx_nil]
  have hrun : ex n__law_two_right [some (.val (tRs A)), some (.val (tRs C)), some (.val (tSs ss)), none, none, none, none, none] st = .ok (.rt (.val (.bl true))) st := by
    have e0 : evs (.cons (.var 0) (.cons (.var 1) .nil)) [some (.val (tRs A)), some (.val (tRs C)), some (.val (tSs ss)), none, none, none, none, none] st = .ok [tRs A, tRs C] st := by simp [qx_seq', qx_ret, qx_retN, qx_iff, qx_asg, qx_set2, qx_set3, qx_for, qx_ap', qx_xt', qx_frz', qx_nil, qx_drop, qv_v, qv_lit, qv_glb, qv_bin, qv_neg, qv_cmp, qv_chain, qv_and, qv_or, qv_not, qv_ite, qv_tup, qv_lst, qv_ix, qv_sl, qv_attr, qv_bi, qv_bi2, qv_isT, qv_call, qv_om, qp_nil, qp_cons, qs_nil, qs_cons, qc_nil, qc_cons, bind_ok, of_some, tr_val, tr_fresh, truth_bl, view_val, view_fresh, view_at, slot_val, slot_fresh, ret_val, ret_fresh, ret_at, Own.tree]
    unfold n__law_two_right
    rw [qx_seq', qx_asg, qv_call, e0, bind_ok, if_pos (by rfl), hlp, bind_ok]
    simp only [slot_val, List.set, bind_ok]
    rw [qx_seq', qx_iff, c1, truth_bl, bind_ok]
    simp only [Bool.false_eq_true, if_false]
    rw [qx_nil, bind_ok]
    simp only
    rw [qx_seq', qx_for, hit, bind_ok]
    refine Eq.trans (congrArg (fun z => Oc.bind z _) hl) ?_
    rw [bind_ok]
    simp [qx_seq', qx_ret, qv_lit, bind_ok, ret_val]
  simp only [g__law_two_right, runDef, startE, List.map, List.replicate, List.length, List.append, List.cons_append, List.nil_append]
  rw [hrun, bind_ok]
end NN

set_option Elab.async false
set_option linter.all false
set_option maxRecDepth 100000
set_option maxHeartbeats 4000000
namespace NN
open PySem
abbrev envR (A : List Rule) (ss : List Site) (ks : List (Option Nat)) (e3 e4 e5 e6 : Option Slot) : Env := [some (.val (tRs A)), some (.val (tSs ss)), some (.own (.lst (ks.map tNa))), e3, e4, e5, e6]
theorem c_rows {A : List Rule} (hA : ∀ r ∈ A, r.fit) (lA : A.length ≤ 8) {ss : List Site} (hs : ∀ s ∈ ss, s.fit) (hz : ss.length ≤ 1000) (ks : List (Option Nat)) (st : Sto) (s : Site) (e3 e5 e6 : Option Slot) (hss : s ∈ ss) : ev (.cmp .ne (.comp (.nm 5) [5] (.cons (.var 1) .nil) (.nil) (.call "decides" 3 g_decides (.cons (.var 0) (.cons (.var 4) (.cons (.var 5) .nil))))) (.comp (.nm 5) [5] (.cons (.var 1) .nil) (.nil) (.call "_law_first" 3 g__law_first (.cons (.var 0) (.cons (.var 4) (.cons (.var 5) .nil)))))) (envR A ss ks e3 (some (.val s.t)) e5 e6) st = .ok (.val (.bl false)) st := by
    have lA' : A.length ≤ 1000 := by omega
    have i1 : evI true (.cons (.var 1) .nil) (envR A ss ks e3 (some (.val s.t)) e5 e6) st = .ok (ss.map Site.t) st := by simp [qi_cons, qv_v, bind_ok, of_some, viewQ_val, tSs, itemsOf]
    have hz' : (ss.map Site.t).length ≤ LIM := by rw [List.length_map]; unfold LIM; omega
    have hf : ((fun t => match g__law_first [tRs A, s.t, t] st with | .ok (.val z) _ => z | _ => .non) ∘ Site.t) = fun s2 => tNa (fst A s s2) := funext fun s2 => by
      show (match g__law_first [tRs A, s.t, s2.t] st with | .ok (.val z) _ => z | _ => .non) = _
      rw [s_first A s s2 st lA']
    have x1 : ev (.comp (.nm 5) [5] (.cons (.var 1) .nil) (.nil) (.call "_law_first" 3 g__law_first (.cons (.var 0) (.cons (.var 4) (.cons (.var 5) .nil))))) (envR A ss ks e3 (some (.val s.t)) e5 e6) st = .ok (.fresh (.lst ((ss.map Site.t).map fun t => match g__law_first [tRs A, s.t, t] st with | .ok (.val z) _ => z | _ => .non))) st := by
      refine qv_compM i1 (fun x hx => ?_) hz'
      obtain ⟨s2, hs2, rfl⟩ := List.mem_map.mp hx
      simp [stepC, wipeE, bindTg, qx_seq', qx_ret, qx_retN, qx_iff, qx_asg, qx_set2, qx_set3, qx_for, qx_ap', qx_xt', qx_frz', qx_nil, qx_drop, qv_v, qv_lit, qv_glb, qv_bin, qv_neg, qv_cmp, qv_chain, qv_and, qv_or, qv_not, qv_ite, qv_tup, qv_lst, qv_ix, qv_sl, qv_attr, qv_bi, qv_bi2, qv_isT, qv_call, qv_om, qp_nil, qp_cons, qs_nil, qs_cons, qc_nil, qc_cons, bind_ok, of_some, tr_val, tr_fresh, truth_bl, view_val, view_fresh, view_at, slot_val, slot_fresh, ret_val, ret_fresh, ret_at, Own.tree, s_first A s s2 st lA', Oc.nox]
    have x2 : ev (.comp (.nm 5) [5] (.cons (.var 1) .nil) (.nil) (.call "decides" 3 g_decides (.cons (.var 0) (.cons (.var 4) (.cons (.var 5) .nil))))) (envR A ss ks e3 (some (.val s.t)) e5 e6) st = .ok (.fresh (.lst ((ss.map Site.t).map fun t => match g__law_first [tRs A, s.t, t] st with | .ok (.val z) _ => z | _ => .non))) st := by
      refine qv_compM i1 (fun x hx => ?_) hz'
      obtain ⟨s2, hs2, rfl⟩ := List.mem_map.mp hx
      simp [stepC, wipeE, bindTg, qx_seq', qx_ret, qx_retN, qx_iff, qx_asg, qx_set2, qx_set3, qx_for, qx_ap', qx_xt', qx_frz', qx_nil, qx_drop, qv_v, qv_lit, qv_glb, qv_bin, qv_neg, qv_cmp, qv_chain, qv_and, qv_or, qv_not, qv_ite, qv_tup, qv_lst, qv_ix, qv_sl, qv_attr, qv_bi, qv_bi2, qv_isT, qv_call, qv_om, qp_nil, qp_cons, qs_nil, qs_cons, qc_nil, qc_cons, bind_ok, of_some, tr_val, tr_fresh, truth_bl, view_val, view_fresh, view_at, slot_val, slot_fresh, ret_val, ret_fresh, ret_at, Own.tree, s_first A s s2 st lA', s_decides hA lA (hs s hss) (hs s2 hs2) st, Oc.nox]
    rw [List.map_map, hf] at x1 x2
    have hfine : Fine 60 (.lst (ss.map fun s2 => tNa (fst A s s2))) := by
      have := fine_nas (ss.map fun s2 => fst A s s2)
      rwa [List.map_map] at this
    rw [qv_cmp, x2, bind_ok, x1, bind_ok, view_fresh, Own.tree, Option.bind_some, Option.bind_some, lst_ne, eqv_same hfine]
    rfl
theorem ev_len (A : List Rule) (ss : List Site) (ks : List (Option Nat)) (st : Sto) : ev (.bi .len (.var 0)) (envR A ss ks none none none none) st = .ok (.val (.int (A.length : Nat))) st := by
  rw [qv_bi, qv_v]
  simp only [List.getElem?_cons_zero, bind_ok, view_val, Option.bind_some]
  rw [len_rs, of_some]
theorem it_len {A : List Rule} (lA : A.length ≤ 1000) (ss : List Site) (ks : List (Option Nat)) (st : Sto) : evI false (.rng1 (.bi .len (.var 0))) (envR A ss ks none none none none) st = .ok ((List.range A.length).map fun (k : Nat) => T.int (k : Int)) st := rng1_run (ev_len A ss ks st) lA
def uB : N := .seq (.asg (.nm 6) (.call "Used" 2 g_Used (.cons (.var 4) (.cons (.var 5) .nil)))) (.seq (.frz 6) (.seq (.iff (.cmp .ne (.tup (.cons (.attr (.var 6) "one" ["Parted", "Used"]) (.cons (.attr (.var 6) "other" ["Parted", "Used"]) .nil))) (.tup (.cons (.var 4) (.cons (.var 5) .nil)))) (.seq (.ret (.lit (.bl false))) .nil) (.nil)) (.seq (.frz 6) (.seq (.iff (.cmp .ne (.om "shows" 3 tbS (.var 6) (.cons (.var 0) (.cons (.var 3) .nil))) (.cmp .eq (.call "_law_first" 3 g__law_first (.cons (.var 0) (.cons (.var 4) (.cons (.var 5) .nil)))) (.var 3))) (.seq (.ret (.lit (.bl false))) .nil) (.nil)) .nil))))
def uI : N := .cons (.slst (.var 1) (.cons (.bin .mod (.var 3) (.lit (.int 3))) .nil) (.cons (.lit (.int 3)) .nil)) .nil
def uV : N := .seq (.for_ (.nm 5) uI uB) .nil
def uC : N := .cmp .ne (.om "shows" 3 tbS (.call "Idle" 0 g_Idle (.nil)) (.cons (.var 0) (.cons (.var 3) .nil))) (.cmp .nmem (.var 3) (.var 2))
def uW : N := .seq (.iff uC (.seq (.ret (.lit (.bl false))) .nil) (.nil)) (.seq (.for_ (.nm 4) (.cons (.var 1) .nil) uV) .nil)
def uD : N := .cmp .ne (.comp (.nm 5) [5] (.cons (.var 1) .nil) (.nil) (.call "decides" 3 g_decides (.cons (.var 0) (.cons (.var 4) (.cons (.var 5) .nil))))) (.comp (.nm 5) [5] (.cons (.var 1) .nil) (.nil) (.call "_law_first" 3 g__law_first (.cons (.var 0) (.cons (.var 4) (.cons (.var 5) .nil)))))
def uX : N := .seq (.iff uD (.seq (.ret (.lit (.bl false))) .nil) (.nil)) .nil
theorem n_rules_eq : n__law_rules_right = .seq (.asg (.nm 2) (.call "_law_decided" 1 g__law_decided (.cons (.var 0) .nil))) (.seq (.for_ (.nm 3) (.rng1 (.bi .len (.var 0))) uW) (.seq (.for_ (.nm 4) (.cons (.var 1) .nil) uX) (.seq (.ret (.lit (.bl true))) .nil))) := rfl
section
variable {A : List Rule} (hO : ∀ r ∈ A, r.ok) (lA' : A.length ≤ 1000) {ss : List Site} (hs : ∀ s ∈ ss, s.fit) (ks : List (Option Nat)) (st : Sto)
theorem it_ss (e3 e4 e5 e6 : Option Slot) : evI false (.cons (.var 1) .nil) (envR A ss ks e3 e4 e5 e6) st = .ok (ss.map Site.t) st := by simp [qi_cons, qv_v, bind_ok, of_some, viewQ_val, tSs, itemsOf]
theorem it_3 (k : Nat) (e4 e5 e6 : Option Slot) : evI false uI (envR A ss ks (some (.val (.int (k : Nat)))) e4 e5 e6) st = .ok ((stepL ss (some ((k : Int) % 3)) none (some 3)).map Site.t) st := by
  unfold uI
  simp only [qi_cons, qv_slst, qv_v, qp_cons, qv_bin, qv_lit, List.getElem?_cons_succ, List.getElem?_cons_zero, bind_ok, view_val, Option.bind_some, mod_int _ 3 (by decide), of_some, step3, viewQ_fresh, Own.tree, itemsOf]
include hO lA' hs in
theorem l_U (k : Nat) (s : Site) (hss : s ∈ ss) (o : Option Slot × Option Slot) : ∃ o' : Option Slot × Option Slot, loopS (stepS (.nm 5) (ex uB)) ((stepL ss (some ((k : Int) % 3)) none (some 3)).map Site.t) (envR A ss ks (some (.val (.int (k : Nat)))) (some (.val s.t)) o.1 o.2) st = .ok (.nx (envR A ss ks (some (.val (.int (k : Nat)))) (some (.val s.t)) o'.1 o'.2)) st := by
  have hL : (2 : Nat) ≤ LIM := by decide
  exact loop_thru (t := Site.t) (step := stepS (.nm 5) (ex uB)) (st := st) (E := fun o : Option Slot × Option Slot => envR A ss ks (some (.val (.int (k : Nat)))) (some (.val s.t)) o.1 o.2) _ o fun s2 hs2 o => ⟨(some (.val s2.t), some (.val (tAn "Used" s s2))), by
    have e1 : ev (.om "shows" 3 tbS (.var 6) (.cons (.var 0) (.cons (.var 3) .nil))) [some (.val (tRs A)), some (.val (tSs ss)), some (.own (.lst (ks.map tNa))), some (.val (.int (k : Nat))), some (.val s.t), some (.val s2.t), some (.val (tAn "Used" s s2))] st = .ok (.val (.bl (fst A s s2 == some k))) st := by
      rw [om_U (s := s) (s2 := s2) (ts := [tRs A, .int (k : Nat)]) (by simp [qv_v]) (by simp [qx_seq', qx_ret, qx_retN, qx_iff, qx_asg, qx_set2, qx_set3, qx_for, qx_ap', qx_xt', qx_frz', qx_nil, qx_drop, qv_v, qv_lit, qv_glb, qv_bin, qv_neg, qv_cmp, qv_chain, qv_and, qv_or, qv_not, qv_ite, qv_tup, qv_lst, qv_ix, qv_sl, qv_attr, qv_bi, qv_bi2, qv_isT, qv_call, qv_om, qp_nil, qp_cons, qs_nil, qs_cons, qc_nil, qc_cons, bind_ok, of_some, tr_val, tr_fresh, truth_bl, view_val, view_fresh, view_at, slot_val, slot_fresh, ret_val, ret_fresh, ret_at, Own.tree]) rfl, sh_Used A hO lA' s s2 st k]
    have e2 := pr_same (hs s hss) (hs s2 (stepL_mem hs2))
    simp only [stepS, bindTg, List.set]
    unfold uB
    simp [qx_seq', qx_asg, qv_call, qs_cons, qs_nil, qv_v, bind_ok, tr_val, m_Used, slot_val, qx_frz', e1, qx_iff, qv_cmp, qv_tup, qv_attr, one_U, other_U, of_some, hL, view_val, e2, truth_bl, s_first A s s2 st lA', eq_na, ne_bl_same, qx_nil]⟩
include hO lA' hs in
theorem l_V (k : Nat) (o : Option Slot × Option Slot × Option Slot) : ∃ o' : Option Slot × Option Slot × Option Slot, loopS (stepS (.nm 4) (ex uV)) (ss.map Site.t) (envR A ss ks (some (.val (.int (k : Nat)))) o.1 o.2.1 o.2.2) st = .ok (.nx (envR A ss ks (some (.val (.int (k : Nat)))) o'.1 o'.2.1 o'.2.2)) st := by
  exact loop_thru (t := Site.t) (step := stepS (.nm 4) (ex uV)) (st := st) (E := fun o : Option Slot × Option Slot × Option Slot => envR A ss ks (some (.val (.int (k : Nat)))) o.1 o.2.1 o.2.2) ss o fun s hss o => by
    obtain ⟨o3, hl3⟩ := l_U hO lA' hs ks st k s hss o.2
    refine ⟨(some (.val s.t), o3), ?_⟩
    have h3 := it_3 (A := A) (ss := ss) ks st k (some (.val s.t)) o.2.1 o.2.2
    simp only [stepS, bindTg, List.set]
    unfold uV
    rw [qx_seq', qx_for]
    simp only [envR] at h3 hl3 ⊢
    rw [h3, bind_ok, hl3, bind_ok]
    simp only [qx_nil]
theorem c_U (hus : ∀ k : Nat, (pairOf (progS [A]) fun s s2 => fst A s s2 == some k).isNone = !decide (some k ∈ ks)) (hO : ∀ r ∈ A, r.ok) (lA' : A.length ≤ 1000) (h : (folders [A]).length ≤ 24) (k : Nat) (e4 e5 e6 : Option Slot) : ev uC (envR A ss ks (some (.val (.int (k : Nat)))) e4 e5 e6) st = .ok (.val (.bl false)) st := by
  unfold uC
  rw [qv_cmp, om_I (ts := [tRs A, .int (k : Nat)]) (by simp [qv_call, qs_nil, bind_ok, m_Idle]) (by simp [qx_seq', qx_ret, qx_retN, qx_iff, qx_asg, qx_set2, qx_set3, qx_for, qx_ap', qx_xt', qx_frz', qx_nil, qx_drop, qv_v, qv_lit, qv_glb, qv_bin, qv_neg, qv_cmp, qv_chain, qv_and, qv_or, qv_not, qv_ite, qv_tup, qv_lst, qv_ix, qv_sl, qv_attr, qv_bi, qv_bi2, qv_isT, qv_call, qv_om, qp_nil, qp_cons, qs_nil, qs_cons, qc_nil, qc_cons, bind_ok, of_some, tr_val, tr_fresh, truth_bl, view_val, view_fresh, view_at, slot_val, slot_fresh, ret_val, ret_fresh, ret_at, Own.tree]) rfl, sh_Idle A hO lA' st h k, hus k, bind_ok]
  simp only [qv_cmp, qv_v, List.getElem?_cons_succ, List.getElem?_cons_zero, bind_ok, view_val, view_at, Option.bind_some, Own.tree, nmem_na, Option.map_some, of_some, ne_bl_same]
include hO lA' hs in
theorem l_W (hus : ∀ k : Nat, (pairOf (progS [A]) fun s s2 => fst A s s2 == some k).isNone = !decide (some k ∈ ks)) (h : (folders [A]).length ≤ 24) (o : Option Slot × Option Slot × Option Slot × Option Slot) : ∃ o' : Option Slot × Option Slot × Option Slot × Option Slot, loopS (stepS (.nm 3) (ex uW)) ((List.range A.length).map fun (k : Nat) => T.int (k : Int)) (envR A ss ks o.1 o.2.1 o.2.2.1 o.2.2.2) st = .ok (.nx (envR A ss ks o'.1 o'.2.1 o'.2.2.1 o'.2.2.2)) st := by
  exact loop_thru (t := fun (k : Nat) => T.int (k : Int)) (step := stepS (.nm 3) (ex uW)) (st := st) (E := fun o : Option Slot × Option Slot × Option Slot × Option Slot => envR A ss ks o.1 o.2.1 o.2.2.1 o.2.2.2) (List.range A.length) o fun k _ o => by
    obtain ⟨o2, hl2⟩ := l_V hO lA' hs ks st k o.2
    refine ⟨(some (.val (.int (k : Nat))), o2), ?_⟩
    have hc := c_U (A := A) (ss := ss) ks st hus hO lA' h k o.2.1 o.2.2.1 o.2.2.2
    have hi := it_ss (A := A) (ss := ss) ks st (some (.val (.int (k : Nat)))) o.2.1 o.2.2.1 o.2.2.2
    simp only [stepS, bindTg, List.set]
    unfold uW
    simp only [envR] at hc hi hl2 ⊢
    rw [qx_seq', qx_iff, hc, truth_bl, bind_ok]
    simp only [Bool.false_eq_true, if_false]
    rw [qx_nil, bind_ok]
    simp only
    rw [qx_seq', qx_for, hi, bind_ok, hl2, bind_ok]
    simp only [qx_nil]
theorem l_X (hA : ∀ r ∈ A, r.fit) (lA : A.length ≤ 8) (hs : ∀ s ∈ ss, s.fit) (hz : ss.length ≤ 1000) (e3 e5 e6 : Option Slot) (o : Option Slot) : ∃ o' : Option Slot, loopS (stepS (.nm 4) (ex uX)) (ss.map Site.t) (envR A ss ks e3 o e5 e6) st = .ok (.nx (envR A ss ks e3 o' e5 e6)) st := by
  exact loop_thru (t := Site.t) (step := stepS (.nm 4) (ex uX)) (st := st) (E := fun o : Option Slot => envR A ss ks e3 o e5 e6) ss o fun s hss o => ⟨some (.val s.t), by
    have hc := c_rows hA lA hs hz ks st s e3 e5 e6 hss
    simp only [stepS, bindTg, List.set]
    unfold uX
    simp only [envR] at hc ⊢
    rw [qx_seq', qx_iff]
    unfold uD
    rw [hc, truth_bl, bind_ok]
    simp only [Bool.false_eq_true, if_false]
    rw [qx_nil, bind_ok]
    simp only [qx_nil]⟩
end
theorem r_run {A : List Rule} (lA' : A.length ≤ 1000) {ss : List Site} {ks : List (Option Nat)} {st : Sto} {o1 : Option Slot × Option Slot × Option Slot × Option Slot} {o4 : Option Slot} (hd : g__law_decided [tRs A] st = .ok (.fresh (.lst (ks.map tNa))) st)
    (hl1 : loopS (stepS (.nm 3) (ex uW)) ((List.range A.length).map fun (k : Nat) => T.int (k : Int)) (envR A ss ks none none none none) st = .ok (.nx (envR A ss ks o1.1 o1.2.1 o1.2.2.1 o1.2.2.2)) st)
    (hl4 : loopS (stepS (.nm 4) (ex uX)) (ss.map Site.t) (envR A ss ks o1.1 o1.2.1 o1.2.2.1 o1.2.2.2) st = .ok (.nx (envR A ss ks o1.1 o4 o1.2.2.1 o1.2.2.2)) st) :
    ex n__law_rules_right [some (.val (tRs A)), some (.val (tSs ss)), none, none, none, none, none] st = .ok (.rt (.val (.bl true))) st := by
  have e0 : evs (.cons (.var 0) .nil) [some (.val (tRs A)), some (.val (tSs ss)), none, none, none, none, none] st = .ok [tRs A] st := by rw [qs_cons, qv_var rfl]; rfl
  have hir := it_len (A := A) lA' ss ks st
  have hi := it_ss (A := A) (ss := ss) ks st o1.1 o1.2.1 o1.2.2.1 o1.2.2.2
  have hcall : ev (.call "_law_decided" 1 g__law_decided (.cons (.var 0) .nil)) [some (.val (tRs A)), some (.val (tSs ss)), none, none, none, none, none] st = .ok (.fresh (.lst (ks.map tNa))) st := by
    rw [qv_call, e0, bind_ok, if_pos (by rfl), hd]
  have hset : ex (.asg (.nm 2) (.call "_law_decided" 1 g__law_decided (.cons (.var 0) .nil))) [some (.val (tRs A)), some (.val (tSs ss)), none, none, none, none, none] st = .ok (.nx (envR A ss ks none none none none)) st := by
    rw [qx_asg, hcall]; rfl
  rw [n_rules_eq, qx_seq', hset, bind_ok]
  simp only
  rw [qx_seq', qx_for]
  refine Eq.trans (congrArg (fun z => Oc.bind (Oc.bind z _) _) hir) ?_
  rw [bind_ok]
  refine Eq.trans (congrArg (fun z => Oc.bind z _) hl1) ?_
  rw [bind_ok]
  simp only
  rw [qx_seq', qx_for]
  refine Eq.trans (congrArg (fun z => Oc.bind (Oc.bind z _) _) hi) ?_
  rw [bind_ok]
  refine Eq.trans (congrArg (fun z => Oc.bind z _) hl4) ?_
  rw [bind_ok]
  simp only
  rw [qx_seq', qx_ret, qv_lit]
  rfl
theorem r_us {A : List Rule} {ks : List (Option Nat)} (hn : NoNew [A]) (hks : ∀ x, x ∈ ks ↔ ∃ s ∈ lawS [A], ∃ s2 ∈ lawS [A], fst A s s2 = x) (k : Nat) : (pairOf (progS [A]) fun s s2 => fst A s s2 == some k).isNone = !decide (some k ∈ ks) := by
  have hu := used_same hn k
  rw [← hks (some k)] at hu
  by_cases c : some k ∈ ks
  · rw [decide_eq_true c]
    cases q : pairOf (progS [A]) fun s s2 => fst A s s2 == some k with
    | none => exact absurd c (hu.mp q)
    | some z => rfl
  · rw [decide_eq_false c, hu.mpr c]; rfl
theorem s_rules {A : List Rule} (hA : ∀ r ∈ A, r.fit) (lA : A.length ≤ 8) (h : (folders [A]).length ≤ 24) (hn : NoNew [A]) {ss : List Site} (hs : ∀ s ∈ ss, s.fit) (hz : ss.length ≤ 1000) (st : Sto) : g__law_rules_right [tRs A, tSs ss] st = .ok (.val (.bl true)) st := by
  have hO : ∀ r ∈ A, r.ok := fun r hr => (hA r hr).took
  have lA' : A.length ≤ 1000 := by omega
  obtain ⟨ks, hd, hks⟩ := s_decided A lA' h st
  obtain ⟨o1, hl1⟩ := l_W hO lA' hs ks st (fun k => r_us hn hks k) h (none, none, none, none)
  obtain ⟨o4, hl4⟩ := l_X ks st hA lA hs hz o1.1 o1.2.2.1 o1.2.2.2 o1.2.1
  have hrun := r_run lA' hd hl1 hl4
  simp only [g__law_rules_right, runDef, startE, List.map, List.replicate, List.length, List.append, List.cons_append, List.nil_append]
  rw [hrun, bind_ok]
end NN

set_option Elab.async false
set_option linter.all false
set_option maxRecDepth 100000
set_option maxHeartbeats 4000000
namespace NN
open PySem
def someB : N := match n__law_some with
  | .seq _ (.seq (.for_ _ _ b) _) => b
  | _ => .nil
abbrev envS (A : List Rule) (w : Int) (ss : List Site) (o : Option Slot) : Env := [some (.val (tRs A)), some (.val (.int w)), some (.own (.lst ((lawS [A]).map Site.t))), some (.own (.lst (ss.map Site.t))), o]
theorem s_some (A : List Rule) (h : (folders [A]).length ≤ 24) (w : Int) (st : Sto) : ∃ ss : List Site, ss.length = 9 ∧ (∀ s ∈ ss, s ∈ lawS [A]) ∧ g__law_some [tRs A, .int w] st = .ok (.fresh (.lst (ss.map Site.t))) st := by
  have hs := s_lsites [A] h st
  have h0 := lawS_len A
  have h1 : (1 : Nat) ≤ LIM := by decide
  obtain ⟨⟨ss, o⟩, hl, hI⟩ := loop_inv (t := fun (k : Nat) => T.int (k : Int)) (step := stepS (.nm 4) (ex someB)) (st := st) (E := fun z : List Site × Option Slot => envS A w z.1 z.2)
    (I := fun d z => z.1.length = d.length ∧ ∀ s ∈ z.1, s ∈ lawS [A]) (List.range 9) [] ([], none) ⟨rfl, fun _ z => by cases z⟩ fun k d r z hd ⟨hz, hr⟩ => by
    have hdl : d.length < 9 := by
      have := congrArg List.length hd
      simp at this
      omega
    obtain ⟨q, hq1, hq2⟩ := site_pick (ss := lawS [A]) (i := numF w k 7 % ((lawS [A]).length : Int)) (Int.emod_nonneg _ (by omega)) (Int.emod_lt_of_pos _ (by omega))
    have ml : binop .mod (.int (numF w k 7)) (.int ((lawS [A]).length : Nat)) = some (.val (.int (numF w k 7 % ((lawS [A]).length : Int)))) := mod_int _ _ (by omega)
    have hL : z.1.length < LIM := by unfold LIM; omega
    refine ⟨(z.1 ++ [q], some (.val (.int (k : Nat)))), ?_, by simp [hz], fun r hr' => ?_⟩
    · simp only [stepS, bindTg, List.set]
      show ex (.seq (.ap 3 (.ix (.var 2) (.bin .mod (.call "_law_number" 3 g__law_number (.cons (.var 1) (.cons (.var 4) (.cons (.lit (.int 7)) .nil)))) (.bi .len (.var 2))))) .nil) _ _ = _
      simp [qx_seq', qx_ret, qx_retN, qx_iff, qx_asg, qx_set2, qx_set3, qx_for, qx_ap', qx_xt', qx_frz', qx_nil, qx_drop, qv_v, qv_lit, qv_glb, qv_bin, qv_neg, qv_cmp, qv_chain, qv_and, qv_or, qv_not, qv_ite, qv_tup, qv_lst, qv_ix, qv_sl, qv_attr, qv_bi, qv_bi2, qv_isT, qv_call, qv_om, qp_nil, qp_cons, qs_nil, qs_cons, qc_nil, qc_cons, bind_ok, of_some, tr_val, tr_fresh, truth_bl, view_val, view_fresh, view_at, slot_val, slot_fresh, ret_val, ret_fresh, ret_at, Own.tree, s_number, len_ss, ml, hq2, hL]
    · rcases List.mem_append.mp hr' with h' | h'
      · exact hr r h'
      · rw [List.mem_singleton.mp h']; exact hq1
  refine ⟨ss, by have := hI.1; simpa using this, hI.2, ?_⟩
  have eit : evI false (.rng1 (.lit (.int 9))) (envS A w [] none) st = .ok ((List.range 9).map fun (k : Nat) => T.int (k : Int)) st := rng1_run (by simp [qv_lit]) (by omega)
  have hset : ex (.set2 2 3 (.call "_law_sites" 1 g__law_sites (.cons (.lst (.cons (.var 0) .nil)) .nil)) (.lst (.nil))) [some (.val (tRs A)), some (.val (.int w)), none, none, none] st = .ok (.nx (envS A w [] none)) st := by
    have e0 : evs (.cons (.lst (.cons (.var 0) .nil)) .nil) [some (.val (tRs A)), some (.val (.int w)), none, none, none] st = .ok [.lst ([A].map tRs)] st := by simp [qx_seq', qx_ret, qx_retN, qx_iff, qx_asg, qx_set2, qx_set3, qx_for, qx_ap', qx_xt', qx_frz', qx_nil, qx_drop, qv_v, qv_lit, qv_glb, qv_bin, qv_neg, qv_cmp, qv_chain, qv_and, qv_or, qv_not, qv_ite, qv_tup, qv_lst, qv_ix, qv_sl, qv_attr, qv_bi, qv_bi2, qv_isT, qv_call, qv_om, qp_nil, qp_cons, qs_nil, qs_cons, qc_nil, qc_cons, bind_ok, of_some, tr_val, tr_fresh, truth_bl, view_val, view_fresh, view_at, slot_val, slot_fresh, ret_val, ret_fresh, ret_at, Own.tree, h1]
    rw [qx_set2, qv_call, e0, bind_ok, if_pos (by rfl), hs, bind_ok]
    rfl
  have hrun : ex n__law_some [some (.val (tRs A)), some (.val (.int w)), none, none, none] st = .ok (.rt (.fresh (.lst (ss.map Site.t)))) st := by
    show ex (.seq (.set2 2 3 (.call "_law_sites" 1 g__law_sites (.cons (.lst (.cons (.var 0) .nil)) .nil)) (.lst (.nil))) (.seq (.for_ (.nm 4) (.rng1 (.lit (.int 9))) someB) (.seq (.ret (.var 3)) .nil))) _ _ = _
    rw [qx_seq', hset, bind_ok]
    simp only
    rw [qx_seq', qx_for, eit, bind_ok, hl, bind_ok]
    simp [qx_seq', qx_ret, qx_retN, qx_iff, qx_asg, qx_set2, qx_set3, qx_for, qx_ap', qx_xt', qx_frz', qx_nil, qx_drop, qv_v, qv_lit, qv_glb, qv_bin, qv_neg, qv_cmp, qv_chain, qv_and, qv_or, qv_not, qv_ite, qv_tup, qv_lst, qv_ix, qv_sl, qv_attr, qv_bi, qv_bi2, qv_isT, qv_call, qv_om, qp_nil, qp_cons, qs_nil, qs_cons, qc_nil, qc_cons, bind_ok, of_some, tr_val, tr_fresh, truth_bl, view_val, view_fresh, view_at, slot_val, slot_fresh, ret_val, ret_fresh, ret_at, Own.tree]
  simp only [g__law_some, runDef, startE, List.map_cons, List.map_nil, List.replicate, List.length, List.append, List.cons_append, List.nil_append]
  rw [hrun, bind_ok]
def lTail : N := match n_law with
  | .seq _ (.seq _ (.seq _ (.seq _ (.seq _ (.seq _ (.seq _ (.seq _ (.seq _ (.seq _ (.seq _ r)))))))))) => r
  | _ => .nil
theorem tail_run (a b c d e f g : Option Slot) (st : Sto) : ex lTail [a, b, c, d, e, f, g, none, none, none, none, none] st = .ok (.rt (.val (.bl true))) st := by kernel_rfl
end NN

set_option Elab.async false
set_option linter.all false
set_option maxRecDepth 100000
set_option maxHeartbeats 4000000
namespace NN
open PySem
theorem n_law_eq : n_law = .seq (.set2 1 2 (.ite (.cmp .ne (.var 0) (.lst (.nil))) (.sl (.var 0) (.nil) (.cons (.lit (.int 63)) .nil)) (.lst (.cons (.lit (.int 5)) .nil))) (.ix (.call "_law_words" 1 g__law_words (.cons (.var 0) .nil)) (.lit (.int 1)))) (.seq (.asg (.nm 3) (.bi .sum (.var 1))) (.seq (.frz 3) (.seq (.set2 4 5 (.sl (.call "_law_book" 2 g__law_book (.cons (.var 0) (.cons (.lit (.int 0)) .nil))) (.nil) (.cons (.lit (.int 5)) .nil)) (.call "_law_some" 2 g__law_some (.cons (.sl (.call "_law_book" 2 g__law_book (.cons (.var 0) (.cons (.lit (.int 0)) .nil))) (.nil) (.cons (.lit (.int 5)) .nil)) (.cons (.var 3) .nil)))) (.seq (.frz 3) (.seq (.frz 2) (.seq (.asg (.nm 6) (.bin .add (.sl (.var 4) (.nil) (.cons (.neg (.lit (.int 1))) .nil)) (.lst (.cons (.call "_law_rule" 2 g__law_rule (.cons (.call "_law_number" 3 g__law_number (.cons (.ix (.var 1) (.neg (.lit (.int 1)))) (.cons (.lit (.int 3)) (.cons (.var 3) .nil)))) (.cons (.var 2) .nil))) .nil)))) (.seq (.frz 4) (.seq (.frz 6) (.seq (.frz 5) (.seq (.iff (.or (.not (.call "_law_two_right" 3 g__law_two_right (.cons (.var 4) (.cons (.var 6) (.cons (.var 5) .nil))))) (.not (.call "_law_rules_right" 2 g__law_rules_right (.cons (.var 4) (.cons (.var 5) .nil))))) (.seq (.ret (.lit (.bl false))) .nil) (.nil)) lTail)))))))))) := rfl
theorem slice_rs (A : List Rule) (n : Nat) : slice (.lst (A.map Rule.t)) none (some (n : Nat)) = some (.fresh (.lst ((A.take n).map Rule.t))) := by
  show some (RV.fresh (.lst (cut (A.map Rule.t) none (some (n : Nat))))) = _
  rw [cut_to, List.map_take]
theorem slice_m1 (A : List Rule) : slice (.lst (A.map Rule.t)) none (some (-1)) = some (.fresh (.lst ((A.take (A.length - 1)).map Rule.t))) := by
  show some (RV.fresh (.lst (cut (A.map Rule.t) none (some (-1))))) = _
  rw [cut_m1, List.map_take, List.length_map]
section
variable {ns : List Int} (h : ns.length ≤ 63) {A : List Rule} {ss : List Site} {st : Sto}
abbrev envL (ns : List Int) (a4 a5 a6 : Option Slot) : Env := [some (.val (.lst (tIs ns))), some (.own (.lst (tIs (cellsOf ns)))), some (.val (.lst ((foldsOf ns).map T.str))), some (.val (.int (cellsOf ns).sum)), a4, a5, a6, none, none, none, none, none]
include h in
theorem st_1 : ex (.set2 1 2 (.ite (.cmp .ne (.var 0) (.lst (.nil))) (.sl (.var 0) (.nil) (.cons (.lit (.int 63)) .nil)) (.lst (.cons (.lit (.int 5)) .nil))) (.ix (.call "_law_words" 1 g__law_words (.cons (.var 0) .nil)) (.lit (.int 1)))) [some (.val (.lst (tIs ns))), none, none, none, none, none, none, none, none, none, none, none] st =
    .ok (.nx [some (.val (.lst (tIs ns))), some (.own (.lst (tIs (cellsOf ns)))), some (.val (.lst ((foldsOf ns).map T.str))), none, none, none, none, none, none, none, none, none]) st := by
  have e0 := cells_run (env := [some (.val (.lst (tIs ns))), none, none, none, none, none, none, none, none, none, none, none]) (st := st) h rfl
  have e1 : ev (.ix (.call "_law_words" 1 g__law_words (.cons (.var 0) .nil)) (.lit (.int 1))) [some (.val (.lst (tIs ns))), none, none, none, none, none, none, none, none, none, none, none] st = .ok (.val (.lst ((foldsOf ns).map T.str))) st := by
    have ix1 : ∀ a b : T, index (.lst [a, b]) (.int 1) = some b := fun _ _ => rfl
    simp [qx_seq', qx_ret, qx_retN, qx_iff, qx_asg, qx_set2, qx_set3, qx_for, qx_ap', qx_xt', qx_frz', qx_nil, qx_drop, qv_v, qv_lit, qv_glb, qv_bin, qv_neg, qv_cmp, qv_chain, qv_and, qv_or, qv_not, qv_ite, qv_tup, qv_lst, qv_ix, qv_sl, qv_attr, qv_bi, qv_bi2, qv_isT, qv_call, qv_om, qp_nil, qp_cons, qs_nil, qs_cons, qc_nil, qc_cons, bind_ok, of_some, tr_val, tr_fresh, truth_bl, view_val, view_fresh, view_at, slot_val, slot_fresh, ret_val, ret_fresh, ret_at, Own.tree, s_words ns h st, ix1]
  rw [qx_set2, e0, bind_ok, e1, bind_ok]
  rfl
theorem st_3 (env : Env) (x : T) (h3 : env[3]? = some (some (.val x))) : ex (.frz 3) env st = .ok (.nx env) st := qx_frzV h3
theorem st_2 : ex (.asg (.nm 3) (.bi .sum (.var 1))) [some (.val (.lst (tIs ns))), some (.own (.lst (tIs (cellsOf ns)))), some (.val (.lst ((foldsOf ns).map T.str))), none, none, none, none, none, none, none, none, none] st = .ok (.nx (envL ns none none none)) st := by
  rw [qx_asg, qv_bi, qv_own rfl, bind_ok, view_slot (c := .lst (tIs (cellsOf ns))) rfl, Own.tree, Option.bind_some, sum_ints, of_some, bind_ok]
  rfl
theorem ev_book (hb : g__law_book [.lst (tIs ns), .int 0] st = .ok (.fresh (.lst (A.map Rule.t))) st) (a4 a5 a6 : Option Slot) : ev (.sl (.call "_law_book" 2 g__law_book (.cons (.var 0) (.cons (.lit (.int 0)) .nil))) (.nil) (.cons (.lit (.int 5)) .nil)) (envL ns a4 a5 a6) st = .ok (.fresh (.lst ((A.take 5).map Rule.t))) st := by
  have e := slice_rs A 5
  simp [qx_seq', qx_ret, qx_retN, qx_iff, qx_asg, qx_set2, qx_set3, qx_for, qx_ap', qx_xt', qx_frz', qx_nil, qx_drop, qv_v, qv_lit, qv_glb, qv_bin, qv_neg, qv_cmp, qv_chain, qv_and, qv_or, qv_not, qv_ite, qv_tup, qv_lst, qv_ix, qv_sl, qv_attr, qv_bi, qv_bi2, qv_isT, qv_call, qv_om, qp_nil, qp_cons, qs_nil, qs_cons, qc_nil, qc_cons, bind_ok, of_some, tr_val, tr_fresh, truth_bl, view_val, view_fresh, view_at, slot_val, slot_fresh, ret_val, ret_fresh, ret_at, Own.tree, hb]
  rw [show ((5 : Int)) = ((5 : Nat) : Int) from rfl, e]
  simp [of_some]
theorem st_4 (hb : g__law_book [.lst (tIs ns), .int 0] st = .ok (.fresh (.lst (A.map Rule.t))) st) (hs : g__law_some [tRs (A.take 5), .int (cellsOf ns).sum] st = .ok (.fresh (.lst (ss.map Site.t))) st) :
    ex (.set2 4 5 (.sl (.call "_law_book" 2 g__law_book (.cons (.var 0) (.cons (.lit (.int 0)) .nil))) (.nil) (.cons (.lit (.int 5)) .nil)) (.call "_law_some" 2 g__law_some (.cons (.sl (.call "_law_book" 2 g__law_book (.cons (.var 0) (.cons (.lit (.int 0)) .nil))) (.nil) (.cons (.lit (.int 5)) .nil)) (.cons (.var 3) .nil)))) (envL ns none none none) st =
    .ok (.nx (envL ns (some (.own (.lst ((A.take 5).map Rule.t)))) (some (.own (.lst (ss.map Site.t)))) none)) st := by
  have e1 := ev_book (A := A) hb none none none
  have e2 : evs (.cons (.sl (.call "_law_book" 2 g__law_book (.cons (.var 0) (.cons (.lit (.int 0)) .nil))) (.nil) (.cons (.lit (.int 5)) .nil)) (.cons (.var 3) .nil)) (envL ns none none none) st = .ok [tRs (A.take 5), .int (cellsOf ns).sum] st := by
    rw [qs_cons, e1, tr_fresh, bind_ok, qs_cons, qv_var rfl, tr_val, bind_ok, qs_nil, bind_ok, bind_ok]
    rfl
  rw [qx_set2, e1, bind_ok, qv_call, e2, bind_ok, if_pos (by rfl), hs, bind_ok]
  rfl
theorem st_7 (hA : A.length ≤ 6) {x : Int} (hx : index (.lst (tIs (cellsOf ns))) (.int (-1)) = some (.int x)) {r : Rule} (hr : g__law_rule [.int (numF x 3 (cellsOf ns).sum), .lst ((foldsOf ns).map T.str)] st = .ok (.val r.t) st) :
    ex (.asg (.nm 6) (.bin .add (.sl (.var 4) (.nil) (.cons (.neg (.lit (.int 1))) .nil)) (.lst (.cons (.call "_law_rule" 2 g__law_rule (.cons (.call "_law_number" 3 g__law_number (.cons (.ix (.var 1) (.neg (.lit (.int 1)))) (.cons (.lit (.int 3)) (.cons (.var 3) .nil)))) (.cons (.var 2) .nil))) .nil)))) (envL ns (some (.own (.lst (A.map Rule.t)))) (some (.own (.lst (ss.map Site.t)))) none) st =
    .ok (.nx (envL ns (some (.own (.lst (A.map Rule.t)))) (some (.own (.lst (ss.map Site.t)))) (some (.own (.lst ((A.take (A.length - 1) ++ [r]).map Rule.t)))))) st := by
  have e := slice_m1 A
  have h1 : (1 : Nat) ≤ LIM := by decide
  have hadd : binop .add (.lst ((A.take (A.length - 1)).map Rule.t)) (.lst [r.t]) = some (.fresh (.lst ((A.take (A.length - 1) ++ [r]).map Rule.t))) := by
    show (if ((A.take (A.length - 1)).map Rule.t).length + ([r.t] : List T).length ≤ LIM then some (RV.fresh (.lst ((A.take (A.length - 1)).map Rule.t ++ [r.t]))) else none) = _
    rw [if_pos (by rw [List.length_map, List.length_take]; show min _ _ + 1 ≤ LIM; unfold LIM; omega), List.map_append]
    rfl
  have e1 : ev (.bin .add (.sl (.var 4) (.nil) (.cons (.neg (.lit (.int 1))) .nil)) (.lst (.cons (.call "_law_rule" 2 g__law_rule (.cons (.call "_law_number" 3 g__law_number (.cons (.ix (.var 1) (.neg (.lit (.int 1)))) (.cons (.lit (.int 3)) (.cons (.var 3) .nil)))) (.cons (.var 2) .nil))) .nil))) (envL ns (some (.own (.lst (A.map Rule.t)))) (some (.own (.lst (ss.map Site.t)))) none) st = .ok (.fresh (.lst ((A.take (A.length - 1) ++ [r]).map Rule.t))) st := by
    simp [qx_seq', qx_ret, qx_retN, qx_iff, qx_asg, qx_set2, qx_set3, qx_for, qx_ap', qx_xt', qx_frz', qx_nil, qx_drop, qv_v, qv_lit, qv_glb, qv_bin, qv_neg, qv_cmp, qv_chain, qv_and, qv_or, qv_not, qv_ite, qv_tup, qv_lst, qv_ix, qv_sl, qv_attr, qv_bi, qv_bi2, qv_isT, qv_call, qv_om, qp_nil, qp_cons, qs_nil, qs_cons, qc_nil, qc_cons, bind_ok, of_some, tr_val, tr_fresh, truth_bl, view_val, view_fresh, view_at, slot_val, slot_fresh, ret_val, ret_fresh, ret_at, Own.tree, e, hx, s_number, hr, h1, -List.map_take]
    rw [hadd]; simp [of_some]
  rw [qx_asg, e1, bind_ok]
  rfl
theorem st_8 (C : List Rule) : ex (.frz 4) (envL ns (some (.own (.lst (A.map Rule.t)))) (some (.own (.lst (ss.map Site.t)))) (some (.own (.lst (C.map Rule.t))))) st = .ok (.nx (envL ns (some (.val (tRs A))) (some (.own (.lst (ss.map Site.t)))) (some (.own (.lst (C.map Rule.t)))))) st := by rw [qx_frzO rfl]; rfl
theorem st_9 (C : List Rule) : ex (.frz 6) (envL ns (some (.val (tRs A))) (some (.own (.lst (ss.map Site.t)))) (some (.own (.lst (C.map Rule.t))))) st = .ok (.nx (envL ns (some (.val (tRs A))) (some (.own (.lst (ss.map Site.t)))) (some (.val (tRs C))))) st := by rw [qx_frzO rfl]; rfl
theorem st_10 (C : List Rule) : ex (.frz 5) (envL ns (some (.val (tRs A))) (some (.own (.lst (ss.map Site.t)))) (some (.val (tRs C)))) st = .ok (.nx (envL ns (some (.val (tRs A))) (some (.val (tSs ss))) (some (.val (tRs C))))) st := by rw [qx_frzO rfl]; rfl
theorem st_11 (C : List Rule) (h1 : g__law_two_right [tRs A, tRs C, tSs ss] st = .ok (.val (.bl true)) st) (h2 : g__law_rules_right [tRs A, tSs ss] st = .ok (.val (.bl true)) st) :
    ex (.iff (.or (.not (.call "_law_two_right" 3 g__law_two_right (.cons (.var 4) (.cons (.var 6) (.cons (.var 5) .nil))))) (.not (.call "_law_rules_right" 2 g__law_rules_right (.cons (.var 4) (.cons (.var 5) .nil))))) (.seq (.ret (.lit (.bl false))) .nil) (.nil)) (envL ns (some (.val (tRs A))) (some (.val (tSs ss))) (some (.val (tRs C)))) st = .ok (.nx (envL ns (some (.val (tRs A))) (some (.val (tSs ss))) (some (.val (tRs C))))) st := by
  simp [qx_seq', qx_ret, qx_retN, qx_iff, qx_asg, qx_set2, qx_set3, qx_for, qx_ap', qx_xt', qx_frz', qx_nil, qx_drop, qv_v, qv_lit, qv_glb, qv_bin, qv_neg, qv_cmp, qv_chain, qv_and, qv_or, qv_not, qv_ite, qv_tup, qv_lst, qv_ix, qv_sl, qv_attr, qv_bi, qv_bi2, qv_isT, qv_call, qv_om, qp_nil, qp_cons, qs_nil, qs_cons, qc_nil, qc_cons, bind_ok, of_some, tr_val, tr_fresh, truth_bl, view_val, view_fresh, view_at, slot_val, slot_fresh, ret_val, ret_fresh, ret_at, Own.tree, h1, h2]
end
theorem math_k08 (ns : List Int) (h : ns.length ≤ 63) : g_law [.lst (ns.map T.int)] [] = .ok (.val (.bl true)) [] := by
  have G := good_folds ns
  obtain ⟨A0, hl, hA0, hb⟩ := s_book ns h 0 []
  have hA : ∀ r ∈ A0.take 5, RuleOf (foldsOf ns) r := fun r hr => hA0 r (List.mem_of_mem_take hr)
  have lA : (A0.take 5).length ≤ 5 := by rw [List.length_take]; omega
  have f1 := folders1 (A0.take 5)
  obtain ⟨ss, hz, hss, hs⟩ := s_some (A0.take 5) (by omega) (cellsOf ns).sum []
  obtain ⟨x, hx⟩ := int_last (cells_len ns h).1
  obtain ⟨r, hr, er⟩ := s_rule (numF x 3 (cellsOf ns).sum) G.len []
  have hC : ∀ q ∈ (A0.take 5).take ((A0.take 5).length - 1) ++ [r], RuleOf (foldsOf ns) q := fun q hq => by
    rcases List.mem_append.mp hq with z | z
    · exact hA q (List.mem_of_mem_take z)
    · rw [List.mem_singleton.mp z]; exact hr
  have lC : ((A0.take 5).take ((A0.take 5).length - 1) ++ [r]).length ≤ 6 := by
    rw [List.length_append, List.length_take]
    show _ + 1 ≤ 6
    omega
  have f2 := folders2 (A0.take 5) ((A0.take 5).take ((A0.take 5).length - 1) ++ [r])
  have t4 := st_4 (ns := ns) (A := A0) (ss := ss) (st := []) hb hs
  have t7 := st_7 (ns := ns) (A := A0.take 5) (ss := ss) (st := []) (by omega) hx er
  have nn2 : NoNew [A0.take 5, (A0.take 5).take ((A0.take 5).length - 1) ++ [r]] := noNew_of G fun B hB => by
    rcases List.mem_cons.mp hB with z | z
    · rw [z]; exact hA
    · rw [List.mem_singleton.mp z]; exact hC
  have nn1 : NoNew [A0.take 5] := noNew_of G fun B hB => by rw [List.mem_singleton.mp hB]; exact hA
  generalize (A0.take 5).take ((A0.take 5).length - 1) ++ [r] = C at hC lC f2 t7 nn2
  generalize A0.take 5 = A at hA lA f1 hs f2 t4 t7 hss nn1 nn2
  have fit : ∀ s ∈ ss, s.fit := fun s hs => site_fit G hA (hss s hs)
  have h1 := s_two (A := A) (C := C) (fun r hr => (hA r hr).took) (fun r hr => (hC r hr).took) (by omega) (by omega) (by omega) nn2 fit []
  have h2 := s_rules (A := A) (fun r hr => (hA r hr).fit G) (by omega) (by omega) nn1 fit (by omega) []
  have hrun : ex n_law [some (.val (.lst (tIs ns))), none, none, none, none, none, none, none, none, none, none, none] [] = .ok (.rt (.val (.bl true))) [] := by
    rw [n_law_eq, qx_seq', st_1 h, bind_ok]
    simp only
    rw [qx_seq', st_2, bind_ok]
    simp only
    rw [qx_seq', st_3 _ _ rfl, bind_ok]
    simp only
    rw [qx_seq', t4, bind_ok]
    simp only
    rw [qx_seq', st_3 _ _ rfl, bind_ok]
    simp only
    rw [qx_seq', qx_frzV (i := 2) rfl, bind_ok]
    simp only
    rw [qx_seq', t7, bind_ok]
    simp only
    rw [qx_seq', st_8, bind_ok]
    simp only
    rw [qx_seq', st_9, bind_ok]
    simp only
    rw [qx_seq', st_10, bind_ok]
    simp only
    rw [qx_seq', st_11 C h1 h2, bind_ok]
    simp only
    exact tail_run _ _ _ _ _ _ _ []
  show runDef 12 n_law [.lst (tIs ns)] [] = _
  simp only [runDef, startE, List.map_cons, List.map_nil, List.replicate, List.length, List.append, List.cons_append, List.nil_append]
  rw [hrun, bind_ok]
end NN

set_option Elab.async false
set_option linter.all false
set_option maxRecDepth 100000
set_option maxHeartbeats 0
open PySem PySem.W PySem.Calls PyProof.Rows
theorem PySem.Challenge.cw_nameleave_k08_books_by_hand_holds : PySem.Challenge.rw_nameleave_k08_books_by_hand.Holds := by
  w_on; o_law
  refine HandSHeadRun.head_any (r := OpenLaw.row PySem.Challenge.rw_nameleave_k08_books_by_hand) (q := view (OpenLaw.row PySem.Challenge.rw_nameleave_k08_books_by_hand).prog [56]) (H := NN.hk) (ob := NN.obL) (M := 20000) (loose := NN.looseL) (d := HandSHeadRun.topDef (OpenLaw.row PySem.Challenge.rw_nameleave_k08_books_by_hand).prog 56) (kwd := []) NN.obL_eq
    (by kernel_rfl) (fun s => by kernel_rfl) NN.runL (by kernel_rfl) (by kernel_rfl) (by kernel_rfl) (by rfl) (by first | assumption | decide +kernel) (by decide +kernel) ⟨rfl, rfl, rfl, rfl, rfl, by decide +kernel⟩ ?hw ?hc
  case hw => w_witness2
  case hc =>
    refine L2.walk_ofE (l := PySem.Challenge.rw_nameleave_k08_books_by_hand) (n := 63) (k := 9) (x := "_law_script") (CX := NN.CXe) rfl (by decide) (by kernel_rfl) ⟨rfl, by decide, by decide⟩ ?F NN.cxe_no
    intro w mg fa h Y G hmg0
    obtain ⟨K, KX, c⟩ := Y
    have hmg : mg ("law" : PySem.Str) = some (.ref fa) := by
      have e : (HandSHeadRun.topDef (OpenLaw.row PySem.Challenge.rw_nameleave_k08_books_by_hand).prog 56).name = ("law" : PySem.Str) := by kernel_rfl
      rw [← e]
      exact hmg0
    have F : ∀ base : Heap, NN.Facts NN.fa NN.fn NN.exK ⟨PySem.Challenge.rw_nameleave_k08_books_by_hand.prog, w, K, mg, base, He.ga K⟩ := fun base => ⟨⟨h, KX, G, c.t.d⟩, c.more, rfl⟩
    have hfa : fa = He.fAd K ("law", none) := by
      have e := hmg.symm.trans ((F h).glo 103 rfl)
      cases e
      rfl
    subst hfa
    obtain ⟨fd, G1, hb, _⟩ := NN.law_fn (F h)
    refine ⟨K, fd, NN.spN ⟨K, He.ga K, PySem.Challenge.rw_nameleave_k08_books_by_hand.prog, w⟩ 1 NN.g_law, KX, hb, fun H a ns hl _ hS => NN.sp_law hS (NN.math_k08 ns hl), fun base _ _ => ?_⟩
    obtain ⟨fd', G2, _, ok⟩ := NN.law_fn (F base)
    have G2 : L2.Fun K "law" "law" (NN.top 56) (He.fAd K ("law", none)) fd' := G2
    cases NN.fun_one G1 G2
    exact NN.FnOk.cx ok fun _ _ _ _ _ _ z => ⟨_, _, z⟩

