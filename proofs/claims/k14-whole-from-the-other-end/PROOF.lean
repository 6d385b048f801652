import PyProof.Rows.All
import HandS.ForMost
import HandS.Walk
import HandS.TupAny
import HandS.TupMul
import HandS.TupLe
import HandS.IsInst
import HandS.Deep
import HandS.Style
import HandS.Zip
import HandS.NoneIn
import HandS.SortInts
import HandS.SortRule
import HandS.Flow
import KE.GoesMore
import PyProof.Rows.IntBool
import HandS.Text
import HandS.StrMore
import HandS.Replace
import HandS.Strs
import HandS.SetFor
import HandS.DictTup
import PyProof.FString5
import KE.KDictKeyed
import KE.KDictDisplayH
import KE.KDictWalk
import PyProof.ListStr
import KE.KTupSum
import KE.DataMinMax
import KE.GoesEnum
import HandS.Codes
import HandS.ReplaceList
import HandS.WordsExc
import HandS.ExcIs
import HandS.EndOwn
import PyProof.ExcBaseAll.ValueError
import KE.IntTextText
import HandS.TupLen
import Wide.All
import OpenK.AllK
import Wide.FinOn
import HandS.Set
import PyProof.Rows.SortStr
import HandS.TupSets
import PySem.Challenge.RW_lampcodes_k14_whole_from_the_other_end
set_option Elab.async false
set_option linter.all false
set_option maxRecDepth 100000
set_option maxHeartbeats 4000000
namespace Ls
open PySem PySem.Spec PyProof.Rows L2
def noSet (w : World) : Obj := { cls := .type "set", dict := none, data := .set #[] 0 (.fresh 0 0 (!w.params.followText "set-order")) }
section
variable {P : Program} {w : World} {A : Around} {E : Value → Shared → Prop} {s : Shared}
structure Fill (P : Program) (w : World) (A : Around) (S : Addr) (n : Nat) (Pv : Nat → Value → Prop) (J : Nat → Heap → Prop) : Prop where
  keep : ∀ i h h', J i h → (∀ b o, h.get? b = some o → b = S ∨ b < S → h'.get? b = some o) → J i h'
  step : ∀ i v (s : Shared) (Q : Bool → Shared → Prop) (E : Value → Shared → Prop), i < n → Pv i v → J i s.heap → (∀ b h' tk, s.toks ≤ tk → Heap.SameBut S s.heap h' → J (i + 1) h' → Q b { s with heap := h', toks := tk }) → wpAny (model P w) A (setAdd S v) Q E s
theorem fill_loop {I : Addr} {fp wr : List Addr} {G : Array GenState → Array GenState → Prop} {n : Nat} {Pv : Nat → Value → Prop} {St : Nat → Shared → Prop} {R : Result → Shared → Prop} {J : Nat → Heap → Prop} {S : Addr}
    (W : WalksS P w A.in1 I fp wr G n Pv St) (hSf : S ∉ fp) (hwr : ∀ b ∈ wr, S < b) (L : Fill P w A.in1 S n Pv J) :
    ∀ (k i : Nat) (s : Shared), i + k = n → St i s → J i s.heap → (∀ s', Moved (S :: wr) G s s' → J n s'.heap → R (.ok (.ret .none)) s') → codeAny (model P w) A (.builtin "set.update.loop" ⟨[.ref S, .ref I], []⟩) R s := by
  have inwr : ∀ b ∈ wr, b ∈ S :: wr := fun b hb => List.mem_cons_of_mem _ hb
  have kp : ∀ {i : Nat} {s s' : Shared}, Moved wr G s s' → J i s.heap → J i s'.heap := fun hm hj => L.keep _ _ _ hj fun b o e hb => hm.heap b o (fun z => by
    have := hwr b z
    rcases hb with hb | hb
    · exact absurd this (by rw [hb]; exact Nat.lt_irrefl _)
    · exact absurd this (Nat.not_lt_of_lt hb)) e
  intro k
  induction k with
  | zero =>
    intro i s hk hst hj hR
    have hi : i = n := hk
    subst hi
    refine codeAny_builtin F.entry_set_update_loop ?_
    rw [Around.under_plainId F.plain_set_update_loop _]
    exact wpAny_bind (W.done s _ _ hst fun s' hm => wpAny_pure (hR s' (hm.mono inwr) (kp hm hj)))
  | succ k ih =>
    intro i s hk hst hj hR
    refine codeAny_builtin F.entry_set_update_loop ?_
    rw [Around.under_plainId F.plain_set_update_loop _]
    refine wpAny_bind (W.item i s _ _ (by omega) hst fun v s' hP hst' hm => ?_)
    refine wpAny_bind (m := holding [v] (setAdd S v)) (wpAny_holding (L.step i v s' _ _ (by omega) hP (kp hm hj) fun b h' tk htk hsb hj' => ?_))
    refine wpAny_pure ⟨plainId_quiet F.plain_set_update_loop _, ih (i + 1) _ (by omega) (W.frame _ s' _ _ hst' htk fun b hb o e => ?_) hj' fun s2 hm2 hj2 => ?_⟩
    · rw [hsb.2 b fun z => hSf (z ▸ hb)]
      exact e
    · refine hR s2 (Moved.trans W.gtrans ((hm.mono inwr).then_heap htk fun b o hb e => ?_) hm2) hj2
      rw [hsb.2 b fun z => hb (z ▸ List.mem_cons_self)]
      exact e

theorem call_set1 {x : Value} {T : Shared → Prop} {Q : Value → Shared → Prop} (hh : A.handled = none)
    (hU : ∀ (A' : Around) (Q' : Unit → Shared → Prop) (E' : Value → Shared → Prop), A'.handled = none → A'.units ≤ A.units + 2 → (∀ s2, T s2 → Q' () s2) → wpAny (model P w) A' (Builtin.Frozenset.updateFrom "set.__init__" s.heap.objs.size x) Q' E' { s with heap := s.heap.push (noSet w) })
    (hQ : ∀ s2, T s2 → Q (.ref s.heap.objs.size) s2) : wpAny (model P w) A (call (.type "set") [x]) Q E s := by
  obtain ⟨c, tl, hmro⟩ := F.called_set.mro
  have hmade := F.called_set.made
  have hsub := F.called_set.sub
  refine wpAny_call (codeAny_of_tree ?_)
  refine wpAny_pure ⟨Code.quiet_builtin _ (by decide +kernel), codeAny_builtin F.entry_type_call ?_⟩
  rw [Around.under_plain (weight_type_call_type "set" [x] []) rfl]
  have n1 := F.called_set.notType
  have n2 := F.called_set.canCreate
  have n3 := F.typeCall_set_1 x
  repeat (any_goals (first | assumption | wp_step))
  refine codeAny_mono (code_set_led1 x (E := E) (Q₁ := fun obj s₁ => obj = .ref s.heap.objs.size ∧ s₁ = { s with heap := s.heap.push (noSet w) }) ⟨rfl, rfl⟩) fun r s₁ hr => ?_
  rcases r with e | fl
  · exact hr
  cases fl with
  | ret obj =>
    obtain ⟨rfl, rfl⟩ := hr
    have hS : (s.heap.push (noSet w)).get? s.heap.objs.size = some (noSet w) := Heap.get?_push_size _ rfl
    have hT : Shared.TypeIs { s with heap := s.heap.push (noSet w) } (.ref s.heap.objs.size) "set" := ⟨_, hS, rfl⟩
    have m1 := F.called_set.init.lookup
    have m2 := F.called_set.init.bind (.ref s.heap.objs.size)
    repeat (any_goals (first | assumption | wp_step))
    refine codeAny_mono (codeAny_call_builtin (R := wants (fun r s2 => r = .none ∧ T s2) E) F.called_set.init.plain F.entry_set_init (check_set_init_1 hT ?_)) fun r2 s2 hr2 => ?_
    · unfold Builtin.«set.__init__» noKeywords
      generalize hUF : Builtin.Frozenset.updateFrom = UF at hU
      wp_walk
      subst hUF
      exact hU _ _ _ hh (Nat.le_refl _) fun s2 h => wpAny_pure ⟨rfl, h⟩
    · rcases r2 with e | fl2
      · exact hr2
      cases fl2 with
      | ret r =>
        obtain ⟨rfl, hq⟩ := hr2
        have := hQ _ hq
        repeat (any_goals (first | assumption | wp_step))
      | _ => exact hr2.elim
  | _ => exact hr.elim

theorem upd_of {x : Value} {T : String} {S : Addr} {Q : Unit → Shared → Prop} (hT : s.TypeIs x T) (f1 : isSubtype (.type T) (.type "set") = pure false) (f2 : isSubtype (.type T) (.type "frozenset") = pure false) (f3 : (Value.type T == Value.type "dict") = false)
    (hI : wpAny (model P w) A (pyIter x) (fun v s' => wpAny (model P w) A (runValue (.builtin "set.update.loop" ⟨[.ref S, v], []⟩)) (fun _ s2 => Q () s2) E s') E s) : wpAny (model P w) A (Builtin.Frozenset.updateFrom "set.__init__" S x) Q E s := by
  unfold Builtin.Frozenset.updateFrom Builtin.Frozenset.isAnySet orM
  refine wpAny_bind (wpAny_bind (wpAny_isInstance hT f1 (wpAny_isInstance hT f2 ?_)))
  simp only [Bool.false_eq_true, if_false]
  refine wpAny_bind (wpAny_typeOf hT ?_)
  rw [f3]
  simp only [Bool.false_eq_true, if_false]
  refine wpAny_bind (wpAny_mono hI (fun v s' h => ?_) fun _ _ z => z)
  exact wpAny_bind (wpAny_mono h (fun _ s2 z => wpAny_pure z) fun _ _ z => z)
end
end Ls

set_option Elab.async false
set_option linter.all false
set_option maxRecDepth 100000
set_option maxHeartbeats 4000000
namespace Ls
open PySem PySem.Spec PyProof.Rows L2
def keyS (e : Int × Value) : Str := strOf e.2
structure Pay (P : Program) (w : World) (L : List Str) (es : Array (Int × Value)) (t : SetTable) : Prop where
  el : ElemsOf (PySem.strKind P w) es.toList
  nd : (es.toList.map keyS).Nodup
  mem : ∀ k, k ∈ es.toList.map keyS ↔ k ∈ L
  few : es.size ≤ L.length
  fit : t.fits es.size = true
  ris : Ris t.place.toList
  led : w.params.followText "set-order" = true ∨ t.led = true
def SetS (P : Program) (w : World) (h : Heap) (a : Addr) (L : List Str) : Prop := ∃ o es ep t, h.get? a = some o ∧ o.ExactSet ∧ o.data = .set es ep t ∧ Pay P w L es t
section
variable {P : Program} {w : World} {A : Around} {E : Value → Shared → Prop} {s : Shared} {a : Addr} {L : List Str}
theorem SetS.at {h h' : Heap} (R : SetS P w h a L) (k : ∀ o, h.get? a = some o → h'.get? a = some o) : SetS P w h' a L := by
  obtain ⟨o, es, ep, t, ho, z⟩ := R
  exact ⟨o, es, ep, t, k o ho, z⟩
theorem el_str {l : List (Int × Value)} (h : ElemsOf (PySem.strKind P w) l) {e : Int × Value} (he : e ∈ l) : ∃ tk, e.2 = .str (keyS e) tk ∧ e.1 = (PySem.strKind P w).hash (keyS e) := by
  obtain ⟨⟨k, h1, h2⟩, _⟩ := h e he
  have h1 : Value.isStrOf k e.2 = true := h1
  obtain ⟨x, v⟩ := e
  cases v with
  | str y tk =>
    have : y = k := by simpa [Value.isStrOf] using h1
    subst this
    exact ⟨tk, rfl, h2⟩
  | _ => exact absurd h1 (by simp [Value.isStrOf])
theorem el_is {l : List (Int × Value)} (h : ElemsOf (PySem.strKind P w) l) {e : Int × Value} (he : e ∈ l) (k : Str) : (PySem.strKind P w).is k e.2 = true ↔ keyS e = k := by
  obtain ⟨tk, h1, _⟩ := el_str h he
  rw [h1]
  show Value.isStrOf k (.str (keyS e) tk) = true ↔ _
  simp [Value.isStrOf]
theorem Pay.anew {es es' : Array (Int × Value)} {t t' : SetTable} (h : Pay P w L es t) (p : es'.toList.Perm es.toList) (hf : t'.fits es'.size = true) (hr : Ris t'.place.toList) (hl : t'.led = t.led) : Pay P w L es' t' := by
  have hz : es'.size = es.size := by rw [← Array.length_toList, ← Array.length_toList, p.length_eq]
  exact ⟨h.el.perm p, (p.map keyS).nodup_iff.mpr h.nd, fun k => (p.map keyS).mem_iff.trans (h.mem k), by rw [hz]; exact h.few, hf, hr, by rw [hl]; exact h.led⟩
theorem Pay.unplain {es : Array (Int × Value)} {t : SetTable} (h : Pay P w L es t) (b : Bool) : Pay P w L es (if b = true then t else { t with plain := false }) := by
  cases b with
  | true => exact h
  | false => exact ⟨h.el, h.nd, h.mem, h.few, SetTable.fits_plain_off h.fit, h.ris, h.led⟩
theorem Pay.more {es : Array (Int × Value)} {t : SetTable} (h : Pay P w L es t) {k : Str} {tk : Tok} (hk : k ∉ L) : Pay P w (k :: L) (layNew t es ((PySem.strKind P w).hash k) (.str k tk)).1 (layNew t es ((PySem.strKind P w).hash k) (.str k tk)).2.1 := by
  have p := layNew_perm t es ((PySem.strKind P w).hash k) (.str k tk)
  rw [Array.toList_push] at p
  have pk : ((layNew t es ((PySem.strKind P w).hash k) (.str k tk)).1.toList.map keyS).Perm (k :: es.toList.map keyS) := (p.trans (List.perm_append_singleton _ _)).map keyS
  refine ⟨(h.el.push (strKind_is _ _ k tk) rfl).perm p, pk.nodup_iff.mpr (List.nodup_cons.mpr ⟨fun z => hk ((h.mem k).mp z), h.nd⟩), fun j => ?_, ?_, layNew_fits .., layNew_ris _ _ _ _ h.ris, by rw [layNew_led]; exact h.led⟩
  · rw [pk.mem_iff, List.mem_cons, List.mem_cons, h.mem]
  · have := p.length_eq
    rw [Array.length_toList, List.length_append, Array.length_toList] at this
    rw [this, List.length_cons]
    exact Nat.succ_le_succ h.few
theorem gave_any {b : Bool} {Q : Unit → Shared → Prop} (h : Q () s) : wpAny (model P w) A (match b with | true => rule "set.scan.the-table-gave-way" | false => pure ()) Q E s := by
  cases b
  · exact wpAny_pure h
  · exact wpAny_rule h
theorem store_more {o : Obj} {es es1 : Array (Int × Value)} {ep : Nat} {t t1 : SetTable} {dm : Bool} {Q : Option Bool → Shared → Prop} (ho : s.heap.get? a = some o) (hex : o.ExactSet) (hd : o.data = .set es ep t) (p : Pay P w L es1 t1) (hb : L.length < scanBound)
    (hQ : ∀ h', Heap.SameBut a s.heap h' → SetS P w h' a L → Q (some true) { s with heap := h' }) :
    wpAny (model P w) A (storeSet a es1 t1 >>= fun _ => if (!dm && t1.tooFull) = true then (match (relayAll t1 es1 (SetTable.grown es1.size)).2.2 with | true => rule "set.scan.the-table-gave-way" | false => pure ()) >>= fun _ => storeSet a (relayAll t1 es1 (SetTable.grown es1.size)).1 (relayAll t1 es1 (SetTable.grown es1.size)).2.1 >>= fun _ => pure (some true) else pure (some true)) Q E s := by
  have lim : ∀ {n : Nat}, n ≤ L.length → n ≤ sizeLine := fun h => fits_of_scanBound (Nat.lt_of_le_of_lt h hb)
  refine wpAny_bind (wpAny_storeSet_of ho hd ?_ (lim p.few))
  have o1 := store_at (es' := es1) (t' := t1) ho hd
  have s1 := Heap.SameBut.update s.heap a (Obj.putSet es1 t1)
  by_cases hf : (!dm && t1.tooFull) = true
  · refine wp_if_pos hf (wpAny_bind (gave_any ?_))
    have p2 := p.anew (relayAll_perm t1 es1 (SetTable.grown es1.size)) (relayAll_fits ..) (relayAll_ris ..) (relayAll_led ..)
    refine wpAny_bind (wpAny_storeSet_of o1 rfl (wpAny_pure (hQ _ (s1.trans (Heap.SameBut.update _ a _)) ?_)) (lim p2.few))
    exact ⟨_, _, _, _, store_at o1 rfl, hex, rfl, p2⟩
  · exact wp_if_neg hf (wpAny_pure (hQ _ s1 ⟨_, _, _, _, o1, hex, rfl, p⟩))
theorem Pay.again {es : Array (Int × Value)} {t : SetTable} (h : Pay P w L es t) {k : Str} (hk : k ∈ L) : Pay P w (k :: L) es t :=
  ⟨h.el, h.nd, fun j => (h.mem j).trans ⟨fun z => List.mem_cons_of_mem _ z, fun z => by
    rcases List.mem_cons.mp z with z | z
    · rw [z]
      exact hk
    · exact z⟩, Nat.le_succ_of_le h.few, h.fit, h.ris, h.led⟩
theorem add_str {k : Str} {tk : Tok} {Q : Bool → Shared → Prop} (R : SetS P w s.heap a L) (room : L.length + 1 < scanBound)
    (hQ : ∀ b h', Heap.SameBut a s.heap h' → SetS P w h' a (k :: L) → Q b { s with heap := h' }) : wpAny (model P w) A (setAddHashed a (.str k tk) ((PySem.strKind P w).hash k)) Q E s := by
  obtain ⟨o, es, ep, t, ho, hex, hd, p⟩ := R
  have hb : es.size < scanBound := by have := p.few; omega
  have hkey := strKind_is P w k tk
  unfold setAddHashed setAddHashedIn
  refine wpAny_holding (wpAny_bind (wpAny_setState_of ho hd p.fit ?_))
  dsimp only
  rw [byScan_of (knd := PySem.strKind P w) (x := .str k tk) rfl hb p.el]
  refine wp_if_pos rfl ?_
  refine wpAny_bind (m := setAddByScan _ _ _ _ _) ?_
  unfold setAddByScan
  refine wpAny_bind (wpAny_rule ?_)
  refine wpAny_bind (wpAny_setScan_of hkey ho hd p.fit p.el ?_)
  by_cases hm : k ∈ L
  · obtain ⟨e, he, ek⟩ := List.mem_map.mp ((p.mem k).mpr hm)
    have hsome : (es.toList.findIdx? fun e => (PySem.strKind P w).is k e.2).isSome = true := by
      rw [List.findIdx?_isSome, List.any_eq_true]
      exact ⟨e, he, (el_is p.el he k).mpr ek⟩
    obtain ⟨j, hj⟩ := Option.isSome_iff_exists.mp hsome
    rw [hj]
    exact wpAny_pure (wpAny_pure (hQ false s.heap (Heap.SameBut.refl a _) ⟨o, es, ep, t, ho, hex, hd, p.again hm⟩))
  · have hnone : (es.toList.findIdx? fun e => (PySem.strKind P w).is k e.2) = none := by
      rw [List.findIdx?_eq_none_iff]
      intro e he
      cases hq : (PySem.strKind P w).is k e.2 with
      | false => rfl
      | true => exact absurd ((p.mem k).mp (List.mem_map.mpr ⟨e, he, (el_is p.el he k).mp hq⟩)) hm
    rw [hnone]
    have p1 := p.more (tk := tk) hm
    dsimp only
    generalize layNew t es ((PySem.strKind P w).hash k) (.str k tk) = Z at p1 ⊢
    obtain ⟨es1, t1, dm, gv⟩ := Z
    dsimp only at p1 ⊢
    refine wpAny_bind (gave_any ?_)
    have fin : ∀ b : Bool, wpAny (model P w) A (storeSet a es1 (if b = true then t1 else { t1 with plain := false }) >>= fun _ => if (!dm && (if b = true then t1 else { t1 with plain := false }).tooFull) = true then (match (relayAll (if b = true then t1 else { t1 with plain := false }) es1 (SetTable.grown es1.size)).2.2 with | true => rule "set.scan.the-table-gave-way" | false => pure ()) >>= fun _ => storeSet a (relayAll (if b = true then t1 else { t1 with plain := false }) es1 (SetTable.grown es1.size)).1 (relayAll (if b = true then t1 else { t1 with plain := false }) es1 (SetTable.grown es1.size)).2.1 >>= fun _ => pure (some true) else pure (some true)) (fun r s' => wpAny (model P w) A (match r with | some added => pure added | none => setAddHashedIn a (.str k tk) ((PySem.strKind P w).hash k) 99999) Q E s') E s := fun b =>
      store_more ho hex hd (p1.unplain b) room fun h' sb r => wpAny_pure (hQ true h' sb r)
    by_cases hp : t1.plain = true
    · refine wp_if_pos hp (wpAny_bind ?_)
      rw [hashByValue_scannable 8 (x := .str k tk) rfl]
      exact wpAny_pure (fin _)
    · exact wp_if_neg hp (wpAny_bind (wpAny_pure (fin _)))
theorem fill_str (x : Str) (hx : x.cps.size + 1 < scanBound) (S : Addr) : Fill P w A S x.cps.size (SignAt x) fun i h => SetS P w h S (((x.cps.toList.take i).map fun c => (⟨#[c]⟩ : Str)).reverse) where
  keep := fun i h h' R k => R.at fun o e => k S o e (.inl rfl)
  step := fun i v s Q E hi hv R hQ => by
    obtain ⟨c, u, hc, rfl⟩ := hv
    unfold setAdd
    refine wpAny_holding (wpAny_bind ((PySem.strKind P w).pyHash (k := ⟨#[c]⟩) (strKind_is _ _ _ _) ?_))
    refine add_str (s := { s with toks := s.toks + 1 }) R ?_ fun b h' sb R2 => hQ b h' _ (Nat.le_succ _) sb ?_
    · rw [List.length_reverse, List.length_map, List.length_take]
      omega
    · have e : x.cps.toList.take (i + 1) = x.cps.toList.take i ++ [c] := by
        rw [List.take_add_one, Array.getElem?_toList, hc]
        rfl
      rw [e, List.map_append, List.reverse_append]
      exact R2
def sgs (x : Str) : List Str := (x.cps.toList.map fun c => (⟨#[c]⟩ : Str)).reverse
theorem call_setS {x : Str} {tk : Tok} {Q : Value → Shared → Prop} (hh : A.handled = none) (hx : x.cps.size + 1 < scanBound)
    (hQ : ∀ s2, (∀ b o, s.heap.get? b = some o → s2.heap.get? b = some o) → s2.gens = s.gens → s2.drawn = s.drawn → s2.os = s.os → SetS P w s2.heap s.heap.objs.size (sgs x) → Q (.ref s.heap.objs.size) s2) : wpAny (model P w) A (call (.type "set") [.str x tk]) Q E s := by
  refine call_set1 (T := fun s2 => (∀ b o, s.heap.get? b = some o → s2.heap.get? b = some o) ∧ s2.gens = s.gens ∧ s2.drawn = s.drawn ∧ s2.os = s.os ∧ SetS P w s2.heap s.heap.objs.size (sgs x)) hh (fun A' Q' E' h1 _ h2 => ?_) fun s2 ⟨z1, z2, z3, z4, z5⟩ => hQ s2 z1 z2 z3 z4 z5
  refine upd_of (typeIs_str _ _ _) PySem.F.sub_str_set PySem.F.sub_str_frozenset (by decide) (wpAny_pyIter_str fun o St hW hst => wpAny_runValue ?_)
  have hz : (s.heap.push (noSet w)).objs.size = s.heap.objs.size + 1 := Heap.size_push ..
  have hS : ((s.heap.push (noSet w)).push o).get? s.heap.objs.size = some (noSet w) := Heap.get?_push_of_some _ (Heap.get?_push_size _ rfl)
  refine fill_loop (hW A'.in1 h1).toS (fun z => ?_) (fun b hb => ?_) (fill_str x hx s.heap.objs.size) x.cps.size 0 _ (Nat.zero_add _) hst ⟨_, _, _, _, hS, ⟨rfl, rfl, rfl⟩, rfl, ?_⟩ fun s' hm hj => h2 s' ⟨fun b u e => ?_, hm.gens, hm.drawn, hm.os, ?_⟩
  · rw [List.mem_singleton] at z
    rw [hz] at z
    exact absurd z (Nat.ne_of_lt (Nat.lt_succ_self _))
  · rw [List.mem_singleton.mp hb, hz]
    exact Nat.lt_succ_self _
  · refine ⟨(fun e he => nomatch he), List.nodup_nil, fun k => Iff.rfl, Nat.le_refl _, rfl, List.Pairwise.nil, ?_⟩
    show _ ∨ (!w.params.followText "set-order") = true
    cases w.params.followText "set-order"
    · exact .inr rfl
    · exact .inl rfl
  · have hb := Heap.lt_size e
    refine hm.heap b u (fun z => ?_) (Heap.get?_push_of_some _ (Heap.get?_push_of_some _ e))
    rcases List.mem_cons.mp z with z | z
    · exact absurd z (Nat.ne_of_lt hb)
    · rw [List.mem_singleton.mp z, hz] at hb
      exact absurd hb (Nat.not_lt.mpr (Nat.le_succ _))
  · have e : x.cps.toList.take x.cps.size = x.cps.toList := List.take_of_length_le (by rw [Array.length_toList]; exact Nat.le_refl _)
    rw [e] at hj
    exact hj
theorem sorted_setS {a : Addr} {L : List Str} {Q : Value → Shared → Prop} (R : SetS P w s.heap a L) (hh : A.handled = none) (h64 : L.length < 64)
    (hQ : ∀ s' p (out : Array Value) (c : Nat) (ss : List Str), (∀ b o, s.heap.get? b = some o → s'.heap.get? b = some o) → s'.gens = s.gens → s'.os = s.os → s.heap.objs.size ≤ p → s'.heap.get? p = some (seqObj "list" out c) →
      StrsAre out.toList ss → sortedS ss = true → ss.Nodup → (∀ k, k ∈ ss ↔ k ∈ L) → Q (.ref p) s') : wpAny (model P w) A (call (.builtin "sorted") [.ref a]) Q E s := by
  obtain ⟨o, es, ep, t, ho, hex, hd, p⟩ := R
  refine Calls.call_function_entry kind_sorted plain_sorted entry_sorted (args_sorted1 _) ?_
  unfold Builtin.«sorted»
  refine wpAny_bind (m := checkCount "sorted" 1 1 _) (wpAny_pure ?_)
  have hb : es.size < 64 := Nat.lt_of_le_of_lt p.few h64
  refine wpAny_bind (collect_set (A := A.in1) hh ⟨o, ho, hex.1, hd⟩ p.fit (by unfold scanBound; omega) p.ris p.led fun s1 vs k1 hz g1 o1 pm => ?_)
  have hvl : vs.length < 64 := by
    rw [pm.length_eq, List.length_map, Array.length_toList]
    exact hb
  have hA : StrsAre vs (vs.map strOf) := strsAre_map vs fun v hv => by
    obtain ⟨e, he, q⟩ := List.mem_map.mp (pm.mem_iff.mp hv)
    obtain ⟨u, h1, _⟩ := el_str p.el he
    exact ⟨_, u, by rw [← q]; exact h1⟩
  have pk : (vs.map strOf).Perm (es.toList.map keyS) := by
    have q := pm.map strOf
    rw [List.map_map] at q
    exact q
  refine wpAny_bind (wpAny_newList ?_ (by rw [sizeLine_eq]; omega))
  have hoL : (s1.heap.push (seqObj "list" vs.toArray 0)).get? s1.heap.objs.size = some (seqObj "list" vs.toArray 0) := Heap.get?_push_size _ rfl
  refine wpAny_bind (wpAny_holding (wpAny_call_entry slot_list_sort ⟨_, hoL, rfl⟩ entry_list_sort (list_sort_treeK strKind_oneLt hoL hA.keysOf (fun v₁ v₂ rest e => keyKind_strs (by rw [← e]; exact hA)) hvl fun st' a1 a2 => ⟨_, rfl, ?_⟩) (args_list_sort _)))
  obtain ⟨ss, b1, b2, b3⟩ := sorted_out_str hA a1 a2
  obtain ⟨c, hc⟩ := sortedHeap_at (vs := vs) (out := (arrOf st').map (·.2)) hoL
  have pn := b2.trans pk
  refine wpAny_pure ⟨_, rfl, hQ _ s1.heap.objs.size _ c ss (fun b u e => ?_) g1 o1 hz hc b1 b3 (pn.nodup_iff.mpr p.nd) fun k => pn.mem_iff.trans (p.mem k)⟩
  have q := k1 b u e
  have hlt := Heap.lt_size q
  show (sortedHeap (s1.heap.push (seqObj "list" vs.toArray 0)) s1.heap.objs.size vs _).get? b = some u
  rw [sortedHeap_old (Nat.ne_of_lt hlt) (by rw [size_push']; exact Nat.lt_succ_of_lt hlt)]
  exact Heap.get?_push_of_some _ q
end
end Ls

set_option Elab.async false
set_option linter.all false
set_option maxRecDepth 100000
set_option maxHeartbeats 4000000
namespace Ls
open PySem PySem.Spec PyProof.Rows L2
def SetSO (P : Program) (w : World) (a : Addr) (L : List Str) : HO := .ext fun h => SetS P w h a L
section
variable {X : Cx} {pins : List (Addr × Obj)} {σ : L2.St} {H : Hp} {s : Shared}
theorem setSO_new {P : Program} {w : World} {h : Heap} {a : Addr} {L : List Str} (R : SetS P w h a L) : ObjOk P w H h a (SetSO P w a L) := by
  have ⟨o, _, _, _, ho, _⟩ := R
  exact ⟨R, ⟨o, ho⟩, fun _ _ p k => SetS.at p k⟩
theorem inv_like {s' : Shared} {p : Addr} {u : HO} (I : Inv X pins σ H s) (k : ∀ b o, s.heap.get? b = some o → s'.heap.get? b = some o) (g : s'.gens = s.gens) (o : s'.os = s.os) (hp : s.heap.objs.size ≤ p) (hO : ObjOk X.prog X.w (upd H p u) s'.heap p u) : H p = none ∧ Inv X pins σ (upd H p u) s' := by
  have hn : H p = none := I.hok.fresh hp
  have J : Inv X pins σ (upd H p u) { s with heap := s'.heap, gens := s'.gens, drawn := s'.drawn, toks := s'.toks } := I.call (ch := []) (Un.laid k hp hn) (I.hok.laid k hp hO) (by rw [g]; exact I.bare) (fun _ z => nomatch z)
  have e : s' = { s with heap := s'.heap, gens := s'.gens, drawn := s'.drawn, toks := s'.toks } := by
    cases s'
    cases s
    cases o
    rfl
  rw [e]
  exact ⟨hn, J⟩
def rSetS (P : Program) (w : World) : List V → Hp → VK → Prop := fun xs H Q => ∃ x : Str, xs = [.str x] ∧ x.cps.size + 1 < scanBound ∧ ∀ p, H p = none → Q (.ref p) (upd H p (SetSO P w p (sgs x)))
theorem cr_setS (hc : X.calm = true) : CallR X (.type "set") (rSetS X.prog X.w) := by
  intro pins s σ H xs us Q I r h
  obtain ⟨x, rfl, hx, q⟩ := h
  cases r with
  | cons r1 rt =>
    cases rt
    obtain ⟨tk, rfl⟩ := r1
    refine call_setS (I.ok.hd hc) hx fun s2 k g _ o R => ?_
    obtain ⟨hn, J⟩ := inv_like I k g o (Nat.le_refl _) (setSO_new R)
    exact ⟨.ref _, _, J, rfl, q _ hn⟩
def rSortedSetS (P : Program) (w : World) : List V → Hp → VK → Prop := fun vs H Q => ∃ (a : Addr) (L : List Str), vs = [V.ref a] ∧ H a = some (SetSO P w a L) ∧ L.length < 64 ∧
  ∀ (ss : List Str) (p : Addr), sortedS ss = true → ss.Nodup → (∀ k : Str, k ∈ ss ↔ k ∈ L) → H p = none → Q (.ref p) (upd H p (.lst (ss.map V.str)))
theorem vals_of_strs : ∀ {us : List Value} {ss : List Str}, StrsAre us ss → Vals (ss.map V.str) us
  | _, _, .nil => .nil
  | _, _, .cons x t h => .cons ⟨t, rfl⟩ (vals_of_strs h)
theorem cr_sortedSetS (hc : X.calm = true) : CallR X (.builtin "sorted") (rSortedSetS X.prog X.w) := by
  intro pins s σ H vs us Q I r h
  obtain ⟨a, L, rfl, ha, h64, q⟩ := h
  have R : SetS X.prog X.w s.heap a L := (I.hok a _ ha).1
  rw [Vals.ref1 r]
  refine sorted_setS R (I.ok.hd hc) h64 fun s' p out c ss k g o hp hg hi hs hnd hm => ?_
  have hlen : (ss.map V.str).length ≤ sizeLine := by
    have h1 : ss.length ≤ L.length := by
      obtain ⟨o2, es, ep, t, _, _, _, pp⟩ := R
      have e1 : (es.toList.map keyS).length ≤ L.length := by
        rw [List.length_map, Array.length_toList]
        exact pp.few
      have e2 : ss.Perm (es.toList.map keyS) := (List.perm_ext_iff_of_nodup hnd pp.nd).mpr fun z => (hm z).trans (pp.mem z).symm
      rw [e2.length_eq]
      exact e1
    rw [List.length_map, sizeLine_eq]
    omega
  obtain ⟨hn, J⟩ := inv_like (u := .lst (ss.map V.str)) I k g o hp ⟨hlen, out.toList, c, vals_of_strs hi, hg⟩
  exact ⟨.ref p, _, J, rfl, q ss p hs hnd hm hn⟩
end
section
variable {P : Program} {w : World} {A : Around} {E : Value → Shared → Prop} {s : Shared}
theorem walks_imp {I : Addr} {fp wr : List Addr} {G : Array GenState → Array GenState → Prop} {n : Nat} {Pv Pv' : Nat → Value → Prop} {St : Nat → Shared → Prop} (W : WalksS P w A I fp wr G n Pv St) (h : ∀ i v, i < n → Pv i v → Pv' i v) : WalksS P w A I fp wr G n Pv' St :=
  ⟨W.sub, W.grefl, W.gtrans, W.frame, fun i s Q E hi hst hq => W.item i s Q E hi hst fun v s' hv => hq v s' (h i v hi hv), W.done, W.self⟩
theorem fill_int (ns : List Int) (hb : ns.length + 1 < scanBound) (S : Addr) : Fill P w A S ns.length (fun i v => ∃ k t, ns[i]? = some k ∧ v = .int k t) fun i h => ∃ c, c ≤ i ∧ SetR w h S (fun j => decide (j ∈ ns.take i)) c where
  keep := fun i h h' ⟨c, hc, R⟩ k => ⟨c, hc, R.at fun o e => k S o e (.inl rfl)⟩
  step := fun i v s Q E hi ⟨k, t, hk, hv⟩ ⟨c, hc, R⟩ hQ => by
    subst hv
    unfold setAdd
    refine wpAny_holding (wpAny_bind ((PySem.intKind P w).pyHash (k := k) (intKind_is _ _ _ _) ?_))
    refine setR_add_hashed (s := { s with toks := s.toks + 1 }) R (by omega) fun h' sb R2 => hQ _ h' _ (Nat.le_succ _) sb ⟨_, ?_, R2.congr fun j => ?_⟩
    · split <;> omega
    · rw [List.take_add_one, hk]
      simp [List.mem_append]
theorem call_setL {l : Addr} {items : Array Value} (ns : List Int) {Q : Value → Shared → Prop} (hh : A.handled = none) (hl : s.heap.IsList l items) (hit : IntsAre items.toList ns) (hb : ns.length + 1 < scanBound)
    (hQ : ∀ s2 c, (∀ b o, s.heap.get? b = some o → s2.heap.get? b = some o) → s2.gens = s.gens → s2.os = s.os → SetR w s2.heap s.heap.objs.size (fun j => decide (j ∈ ns)) c → Q (.ref s.heap.objs.size) s2) : wpAny (model P w) A (call (.type "set") [.ref l]) Q E s := by
  refine call_set1 (T := fun s2 => (∀ b o, s.heap.get? b = some o → s2.heap.get? b = some o) ∧ s2.gens = s.gens ∧ s2.os = s.os ∧ ∃ c, SetR w s2.heap s.heap.objs.size (fun j => decide (j ∈ ns)) c) hh (fun A' Q' E' h1 _ h2 => ?_) fun s2 ⟨z1, z2, z3, c, z4⟩ => hQ s2 c z1 z2 z3 z4
  obtain ⟨ol, hol, hcl, nl, hdl⟩ := hl
  have hlt := Heap.lt_size hol
  have hsz : items.size = ns.length := by
    have := IntsAre.length hit
    rw [Array.length_toList] at this
    exact this
  have hz : (s.heap.push (noSet w)).objs.size = s.heap.objs.size + 1 := Heap.size_push ..
  have hl1 : (s.heap.push (noSet w)).IsList l items := ⟨ol, Heap.get?_push_of_some _ hol, hcl, nl, hdl⟩
  have hne : l ≠ (s.heap.push (noSet w)).objs.size := by
    rw [hz]
    exact Nat.ne_of_lt (Nat.lt_succ_of_lt hlt)
  refine upd_of (T := "list") ⟨ol, Heap.get?_push_of_some _ hol, hcl⟩ F.sub_list_set F.sub_list_frozenset (by decide) (wpAny_pyIter_list hl1 (wpAny_runValue ?_))
  have W := (Walks.list (prog := P) (w := w) (A := A'.in1) h1 (s.heap.push (noSet w)).objs.size l hne items).toS
  rw [hsz] at W
  refine fill_loop (walks_imp (Pv' := fun i v => ∃ k t, ns[i]? = some k ∧ v = .int k t) W fun i v hi hv => ?_) (fun z => ?_) (fun b hb => ?_) (fill_int ns hb s.heap.objs.size) ns.length 0 _ (Nat.zero_add _)
    ⟨⟨_, Heap.get?_push_size _ rfl, rfl, rfl⟩, hl1.push _⟩ ⟨0, Nat.le_refl _, setR_new_at (Heap.get?_push_of_some _ (Heap.get?_push_size _ rfl))⟩ fun s' hm ⟨c, _, hj⟩ => h2 s' ⟨fun b u e => ?_, hm.gens, hm.os, c, ?_⟩
  · obtain ⟨t, e⟩ := PyProof.Rows.IntsAre.int_at hit i v (by rw [Array.getElem?_toList]; exact hv)
    exact ⟨_, t, by rw [List.getElem?_eq_getElem hi, List.getD_eq_getElem?_getD, List.getElem?_eq_getElem hi]; rfl, e⟩
  · rw [hz] at z
    simp only [List.mem_cons, List.mem_singleton, List.not_mem_nil, or_false] at z
    rcases z with z | z
    · exact absurd z (Nat.ne_of_lt (Nat.lt_succ_self _))
    · exact absurd z (Nat.ne_of_gt hlt)
  · rw [List.mem_singleton.mp hb, hz]
    exact Nat.lt_succ_self _
  · have hb := Heap.lt_size e
    refine hm.heap b u (fun z => ?_) (Heap.get?_push_of_some _ (Heap.get?_push_of_some _ e))
    rcases List.mem_cons.mp z with z | z
    · exact absurd z (Nat.ne_of_lt hb)
    · rw [List.mem_singleton.mp z, hz] at hb
      exact absurd hb (Nat.not_lt.mpr (Nat.le_succ _))
  · rw [List.take_length] at hj
    exact hj
end
section
variable {X : Cx}
def rSetL (K : PySem.W.Frag) (w : World) : List V → Hp → VK → Prop := fun xs H Q => ∃ (l : Addr) (ns : List Int), xs = [.ref l] ∧ SqL K H l (ns.map V.int) ∧ ns.length + 1 < scanBound ∧ ∀ p c, H p = none → (∀ ks : List Int, ks.Nodup → (∀ k, k ∈ ks ↔ k ∈ ns) → c = ks.length) → Q (.ref p) (upd H p (SetO w p (fun j => decide (j ∈ ns)) c))
theorem cr_setL (hc : X.calm = true) : CallR X (.type "set") (rSetL X.K X.w) := by
  intro pins s σ H xs us Q I r h
  obtain ⟨l, ns, rfl, hT, hlen, q⟩ := h
  rw [Vals.ref1 r]
  obtain ⟨its, rv, pl, hz⟩ := I.list hT
  refine call_setL (items := its.toArray) ns (I.ok.hd hc) pl.isList (by rw [List.toList_toArray]; exact rv.ints) hlen fun s2 c k g o R => ?_
  obtain ⟨hn, J⟩ := inv_like I k g o (Nat.le_refl _) (setO_new R)
  refine ⟨.ref _, _, J, rfl, q _ c hn fun ks hk hm => ?_⟩
  obtain ⟨_, es, _, _, _, _, _, _, nd, m, _, _, hn, _⟩ := R
  have := ((List.perm_ext_iff_of_nodup nd hk).mpr fun z => by rw [← m z, hm z, decide_eq_true_eq]).length_eq
  rw [List.length_map, Array.length_toList] at this
  omega
end
def cdS (k : Str) : Int := (k.cps.toList.headD 0 : Nat)
def sgI (i : Int) : Str := ⟨#[i.toNat]⟩
theorem cd_sg {c : Nat} : cdS ⟨#[c]⟩ = (c : Int) := rfl
theorem sg_cd {c : Nat} : sgI (cdS ⟨#[c]⟩) = ⟨#[c]⟩ := rfl
theorem rising_lt : ∀ (l : List Str) (p : Str), risingS p l = true → (p :: l).Nodup → (∀ k ∈ p :: l, ∃ c, k = (⟨#[c]⟩ : Str)) → ((p :: l).map cdS).Pairwise (· < ·)
  | [], p, _, _, _ => List.pairwise_singleton _ _
  | x :: r, p, h, hn, hs => by
    have h : (!ltCps x.cps.toList p.cps.toList && risingS x r) = true := h
    rw [Bool.and_eq_true, Bool.not_eq_true'] at h
    have ih := rising_lt r x h.2 (List.nodup_cons.mp hn).2 fun k hk => hs k (List.mem_cons_of_mem _ hk)
    obtain ⟨c, rfl⟩ := hs p List.mem_cons_self
    obtain ⟨d, rfl⟩ := hs x (List.mem_cons_of_mem _ List.mem_cons_self)
    have hcd : c < d := by
      have h1 := h.1
      rw [ltCps_eq] at h1
      have h2 : ¬ ([d] : List Nat) < [c] := of_decide_eq_false h1
      have h3 : c ≠ d := fun z => (List.nodup_cons.mp hn).1 (by rw [z]; exact List.mem_cons_self)
      have h4 : ¬ d < c := fun z => h2 (List.Lex.rel z)
      omega
    rw [List.map_cons]
    refine List.pairwise_cons.mpr ⟨fun z hz => ?_, ih⟩
    rw [List.map_cons] at hz ih
    rcases List.mem_cons.mp hz with e | hz
    · rw [e, cd_sg, cd_sg]
      omega
    · have := (List.pairwise_cons.mp ih).1 z hz
      rw [cd_sg] at this ⊢
      omega
theorem sorted_lt {ss : List Str} (h : sortedS ss = true) (hn : ss.Nodup) (hs : ∀ k ∈ ss, ∃ c, k = (⟨#[c]⟩ : Str)) : (ss.map cdS).Pairwise (· < ·) := by
  cases ss with
  | nil => exact List.Pairwise.nil
  | cons p l => exact rising_lt l p h hn hs
theorem sgs_mem {x k : Str} : k ∈ sgs x ↔ ∃ c ∈ x.cps.toList, k = ⟨#[c]⟩ := by
  unfold sgs
  rw [List.mem_reverse, List.mem_map]
  exact ⟨fun ⟨c, h, e⟩ => ⟨c, h, e.symm⟩, fun ⟨c, h, e⟩ => ⟨c, h, e.symm⟩⟩
theorem sorted_sgs {x : Str} {ss : List Str} (h : sortedS ss = true) (hn : ss.Nodup) (hm : ∀ k, k ∈ ss ↔ k ∈ sgs x) :
    ∃ is : List Int, ss = is.map sgI ∧ is.Pairwise (· < ·) ∧ ∀ i, i ∈ is ↔ i ∈ x.cps.toList.map Int.ofNat := by
  have hs : ∀ k ∈ ss, ∃ c, k = (⟨#[c]⟩ : Str) := fun k hk => by
    obtain ⟨c, _, e⟩ := sgs_mem.mp ((hm k).mp hk)
    exact ⟨c, e⟩
  refine ⟨ss.map cdS, ?_, sorted_lt h hn hs, fun i => ?_⟩
  · rw [List.map_map]
    conv => lhs; rw [← List.map_id ss]
    refine List.map_congr_left fun k hk => ?_
    obtain ⟨c, rfl⟩ := hs k hk
    exact sg_cd.symm
  · rw [List.mem_map, List.mem_map]
    constructor
    · rintro ⟨k, hk, rfl⟩
      obtain ⟨c, hc, rfl⟩ := sgs_mem.mp ((hm k).mp hk)
      exact ⟨c, hc, rfl⟩
    · rintro ⟨c, hc, rfl⟩
      exact ⟨⟨#[c]⟩, (hm _).mpr (sgs_mem.mpr ⟨c, hc, rfl⟩), rfl⟩
end Ls

set_option Elab.async false
set_option linter.all false
set_option maxRecDepth 100000
set_option maxHeartbeats 4000000
namespace Ls
open PySem PySem.Spec PyProof.Rows L2
def MK (m : Nat) : Prop := m = 7 ∨ m = 31 ∨ m = 127 ∨ m = 511
def turnB : Nat → Nat → Nat → Nat
  | 0, _, acc => acc
  | k + 1, x, acc => turnB k ((x * 5 + 1) % 512) (acc ||| 2 ^ x)
theorem turn_all : (turnB 512 0 0 == 2 ^ 512 - 1) = true := by decide +kernel
theorem lcgI_tail (m : Nat) : ∀ (k x : Nat), lcgI m ((x * 5 + 1) % (m + 1)) k = lcgI m x (k + 1)
  | 0, _ => rfl
  | k + 1, x => by
    show (lcgI m ((x * 5 + 1) % (m + 1)) k * 5 + 1) % (m + 1) = _
    rw [lcgI_tail m k x]
    rfl
theorem turn_bit : ∀ (k x acc j : Nat), (turnB k x acc).testBit j = true → acc.testBit j = true ∨ ∃ i, i < k ∧ lcgI 511 x i = j
  | 0, x, acc, j, h => .inl h
  | k + 1, x, acc, j, h => by
    rcases turn_bit k _ _ j h with h | ⟨i, hi, e⟩
    · rw [Nat.testBit_or, Bool.or_eq_true, Nat.testBit_two_pow] at h
      rcases h with h | h
      · exact .inl h
      · exact .inr ⟨0, Nat.succ_pos _, of_decide_eq_true h⟩
    · exact .inr ⟨i + 1, Nat.succ_lt_succ hi, by rw [← lcgI_tail]; exact e⟩
theorem lcg_0 (m : Nat) : ∀ k, lcgI m 0 k = lcgN m k
  | 0 => rfl
  | k + 1 => by
    show (lcgI m 0 k * 5 + 1) % (m + 1) = _
    rw [lcg_0 m k]
    rfl
theorem from0 {j : Nat} (hj : j ≤ 511) : ∃ k, k < 512 ∧ lcgN 511 k = j := by
  have hb : (turnB 512 0 0).testBit j = true := by
    rw [eq_of_beq turn_all, Nat.testBit_two_pow_sub_one]
    exact decide_eq_true (by omega)
  rcases turn_bit 512 0 0 j hb with h | ⟨k, hk, e⟩
  · rw [Nat.zero_testBit] at h
    exact nomatch h
  · exact ⟨k, hk, by rw [← lcg_0]; exact e⟩
theorem round511 : lcgN 511 512 = 0 := by decide +kernel
theorem again511 : ∀ k, lcgN 511 (512 + k) = lcgN 511 k
  | 0 => round511
  | k + 1 => by
    show (lcgN 511 (512 + k) * 5 + 1) % (511 + 1) = _
    rw [again511 k]
    rfl
theorem all511 {i j : Nat} (hi : i ≤ 511) (hj : j ≤ 511) : ∃ k, k ≤ 511 ∧ lcgI 511 i k = j := by
  obtain ⟨a, ha, e1⟩ := from0 hi
  obtain ⟨b, hb, e2⟩ := from0 hj
  subst e1
  by_cases c : a ≤ b
  · exact ⟨b - a, by omega, by rw [lcgN_add, show a + (b - a) = b by omega]; exact e2⟩
  · exact ⟨512 + b - a, by omega, by rw [lcgN_add, show a + (512 + b - a) = 512 + b by omega, again511]; exact e2⟩
theorem meets {m : Nat} (hm : MK m) (h : Int) {j : Nat} (hj : j ≤ m) : ∃ n, n ≤ m + 12 ∧ runI m (SetTable.bits h) n = j := by
  rcases hm with e | e | e | e
  · exact run_meets (.inl e) h hj
  · exact run_meets (.inr (.inl e)) h hj
  · exact run_meets (.inr (.inr e)) h hj
  · subst e
    obtain ⟨k, hk, e⟩ := all511 (runI_le 511 (SetTable.bits h) 12) hj
    exact ⟨12 + k, by omega, by rw [runI_tail (bits_lt h)]; exact e⟩
theorem way_in {m k : Nat} {h : Int} : way m h k ≤ m := by
  have hi : SetTable.bits h % (m + 1) ≤ m := Nat.le_of_lt_succ (Nat.mod_lt _ (Nat.succ_pos _))
  have := (runEnd_bd hi)
  have := nth_in (m := m) k (runAt m (SetTable.bits h % (m + 1)) (SetTable.bits h)) (by
    dsimp only [runAt]
    omega)
  exact Nat.le_trans (Nat.le_add_right _ _) this
theorem first_free {m : Nat} (hm : MK m) (pl : List Nat) (hl : pl.length ≤ m) (h : Int) : ∃ K, K < 10 * SetTable.turns m ∧ way m h K ∉ pl ∧ ∀ k, k < K → way m h k ∈ pl := by
  obtain ⟨j, hj, hn⟩ := st_missing pl (m + 1) (by omega)
  obtain ⟨n, n1, n2⟩ := meets hm h (Nat.le_of_lt_succ hj)
  obtain ⟨k, k1, k2⟩ := run_nth m (SetTable.bits h) n
  have hw : way m h k = j := by
    show (nth m _ k).j = j
    rw [k2]
    exact n2
  obtain ⟨K, g1, g2, g3⟩ := st_least (p := fun k => way m h k ∉ pl) k (by rw [hw]; exact hn)
  exact ⟨K, by unfold SetTable.turns; omega, g2, fun k' hk' => Classical.byContradiction fun z => g3 k' hk' z⟩
theorem seat {m : Nat} (hm : MK m) (owner : Array (Option Nat)) (h : Int) {j : Nat} (hj : j ≤ m) (hf : oAt owner j = none) : ∃ i, SetTable.layClean.free m owner (SetTable.turns m) (SetTable.bits h % (m + 1)) (SetTable.bits h) = some i ∧ i ≤ m ∧ oAt owner i = none := by
  obtain ⟨n, n1, n2⟩ := meets hm h hj
  have hw : way m h (off m (SetTable.bits h % (m + 1)) (SetTable.bits h) n) = j := by
    show (nth m _ (off m _ _ n)).j = j
    rw [nth_off, itL_run]
    exact n2
  obtain ⟨K, g1, g2, g3⟩ := st_least (p := fun k => oAt owner (way m h k) = none) _ (by rw [hw]; exact hf)
  refine ⟨way m h K, free_spec m owner _ n _ _ K (by unfold SetTable.turns; omega) g1 (fun k hk => ?_) ?_, way_in, g2⟩
  · cases z : oAt owner (nth m (runAt m (SetTable.bits h % (m + 1)) (SetTable.bits h)) k).j with
    | none => exact absurd z (g3 k hk)
    | some _ => rfl
  · rw [show oAt owner (nth m (runAt m (SetTable.bits h % (m + 1)) (SetTable.bits h)) K).j = none from g2]
    rfl
structure Sat (m n : Nat) (owner : Array (Option Nat)) : Prop where
  sz : owner.size = m + 1
  all : ∀ k, k < n → ∃ j, j ≤ m ∧ oAt owner j = some k
  few : ∃ ps : List Nat, ps.length = n ∧ ∀ j, j ≤ m → oAt owner j ≠ none → j ∈ ps
theorem Sat.more {m n : Nat} {owner : Array (Option Nat)} (hm : MK m) (W : Sat m n owner) (hn : n ≤ m) (h : Int) : ∃ i, SetTable.layClean.free m owner (SetTable.turns m) (SetTable.bits h % (m + 1)) (SetTable.bits h) = some i ∧ Sat m (n + 1) (owner.setIfInBounds i (some n)) := by
  obtain ⟨ps, p1, p2⟩ := W.few
  obtain ⟨j, j1, j2⟩ := st_missing ps (m + 1) (by omega)
  have hj : oAt owner j = none := Classical.byContradiction fun z => j2 (p2 j (by omega) z)
  obtain ⟨i, e, i1, i2⟩ := seat hm owner h (Nat.le_of_lt_succ j1) hj
  have hs := oAt_set_self (owner := owner) (j := i) (some n) (by rw [W.sz]; omega)
  refine ⟨i, e, by rw [Array.size_setIfInBounds]; exact W.sz, fun k hk => ?_, i :: ps, by rw [List.length_cons, p1], fun j' hj' z => ?_⟩
  · by_cases hkn : k = n
    · exact ⟨i, i1, by rw [hs, hkn]⟩
    · obtain ⟨j', a1, a2⟩ := W.all k (by omega)
      exact ⟨j', a1, by rw [oAt_set_ne _ (fun z => by rw [z, i2] at a2; exact nomatch a2)]; exact a2⟩
  · by_cases hji : j' = i
    · rw [hji]
      exact List.mem_cons_self
    · rw [oAt_set_ne _ hji] at z
      exact List.mem_cons_of_mem _ (p2 j' hj' z)
theorem sat_fold {m : Nat} (hm : MK m) : ∀ (hs : List Int) (n : Nat) (owner : Array (Option Nat)), Sat m n owner → n + hs.length ≤ m → ∃ owner', hs.foldl (stepF m) (some (owner, n)) = some (owner', n + hs.length) ∧ Sat m (n + hs.length) owner'
  | [], n, owner, W, _ => ⟨owner, rfl, W⟩
  | h :: hs, n, owner, W, hl => by
    rw [List.length_cons] at hl
    obtain ⟨i, e, W2⟩ := W.more hm (by omega) h
    obtain ⟨owner', e2, W3⟩ := sat_fold hm hs (n + 1) _ W2 (by omega)
    rw [show n + (h :: hs).length = n + 1 + hs.length by rw [List.length_cons]; omega]
    refine ⟨owner', ?_, W3⟩
    rw [List.foldl_cons, stepF_some e]
    exact e2
theorem laid_anew (t : SetTable) {hs : Array Int} {wanted M : Nat} (hw : SetTable.sizeAbove wanted - 1 = M) (hM : MK M) (hn : hs.size ≤ M) :
    ∃ t' order, t.relaid hs wanted = some (t', order) ∧ order.toList.Perm (List.range hs.size) ∧ t'.mask = M ∧ t'.led = t.led ∧ t'.plain = t.plain ∧ t'.dummies = #[] ∧ Ris t'.place.toList ∧ t'.place.size = hs.size := by
  have W0 : Sat M 0 (Array.replicate (M + 1) none) := ⟨by simp, (fun k hk => absurd hk (Nat.not_lt_zero _)), [], rfl, fun j hj z => absurd (oAt_init hj) z⟩
  obtain ⟨owner, e, W⟩ := sat_fold hM hs.toList 0 _ W0 (by rw [Array.length_toList]; omega)
  rw [Nat.zero_add, Array.length_toList] at e W
  have hlc : SetTable.layClean M hs = some owner := by
    rw [layClean_eq, e]
    rfl
  have hr : t.relaid hs wanted = some (tabOf t M owner, ((liveOf M owner).map (·.2)).toArray) := by
    rw [relaid_eq, hw, hlc]
    rfl
  have rl := ris_live (fun j => owner.getD j none) (List.range (M + 1)) List.pairwise_lt_range
  have hlen : (liveOf M owner).length = hs.size := by
    obtain ⟨ps, p1, p2⟩ := W.few
    have rp : ((liveOf M owner).map (·.1)).Pairwise (· < ·) := rl.1
    have nd : ((liveOf M owner).map (·.1)).Nodup := rp.imp fun z => Nat.ne_of_lt z
    have n1 := nat_nodup_len ((liveOf M owner).map (·.1)) ps nd fun x hx => by
      obtain ⟨⟨y, k⟩, hq, rfl⟩ := List.mem_map.mp hx
      obtain ⟨b1, b2⟩ := (mem_live W.sz).1 hq
      exact p2 y b1 (by rw [b2]; exact fun z => nomatch z)
    have n2 := nat_nodup_len (List.range hs.size) ((liveOf M owner).map (·.2)) List.nodup_range fun k hk => by
      obtain ⟨j, b1, b2⟩ := W.all k (List.mem_range.mp hk)
      exact List.mem_map.mpr ⟨(j, k), (mem_live W.sz).2 ⟨b1, b2⟩, rfl⟩
    rw [List.length_map, p1] at n1
    rw [List.length_map, List.length_range] at n2
    omega
  refine ⟨_, _, hr, perm_range hs.size _ ?_ fun k hk => ?_, rfl, rfl, rfl, rfl, rl.1, ?_⟩
  · show ((liveOf M owner).map (·.2)).length = _
    rw [List.length_map]
    exact hlen
  · obtain ⟨j, b1, b2⟩ := W.all k hk
    exact List.mem_map.mpr ⟨(j, k), (mem_live W.sz).2 ⟨b1, b2⟩, rfl⟩
  · show ((liveOf M owner).map (·.1)).toArray.size = _
    rw [List.size_toArray, List.length_map]
    exact hlen
theorem all_of {α : Type} (es : Array α) : (List.range es.size).filterMap (fun i => es[i]?) = es.toList := by
  have key : ∀ n, n ≤ es.size → (List.range n).filterMap (fun i => es[i]?) = es.toList.take n := by
    intro n
    induction n with
    | zero => intro _; rfl
    | succ n ih =>
      intro hn
      have h : es[n]? = some (es.toList[n]'(by rw [Array.length_toList]; omega)) := by
        rw [← Array.getElem?_toList, List.getElem?_eq_getElem]
      rw [List.range_succ, List.filterMap_append, ih (by omega), List.take_add_one, Array.getElem?_toList, h, List.filterMap_cons_some h]
      rfl
  rw [key es.size (Nat.le_refl _)]
  exact List.take_of_length_le (by rw [Array.length_toList]; exact Nat.le_refl _)
theorem picked {α : Type} (es : Array α) {order : Array Nat} (h : order.toList.Perm (List.range es.size)) : (order.filterMap (es[·]?)).toList.Perm es.toList := by
  rw [Array.toList_filterMap]
  have := h.filterMap fun i => es[i]?
  rw [all_of] at this
  exact this
structure Wl (w : World) (L : List (Addr × List Int)) (es : Array (Int × Value)) (t : SetTable) : Prop where
  sz : es.size = L.length
  ps : t.place.size = es.size
  dm : t.dummies = #[]
  ris : Ris t.place.toList
  msk : MK t.mask
  ent : ∀ e ∈ es.toList, ∃ p ∈ L, e.2 = .ref p.1
  plain : t.plain = true
  led : w.params.followText "set-order" = true ∨ t.led = true
  room : es.size * 5 < t.mask * 3
def SetW (P : Program) (w : World) (h : Heap) (a : Addr) (L : List (Addr × List Int)) : Prop := (∃ o es ep t, h.get? a = some o ∧ o.ExactSet ∧ o.data = .set es ep t ∧ Wl w L es t) ∧ ∀ p ∈ L, IsT P w h p.2 p.1
section
variable {P : Program} {w : World} {A : Around} {E : Value → Shared → Prop} {s : Shared} {a : Addr} {L : List (Addr × List Int)}
theorem Wl.fits {es : Array (Int × Value)} {t : SetTable} (W : Wl w L es t) : t.fits es.size = true := by
  have := W.ps
  have := W.room
  unfold SetTable.fits SetTable.fill
  rw [W.dm, Bool.and_eq_true, beq_iff_eq, decide_eq_true_eq]
  exact ⟨W.ps, by show t.place.size + 0 ≤ t.mask; omega⟩
theorem mk_odd {m : Nat} (h : MK m) : m % 2 = 1 := by
  rcases h with e | e | e | e <;> subst e <;> rfl
theorem mk_le {m : Nat} (h : MK m) : m ≤ 511 := by
  rcases h with e | e | e | e <;> subst e <;> decide
theorem sought {o : Obj} {es : Array (Int × Value)} {ep : Nat} {t : SetTable} {x : Addr} {k : List Int} {Q : SetFound → Shared → Prop} (ho : s.heap.get? a = some o) (hd : o.data = .set es ep t) (W : Wl w L es t) (tp : ∀ p ∈ L, IsT P w s.heap p.2 p.1) (hx : IsT P w s.heap k x) (hk : k ∉ L.map (·.2)) (hu : A.units < cLine) {K : Nat}
    (hK : way t.mask (thash P w k) K ∉ t.place.toList) (hKf : K < 10 * SetTable.turns t.mask) (hKb : ∀ c, c < K → way t.mask (thash P w k) c ∈ t.place.toList) (hQ : ∀ j, j ∉ t.place.toList → Q (.free j false) s) :
    ∀ (f c : Nat) (stand : Option SetTable.Probe), stand.getD (t.probeStart (thash P w k)) = nth t.mask (runAt t.mask (SetTable.bits (thash P w k) % (t.mask + 1)) (SetTable.bits (thash P w k))) c → c ≤ K → K - c < f → wpAny (model P w) A (setSearchFrom a (.ref x) (thash P w k) true f stand) Q E s
  | 0, _, _, _, _, hf => absurd hf (Nat.not_lt_zero _)
  | f + 1, c, stand, hst, hc, hf => by
    rw [setSearchFrom_succ]
    refine wpAny_bind (wpAny_setState_of ho hd W.fits ?_)
    dsimp only
    refine wp_if_neg (fun z => ?_) ?_
    · unfold SetTable.gaveWay at z
      rw [mk_odd W.msk] at z
      exact nomatch z
    try refine wpAny_bind (wpAny_pure ?_)
    generalize hp0 : runAt t.mask (SetTable.bits (thash P w k) % (t.mask + 1)) (SetTable.bits (thash P w k)) = p0 at hst
    have hw : ∀ q, (nth t.mask (nth t.mask p0 c) q).j = way t.mask (thash P w k) (c + q) := fun q => by
      rw [← nth_add, ← hp0]
    have hnd : (nth t.mask p0 c).dummy = none := by
      have key : ∀ (n : Nat) (p : SetTable.Probe), p.dummy = none → (nth t.mask p n).dummy = none := by
        intro n
        induction n with
        | zero => intro p h; exact h
        | succ n ih =>
          intro p h
          exact ih _ (by unfold adv; split <;> exact h)
      exact key c p0 (by rw [← hp0]; rfl)
    have spec := go_spec t W.ris W.dm (fun i => (es[i]?.map (·.1)).getD 0) (thash P w k) (10 * SetTable.turns t.mask) (K - c) (nth t.mask p0 c) hnd (by omega) (fun q hq => by rw [hw]; exact hKb _ (by omega)) (by rw [hw, show c + (K - c) = K by omega]; exact hK)
    have hpr : t.probe (fun i => (es[i]?.map (·.1)).getD 0) (thash P w k) (stand.getD (t.probeStart (thash P w k))) = SetTable.probe.go t (fun i => (es[i]?.map (·.1)).getD 0) (thash P w k) (10 * SetTable.turns t.mask) (nth t.mask p0 c) := by rw [hst]; rfl
    rw [hpr]
    rcases spec with ⟨q, i, hq, hi, _, _, e⟩ | ⟨_, e⟩
    · rw [e]
      dsimp only
      have hil : i < es.toList.length := by
        have h1 : i < t.place.toList.length := (List.getElem?_eq_some_iff.mp hi).1
        rw [Array.length_toList] at h1 ⊢
        rw [← W.ps]
        exact h1
      have hes : es[i]? = some es.toList[i] := by rw [← Array.getElem?_toList, List.getElem?_eq_getElem hil]
      obtain ⟨p, hp, ep'⟩ := W.ent _ (List.getElem_mem hil)
      have hne : p.2 ≠ k := fun z => hk (List.mem_map.mpr ⟨p, hp, z⟩)
      have rest : wpAny (model P w) A (searchRest a (.ref x) (thash P w k) true f es t (nth t.mask (nth t.mask p0 c) q).j i (nth t.mask (nth t.mask p0 c) (q + 1))) Q E s := by
        unfold searchRest
        rw [hes]
        dsimp only
        rw [ep']
        refine wpAny_bind (wpAny_holding (wpAny_eqBool_tuple hu (tp p hp) hx ?_))
        refine wpAny_bind (wpAny_setState_of ho hd W.fits ?_)
        dsimp only
        refine wp_if_neg (by simp [hne]) ?_
        try refine wpAny_bind (wpAny_pure ?_)
        rw [sameMem]
        dsimp only
        simp only [if_true, slot_live W.ris hi, hes]
        rw [ep']
        refine wpAny_bind (wpAny_isSame_ref_self (wpAny_bind (wpAny_pure ?_)))
        simp only [if_true]
        refine wp_if_neg (by simp [hne]) ?_
        exact sought ho hd W tp hx hk hu hK hKf hKb hQ f (c + (q + 1)) _ (by show nth t.mask (nth t.mask p0 c) (q + 1) = _; rw [← nth_add, hp0]) (by omega) (by omega)
      by_cases hl : t.led = true
      · refine wp_if_neg (by simp [hl]) ?_
        try refine wpAny_bind (wpAny_pure ?_)
        exact rest
      · refine wp_if_pos (by simp [hl]) ?_
        refine wpAny_bind (seen_tup hx (fun y hy => ?_) ?_)
        · obtain ⟨e0, he, ee⟩ := List.mem_map.mp hy
          have he2 : e0 ∈ es.toList := by
            have : e0 ∈ es ∧ e0.1 = thash P w k := by simpa using he
            simpa using this.1
          obtain ⟨p2, hp2, e2⟩ := W.ent e0 he2
          exact ⟨p2.2, p2.1, by rw [← ee, e2], tp p2 hp2⟩
        · refine wp_if_neg (by decide) ?_
          try refine wpAny_bind (wpAny_pure ?_)
          exact rest
    · rw [e]
      dsimp only
      refine wpAny_pure (hQ _ ?_)
      rw [hw, show c + (K - c) = K by omega]
      exact hK
theorem sought_at {o : Obj} {es : Array (Int × Value)} {ep : Nat} {t : SetTable} {x : Addr} {k : List Int} {Q : SetFound → Shared → Prop} (ho : s.heap.get? a = some o) (hd : o.data = .set es ep t) (W : Wl w L es t) (tp : ∀ p ∈ L, IsT P w s.heap p.2 p.1) (hx : IsT P w s.heap k x) (hk : k ∉ L.map (·.2)) (hu : A.units < cLine)
    (hQ : ∀ j, j ∉ t.place.toList → Q (.free j false) s) : wpAny (model P w) A (setSearch a (.ref x) (thash P w k) true) Q E s := by
  have := W.room
  obtain ⟨K, k1, k2, k3⟩ := first_free W.msk t.place.toList (by rw [Array.length_toList, W.ps]; omega) (thash P w k)
  have := mk_le W.msk
  have hb : K < 100000 := by
    unfold SetTable.turns at k1
    omega
  unfold setSearch
  exact sought ho hd W tp hx hk hu k2 k1 k3 hQ 100000 0 none rfl (Nat.zero_le _) (by omega)
theorem add_row {x : Addr} {k : List Int} {Q : Bool → Shared → Prop} (R : SetW P w s.heap a L) (hx : IsT P w s.heap k x) (hk : k ∉ L.map (·.2)) (hu : A.units < cLine) (few : L.length < 200)
    (hQ : ∀ b h', Heap.SameBut a s.heap h' → SetW P w h' a ((x, k) :: L) → Q b { s with heap := h' }) : wpAny (model P w) A (setAddHashed a (.ref x) (thash P w k)) Q E s := by
  obtain ⟨⟨o, es, ep, t, ho, hex, hd, W⟩, tp⟩ := R
  have hsz := W.sz
  have hroom := W.room
  unfold setAddHashed
  refine wpAny_holding ?_
  rw [show (100000 : Nat) = 99999 + 1 from rfl, setAddHashedIn_succ]
  refine wpAny_bind (wpAny_setState_of ho hd W.fits ?_)
  dsimp only
  refine wp_if_neg (by simp [byScan, Value.scannable]) ?_
  try refine wpAny_bind (wpAny_pure ?_)
  refine wpAny_bind (sought_at ho hd W tp hx hk hu fun j hj => ?_)
  dsimp only
  refine wpAny_bind (wpAny_setState_of ho hd W.fits ?_)
  dsimp only
  have hnp : t.place[SetTable.below t.place j]? ≠ some j := fun e => hj (List.mem_of_getElem? (by rw [Array.getElem?_toList]; exact e))
  have hpp := put_place t j
  have b1 := (below_cut W.ris j).1
  have hpl : (t.put j).1.place.size = es.size + 1 := by
    rw [← Array.length_toList, hpp, len_ins _ (by rw [Array.length_toList]; exact b1), Array.length_toList, W.ps]
  have hent : ∀ e, e ∈ (SetTable.insertAt es (SetTable.below t.place j) (thash P w k, Value.ref x)).toList → e = (thash P w k, Value.ref x) ∨ e ∈ es.toList := fun e he => by
    rw [SetTable.toList_insertAt] at he
    exact mem_ins.1 he
  have hes : (SetTable.insertAt es (SetTable.below t.place j) (thash P w k, Value.ref x)).size = es.size + 1 := by
    rw [← Array.length_toList, SetTable.toList_insertAt, len_ins _ (by rw [Array.length_toList, ← W.ps]; exact b1), Array.length_toList]
  have hris := ris_insert W.ris hnp
  have hdm := put_dm W.dm j
  have q2 : (t.put j).2 = SetTable.below t.place j := rfl
  have q3 : (t.put j).1.mask = t.mask := rfl
  have q4 : (t.put j).1.plain = t.plain := rfl
  have q5 : (t.put j).1.led = t.led := rfl
  have q6 : Ris (t.put j).1.place.toList := hris
  generalize t.put j = pt at hpl hdm q2 q3 q4 q5 q6 ⊢
  obtain ⟨t1, p⟩ := pt
  dsimp only at hpl hdm q2 q3 q4 q5 q6 ⊢
  subst q2
  generalize SetTable.insertAt es (SetTable.below t.place j) (thash P w k, Value.ref x) = es1 at hent hes ⊢
  have hp1 : t1.plain = true := by rw [q4]; exact W.plain
  have hled : w.params.followText "set-order" = true ∨ t1.led = true := by rw [q5]; exact W.led
  have hE : ∀ e ∈ es1.toList, ∃ p ∈ (x, k) :: L, e.2 = .ref p.1 := fun e he => by
    rcases hent e he with z | z
    · exact ⟨(x, k), List.mem_cons_self, by rw [z]⟩
    · obtain ⟨p, hp, e2⟩ := W.ent e z
      exact ⟨p, List.mem_cons_of_mem _ hp, e2⟩
  refine wp_if_pos hp1 (wpAny_bind (hashBy_tup hx ?_))
  simp only [if_true]
  refine wpAny_bind (wpAny_storeSet_of ho hd ?_ (by rw [hes, sizeLine_eq]; omega))
  have sb : Heap.SameBut a s.heap (s.heap.update a (Obj.putSet es1 t1)) := Heap.SameBut.update ..
  have ho1 := store_at (es' := es1) (t' := t1) ho hd
  generalize s.heap.update a (Obj.putSet es1 t1) = h1 at sb ho1 ⊢
  have tp1 : ∀ p ∈ (x, k) :: L, IsT P w h1 p.2 p.1 := fun p hp => by
    rcases List.mem_cons.mp hp with z | z
    · rw [z]
      exact isT_same hx ho hd sb
    · exact isT_same (tp p z) ho hd sb
  have hfill : t1.fill = es1.size := by
    unfold SetTable.fill
    rw [hdm, hpl, hes]
    rfl
  by_cases hf : t1.tooFull = true
  · first
      | (refine wpAny_bind ?_; refine wp_if_pos (by simp [hf]) ?_)
      | (refine wp_if_pos (by simp [hf]) ?_; refine wpAny_bind ?_)
    have hfull : (es.size + 1) * 5 ≥ t.mask * 3 := by
      unfold SetTable.tooFull at hf
      rw [decide_eq_true_eq, hfill, hes, q3] at hf
      exact hf
    obtain ⟨M, hM, hw, hlt⟩ : ∃ M, MK M ∧ SetTable.sizeAbove (SetTable.grown (es.size + 1)) - 1 = M ∧ (es.size + 1) * 5 < M * 3 := by
      have h20 : SetTable.sizeAbove (SetTable.grown 5) = 32 := by decide +kernel
      have h76 : SetTable.sizeAbove (SetTable.grown 19) = 128 := by decide +kernel
      have h308 : SetTable.sizeAbove (SetTable.grown 77) = 512 := by decide +kernel
      rcases W.msk with e | e | e | e <;> rw [e] at hroom hfull
      · exact ⟨31, .inr (.inl rfl), by rw [show es.size + 1 = 5 by omega, h20], by omega⟩
      · exact ⟨127, .inr (.inr (.inl rfl)), by rw [show es.size + 1 = 19 by omega, h76], by omega⟩
      · exact ⟨511, .inr (.inr (.inr rfl)), by rw [show es.size + 1 = 77 by omega, h308], by omega⟩
      · omega
    have hML := mk_le hM
    rw [setRelay_eq]
    have hfit1 : t1.fits es1.size = true := by
      unfold SetTable.fits
      rw [Bool.and_eq_true, beq_iff_eq, decide_eq_true_eq, hfill, q3, hes]
      exact ⟨hpl, by omega⟩
    refine wpAny_bind (wpAny_setState_of (s := { s with heap := h1 }) ho1 rfl hfit1 ?_)
    dsimp only
    refine wp_if_neg (by rw [sizeLine_eq]; omega) ?_
    try refine wpAny_bind (wpAny_pure ?_)
    obtain ⟨t2, order, e, hperm, g1, g2, g3, g4, g5, g6⟩ := laid_anew t1 (hs := es1.map (·.1)) (wanted := SetTable.grown (es.size + 1)) hw hM (by rw [Array.size_map, hes]; omega)
    rw [Array.size_map] at hperm g6
    have hpk := picked es1 hperm
    have hs2 : (order.filterMap (es1[·]?)).size = es1.size := by rw [← Array.length_toList, hpk.length_eq, Array.length_toList]
    rw [e]
    dsimp only
    refine wpAny_bind ?_
    refine wp_if_neg (by rw [hs2]; simp) ?_
    try refine wpAny_bind (wpAny_pure ?_)
    refine wpAny_pure ?_
    dsimp only
    refine wpAny_storeSet_of (s := { s with heap := h1 }) ho1 rfl ?_ (by rw [hs2, hes, sizeLine_eq]; omega)
    refine wpAny_pure (hQ true _ (sb.trans (Heap.SameBut.update ..)) ⟨⟨_, _, _, _, store_at ho1 rfl, ⟨hex.1, hex.2.1, hex.2.2⟩, rfl, ?_⟩, fun p hp => isT_same (tp1 p hp) ho1 rfl (Heap.SameBut.update ..)⟩)
    exact ⟨by rw [hs2, hes, hsz, List.length_cons], by rw [g6, hs2], g4, g5, by rw [g1]; exact hM, fun e he => hE e (hpk.mem_iff.mp he), by rw [g3]; exact hp1, by rw [g2]; exact hled, by rw [hs2, hes, g1]; exact hlt⟩
  · first
      | refine wp_if_neg (by simp [hf]) ?_
      | (refine wpAny_bind ?_; refine wp_if_neg (by simp [hf]) ?_; refine wpAny_pure ?_)
    refine wpAny_pure (hQ true h1 sb ⟨⟨_, _, _, _, ho1, ⟨hex.1, hex.2.1, hex.2.2⟩, rfl, by rw [hes, hsz, List.length_cons], by rw [hpl, hes], hdm, q6, by rw [q3]; exact W.msk, hE, hp1, hled, ?_⟩, tp1⟩)
    unfold SetTable.tooFull at hf
    rw [decide_eq_true_eq, hfill] at hf
    omega
theorem fill_rows (L : List (Addr × List Int)) (hn : (L.map (·.2)).Nodup) (hl : L.length ≤ 200) (hu : A.units < cLine) (S : Addr) (hlt : ∀ p ∈ L, p.1 < S) : Fill P w A S L.length (fun i v => ∃ p, L[i]? = some p ∧ v = .ref p.1) fun i h => SetW P w h S (L.take i).reverse ∧ ∀ p ∈ L, IsT P w h p.2 p.1 where
  keep := fun i h h' ⟨⟨⟨o, es, ep, t, ho, z⟩, _⟩, tl⟩ k => by
    have tl' : ∀ p ∈ L, IsT P w h' p.2 p.1 := fun p hp => by
      obtain ⟨o, items, n, ho, r⟩ := tl p hp
      exact ⟨o, items, n, k _ o ho (.inr (hlt p hp)), r⟩
    exact ⟨⟨⟨o, es, ep, t, k S o ho (.inl rfl), z⟩, fun p hp => tl' p (List.mem_of_mem_take (List.mem_reverse.mp hp))⟩, tl'⟩
  step := fun i v s Q E hi ⟨p, hp, hv⟩ ⟨R, tl⟩ hQ => by
    subst hv
    have hx := tl p (List.mem_of_getElem? hp)
    unfold setAdd
    refine wpAny_holding (wpAny_bind (wpAny_pyHash_tuple hu hx ?_))
    refine add_row (s := { s with toks := s.toks + (p.2.length + 1) }) R hx (fun z => ?_) hu (by rw [List.length_reverse, List.length_take]; omega) fun b h' sb R2 => hQ b h' _ (Nat.le_add_right _ _) sb ⟨?_, fun q hq => ?_⟩
    · obtain ⟨q, hq, e⟩ := List.mem_map.mp z
      obtain ⟨j, hj, ej⟩ := List.getElem_of_mem (List.mem_reverse.mp hq)
      rw [List.length_take] at hj
      rw [List.getElem_take] at ej
      have h1 : (L.map (·.2))[j]? = some p.2 := by
        rw [List.getElem?_map, List.getElem?_eq_getElem (by omega), ej, ← e]
        rfl
      have h2 : (L.map (·.2))[i]? = some p.2 := by rw [List.getElem?_map, hp]; rfl
      have := (List.getElem?_inj (by rw [List.length_map]; omega) hn).mp (h1.trans h2.symm)
      omega
    · rw [List.take_add_one, hp]
      show SetW P w h' S (L.take i ++ [p]).reverse
      rw [List.reverse_append]
      exact R2
    · obtain ⟨o, es, ep, t, ho, _, hd, _⟩ := R.1
      exact isT_same (tl q hq) ho hd sb
theorem call_setW {l : Addr} {items : Array Value} (L : List (Addr × List Int)) {Q : Value → Shared → Prop} (hh : A.handled = none) (hu : A.units + 4 < cLine) (hl : s.heap.IsList l items) (hit : items.toList = L.map fun p => Value.ref p.1) (hk : ∀ p ∈ L, IsT P w s.heap p.2 p.1) (hn : (L.map (·.2)).Nodup) (hle : L.length ≤ 200)
    (hQ : ∀ s2, (∀ b o, s.heap.get? b = some o → s2.heap.get? b = some o) → s2.gens = s.gens → s2.os = s.os → SetW P w s2.heap s.heap.objs.size L.reverse → Q (.ref s.heap.objs.size) s2) : wpAny (model P w) A (call (.type "set") [.ref l]) Q E s := by
  refine call_set1 (T := fun s2 => (∀ b o, s.heap.get? b = some o → s2.heap.get? b = some o) ∧ s2.gens = s.gens ∧ s2.os = s.os ∧ SetW P w s2.heap s.heap.objs.size L.reverse) hh (fun A' Q' E' h1 hun h2 => ?_) fun s2 ⟨z1, z2, z3, z4⟩ => hQ s2 z1 z2 z3 z4
  obtain ⟨ol, hol, hcl, nl, hdl⟩ := hl
  have hlt := Heap.lt_size hol
  have hsz : items.size = L.length := by
    have := congrArg List.length hit
    rw [Array.length_toList, List.length_map] at this
    exact this
  have hz : (s.heap.push (noSet w)).objs.size = s.heap.objs.size + 1 := Heap.size_push ..
  have hl1 : (s.heap.push (noSet w)).IsList l items := ⟨ol, Heap.get?_push_of_some _ hol, hcl, nl, hdl⟩
  have hne : l ≠ (s.heap.push (noSet w)).objs.size := by
    rw [hz]
    exact Nat.ne_of_lt (Nat.lt_succ_of_lt hlt)
  refine upd_of (T := "list") ⟨ol, Heap.get?_push_of_some _ hol, hcl⟩ F.sub_list_set F.sub_list_frozenset (by decide) (wpAny_pyIter_list hl1 (wpAny_runValue ?_))
  have W := (Walks.list (prog := P) (w := w) (A := A'.in1) h1 (s.heap.push (noSet w)).objs.size l hne items).toS
  rw [hsz] at W
  have hlt2 : ∀ p ∈ L, p.1 < s.heap.objs.size := fun p hp => by
    obtain ⟨o, _, _, ho, _⟩ := hk p hp
    exact Heap.lt_size ho
  refine fill_loop (walks_imp (Pv' := fun i v => ∃ p, L[i]? = some p ∧ v = .ref p.1) W fun i v hi hv => ?_) (fun z => ?_) (fun b hb => ?_) (fill_rows (A := A'.in1) L hn hle (by show A'.units + 1 < cLine; omega) s.heap.objs.size hlt2) L.length 0 _ (Nat.zero_add _)
    ⟨⟨_, Heap.get?_push_size _ rfl, rfl, rfl⟩, hl1.push _⟩ ⟨⟨⟨_, _, _, _, Heap.get?_push_of_some _ (Heap.get?_push_size _ rfl), ⟨rfl, rfl, rfl⟩, rfl, ?_⟩, (fun p hp => nomatch hp)⟩, fun p hp => ?_⟩ fun s' hm ⟨hj, _⟩ => h2 s' ⟨fun b u e => ?_, hm.gens, hm.os, ?_⟩
  · have q : items.toList[i]? = some v := by rw [Array.getElem?_toList]; exact hv
    rw [hit, List.getElem?_map] at q
    obtain ⟨p, e1, e2⟩ := Option.map_eq_some_iff.mp q
    exact ⟨p, e1, e2.symm⟩
  · rw [hz] at z
    simp only [List.mem_cons, List.mem_singleton, List.not_mem_nil, or_false] at z
    rcases z with z | z
    · exact absurd z (Nat.ne_of_lt (Nat.lt_succ_self _))
    · exact absurd z (Nat.ne_of_gt hlt)
  · rw [List.mem_singleton.mp hb, hz]
    exact Nat.lt_succ_self _
  · refine ⟨rfl, rfl, rfl, List.Pairwise.nil, .inl rfl, (fun e he => nomatch he), rfl, ?_, (by show 0 * 5 < 7 * 3; decide)⟩
    show _ ∨ (!w.params.followText "set-order") = true
    cases w.params.followText "set-order"
    · exact .inr rfl
    · exact .inl rfl
  · obtain ⟨o, its, n, ho, r⟩ := hk p hp
    exact ⟨o, its, n, Heap.get?_push_of_some _ (Heap.get?_push_of_some _ ho), r⟩
  · have hb := Heap.lt_size e
    refine hm.heap b u (fun z => ?_) (Heap.get?_push_of_some _ (Heap.get?_push_of_some _ e))
    rcases List.mem_cons.mp z with z | z
    · exact absurd z (Nat.ne_of_lt hb)
    · rw [List.mem_singleton.mp z, hz] at hb
      exact absurd hb (Nat.not_lt.mpr (Nat.le_succ _))
  · rw [List.take_length] at hj
    exact hj
end
def SetN (a : Addr) (n : Nat) : HO := .ext fun h => ∃ o es ep t, h.get? a = some o ∧ o.ExactSet ∧ o.data = .set es ep t ∧ t.fits es.size = true ∧ es.size = n
theorem setN_new {P : Program} {w : World} {H : Hp} {h : Heap} {a : Addr} {n : Nat} (R : ∃ o es ep t, h.get? a = some o ∧ o.ExactSet ∧ o.data = .set es ep t ∧ t.fits es.size = true ∧ es.size = n) : ObjOk P w H h a (SetN a n) := by
  have ⟨o, _, _, _, ho, _⟩ := R
  exact ⟨R, ⟨o, ho⟩, fun _ _ ⟨o, es, ep, t, ho, z⟩ k => ⟨o, es, ep, t, k o ho, z⟩⟩
def rSetR (K : PySem.W.Frag) : List V → Hp → VK → Prop := fun xs H Q => ∃ (l : Addr) (L : List (Addr × List Int)), xs = [.ref l] ∧ SqL K H l (L.map fun p => .ref p.1) ∧ (∀ p ∈ L, SqT K H p.1 (p.2.map V.int)) ∧ L.length ≤ 200 ∧ (L.map (·.2)).Nodup ∧ ∀ p, H p = none → Q (.ref p) (upd H p (SetN p L.length))
def rLenN : List V → Hp → VK → Prop := fun vs H Q => ∃ (a : Addr) (n : Nat), vs = [V.ref a] ∧ H a = some (SetN a n) ∧ n ≤ 1000 ∧ Q (.int n) H
section
variable {X : Cx}
theorem refs_are : ∀ {L : List (Addr × List Int)} {us : List Value}, Vals (L.map fun p => V.ref p.1) us → us = L.map fun p => Value.ref p.1
  | [], _, h => by cases h; rfl
  | p :: L, _, h => by
    rw [List.map_cons] at h
    cases h with
    | cons r t =>
      cases r
      rw [refs_are t, List.map_cons]
theorem cr_setR (hc : X.calm = true) (hu : X.A.units + 4 < cLine) : CallR X (.type "set") (rSetR X.K) := by
  intro pins s σ H xs us Q I r h
  obtain ⟨l, L, rfl, hT, hk, hle, hn, q⟩ := h
  rw [Vals.ref1 r]
  obtain ⟨its, rv, pl, hz⟩ := I.list hT
  refine call_setW (items := its.toArray) L (I.ok.hd hc) hu pl.isList (by rw [List.toList_toArray]; exact refs_are rv) (fun p hp => I.isT (hk p hp)) hn hle fun s2 k g o ⟨⟨ob, es, ep, t, h1, h2, h3, W⟩, _⟩ => ?_
  obtain ⟨hfn, J⟩ := inv_like I k g o (Nat.le_refl _) (setN_new (n := L.length) ⟨ob, es, ep, t, h1, h2, h3, W.fits, by rw [W.sz, List.length_reverse]⟩)
  exact ⟨.ref _, _, J, rfl, q _ hfn⟩
theorem cr_lenN : CallR X (.builtin "len") rLenN := by
  intro pins s σ H V us Q I r h
  obtain ⟨a, n, rfl, ha, hn, q⟩ := h
  rw [Vals.ref1 r]
  obtain ⟨o, es, ep, t, ho, hx, hd, hf, hsz⟩ := (I.hok a _ ha).1
  refine call_len_set ho hx hd hf (by rw [hsz]; omega) ⟨.int es.size, H, I.tok _, ⟨_, rfl⟩, ?_⟩
  rw [hsz]
  exact q
end
end Ls

set_option Elab.async false
set_option linter.all false
set_option maxRecDepth 100000
namespace LC
open PySem L2

inductive Sv where
  | bl (b : Bool) | int (i : Int)
  deriving DecidableEq
inductive Rf where
  | txt (s : Str) | dic (es : List (Int × Int × Str)) | gd (kvs : List (NestedKey × Sv)) | kd (kvs : List (Str × Int))
  deriving DecidableEq
instance rfZero : OfNat Rf 0 := ⟨.txt ""⟩
instance rfStr : Coe Str Rf := ⟨.txt⟩
inductive D where
  | non | bl (b : Bool) | int (i : Int) | str (s : Str) | ref (a : Rf)
  | tup (xs : List D) | lst (xs : List D)

def shlx (a b : List Nat) : Bool := decide (a.length < b.length) || (decide (a.length = b.length) && decide (a < b))
def betO : Option (List Nat) → List Nat → List Nat
  | none, o => o
  | some a, o => if shlx o a = true then o else a
def bestN : Nat → List Nat → List Nat
  | 0, l => l
  | k + 1, l => if l.length < 2 then l else
    ((List.range' 1 (l.length / 2)).foldl (fun o n => if l.length % n = 0 ∧ (List.replicate (l.length / n) (l.take n)).flatten = l then some (betO o ((toString ((l.length / n : Nat) : Int) : Str).cps.toList ++ [40] ++ bestN k (l.take n) ++ [41])) else o)
      ((List.range' 1 (l.length - 1)).foldl (fun o n => some (betO o (bestN k (l.take n) ++ bestN k (l.drop n)))) none)).getD []
def bestL (l : List Nat) : List Nat := bestN l.length l
def memG (s : Str) (i j : Int) : Str := ⟨(bestL ((s.cps.toList.take j.toNat).drop i.toNat)).toArray⟩

inductive R (α : Type) where
  | ok (a : α) | exc (c : Str) | bad

def R.bind {α β : Type} : R α → (α → R β) → R β
  | .ok a, f => f a
  | .exc c, _ => .exc c
  | .bad, _ => .bad

def LIM : Nat := 1000000

mutual
def toPy : D → PyData
  | .non => .none
  | .bl b => .bool b
  | .int i => .int i
  | .str s => .str s
  | .ref _ => .dict []
  | .tup xs => .tuple (toPys xs)
  | .lst xs => .list (toPys xs)
def toPys : List D → List PyData
  | [] => []
  | x :: xs => toPy x :: toPys xs
end

def truth : D → Option Bool
  | .non => some false
  | .bl b => some b
  | .int i => some (i != 0)
  | .str s => if s.length ≤ LIM then some ((s.length : Int) != 0) else none
  | .ref _ => none
  | .tup xs => some (!xs.isEmpty)
  | .lst xs => some (!xs.isEmpty)

def small64 (i : Int) : Bool := decide (-(2 ^ 64) < i) && decide (i < 2 ^ 64)

def dAdd : D → D → R D
  | .int i, .int j => .ok (.int (i + j))
  | .str a, .str b => if a.length + b.length ≤ LIM then .ok (.str (a ++ b)) else .bad
  | .tup a, .tup b => if a.length + b.length ≤ LIM then .ok (.tup (a ++ b)) else .bad
  | .lst a, .lst b => if a.length + b.length ≤ LIM then .ok (.lst (a ++ b)) else .bad
  | .bl k, .int j => .ok (.int ((if k = true then (1 : Int) else 0) + j))
  | _, _ => .bad
def dSub : D → D → R D
  | .int i, .int j => .ok (.int (i - j))
  | .bl k, .int j => .ok (.int ((if k = true then (1 : Int) else 0) - j))
  | .int i, .bl k => .ok (.int (i - if k = true then (1 : Int) else 0))
  | _, _ => .bad
def rep {α : Type} (xs : List α) (k : Int) : List α := (List.replicate k.toNat xs).flatten
def dMul : D → D → R D
  | .int i, .int j => if small64 i || small64 j then .ok (.int (i * j)) else .bad
  | .tup a, .int k => if a ≠ [] ∧ k ≤ 1000 ∧ a.length ≤ 1000 ∧ 0 ≤ k then .ok (.tup (rep a k)) else .bad
  | .lst a, .int k => if k ≤ 1000 ∧ a.length ≤ 1000 ∧ 0 ≤ k then .ok (.lst (rep a k)) else .bad
  | .str s, .int k => if k ≤ 1000 ∧ s.length ≤ 1000 ∧ 0 ≤ k then .ok (.str (Txt.mul s k)) else .bad
  | _, _ => .bad
def dDiv : D → D → R D
  | .int i, .int j => if 0 < j ∧ j < 1073741824 then .ok (.int (i / j)) else .bad
  | _, _ => .bad
def dMod : D → D → R D
  | .int i, .int j => if 0 < j then .ok (.int (i % j)) else .bad
  | .bl k, .int j => if 0 < j then .ok (.int ((if k = true then (1 : Int) else 0) % j)) else .bad
  | _, _ => .bad
def dPow : D → D → R D
  | .int i, .int j => if 0 ≤ j ∧ j ≤ 1000 ∧ small64 i then .ok (.int (i ^ j.toNat)) else .bad
  | _, _ => .bad
def dBin : Operator → D → D → R D
  | .Add, a, b => dAdd a b
  | .Sub, a, b => dSub a b
  | .Mult, a, b => dMul a b
  | .FloorDiv, a, b => dDiv a b
  | .Mod, a, b => dMod a b
  | .Pow, a, b => dPow a b
  | _, _, _ => .bad

def dEq (a b : D) : R Bool := if SeqAt.shaped (toPy a) && SeqAt.shaped (toPy b) then .ok (PyData.eqv (toPy a) (toPy b)) else .bad
def dOrd (p : Int → Int → Bool) : D → D → R D
  | .int i, .int j => .ok (.bl (p i j))
  | _, _ => .bad
def ltP (i : Int) (a : Str) (j : Int) (b : Str) : Bool := if i = j then (if (a == b) = true then false else decide (a.cps.toList < b.cps.toList)) else decide (i < j)
def gtP (i : Int) (a : Str) (j : Int) (b : Str) : Bool := if i = j then (if (a == b) = true then false else decide (b.cps.toList < a.cps.toList)) else decide (j < i)
def dOrdT (p : Int → Int → Bool) (t : Int → Str → Int → Str → Bool) : D → D → R D
  | .int i, .int j => .ok (.bl (p i j))
  | .tup [.int i, .str a], .tup [.int j, .str b] => .ok (.bl (t i a j b))
  | _, _ => .bad
def dIs : D → D → R Bool
  | .non, .non => .ok true
  | .non, .bl _ => .bad
  | .non, _ => .bad
  | .bl a, .bl b => .ok (decide (a = b))
  | _, .non => .ok false
  | _, _ => .bad
def dIn (x : D) : D → R Bool
  | .lst ys => if SeqAt.shaped (toPy x) && SeqAt.shaped (toPy (.lst ys)) then .ok (ys.any fun z => PyData.eqv (toPy z) (toPy x)) else .bad
  | .tup ys => if SeqAt.shaped (toPy x) && SeqAt.shaped (toPy (.tup ys)) then .ok (ys.any fun z => PyData.eqv (toPy z) (toPy x)) else .bad
  | .str z => match x with
    | .str s => match s.cps.toList with
      | [c] => .ok (decide (c ∈ z.cps.toList))
      | _ => .bad
    | _ => .bad
  | _ => .bad
def rB : R Bool → R D
  | .ok b => .ok (.bl b)
  | .exc c => .exc c
  | .bad => .bad
def rN : R Bool → R D
  | .ok b => .ok (.bl (!b))
  | .exc c => .exc c
  | .bad => .bad
def dCmp : CmpOp → D → D → R D
  | .Eq, a, b => rB (dEq a b)
  | .NotEq, a, b => rN (dEq a b)
  | .Lt, a, b => dOrdT (fun i j => decide (i < j)) ltP a b
  | .LtE, a, b => dOrd (fun i j => decide (i ≤ j)) a b
  | .Gt, a, b => dOrdT (fun i j => decide (j < i)) gtP a b
  | .GtE, a, b => dOrd (fun i j => decide (j ≤ i)) a b
  | .Is, a, b => rB (dIs a b)
  | .IsNot, a, b => rN (dIs a b)
  | .In, a, b => rB (dIn a b)
  | .NotIn, a, b => rN (dIn a b)

def dIdx : D → D → R D
  | .tup xs, .int i => match atI xs i with
    | some d => .ok d
    | none => .bad
  | .lst xs, .int i => match atI xs i with
    | some d => .ok d
    | none => .bad
  | .str s, .int i => if s.length ≤ LIM then match atI s.cps.toList i with
    | some c => .ok (.str ⟨#[c]⟩)
    | none => .bad
    else .bad
  | _, _ => .bad
def cutL {α : Type} (xs : List α) (lo hi : Option Int) : List α := (xs.drop (HT.sIx xs.length 0 lo)).take (HT.sIx xs.length xs.length hi - HT.sIx xs.length 0 lo)
def dCut (x : D) (l h : Option Int) : R D := match x with
  | .tup xs => .ok (.tup (cutL xs l h))
  | .lst xs => .ok (.lst (cutL xs l h))
  | .str s => if s.length ≤ LIM then .ok (.str (cutS s l h)) else .bad
  | _ => .bad

inductive Ty where
  | int | bool | str | tuple | list
  deriving DecidableEq
def dIsi : D → Ty → R Bool
  | .ref _, _ => .bad
  | .int _, .int => .ok true
  | .bl _, .int => .ok true
  | .bl _, .bool => .ok true
  | .str _, .str => .ok true
  | .tup _, .tuple => .ok true
  | .lst _, .list => .ok true
  | _, _ => .ok false

inductive Stp where
  | rev | even | odd
  deriving DecidableEq
def evens {α : Type} : List α → List α
  | [] => []
  | [x] => [x]
  | x :: _ :: r => x :: evens r
def stpL {α : Type} : Stp → List α → List α
  | .rev, xs => xs.reverse
  | .even, xs => evens xs
  | .odd, xs => evens xs.tail
def dStp (k : Stp) : D → R D
  | .tup xs => if xs.length ≤ LIM then .ok (.tup (stpL k xs)) else .bad
  | .lst xs => if xs.length ≤ LIM then .ok (.lst (stpL k xs)) else .bad
  | .str s => if k = .rev ∧ s.length ≤ LIM then .ok (.str ⟨s.cps.toList.reverse.toArray⟩) else .bad
  | _ => .bad

def intsOf : List D → Option (List Int)
  | [] => some []
  | .int i :: r => (intsOf r).map (i :: ·)
  | _ => none
def boolsOf : List D → Option (List Bool)
  | [] => some []
  | .bl i :: r => (boolsOf r).map (i :: ·)
  | _ => none
def maxL : Int → List Int → Int
  | m, [] => m
  | m, x :: r => maxL (if x > m then x else m) r
def minL : Int → List Int → Int
  | m, [] => m
  | m, x :: r => minL (if x < m then x else m) r

inductive Bi where
  | len | int | str | tuple | list | sum | max | min | abs | all | sorted
  deriving DecidableEq
def seqOf : D → Option (List D)
  | .tup xs => some xs
  | .lst xs => some xs
  | _ => none
def dLen : List D → R D
  | [.str s] => if s.length ≤ LIM then .ok (.int s.length) else .bad
  | [.tup xs] => .ok (.int xs.length)
  | [.lst xs] => .ok (.int xs.length)
  | _ => .bad
def dInt : List D → R D
  | [.int i] => .ok (.int i)
  | [.bl b] => .ok (.int (if b then 1 else 0))
  | [.str s] => if s.length ≤ 640 then match intText? s with
    | some n => .ok (.int n)
    | none => .bad
    else .bad
  | _ => .bad
def dStr : List D → R D
  | [.int i] => if i.natAbs < 10 ^ 250 then .ok (.str (toString i)) else .bad
  | _ => .bad
def dTuple : List D → R D
  | [.tup xs] => .ok (.tup xs)
  | [.lst xs] => .ok (.tup xs)
  | _ => .bad
def dList : List D → R D
  | [.tup xs] => .ok (.lst xs)
  | [.lst xs] => .ok (.lst xs)
  | [.str s] => if s.length ≤ LIM then .ok (.lst (s.cps.toList.map fun c => .str ⟨#[c]⟩)) else .bad
  | _ => .bad
def dSum : List D → R D
  | [.tup xs] => match intsOf xs with
    | some ns => .ok (.int ns.sum)
    | none => .bad
  | [.lst xs] => match intsOf xs with
    | some ns => .ok (.int ns.sum)
    | none => .bad
  | _ => .bad
def dMax : List D → R D
  | [.int i, .int j] => .ok (.int (maxL i [j]))
  | [.int i, .int j, .int k] => .ok (.int (maxL i [j, k]))
  | [.tup xs] => match intsOf xs with
    | some (n :: ns) => .ok (.int (maxL n ns))
    | _ => .bad
  | [.lst xs] => match intsOf xs with
    | some (n :: ns) => .ok (.int (maxL n ns))
    | _ => .bad
  | _ => .bad
def prS (p : Int × Str) : D := .tup [.int p.1, .str p.2]
def psOf : List D → Option (List (Int × Str))
  | [] => some []
  | .tup [.int i, .str t] :: r => (psOf r).map ((i, t) :: ·)
  | _ => none
def minP (p : Int × Str) (ps : List (Int × Str)) : Int × Str := ps.foldl (fun a y => if ltP y.1 y.2 a.1 a.2 = true then y else a) p
def dMin : List D → R D
  | [.int i, .int j] => .ok (.int (minL i [j]))
  | [.int i, .int j, .int k] => .ok (.int (minL i [j, k]))
  | [.tup xs] => match intsOf xs with
    | some (n :: ns) => .ok (.int (minL n ns))
    | _ => .bad
  | [.lst xs] => match intsOf xs with
    | some (n :: ns) => .ok (.int (minL n ns))
    | _ => match psOf xs with
      | some (p :: ps) => if PyData.canLayAll0 (toPys xs) = true then .ok (prS (minP p ps)) else .bad
      | _ => .bad
  | _ => .bad
def dAbs : List D → R D
  | [.int i] => .ok (.int (if i < 0 then -i else i))
  | _ => .bad
def dAll : List D → R D
  | [.lst xs] => match boolsOf xs with
    | some bs => .ok (.bl (bs.all id))
    | none => .bad
  | _ => .bad
def insI (x : Int) : List Int → List Int
  | [] => [x]
  | y :: r => if x ≤ y then x :: y :: r else y :: insI x r
def srtI : List Int → List Int
  | [] => []
  | x :: r => insI x (srtI r)
def leP (p q : Int × Int) : Prop := p.1 < q.1 ∨ (p.1 = q.1 ∧ p.2 ≤ q.2)
instance (p q : Int × Int) : Decidable (leP p q) := inferInstanceAs (Decidable (_ ∨ _))
def insP (x : Int × Int) : List (Int × Int) → List (Int × Int)
  | [] => [x]
  | y :: r => if leP x y then x :: y :: r else y :: insP x r
def srtP : List (Int × Int) → List (Int × Int)
  | [] => []
  | x :: r => insP x (srtP r)
def prsOf : List D → Option (List (Int × Int))
  | [] => some []
  | .tup [.int a, .int b] :: r => (prsOf r).map ((a, b) :: ·)
  | _ => none
def prD1 (p : Int × Int) : D := .tup [.int p.1, .int p.2]
def dSorted : List D → R D
  | [.lst xs] => match intsOf xs with
    | some ns => .ok (.lst ((srtI ns).map D.int))
    | none => match prsOf xs with
      | some ps => .ok (.lst ((srtP ps).map prD1))
      | none => .bad
  | [.tup xs] => match intsOf xs with
    | some ns => .ok (.lst ((srtI ns).map D.int))
    | none => .bad
  | _ => .bad
def insU (x : Int) : List Int → List Int
  | [] => [x]
  | y :: r => if x < y then x :: y :: r else if x = y then y :: r else y :: insU x r
def srtU : List Int → List Int
  | [] => []
  | x :: r => insU x (srtU r)
def rowsOf : List D → Option (List (List Int))
  | [] => some []
  | .tup xs :: r => match intsOf xs, rowsOf r with
    | some ns, some rs => some (ns :: rs)
    | _, _ => none
  | _ => none
def dSst : D → R D
  | .tup xs => match intsOf xs with
    | some ns => if ns.length < 64 then .ok (.lst ((srtU ns).map D.int)) else .bad
    | none => .bad
  | .lst xs => match intsOf xs with
    | some ns => if ns.length < 4000 ∧ (srtU ns).length < 64 then .ok (.lst ((srtU ns).map D.int)) else .bad
    | none => .bad
  | .str s => if s.cps.size < 64 then .ok (.lst ((srtU (s.cps.toList.map Int.ofNat)).map fun i => D.str (Ls.sgI i))) else .bad
  | _ => .bad
def dLss : D → R D
  | .tup xs => match intsOf xs with
    | some ns => if ns.length < 64 then .ok (.int (srtU ns).length) else .bad
    | none => .bad
  | .lst xs => match rowsOf xs with
    | some rs => if rs.length ≤ 200 ∧ rs.Nodup then .ok (.int rs.length) else .bad
    | none => .bad
  | _ => .bad
def strsOf : List D → Option (List Str)
  | [] => some []
  | .str i :: r => (strsOf r).map (i :: ·)
  | _ => none
inductive Mth where
  | join | split | index
  deriving DecidableEq
def dJoin (a : Str) : List D → R D
  | [.lst ys] => match strsOf ys with
    | some ss => if (ss.map (·.length)).sum + ss.length * a.length ≤ LIM then .ok (.str (Txt.join a ss)) else .bad
    | none => .bad
  | _ => .bad
def dSplit (a : Str) : List D → R D
  | [.str b] => if (b.length == 0) = false ∧ a.length ≤ LIM then .ok (.lst ((Txt.split a b).map D.str)) else .bad
  | _ => .bad
def dIndex (a : Str) : List D → R D
  | [.str b] => match Builtin.Str.occurrences a b 0 a.length 1 with
    | i :: _ => .ok (.int (i : Nat))
    | [] => .bad
  | _ => .bad
def dMth (m : Mth) (x : D) (ys : List D) : R D := match x with
  | .str a => match m with
    | .join => dJoin a ys
    | .split => dSplit a ys
    | .index => dIndex a ys
  | _ => .bad
def dRpl : D → Option D → Option D → R D
  | .str a, some (.str b), some (.str z) => if (b == z) = false ∧ a.length ≤ LIM ∧ z.length ≤ 14 then .ok (.str (Txt.replace a b z)) else .bad
  | _, _, _ => .bad
def dKin (neg : Bool) : D → Option (List (Str × D)) → R D
  | .str z, some kvs => .ok (.bl (if neg = true then !(kvs.lookup z).isSome else (kvs.lookup z).isSome))
  | _, _ => .bad
def dKget : D → Option (List (Str × D)) → R D
  | .str z, some kvs => match kvs.lookup z with
    | some d => .ok d
    | none => .bad
  | _, _ => .bad
def dBi : Bi → List D → R D
  | .len, xs => dLen xs
  | .int, xs => dInt xs
  | .str, xs => dStr xs
  | .tuple, xs => dTuple xs
  | .list, xs => dList xs
  | .sum, xs => dSum xs
  | .max, xs => dMax xs
  | .min, xs => dMin xs
  | .abs, xs => dAbs xs
  | .all, xs => dAll xs
  | .sorted, xs => dSorted xs

inductive Src where
  | seq | rng | enum | zip
  deriving DecidableEq
def rgL (lo : Int) (n : Nat) : List D := (List.range n).map fun i => D.int (lo + (i : Nat))
def rgC (lo c : Int) (n : Nat) : List D := (List.range n).map fun i => D.int (lo + (i : Nat) * c)
def enumL : Nat → List D → List D
  | _, [] => []
  | i, x :: r => .tup [.int (i : Nat), x] :: enumL (i + 1) r
def zipL : List D → List D → List D
  | x :: xs, y :: ys => .tup [x, y] :: zipL xs ys
  | _, _ => []
def small62 (i : Int) : Bool := decide (-(2 ^ 30) ≤ i) && decide (i < 2 ^ 30)
def itSeq : List D → R (List D)
  | [.tup xs] => .ok xs
  | [.lst xs] => .ok xs
  | [.str s] => .ok (s.cps.toList.map fun c => .str ⟨#[c]⟩)
  | _ => .bad
def itRng : List D → R (List D)
  | [.int n] => if small62 n then .ok (rgL 0 n.toNat) else .bad
  | [.int a, .int b] => if small62 a && small62 b then .ok (rgL a (b - a).toNat) else .bad
  | [.int a, .int b, .int c] => if (small62 a && small62 b && decide (0 < c ∧ c < 1000)) = true then .ok (rgC a c (if a < b then ((b - a - 1) / c + 1).toNat else 0)) else .bad
  | _ => .bad
def itEnum : List D → R (List D)
  | [x] => match seqOf x with
    | some xs => .ok (enumL 0 xs)
    | none => .bad
  | _ => .bad
def itZip : List D → R (List D)
  | [x, y] => match seqOf x, seqOf y with
    | some xs, some ys => .ok (zipL xs ys)
    | _, _ => .bad
  | _ => .bad
def rpOk : D → Bool
  | .tup xs => SeqAt.shaped (toPy (.tup xs)) && (toPy (.tup xs)).showable && !(toPy (.tup xs)).hasDict && decide ((toPy (.tup xs)).depth ≤ 20) && decide ((toPy (.tup xs)).shown.length ≤ 1000000)
  | _ => false
def dRpr (d : D) : R D := if rpOk d = true then .ok (.str (toPy d).shown) else .bad
def items : Src → List D → R (List D)
  | .seq, ds => itSeq ds
  | .rng, ds => itRng ds
  | .enum, ds => itEnum ds
  | .zip, ds => itZip ds

inductive Tg where
  | one (i : Nat) | many (is : List Nat)
  deriving DecidableEq

inductive E where
  | var (i : Nat)
  | cst (d : D)
  | glb (x : Str)
  | bin (o : Operator) (a b : E)
  | neg (a : E)
  | cmp (o : CmpOp) (a b : E)
  | chn (o o' : CmpOp) (a b c : E)
  | and (a b : E)
  | or (a b : E)
  | not (a : E)
  | idx (a b : E)
  | cut (a : E) (bl : Bool) (lo : E) (bh : Bool) (hi : E)
  | stp (k : Stp) (a : E)
  | tup (es : List E)
  | lst (es : List E)
  | call (f : Str) (es : List E)
  | bi (b : Bi) (es : List E)
  | isi (a : E) (t : Ty)
  | lc (own : List Nat) (tg : Tg) (k : Src) (ss : List E) (cond elt : E)
  | mth (m : Mth) (o : E) (es : List E)
  | rpl (o : E) (x y : Str)
  | kin (neg : Bool) (a : E) (x : Str)
  | kget (x : Str) (a : E)
  | sst (a : E)
  | rpr (a : E)
  | lss (a : E)
  /-- a reading method of the object in slot i, its fields in slots gs -/
  | mrd (i : Nat) (gs : List Nat) (m : Str) (es : List E)

inductive S where
  | set (i : Nat) (e : E)
  | own (i : Nat) (e : E)
  | unp (is : List Nat) (e : E)
  | app (i : Nat) (e : E)
  | ext (i : Nat) (e : E)
  | put (i : Nat) (k e : E)
  | frz (i : Nat)
  | ife (c : E) (a b : List S)
  | for_ (tg : Tg) (k : Src) (ss : List E) (body : List S)
  | whl (c : E) (body : List S)
  | ret (e : E)
  | pas
  | rse (c : Str)
  | nst (i : Nat) (tg : Tg) (k : Src) (ss : List E) (cond e : E)
  | told (i : Nat) (f : Str) (es : List E)
  | tif (g : Option E) (f : Str) (es : List E) (o : CmpOp) (e : E) (a b : List S)
  /-- a, b = e, e'; a, b = [..], a constant -/
  | par (i j : Nat) (a b : E)
  | pac (i j : Nat) (a : E) (d : D)
  /-- a call whose value is dropped -/
  | exp (e : E)

inductive UE where
  | p (e : E)
  | and (a b : UE)
  | cmp (o : CmpOp) (a b : UE)
  | add (a b : UE)
  /-- x[e], x a dict of texts; x.get(k, n); k in x; len(x) -/
  | kg (i : Nat) (e : E)
  | ggd (i : Nat) (k : E) (n : Int)
  | gin (neg : Bool) (i : Nat) (k : E)
  | gln (i : Nat)
inductive U where
  | set (i : Nat) (e : UE)
  | own (i : Nat) (e : E)
  | unp (is : List Nat) (e : E)
  | app (i : Nat) (e : E)
  /-- a, b = x.pop(0) -/
  | pop (is : List Nat) (i : Nat)
  /-- x = {}, x = {k: e}; x = {A: e, ..}, A .. names of texts; x[k] = e; x = y, y a dict -/
  | gn (i : Nat) (o : Option (E × E))
  | kn (i : Nat) (kes : List (Str × E))
  | gp (i : Nat) (k : E) (e : UE)
  | mv (i j : Nat)
  | ife (t : UE) (a b : List U)
  | whl (t : UE) (body : List U)
  | for_ (tg : Tg) (k : Src) (ss : List E) (body : List U)
  /-- for .. in x.items() -/
  | fog (tg : Tg) (i : Nat) (body : List U)
  | ret (e : UE)

inductive F where
  | p (e : E)
  | mcl (i : Nat) (gs : List Nat) (m : Str) (es : List E)
  | add (a b : F)
  | call2 (f : Str) (a b : F)
  | tmp (m rd : Str) (es : List E)
  | tmc (m : Str) (es : List E) (m2 : Str) (es2 : List E)
  | cmp (o : CmpOp) (a b : F)
  | and (a b : F)
  /-- x[a, b], x.get((a, b), d), x a dict -/
  | dg (i : Nat) (a b : E)
  | dgd (i : Nat) (a b : E) (d : Str)

inductive T where
  | p (s : S)
  | set (i : Nat) (f : F)
  | exp (f : F)
  | fs (i g : Nat) (e : E)
  | fl (i g : Nat)
  | fa (i g : Nat) (e : E)
  | fd (i g : Nat)
  | mem (x g b e : Nat) (body : List T)
  | new (i : Nat) (gs : List Nat) (m : Str) (es : List E)
  | ife (c : E) (a b : List T)
  | for_ (tg : Tg) (k : Src) (ss : List E) (body : List T)
  | whl (c : E) (body : List T)
  | ret (e : E)
  | retf (f : F)
  | rse (c : Str)
  /-- x = {}, x[a, b] = e -/
  | dn (i : Nat)
  | dp (i : Nat) (a b e : E)
  /-- a whole body with dicts of nested tuples -/
  | u (us : List U)

abbrev Rho := List (Option D)

structure Cf where
  glb : List (Str × D)
  call : Str → List D → R D
  dct : List (Str × List (Str × D))
  xc : Str → List D → Option Str
  md : Str → List D → List D → R D
  mc : Str → List D → List D → R (D × List D)

def get (ρ : Rho) (i : Nat) : R D := match ρ[i]? with
  | some (some d) => .ok d
  | _ => .bad
def gets (ρ : Rho) : List Nat → R (List D)
  | [] => .ok []
  | i :: is => (get ρ i).bind fun d => (gets ρ is).bind fun ds => .ok (d :: ds)
def wipeR (ρ : Rho) : List Nat → Rho
  | [] => ρ
  | v :: vs => (wipeR ρ vs).set v none
def setAll : List Nat → List D → Rho → Option Rho
  | [], [], ρ => some ρ
  | i :: is, d :: ds, ρ => setAll is ds (ρ.set i (some d))
  | _, _, _ => none
def bindT : Tg → D → Rho → Option Rho
  | .one i, d, ρ => some (ρ.set i (some d))
  | .many is, .tup ds, ρ => setAll is ds ρ
  | _, _, _ => none
def lcGo (f : D → R (Option D)) : List D → R (List D)
  | [] => .ok []
  | d :: ds => (f d).bind fun o => (lcGo f ds).bind fun r => .ok (match o with
    | some x => x :: r
    | none => r)
def rTruth : D → R Bool := fun d => match truth d with
  | some b => .ok b
  | none => .bad

def prt : Bool → R D → R (Option Int)
  | false, _ => .ok none
  | true, .ok (.int i) => .ok (some i)
  | true, .exc c => .exc c
  | true, _ => .bad
mutual
def ev (c : Cf) : E → Rho → R D
  | .var i, ρ => get ρ i
  | .cst d, _ => .ok d
  | .glb x, _ => match c.glb.lookup x with
    | some d => .ok d
    | none => .bad
  | .bin o a b, ρ => (ev c a ρ).bind fun x => (ev c b ρ).bind fun y => dBin o x y
  | .neg a, ρ => (ev c a ρ).bind fun x => match x with
    | .int i => .ok (.int (-i))
    | _ => .bad
  | .cmp o a b, ρ => (ev c a ρ).bind fun x => (ev c b ρ).bind fun y => dCmp o x y
  | .chn o o' a b e, ρ => (ev c a ρ).bind fun x => (ev c b ρ).bind fun y => (dCmp o x y).bind fun z => match z with
    | .bl true => (ev c e ρ).bind fun w => dCmp o' y w
    | .bl false => .ok (.bl false)
    | _ => .bad
  | .and a b, ρ => (ev c a ρ).bind fun x => match x with
    | .bl true => ev c b ρ
    | .bl false => .ok (.bl false)
    | _ => .bad
  | .or a b, ρ => (ev c a ρ).bind fun x => match x with
    | .bl true => .ok (.bl true)
    | .bl false => ev c b ρ
    | _ => .bad
  | .not a, ρ => (ev c a ρ).bind fun x => match x with
    | .bl b => .ok (.bl (!b))
    | _ => .bad
  | .idx a b, ρ => (ev c a ρ).bind fun x => (ev c b ρ).bind fun y => dIdx x y
  | .cut a bl lo bh hi, ρ => (ev c a ρ).bind fun x => (prt bl (ev c lo ρ)).bind fun l => (prt bh (ev c hi ρ)).bind fun h => dCut x l h
  | .stp k a, ρ => (ev c a ρ).bind fun x => dStp k x
  | .tup es, ρ => (evs c es ρ).bind fun xs => if xs.length ≤ LIM then .ok (.tup xs) else .bad
  | .lst es, ρ => (evs c es ρ).bind fun xs => if xs.length ≤ LIM then .ok (.lst xs) else .bad
  | .call f es, ρ => (evs c es ρ).bind fun xs => c.call f xs
  | .bi b es, ρ => (evs c es ρ).bind fun xs => dBi b xs
  | .isi a t, ρ => (ev c a ρ).bind fun x => rB (dIsi x t)
  | .lc own tg k ss cond elt, ρ => (evs c ss ρ).bind fun xs => (items k xs).bind fun its =>
      if its.length ≤ LIM then (lcGo (fun d => match bindT tg d (wipeR ρ own) with
        | some ρ' => (ev c cond ρ').bind fun t => (rTruth t).bind fun b => match b with
          | true => (ev c elt ρ').bind fun x => .ok (some x)
          | false => .ok none
        | none => .bad) its).bind fun r => .ok (.lst r) else .bad
  | .mth m o es, ρ => (ev c o ρ).bind fun x => (evs c es ρ).bind fun ys => dMth m x ys
  | .rpl o x y, ρ => (ev c o ρ).bind fun v => dRpl v (c.glb.lookup x) (c.glb.lookup y)
  | .kin neg a x, ρ => (ev c a ρ).bind fun v => dKin neg v (c.dct.lookup x)
  | .kget x a, ρ => (ev c a ρ).bind fun v => dKget v (c.dct.lookup x)
  | .sst a, ρ => (ev c a ρ).bind dSst
  | .rpr a, ρ => (ev c a ρ).bind dRpr
  | .lss a, ρ => (ev c a ρ).bind dLss
  | .mrd _ gs m es, ρ => (evs c es ρ).bind fun ds => (gets ρ gs).bind fun fs => c.md m ds fs
def evs (c : Cf) : List E → Rho → R (List D)
  | [], _ => .ok []
  | e :: es, ρ => (ev c e ρ).bind fun x => (evs c es ρ).bind fun xs => .ok (x :: xs)
end

inductive Fl where
  | nx (ρ : Rho) | rt (d : D)

def forGo (f : D → Rho → R Fl) : List D → Rho → R Fl
  | [], ρ => .ok (.nx ρ)
  | d :: ds, ρ => (f d ρ).bind fun z => match z with
    | .nx ρ' => forGo f ds ρ'
    | .rt x => .ok (.rt x)
def whlGo (t : Rho → R Bool) (f : Rho → R Fl) : Nat → Rho → R Fl
  | 0, _ => .bad
  | n + 1, ρ => (t ρ).bind fun b => match b with
    | true => (f ρ).bind fun z => match z with
      | .nx ρ' => whlGo t f n ρ'
      | .rt x => .ok (.rt x)
    | false => .ok (.nx ρ)

def setAt (xs : List D) (k : Int) (d : D) : Option (List D) := (ixN xs.length k).map fun j => xs.set j d

def nstGo (f : D → Rho → R (Option D × Rho)) : List D → List D → List D → Rho → R (List D × Rho)
  | [], dn, cu, ρ => .ok (dn ++ [.lst cu], ρ)
  | d :: r, dn, cu, ρ => (f d ρ).bind fun z => match z.1 with
    | none => if dn.length + 1 < LIM then nstGo f r (dn ++ [.lst cu]) [] z.2 else .bad
    | some x => if cu.length < LIM then nstGo f r dn (cu ++ [x]) z.2 else .bad
def nstF (c : Cf) (tg : Tg) (cond e : E) (d : D) (ρ : Rho) : R (Option D × Rho) := match bindT tg d ρ with
  | some ρ' => (ev c cond ρ').bind fun t => (rTruth t).bind fun b => match b with
    | true => .ok (none, ρ')
    | false => (ev c e ρ').bind fun x => .ok (some x, ρ')
  | none => .bad
def tldR : R D → Option Str → R D
  | .ok d, _ => .ok (.tup [.str "told", d])
  | _, some c => if c = "NoText" then .ok (.tup [.str "refused", .int 0]) else if c = "NoRoom" then .ok (.tup [.str "refused", .int 1]) else .bad
  | _, none => .bad
def gdR (c : Cf) : Option E → Rho → R Bool
  | none, _ => .ok true
  | some e, ρ => (ev c e ρ).bind rTruth
def tldV (c : Cf) (f : Str) (es : List E) (ρ : Rho) : R D := (evs c es ρ).bind fun ds => tldR (c.call f ds) (c.xc f ds)
mutual
def xs (c : Cf) (wf : Nat) : S → Rho → R Fl
  | .set i e, ρ => (ev c e ρ).bind fun d => .ok (.nx (ρ.set i (some d)))
  | .own i e, ρ => (ev c e ρ).bind fun d => match d with
    | .lst ds => match ρ[i]? with
      | some _ => .ok (.nx (ρ.set i (some (.lst ds))))
      | none => .bad
    | _ => .bad
  | .unp is e, ρ => (ev c e ρ).bind fun d => match seqOf d with
    | some ds => match setAll is ds ρ with
      | some ρ' => .ok (.nx ρ')
      | none => .bad
    | none => .bad
  | .app i e, ρ => (ev c e ρ).bind fun d => (get ρ i).bind fun l => match l with
    | .lst ds => if ds.length < LIM then .ok (.nx (ρ.set i (some (.lst (ds ++ [d]))))) else .bad
    | _ => .bad
  | .ext i e, ρ => (ev c e ρ).bind fun d => (get ρ i).bind fun l => match l, d with
    | .lst ds, .lst es => if ds.length + es.length < LIM then .ok (.nx (ρ.set i (some (.lst (ds ++ es))))) else .bad
    | _, _ => .bad
  | .put i k e, ρ => (ev c e ρ).bind fun d => (ev c k ρ).bind fun z => (get ρ i).bind fun l => match l, z with
    | .lst ds, .int n => match setAt ds n d with
      | some es => .ok (.nx (ρ.set i (some (.lst es))))
      | none => .bad
    | _, _ => .bad
  | .frz _, ρ => .ok (.nx ρ)
  | .ife t a b, ρ => (ev c t ρ).bind fun d => (rTruth d).bind fun v => match v with
    | true => xss c wf a ρ
    | false => xss c wf b ρ
  | .for_ tg k ss body, ρ => (evs c ss ρ).bind fun ys => (items k ys).bind fun its =>
      forGo (fun d ρ => match bindT tg d ρ with
        | some ρ' => xss c wf body ρ'
        | none => .bad) its ρ
  | .whl t body, ρ => whlGo (fun ρ => (ev c t ρ).bind rTruth) (fun ρ => xss c wf body ρ) wf ρ
  | .ret e, ρ => (ev c e ρ).bind fun d => .ok (.rt d)
  | .pas, ρ => .ok (.nx ρ)
  | .rse _, _ => .bad
  | .nst i tg k ss cond e, ρ => match ρ[i]? with
    | some _ => (evs c ss (ρ.set i (some (.ref 0)))).bind fun ys => (items k ys).bind fun its => (nstGo (nstF c tg cond e) its [] [] (ρ.set i (some (.ref 0)))).bind fun z => .ok (.nx (z.2.set i (some (.lst z.1))))
    | none => .bad
  | .told i f es, ρ => (evs c es ρ).bind fun ds => (tldR (c.call f ds) (c.xc f ds)).bind fun d => .ok (.nx (ρ.set i (some d)))
  | .tif g f es o e a b, ρ => (gdR c g ρ).bind fun v => match v with
    | true => (tldV c f es ρ).bind fun d => (ev c e ρ).bind fun x => (dCmp o d x).bind fun t => (rTruth t).bind fun v => match v with
      | true => xss c wf a ρ
      | false => xss c wf b ρ
    | false => xss c wf b ρ
  | .par i j a b, ρ => (ev c a ρ).bind fun x => (ev c b ρ).bind fun y => .ok (.nx ((ρ.set i (some x)).set j (some y)))
  | .pac i j a d, ρ => (ev c a ρ).bind fun x => match x with
    | .lst ds => match ρ[i]? with
      | some _ => .ok (.nx ((ρ.set i (some (.lst ds))).set j (some d)))
      | none => .bad
    | _ => .bad
  | .exp e, ρ => (ev c e ρ).bind fun _ => .ok (.nx ρ)
def xss (c : Cf) (wf : Nat) : List S → Rho → R Fl
  | [], ρ => .ok (.nx ρ)
  | s :: r, ρ => (xs c wf s ρ).bind fun z => match z with
    | .nx ρ' => xss c wf r ρ'
    | .rt x => .ok (.rt x)
end

def lcX (f : D → R (Option D)) (g : D → Option Str) : List D → Option Str
  | [] => none
  | d :: r => match g d with
    | some x => some x
    | none => match f d with
      | .ok _ => lcX f g r
      | _ => none
def xcl (c : Cf) : E → Rho → Option Str
  | .call f es, ρ => match evs c es ρ with
    | .ok ds => c.xc f ds
    | _ => none
  | _, _ => none
def xlc (c : Cf) : E → Rho → Option Str
  | .lc own tg k ss cond elt, ρ => match evs c ss ρ with
    | .ok ys => match items k ys with
      | .ok its => if its.length ≤ LIM then lcX (fun d => match bindT tg d (wipeR ρ own) with
        | some ρ' => (ev c elt ρ').bind fun x => .ok (some x)
        | none => .bad) (fun d => match bindT tg d (wipeR ρ own) with
        | some ρ' => xcl c elt ρ'
        | none => none) its else none
      | _ => none
    | _ => none
  | _, _ => none
def xev (c : Cf) : E → Rho → Option Str
  | .call f es, ρ => xcl c (.call f es) ρ
  | .lc own tg k ss cond elt, ρ => xlc c (.lc own tg k ss cond elt) ρ
  | .bi .tuple [e], ρ => xlc c e ρ
  | _, _ => none
mutual
def xr (c : Cf) (wf : Nat) : S → Rho → Option Str
  | .rse x, _ => some x
  | .ife t a b, ρ => match ev c t ρ with
    | .ok d => match rTruth d with
      | .ok true => xrs c wf a ρ
      | .ok false => xrs c wf b ρ
      | _ => none
    | _ => none
  | .set _ e, ρ => xev c e ρ
  | .ret e, ρ => xev c e ρ
  | _, _ => none
def xrs (c : Cf) (wf : Nat) : List S → Rho → Option Str
  | [], _ => none
  | s :: r, ρ => match xr c wf s ρ with
    | some x => some x
    | none => match xs c wf s ρ with
      | .ok (.nx ρ') => xrs c wf r ρ'
      | _ => none
end

def R.calm {α : Type} : R α → R α
  | .ok a => .ok a
  | _ => .bad
def isSc : D → Bool
  | .non => true
  | .bl _ => true
  | .int _ => true
  | .str _ => true
  | _ => false
def memAt (ρ : Rho) (g b e : Nat) : Option (Str × Int × Int) := match get ρ g, get ρ (g + 1), get ρ b, get ρ e with
  | .ok (.str s), .ok (.ref s'), .ok (.int i), .ok (.int j) => if s' = s ∧ 0 ≤ i ∧ 0 ≤ j ∧ i ≤ s.length ∧ j ≤ s.length ∧ s.length ≤ 900 then some (s, i, j) else none
  | _, _, _, _ => none
def isStr (ρ : Rho) (x : Nat) (s : Str) : Bool := match get ρ x with
  | .ok (.str s') => s' == s
  | _ => false
def memSt (g : Nat) (s : Str) : Rho := some (.ref 0) :: (List.replicate (g - 1) none ++ [some (.str s), some (.ref s)])
def isObj (ρ : Rho) : Bool := match ρ with
  | some (.ref s) :: _ => s == 0
  | _ => false
def dlk (es : List (Int × Int × Str)) (p q : Int) : Option Str := (es.find? fun e => decide (e.1 = p ∧ e.2.1 = q)).map (·.2.2)
def dGt (o : Option Str) : D → D → D → R D
  | .ref (.dic es), .int p, .int q => match dlk es p q with
    | some t => .ok (.str t)
    | none => match o with
      | some t => .ok (.str t)
      | none => .bad
  | _, _, _ => .bad
def dPt : D → D → D → D → R D
  | .ref (.dic es), .int p, .int q, .str t => if (dlk es p q).isNone = true ∧ es.length < LIM then .ok (.ref (.dic (es ++ [(p, q, t)]))) else .bad
  | _, _, _, _ => .bad
def yF (c : Cf) : F → Rho → R (D × Rho)
  | .p e, ρ => (ev c e ρ).calm.bind fun d => .ok (d, ρ)
  | .mcl _ gs m es, ρ => (evs c es ρ).calm.bind fun ds => (gets ρ gs).calm.bind fun fs => (c.mc m ds fs).bind fun z => match setAll gs z.2 ρ with
    | some ρ' => .ok (z.1, ρ')
    | none => .bad
  | .add a b, ρ => (yF c a ρ).bind fun x => (yF c b x.2).bind fun y => (dAdd x.1 y.1).calm.bind fun d => .ok (d, y.2)
  | .call2 f a b, ρ => (yF c a ρ).bind fun x => (yF c b x.2).bind fun y => (c.call f [x.1, y.1]).calm.bind fun d => .ok (d, y.2)
  | .tmp m rd es, ρ => (evs c es ρ).calm.bind fun ds => (c.mc m ds []).calm.bind fun z => (c.md rd [] z.2).calm.bind fun d => .ok (d, ρ)
  | .tmc m es m2 es2, ρ => (evs c es ρ).calm.bind fun ds => (c.mc m ds []).calm.bind fun z => (evs c es2 ρ).calm.bind fun ds2 => if ds2.all isSc = true then (c.mc m2 ds2 z.2).bind fun y => .ok (y.1, ρ) else .bad
  | .cmp o a b, ρ => (yF c a ρ).bind fun x => (yF c b x.2).bind fun y => (dCmp o x.1 y.1).calm.bind fun d => .ok (d, y.2)
  | .and a b, ρ => (yF c a ρ).bind fun x => match x.1 with
    | .bl true => yF c b x.2
    | .bl false => .ok (.bl false, x.2)
    | _ => .bad
  | .dg i a b, ρ => (ev c a ρ).calm.bind fun x => (ev c b ρ).calm.bind fun y => (get ρ i).calm.bind fun l => (dGt none l x y).calm.bind fun d => .ok (d, ρ)
  | .dgd i a b t, ρ => (ev c a ρ).calm.bind fun x => (ev c b ρ).calm.bind fun y => (get ρ i).calm.bind fun l => (dGt (some t) l x y).calm.bind fun d => .ok (d, ρ)
def forT (f : D → Rho → R (Rho × Option D)) : List D → Rho → R (Rho × Option D)
  | [], ρ => .ok (ρ, none)
  | d :: ds, ρ => (f d ρ).bind fun z => match z.2 with
    | none => forT f ds z.1
    | some _ => .ok z
def whlT (t : Rho → R Bool) (f : Rho → R (Rho × Option D)) : Nat → Rho → R (Rho × Option D)
  | 0, _ => .bad
  | n + 1, ρ => (t ρ).bind fun b => match b with
    | true => (f ρ).bind fun z => match z.2 with
      | none => whlT t f n z.1
      | some _ => .ok z
    | false => .ok (ρ, none)
mutual
def nkOf : D → Option NestedKey
  | .int i => some (.num i)
  | .str s => some (.text s)
  | .tup ds => (nksOf ds).map .tup
  | _ => none
def nksOf : List D → Option (List NestedKey)
  | [] => some []
  | d :: r => match nkOf d, nksOf r with
    | some k, some ks => some (k :: ks)
    | _, _ => none
end
mutual
def nkD : NestedKey → D
  | .none => .non
  | .num i => .int i
  | .text s => .str s
  | .tup ks => .tup (nkDs ks)
def nkDs : List NestedKey → List D
  | [] => []
  | k :: ks => nkD k :: nkDs ks
end
def isTk : NestedKey → Bool
  | .tup ks => decide ((NestedKey.tup ks).depth ≤ 8)
  | _ => false
def gk (d : D) : Option NestedKey := match nkOf d with
  | some k => if isTk k = true then some k else none
  | none => none
def svD : Sv → D
  | .bl b => .bl b
  | .int i => .int i
def svOf : D → Option Sv
  | .bl b => some (.bl b)
  | .int i => some (.int i)
  | _ => none
def gLk (kvs : List (NestedKey × Sv)) (k : NestedKey) : Option Sv := (kvs.find? fun p => decide (p.1 = k)).map (·.2)
def gSt (kvs : List (NestedKey × Sv)) (k : NestedKey) (v : Sv) : List (NestedKey × Sv) := if (kvs.any fun p => decide (p.1 = k)) = true then kvs.map fun p => if p.1 = k then (p.1, v) else p else kvs ++ [(k, v)]
def dKg : D → D → R D
  | .ref (.kd kvs), .str s => match kvs.lookup s with
    | some n => .ok (.int n)
    | none => .bad
  | _, _ => .bad
def dGgd (n : Int) : D → D → R D
  | .ref (.gd kvs), x => match gk x with
    | some k => .ok (match gLk kvs k with
      | some v => svD v
      | none => .int n)
    | none => .bad
  | _, _ => .bad
def dGin (neg : Bool) : D → D → R D
  | .ref (.gd kvs), x => match gk x with
    | some k => .ok (.bl (if neg = true then !(gLk kvs k).isSome else (gLk kvs k).isSome))
    | none => .bad
  | _, _ => .bad
def dGln : D → R D
  | .ref (.gd kvs) => .ok (.int kvs.length)
  | _ => .bad
def dGp : D → D → D → R D
  | .ref (.gd kvs), x, v => match gk x, svOf v with
    | some k, some v => if kvs.length < LIM then .ok (.ref (.gd (gSt kvs k v))) else .bad
    | _, _ => .bad
  | _, _, _ => .bad
def uE (c : Cf) : UE → Rho → R D
  | .p e, ρ => ev c e ρ
  | .and a b, ρ => (uE c a ρ).bind fun x => match x with
    | .bl true => uE c b ρ
    | .bl false => .ok (.bl false)
    | _ => .bad
  | .cmp o a b, ρ => (uE c a ρ).bind fun x => (uE c b ρ).bind fun y => dCmp o x y
  | .add a b, ρ => (uE c a ρ).bind fun x => (uE c b ρ).bind fun y => dAdd x y
  | .kg i e, ρ => (get ρ i).bind fun l => (ev c e ρ).bind fun x => dKg l x
  | .ggd i k n, ρ => (get ρ i).bind fun l => (ev c k ρ).bind fun x => dGgd n l x
  | .gin neg i k, ρ => (ev c k ρ).bind fun x => (get ρ i).bind fun l => dGin neg l x
  | .gln i, ρ => (get ρ i).bind fun l => dGln l
def glbS (c : Cf) : List Str → Option (List Str)
  | [] => some []
  | x :: r => match c.glb.lookup x, glbS c r with
    | some (.str s), some ss => some (s :: ss)
    | _, _ => none
def putO (ρ : Rho) (i : Nat) (d : D) : R (Rho × Option D) := match ρ[i]? with
  | some _ => .ok (ρ.set i (some d), none)
  | none => .bad
def uGn (ρ : Rho) (i : Nat) : Option NestedKey → Option Sv → R (Rho × Option D)
  | some k, some v => putO ρ i (.ref (.gd [(k, v)]))
  | _, _ => .bad
def uKn (ρ : Rho) (i : Nat) : Option (List Str) → Option (List Int) → R (Rho × Option D)
  | some ks, some ns => if ks.Nodup then putO ρ i (.ref (.kd (ks.zip ns))) else .bad
  | _, _ => .bad
def uUnp (ρ : Rho) (is : List Nat) (d : D) : R (Rho × Option D) := match seqOf d with
  | some ds => match setAll is ds ρ with
    | some ρ' => .ok (ρ', none)
    | none => .bad
  | none => .bad
def gItems (kvs : List (NestedKey × Sv)) : List D := kvs.map fun p => .tup [nkD p.1, svD p.2]
mutual
def uU (c : Cf) (wf : Nat) : U → Rho → R (Rho × Option D)
  | .set i e, ρ => (uE c e ρ).bind fun d => .ok (ρ.set i (some d), none)
  | .own i e, ρ => (ev c e ρ).bind fun d => match d with
    | .lst ds => putO ρ i (.lst ds)
    | _ => .bad
  | .unp is e, ρ => (ev c e ρ).bind fun d => uUnp ρ is d
  | .app i e, ρ => (ev c e ρ).bind fun d => (get ρ i).bind fun l => match l with
    | .lst ds => if ds.length < LIM then .ok (ρ.set i (some (.lst (ds ++ [d]))), none) else .bad
    | _ => .bad
  | .pop is i, ρ => (get ρ i).bind fun l => match l with
    | .lst (d :: ds) => uUnp (ρ.set i (some (.lst ds))) is d
    | _ => .bad
  | .gn i none, ρ => putO ρ i (.ref (.gd []))
  | .gn i (some (k, e)), ρ => (ev c k ρ).bind fun x => (ev c e ρ).bind fun v => uGn ρ i (gk x) (svOf v)
  | .kn i kes, ρ => (evs c (kes.map (·.2)) ρ).bind fun vs => uKn ρ i (glbS c (kes.map (·.1))) (intsOf vs)
  | .gp i k e, ρ => (uE c e ρ).bind fun v => (get ρ i).bind fun l => (ev c k ρ).bind fun x => (dGp l x v).bind fun d => .ok (ρ.set i (some d), none)
  | .mv i j, ρ => (get ρ j).bind fun l => match l with
    | .ref (.gd kvs) => putO ρ i (.ref (.gd kvs))
    | _ => .bad
  | .ife t a b, ρ => (uE c t ρ).bind fun d => (rTruth d).bind fun v => match v with
    | true => uUs c wf a ρ
    | false => uUs c wf b ρ
  | .whl t body, ρ => whlT (fun ρ => (uE c t ρ).bind rTruth) (fun ρ => uUs c wf body ρ) wf ρ
  | .for_ tg k ss body, ρ => (evs c ss ρ).bind fun ys => (items k ys).bind fun its =>
      forT (fun d ρ => match bindT tg d ρ with
        | some ρ' => uUs c wf body ρ'
        | none => .bad) its ρ
  | .fog tg i body, ρ => (get ρ i).bind fun l => match l with
    | .ref (.gd kvs) => forT (fun d ρ => match bindT tg d ρ with
        | some ρ' => uUs c wf body ρ'
        | none => .bad) (gItems kvs) ρ
    | _ => .bad
  | .ret e, ρ => (uE c e ρ).bind fun d => .ok (ρ, some d)
def uUs (c : Cf) (wf : Nat) : List U → Rho → R (Rho × Option D)
  | [], ρ => .ok (ρ, none)
  | s :: r, ρ => (uU c wf s ρ).bind fun z => match z.2 with
    | none => uUs c wf r z.1
    | some _ => .ok z
end
def yP : R Fl → R (Rho × Option D)
  | .ok (.nx ρ) => .ok (ρ, none)
  | _ => .bad
mutual
def yT (c : Cf) (wf : Nat) : T → Rho → R (Rho × Option D)
  | .p s, ρ => yP (xs c wf s ρ)
  | .set i f, ρ => (yF c f ρ).bind fun z => .ok (z.2.set i (some z.1), none)
  | .exp f, ρ => (yF c f ρ).bind fun z => .ok (z.2, none)
  | .fs _ g e, ρ => (ev c e ρ).calm.bind fun d => .ok (ρ.set g (some d), none)
  | .fl _ g, ρ => .ok (ρ.set g (some (.lst [])), none)
  | .fa _ g e, ρ => (ev c e ρ).calm.bind fun d => (get ρ g).calm.bind fun l => match l with
    | .lst ds => if ds.length < LIM then .ok (ρ.set g (some (.lst (ds ++ [d]))), none) else .bad
    | _ => .bad
  | .fd _ g, ρ => (get ρ (g - 1)).calm.bind fun s => match s with
    | .str s => if s.length ≤ 900 then .ok (ρ.set g (some (.ref s)), none) else .bad
    | _ => .bad
  | .mem x g b e body, ρ => match memAt ρ g b e with
    | some (s, i, j) => if ρ.length = g + 2 ∧ isObj ρ = true ∧ 0 < g then (yTs c wf body ρ).calm.bind fun z => match z.2 with
        | none => if memAt z.1 g b e = some (s, i, j) ∧ isStr z.1 x (memG s i j) = true ∧ z.1.length = g + 2 ∧ isObj z.1 = true then .ok (memSt g s, some (.str (memG s i j))) else .bad
        | some _ => .bad
      else .bad
    | none => .bad
  | .new i gs m es, ρ => (evs c es ρ).calm.bind fun ds => (c.mc m ds []).calm.bind fun z => match setAll gs z.2 (ρ.set i (some (.ref 0))) with
    | some ρ' => .ok (ρ', none)
    | none => .bad
  | .ife t a b, ρ => (ev c t ρ).calm.bind fun d => (rTruth d).calm.bind fun v => match v with
    | true => yTs c wf a ρ
    | false => yTs c wf b ρ
  | .for_ tg k ss body, ρ => (evs c ss ρ).calm.bind fun ys => (items k ys).calm.bind fun its =>
      forT (fun d ρ => match bindT tg d ρ with
        | some ρ' => yTs c wf body ρ'
        | none => .bad) its ρ
  | .whl t body, ρ => whlT (fun ρ => ((ev c t ρ).bind rTruth).calm) (fun ρ => yTs c wf body ρ) wf ρ
  | .ret e, ρ => (ev c e ρ).calm.bind fun d => .ok (ρ, some d)
  | .retf f, ρ => (yF c f ρ).bind fun z => .ok (z.2, some z.1)
  | .rse x, _ => .exc x
  | .dn i, ρ => match ρ[i]? with
    | some _ => .ok (ρ.set i (some (.ref (.dic []))), none)
    | none => .bad
  | .dp i a b e, ρ => (ev c e ρ).calm.bind fun v => (ev c a ρ).calm.bind fun x => (ev c b ρ).calm.bind fun y => (get ρ i).calm.bind fun l => (dPt l x y v).calm.bind fun d => .ok (ρ.set i (some d), none)
  | .u us, ρ => (uUs c wf us ρ).calm
def yTs (c : Cf) (wf : Nat) : List T → Rho → R (Rho × Option D)
  | [], ρ => .ok (ρ, none)
  | s :: r, ρ => (yT c wf s ρ).bind fun z => match z.2 with
    | none => yTs c wf r z.1
    | some _ => .ok z
end

structure Fn where
  np : Nat
  ns : Nat
  body : List S
  tb : Option (List T)
structure Rd1 where
  q : Nat
  np : Nat
  nf : Nat
  e : E
structure Mt1 where
  q : Nat
  np : Nat
  ns : Nat
  nf : Nat
  init : Bool
  body : List T

def startR (fn : Fn) (ds : List D) : Rho := ds.map some ++ List.replicate (fn.ns - ds.length) none
def finish : R Fl → R D
  | .ok (.nx _) => .ok .non
  | .ok (.rt d) => .ok d
  | .exc c => .exc c
  | .bad => .bad

structure Pg where
  glb : List (Str × D)
  fns : List (Str × Fn)
  wf : Nat
  dct : List (Str × List (Str × D))
  rps : List (Str × Str)
  mrs : List (Str × Rd1)
  mts : List (Str × Mt1)

def finT : R (Rho × Option D) → R D
  | .ok (_, some d) => .ok d
  | .ok (_, none) => .ok .non
  | .exc c => .exc c
  | .bad => .bad
def excT : R (Rho × Option D) → Option Str
  | .exc c => some c
  | _ => none
def startM (np ns : Nat) (nf : Nat) (ds fs : List D) : Rho := some (.ref 0) :: ds.map some ++ List.replicate (ns - np - 1) none ++ (fs.map some ++ List.replicate (nf - fs.length) none)
def allS : Rho → Option (List D)
  | [] => some []
  | some d :: r => (allS r).map (d :: ·)
  | none :: _ => none
def finM (ns nf : Nat) : R (Rho × Option D) → R (D × List D)
  | .ok (ρ, o) => match allS ((ρ.drop ns).take nf) with
    | some fs => .ok (o.getD .non, fs)
    | none => .bad
  | .exc c => .exc c
  | .bad => .bad
structure RB where
  call : Str → List D → R D
  xc : Str → List D → Option Str
  md : Str → List D → List D → R D
  mc : Str → List D → List D → R (D × List D)
def cfB (p : Pg) (r : RB) : Cf := ⟨p.glb, r.call, p.dct, r.xc, r.md, r.mc⟩
def runB (p : Pg) : Nat → RB
  | 0 => ⟨fun _ _ => .bad, fun _ _ => none, fun _ _ _ => .bad, fun _ _ _ => .bad⟩
  | n + 1 => ⟨fun f ds => match p.fns.lookup f with
    | some fn => if ds.length = fn.np then match fn.tb with
      | none => finish (xss (cfB p (runB p n)) p.wf fn.body (startR fn ds))
      | some ts => finT (yTs (cfB p (runB p n)) p.wf ts (startR fn ds)) else .bad
    | none => .bad,
    fun f ds => match p.fns.lookup f with
    | some fn => if ds.length = fn.np then match fn.tb with
      | none => xrs (cfB p (runB p n)) p.wf fn.body (startR fn ds)
      | some ts => excT (yTs (cfB p (runB p n)) p.wf ts (startR fn ds)) else none
    | none => none,
    fun m ds fs => match p.mrs.lookup m with
    | some q => if ds.length = q.np ∧ fs.length = q.nf then ev (cfB p (runB p n)) q.e (startM q.np (q.np + 1) q.nf ds fs) else .bad
    | none => .bad,
    fun m ds fs => match p.mts.lookup m with
    | some q => if ds.length = q.np ∧ fs.length = (if q.init = true then 0 else q.nf) ∧ (q.init = true → 1 ≤ n) then finM q.ns q.nf (yTs (cfB p (runB p n)) p.wf q.body (startM q.np q.ns q.nf ds fs)) else .bad
    | none => .bad⟩
def run (p : Pg) (n : Nat) : Str → List D → R D := (runB p n).call
def runX (p : Pg) (n : Nat) : Str → List D → Option Str := (runB p n).xc
def runD (p : Pg) (n : Nat) : Str → List D → List D → R D := (runB p n).md
def runM (p : Pg) (n : Nat) : Str → List D → List D → R (D × List D) := (runB p n).mc
def cfOf (p : Pg) (n : Nat) : Cf := ⟨p.glb, run p n, p.dct, runX p n, runD p n, runM p n⟩
theorem run_zero {p : Pg} {f : Str} {ds : List D} : run p 0 f ds = .bad := rfl
theorem run_succ {p : Pg} {n : Nat} {f : Str} {ds : List D} : run p (n + 1) f ds = match p.fns.lookup f with
    | some fn => if ds.length = fn.np then match fn.tb with
      | none => finish (xss (cfOf p n) p.wf fn.body (startR fn ds))
      | some ts => finT (yTs (cfOf p n) p.wf ts (startR fn ds)) else .bad
    | none => .bad := rfl
end LC

set_option Elab.async false
set_option linter.all false
set_option maxRecDepth 100000
set_option maxHeartbeats 1000000
namespace LC
open PySem L2

def TupAt (K : PySem.W.Frag) (O : Addr → Prop) (H : Hp) (a : Addr) (vs : List V) : Prop := (Rd H a (.tup vs) ∧ ¬ O a) ∨ SqT K (fun _ => none) a vs
def LstAt (O : Addr → Prop) (H : Hp) (a : Addr) (vs : List V) : Prop := Rd H a (.lst vs) ∧ ¬ O a

mutual
def Rp (K : PySem.W.Frag) (O : Addr → Prop) (H : Hp) : D → V → Prop
  | .non, v => v = .non
  | .bl b, v => v = .bl b
  | .int i, v => v = .int i
  | .str s, v => v = .str s
  | .ref _, v => ∃ b, v = .ref b
  | .tup ds, v => ∃ a vs, v = .ref a ∧ TupAt K O H a vs ∧ RpL K O H ds vs
  | .lst ds, v => ∃ a vs, v = .ref a ∧ LstAt O H a vs ∧ RpL K O H ds vs
def RpL (K : PySem.W.Frag) (O : Addr → Prop) (H : Hp) : List D → List V → Prop
  | [], vs => vs = []
  | d :: ds, vs => ∃ v r, vs = v :: r ∧ Rp K O H d v ∧ RpL K O H ds r
end

def NT (o : HO) : Prop := ∀ ps, o ≠ .tbl ps
structure Keep (O O' : Addr → Prop) (H H' : Hp) : Prop where
  heap : ∀ b o, H b = some o → ¬ O b ∧ NT o → H' b = some o
  own : ∀ b, (∃ o, H b = some o ∧ NT o) → O' b → O b

theorem liv_ne {H : Hp} {b : Addr} (h : ∃ o, H b = some o ∧ NT o) : H b ≠ none := fun z => by
  obtain ⟨o, e, _⟩ := h
  rw [z] at e
  exact nomatch e
section
variable {K : PySem.W.Frag} {O O' : Addr → Prop} {H H' H2 : Hp} {a : Addr} {vs ws : List V} {ds es : List D} {d : D} {v : V}
theorem Keep.rd (k : Keep O O' H H') {u : HO} (h : Rd H a u) (n : ¬ O a) (nt : NT u) : Rd H' a u ∧ ¬ O' a := by
  rcases h with h | ⟨o, h⟩
  · exact ⟨.inl (k.heap _ _ h ⟨n, nt⟩), fun z => n (k.own a ⟨_, h, nt⟩ z)⟩
  · exact ⟨.inr ⟨o, k.heap _ _ h ⟨n, fun ps z => nomatch z⟩⟩, fun z => n (k.own a ⟨_, h, fun ps z => nomatch z⟩ z)⟩
theorem Keep.tupAt (k : Keep O O' H H') (h : TupAt K O H a vs) : TupAt K O' H' a vs := by
  rcases h with ⟨h, n⟩ | h
  · exact .inl (k.rd h n fun ps z => nomatch z)
  · exact .inr h
theorem Keep.lstAt (k : Keep O O' H H') (h : LstAt O H a vs) : LstAt O' H' a vs := k.rd h.1 h.2 fun ps z => nomatch z
mutual
theorem Keep.rp (k : Keep O O' H H') : ∀ (d : D) (v : V), Rp K O H d v → Rp K O' H' d v
  | .non, _, h => by rw [Rp] at h ⊢; exact h
  | .bl _, _, h => by rw [Rp] at h ⊢; exact h
  | .int _, _, h => by rw [Rp] at h ⊢; exact h
  | .str _, _, h => by rw [Rp] at h ⊢; exact h
  | .ref _, _, h => by rw [Rp] at h ⊢; exact h
  | .tup ds, _, h => by
    rw [Rp] at h ⊢
    obtain ⟨a, vs, e, t, l⟩ := h
    exact ⟨a, vs, e, k.tupAt t, Keep.rpl k ds vs l⟩
  | .lst ds, _, h => by
    rw [Rp] at h ⊢
    obtain ⟨a, vs, e, t, l⟩ := h
    exact ⟨a, vs, e, k.lstAt t, Keep.rpl k ds vs l⟩
theorem Keep.rpl (k : Keep O O' H H') : ∀ (ds : List D) (vs : List V), RpL K O H ds vs → RpL K O' H' ds vs
  | [], _, h => by rw [RpL] at h ⊢; exact h
  | d :: ds, _, h => by
    rw [RpL] at h ⊢
    obtain ⟨v, r, e, t, l⟩ := h
    exact ⟨v, r, e, Keep.rp k d v t, Keep.rpl k ds r l⟩
end
theorem keep_same (s : Same H H') : Keep O O H H' := ⟨fun b o h _ => s b o h, fun _ _ h => h⟩
theorem liv_same (s : Same H H') {b : Addr} (h : ∃ o, H b = some o ∧ NT o) : ∃ o, H' b = some o ∧ NT o := by
  obtain ⟨o, e, n⟩ := h
  exact ⟨o, s _ _ e, n⟩
theorem same_rp (s : Same H H') (h : Rp K O H d v) : Rp K O H' d v := (keep_same s).rp _ _ h
theorem same_rpl (s : Same H H') (h : RpL K O H ds vs) : RpL K O H' ds vs := (keep_same s).rpl _ _ h

theorem TupAt.sq (h : TupAt K O H a vs) : SqT K H a vs := by
  rcases h with ⟨h, _⟩ | h
  · exact .inl h
  · rcases h with h | h
    · rcases h with h | ⟨o, h⟩
      · exact nomatch h
      · exact nomatch h
    · exact .inr h
theorem LstAt.sq (h : LstAt O H a vs) : SqL K H a vs := .inl h.1

theorem RpL.nil : RpL K O H [] [] := by rw [RpL]
theorem RpL.cons (h : Rp K O H d v) (r : RpL K O H ds vs) : RpL K O H (d :: ds) (v :: vs) := by
  rw [RpL]
  exact ⟨v, vs, rfl, h, r⟩
theorem RpL.zip : ∀ {ds : List D} {vs : List V}, RpL K O H ds vs → ∃ ps : List (D × V), ds = ps.map (·.1) ∧ vs = ps.map (·.2) ∧ ∀ p ∈ ps, Rp K O H p.1 p.2
  | [], _, h => by
    rw [RpL] at h
    subst h
    exact ⟨[], rfl, rfl, fun _ z => nomatch z⟩
  | d :: ds, _, h => by
    rw [RpL] at h
    obtain ⟨v, r, rfl, t, l⟩ := h
    obtain ⟨ps, e1, e2, q⟩ := RpL.zip l
    refine ⟨(d, v) :: ps, by rw [e1]; rfl, by rw [e2]; rfl, fun p hp => ?_⟩
    rcases List.mem_cons.mp hp with rfl | hp
    · exact t
    · exact q p hp
theorem RpL.of : ∀ {ps : List (D × V)}, (∀ p ∈ ps, Rp K O H p.1 p.2) → RpL K O H (ps.map (·.1)) (ps.map (·.2))
  | [], _ => RpL.nil
  | p :: ps, h => RpL.cons (h p List.mem_cons_self) (RpL.of fun q hq => h q (List.mem_cons_of_mem _ hq))
theorem RpL.length (h : RpL K O H ds vs) : ds.length = vs.length := by
  obtain ⟨ps, rfl, rfl, _⟩ := h.zip
  rw [List.length_map, List.length_map]
theorem RpL.get {i : Nat} (h : RpL K O H ds vs) (e : ds[i]? = some d) : ∃ v, vs[i]? = some v ∧ Rp K O H d v := by
  obtain ⟨ps, rfl, rfl, q⟩ := h.zip
  rw [List.getElem?_map] at e ⊢
  cases hp : ps[i]? with
  | none =>
    rw [hp] at e
    exact nomatch e
  | some p =>
    rw [hp] at e
    cases e
    exact ⟨p.2, rfl, q p (List.mem_of_getElem? hp)⟩
theorem RpL.append (h : RpL K O H ds vs) (h2 : RpL K O H es ws) : RpL K O H (ds ++ es) (vs ++ ws) := by
  obtain ⟨ps, rfl, rfl, q⟩ := h.zip
  obtain ⟨qs, rfl, rfl, q2⟩ := h2.zip
  rw [← List.map_append, ← List.map_append]
  refine RpL.of fun p hp => ?_
  rcases List.mem_append.mp hp with z | z
  · exact q p z
  · exact q2 p z
theorem RpL.nat (F : {α : Type} → List α → List α) (hm : ∀ {α β : Type} (f : α → β) (l : List α), F (l.map f) = (F l).map f) (hs : ∀ {α : Type} (l : List α) (x : α), x ∈ F l → x ∈ l)
    (h : RpL K O H ds vs) : RpL K O H (F ds) (F vs) := by
  obtain ⟨ps, rfl, rfl, q⟩ := h.zip
  rw [hm, hm]
  exact RpL.of fun p hp => q p (hs ps p hp)
theorem RpL.cut (lo hi : Option Int) (h : RpL K O H ds vs) : RpL K O H (cutL ds lo hi) (cutL vs lo hi) :=
  h.nat (fun l => cutL l lo hi) (fun f l => by simp [cutL, List.map_drop, List.map_take]) (fun l x hx => List.mem_of_mem_drop (List.mem_of_mem_take hx))
theorem mem_evens {α : Type} : ∀ (l : List α) (x : α), x ∈ evens l → x ∈ l
  | [], _, h => by simp [evens] at h
  | [y], _, h => by simpa [evens] using h
  | y :: z :: r, x, h => by
    rw [evens] at h
    rcases List.mem_cons.mp h with rfl | h
    · exact List.mem_cons_self
    · exact List.mem_cons_of_mem _ (List.mem_cons_of_mem _ (mem_evens r x h))
theorem map_evens {α β : Type} (f : α → β) : ∀ l : List α, evens (l.map f) = (evens l).map f
  | [] => rfl
  | [_] => rfl
  | x :: y :: r => by
    show f x :: evens (r.map f) = f x :: (evens r).map f
    rw [map_evens f r]
theorem RpL.stp (k : Stp) (h : RpL K O H ds vs) : RpL K O H (stpL k ds) (stpL k vs) := by
  cases k with
  | rev => exact h.nat (fun l => l.reverse) (fun f l => by simp) (fun l x hx => by simpa using hx)
  | even => exact h.nat (fun l => evens l) (fun f l => map_evens f l) (fun l x hx => mem_evens l x hx)
  | odd => exact h.nat (fun l => evens l.tail) (fun f l => by rw [← List.map_tail, map_evens]) (fun l x hx => List.mem_of_mem_tail (mem_evens _ x hx))
theorem RpL.rep (k : Int) (h : RpL K O H ds vs) : RpL K O H (rep ds k) (rep vs k) :=
  h.nat (fun l => LC.rep l k) (fun f l => by simp [LC.rep, List.map_flatten]) (fun l x hx => by
    simp only [LC.rep, List.mem_flatten, List.mem_replicate] at hx
    obtain ⟨m, ⟨_, rfl⟩, hx⟩ := hx
    exact hx)
theorem RpL.set (j : Nat) (h : RpL K O H ds vs) (hd : Rp K O H d v) : RpL K O H (ds.set j d) (vs.set j v) := by
  obtain ⟨ps, rfl, rfl, q⟩ := h.zip
  have e1 : (ps.map (·.1)).set j d = (ps.set j (d, v)).map (·.1) := by rw [List.map_set]
  have e2 : (ps.map (·.2)).set j v = (ps.set j (d, v)).map (·.2) := by rw [List.map_set]
  rw [e1, e2]
  refine RpL.of fun p hp => ?_
  rcases List.mem_or_eq_of_mem_set hp with z | z
  · exact q p z
  · subst z
    exact hd
theorem RpL.mem (h : RpL K O H ds vs) (hv : v ∈ vs) : ∃ d ∈ ds, Rp K O H d v := by
  obtain ⟨ps, rfl, rfl, q⟩ := h.zip
  obtain ⟨p, hp, rfl⟩ := List.mem_map.mp hv
  exact ⟨p.1, List.mem_map.mpr ⟨p, hp, rfl⟩, q p hp⟩

def RpW (K : PySem.W.Frag) (O : Addr → Prop) (H : Hp) (d : D) (v : V) : Prop := Rp K O H d v ∨ ∃ a vs ds, d = .lst ds ∧ v = .ref a ∧ H a = some (.lst vs) ∧ RpL K O H ds vs
theorem Rp.w (h : Rp K O H d v) : RpW K O H d v := .inl h
theorem same_rpw (s : Same H H') (h : RpW K O H d v) : RpW K O H' d v := by
  rcases h with h | ⟨a, vs, ds, e1, e2, h, r⟩
  · exact .inl (same_rp s h)
  · exact .inr ⟨a, vs, ds, e1, e2, s _ _ h, same_rpl s r⟩
theorem RpW.lst (h : RpW K O H (.lst ds) v) : ∃ a vs, v = .ref a ∧ Rd H a (.lst vs) ∧ RpL K O H ds vs := by
  rcases h with h | ⟨a, vs, es, e1, e2, h, r⟩
  · rw [Rp] at h
    obtain ⟨a, vs, e, l, r⟩ := h
    exact ⟨a, vs, e, l.1, r⟩
  · cases e1
    exact ⟨a, vs, e2, .inl h, r⟩
theorem RpW.tup (h : RpW K O H (.tup ds) v) : ∃ a vs, v = .ref a ∧ TupAt K O H a vs ∧ RpL K O H ds vs := by
  rcases h with h | ⟨a, vs, es, e1, e2, h, r⟩
  · rw [Rp] at h
    exact h
  · cases e1
theorem RpW.int {i : Int} (h : RpW K O H (.int i) v) : v = .int i := by
  rcases h with h | ⟨_, _, _, e1, _⟩
  · rw [Rp] at h
    exact h
  · cases e1
theorem RpW.bl {i : Bool} (h : RpW K O H (.bl i) v) : v = .bl i := by
  rcases h with h | ⟨_, _, _, e1, _⟩
  · rw [Rp] at h
    exact h
  · cases e1
theorem RpW.str {i : Str} (h : RpW K O H (.str i) v) : v = .str i := by
  rcases h with h | ⟨_, _, _, e1, _⟩
  · rw [Rp] at h
    exact h
  · cases e1
theorem RpW.non (h : RpW K O H .non v) : v = .non := by
  rcases h with h | ⟨_, _, _, e1, _⟩
  · rw [Rp] at h
    exact h
  · cases e1
def RpWL (K : PySem.W.Frag) (O : Addr → Prop) (H : Hp) : List D → List V → Prop
  | [], vs => vs = []
  | d :: ds, vs => ∃ v r, vs = v :: r ∧ RpW K O H d v ∧ RpWL K O H ds r
theorem RpL.w : ∀ {ds : List D} {vs : List V}, RpL K O H ds vs → RpWL K O H ds vs
  | [], _, h => by
    rw [RpL] at h
    exact h
  | d :: ds, _, h => by
    rw [RpL] at h
    obtain ⟨v, r, e, t, l⟩ := h
    exact ⟨v, r, e, .inl t, l.w⟩
theorem same_new {p : Addr} {o : HO} (h : H p = none) : Same H (upd H p o) := fun b x e => by
  rw [upd_ne (ne_of_none e h)]
  exact e
theorem rp_tup {p : Addr} (hp : H p = some (.tup vs)) (hO : ¬ O p) (r : RpL K O H ds vs) : Rp K O H (.tup ds) (.ref p) := by
  rw [Rp]
  exact ⟨p, vs, rfl, .inl ⟨.inl hp, hO⟩, r⟩
theorem rp_lst {p : Addr} (hp : H p = some (.lst vs)) (hO : ¬ O p) (r : RpL K O H ds vs) : Rp K O H (.lst ds) (.ref p) := by
  rw [Rp]
  exact ⟨p, vs, rfl, ⟨.inl hp, hO⟩, r⟩
theorem new_tup {p : Addr} (hp : H p = none) (hO : ∀ b, O b → H b ≠ none) (r : RpL K O H ds vs) : Rp K O (upd H p (.tup vs)) (.tup ds) (.ref p) :=
  rp_tup upd_same (fun z => hO p z hp) (same_rpl (same_new hp) r)
theorem new_lst {p : Addr} (hp : H p = none) (hO : ∀ b, O b → H b ≠ none) (r : RpL K O H ds vs) : Rp K O (upd H p (.lst vs)) (.lst ds) (.ref p) :=
  rp_lst upd_same (fun z => hO p z hp) (same_rpl (same_new hp) r)
mutual
theorem rp_dp : ∀ (d : D) (v : V), Rp K O H d v → PyData.canLay0 (toPy d) = true → Dp K H v (toPy d)
  | .non, _, h, _ => by rw [Rp] at h; subst h; rw [toPy]; exact .non
  | .bl _, _, h, _ => by rw [Rp] at h; subst h; rw [toPy]; exact .bl _
  | .int _, _, h, _ => by rw [Rp] at h; subst h; rw [toPy]; exact .int _
  | .str _, _, h, _ => by rw [Rp] at h; subst h; rw [toPy]; exact .str _
  | .ref _, _, h, hs => by simp [toPy, PyData.canLay0] at hs
  | .tup ds, _, h, hs => by
    rw [Rp] at h
    obtain ⟨a, vs, rfl, t, l⟩ := h
    rw [toPy, PyData.canLay0] at hs
    rw [toPy]
    exact .tup t.sq (rpl_dp ds vs l hs)
  | .lst ds, _, h, hs => by
    rw [Rp] at h
    obtain ⟨a, vs, rfl, t, l⟩ := h
    rw [toPy, PyData.canLay0] at hs
    rw [toPy]
    exact .lst t.sq (rpl_dp ds vs l hs)
theorem rpl_dp : ∀ (ds : List D) (vs : List V), RpL K O H ds vs → PyData.canLayAll0 (toPys ds) = true → DpAll K H vs (toPys ds)
  | [], _, h, _ => by
    rw [RpL] at h
    subst h
    rw [toPys]
    exact .nil
  | d :: ds, _, h, hs => by
    rw [RpL] at h
    obtain ⟨v, r, rfl, t, l⟩ := h
    rw [toPys, PyData.canLayAll0, Bool.and_eq_true] at hs
    rw [toPys]
    exact .cons (rp_dp d v t hs.1) (rpl_dp ds r l hs.2)
end
theorem RpW.dp (h : RpW K O H d v) (hs : SeqAt.shaped (toPy d) = true) : Dp K H v (toPy d) := by
  have hc := SeqAt.canLay_of_shaped hs
  rcases h with h | ⟨a, vs, ds, rfl, rfl, h, r⟩
  · exact rp_dp d v h hc
  · rw [toPy, PyData.canLay0] at hc
    rw [toPy]
    exact .lst (.inl (.inl h)) (rpl_dp ds vs r hc)
end
end LC

set_option Elab.async false
set_option linter.all false
set_option maxRecDepth 100000
set_option maxHeartbeats 1000000
namespace LC
open PySem PySem.Spec PyProof.Rows L2

theorem lim_line {n : Nat} (h : n ≤ LIM) : n ≤ sizeLine := Nat.le_trans h (by decide)
theorem lim_lt {n : Nat} (h : n < LIM) : n < sizeLine := Nat.lt_of_lt_of_le h (by decide)

section
variable {X : Cx}
theorem rd_obj {pins : List (Addr × Obj)} {σ : L2.St} {H : Hp} {s : Shared} {a : Addr} {xs : List V} (I : Inv X pins σ H s) (h : Rd H a (.lst xs)) :
    xs.length ≤ sizeLine ∧ ∃ (its : List Value) (n : Nat), Vals xs its ∧ s.heap.get? a = some { cls := .type "list", data := .seq its.toArray n } := h.ok I.hok
theorem op_catR : OpR X (binaryOp .Add) (fun x y H Q => ∃ l b xs zs, x = .ref l ∧ y = .ref b ∧ Rd H l (.lst xs) ∧ Rd H b (.lst zs) ∧ xs.length + zs.length ≤ sizeLine ∧ ∀ p, H p = none → Q (.ref p) (upd H p (.lst (xs ++ zs)))) := by
  intro pins s σ H x y v u Q I rx ry h
  obtain ⟨l, b, xs, zs, rfl, rfl, h1, h2, hz, q⟩ := h
  cases rx
  cases ry
  obtain ⟨_, is1, n1, r1, e1⟩ := rd_obj I h1
  obtain ⟨_, is2, n2, r2, e2⟩ := rd_obj I h2
  have l1 := r1.length
  have l2 := r2.length
  refine PySem.P.add_list e1 e2 ?_ (by rw [List.size_toArray, List.size_toArray]; omega)
  rw [show is1.toArray ++ is2.toArray = (is1 ++ is2).toArray by simp]
  exact ⟨.ref _, _, I.lnew (t' := s.toks) (r1.append r2) (by rw [List.length_append]; exact hz), rfl, q _ I.fresh⟩
end

theorem int_mod_bi (a : Bool) (b : Int) (u : Tok) (hc0 : ¬(b == 0) = true) :
    Gives (Builtin.«int.__mod__» ⟨[.bool a, .int b u], []⟩) (.int ((if a = true then (1 : Int) else 0).fmod b)) :=
  .of_wp fun M A E s Q h => by obtain ⟨hp, g, d, tk, os⟩ := s; wp_walk; exact ⟨_, rfl, h⟩
theorem mod_bool_int {prog : Program} {w : World} {A : Around} {E : Value → Shared → Prop} {s : Shared} {Q : Value → Shared → Prop} {a : Bool} {b : Int} {u : Tok} (hb : ¬(b == 0) = true) (h : Q (.int ((if a = true then (1 : Int) else 0).fmod b) s.toks) { s with toks := s.toks + 1 }) : wpAny (model prog w) A (binaryOp .Mod (.bool a) (.int b u)) Q E s :=
  binaryOp_left_gives (op := .Mod) (T := "bool") (U := "int") (by decide) rfl (fun s' => typeIs_int s' b u) F.fills_bool_mod F.fills_int_mod F.sub_int_bool F.slot_bool_mod F.slot_int_rmod F.entry_int_mod (F.args_int_mod_2 _ _)
    (int_mod_bi a b u hb) trivial h
section
variable {X : Cx}
theorem op_addBI : OpR X (binaryOp .Add) (fun x y H Q => ∃ k i, x = .bl k ∧ y = .int i ∧ Q (.int ((if k = true then (1 : Int) else 0) + i)) H) := by
  intro pins s σ H x y v u Q I rx ry h
  obtain ⟨k, i, rfl, rfl, q⟩ := h
  obtain ⟨t, rfl⟩ := ry
  cases rx
  exact IntBool.add_bool_int ⟨.int _, H, I.tok _, ⟨_, rfl⟩, q⟩
theorem op_subBI : OpR X (binaryOp .Sub) (fun x y H Q => ∃ k i, x = .bl k ∧ y = .int i ∧ Q (.int ((if k = true then (1 : Int) else 0) - i)) H) := by
  intro pins s σ H x y v u Q I rx ry h
  obtain ⟨k, i, rfl, rfl, q⟩ := h
  obtain ⟨t, rfl⟩ := ry
  cases rx
  exact IntBool.sub_bool_int ⟨.int _, H, I.tok _, ⟨_, rfl⟩, q⟩
theorem op_subIB : OpR X (binaryOp .Sub) (fun x y H Q => ∃ i k, x = .int i ∧ y = .bl k ∧ Q (.int (i - if k = true then (1 : Int) else 0)) H) := by
  intro pins s σ H x y v u Q I rx ry h
  obtain ⟨k, i, rfl, rfl, q⟩ := h
  obtain ⟨t, rfl⟩ := rx
  cases ry
  exact IntBool.sub_int_bool ⟨.int _, H, I.tok _, ⟨_, rfl⟩, q⟩
theorem op_modBI : OpR X (binaryOp .Mod) (fun x y H Q => ∃ k i, x = .bl k ∧ y = .int i ∧ 0 < i ∧ Q (.int ((if k = true then (1 : Int) else 0) % i)) H) := by
  intro pins s σ H x y v u Q I rx ry h
  obtain ⟨k, i, rfl, rfl, hi, q⟩ := h
  obtain ⟨t, rfl⟩ := ry
  cases rx
  refine mod_bool_int (by intro z; have := eq_of_beq z; omega) ?_
  rw [Int.fmod_eq_emod_of_nonneg _ (by omega)]
  exact ⟨.int _, H, I.tok _, ⟨_, rfl⟩, q⟩
end
def OpS (K : PySem.W.Frag) (r : R2) (f : D → D → R D) : Prop :=
  ∀ (O : Addr → Prop) (H : Hp) (x y d : D) (v w : V) (Q : VK), (∀ b, O b → H b ≠ none) → RpW K O H x v → RpW K O H y w → f x y = .ok d → (∀ u H', Same H H' → Rp K O H' d u → Q u H') → r v w H Q
def Opp (X : Cx) (o : Value → Value → Sem Value) (f : D → D → R D) : Prop := ∃ r, OpR X o r ∧ OpS X.K r f

theorem R.ok_inj {α : Type} {a b : α} (h : R.ok a = R.ok b) : a = b := by cases h; rfl
theorem ok_ite {α : Type} {c : Prop} [Decidable c] {a b : α} (h : (if c then R.ok a else R.bad) = R.ok b) : c ∧ a = b := by
  by_cases hc : c
  · rw [if_pos hc] at h
    exact ⟨hc, R.ok_inj h⟩
  · rw [if_neg hc] at h
    exact nomatch h
theorem bind_ok {α β : Type} {a : R α} {f : α → R β} {b : β} (h : a.bind f = .ok b) : ∃ x, a = .ok x ∧ f x = .ok b := by
  cases a with
  | ok x => exact ⟨x, rfl, h⟩
  | exc c => exact nomatch h
  | bad => exact nomatch h

section
variable {K : PySem.W.Frag} {O : Addr → Prop} {H : Hp}
theorem rp_int {i : Int} : Rp K O H (.int i) (.int i) := by rw [Rp]
theorem rp_bl {i : Bool} : Rp K O H (.bl i) (.bl i) := by rw [Rp]
theorem rp_str {i : Str} : Rp K O H (.str i) (.str i) := by rw [Rp]
theorem rp_non : Rp K O H .non .non := by rw [Rp]
end

section
variable {X : Cx}
theorem opp_add : Opp X (binaryOp .Add) dAdd := by
  refine ⟨_, op_add.or (op_add_str.or (op_catA.or (op_catR.or op_addBI))), ?_⟩
  intro O H x y d v w Q hO hx hy he q
  unfold dAdd at he
  split at he
  · cases hx.int
    cases hy.int
    cases R.ok_inj he
    exact .inl ⟨_, _, rfl, rfl, q _ H (Same.refl H) rp_int⟩
  · cases hx.str
    cases hy.str
    obtain ⟨hl, e⟩ := ok_ite he
    cases e
    exact .inr (.inl ⟨_, _, rfl, rfl, lim_line hl, q _ H (Same.refl H) rp_str⟩)
  · obtain ⟨a, vs, rfl, ta, ra⟩ := hx.tup
    obtain ⟨b, ws, rfl, tb, rb⟩ := hy.tup
    obtain ⟨hl, e⟩ := ok_ite he
    cases e
    have l1 := ra.length
    have l2 := rb.length
    refine .inr (.inr (.inl ⟨a, b, vs, ws, rfl, rfl, ta.sq, tb.sq, by rw [← l1, ← l2]; exact lim_line hl, fun z => ?_, fun _ z => ?_, fun _ _ p hp => ?_⟩))
    · refine q _ H (Same.refl H) ?_
      have e0 := List.eq_nil_of_length_eq_zero (l1.trans (by rw [z]; rfl))
      rw [e0, List.nil_append, Rp]
      exact ⟨b, ws, rfl, tb, rb⟩
    · refine q _ H (Same.refl H) ?_
      have e0 := List.eq_nil_of_length_eq_zero (l2.trans (by rw [z]; rfl))
      rw [e0, List.append_nil, Rp]
      exact ⟨a, vs, rfl, ta, ra⟩
    · exact q _ _ (same_new hp) (new_tup hp hO (ra.append rb))
  · obtain ⟨a, vs, rfl, ta, ra⟩ := hx.lst
    obtain ⟨b, ws, rfl, tb, rb⟩ := hy.lst
    obtain ⟨hl, e⟩ := ok_ite he
    cases e
    exact .inr (.inr (.inr (.inl ⟨a, b, vs, ws, rfl, rfl, ta, tb, by rw [← ra.length, ← rb.length]; exact lim_line hl, fun p hp => q _ _ (same_new hp) (new_lst hp hO (ra.append rb))⟩)))
  · cases hx.bl
    cases hy.int
    cases R.ok_inj he
    exact .inr (.inr (.inr (.inr ⟨_, _, rfl, rfl, q _ H (Same.refl H) rp_int⟩)))
  · exact nomatch he
theorem opp_sub : Opp X (binaryOp .Sub) dSub := by
  refine ⟨_, op_sub.or (op_subBI.or op_subIB), ?_⟩
  intro O H x y d v w Q hO hx hy he q
  unfold dSub at he
  split at he
  · cases hx.int
    cases hy.int
    cases R.ok_inj he
    exact .inl ⟨_, _, rfl, rfl, q _ H (Same.refl H) rp_int⟩
  · cases hx.bl
    cases hy.int
    cases R.ok_inj he
    exact .inr (.inl ⟨_, _, rfl, rfl, q _ H (Same.refl H) rp_int⟩)
  · cases hx.int
    cases hy.bl
    cases R.ok_inj he
    exact .inr (.inr ⟨_, _, rfl, rfl, q _ H (Same.refl H) rp_int⟩)
  · exact nomatch he
theorem small64_iff {i : Int} (h : small64 i = true) : -(2 ^ 64) < i ∧ i < 2 ^ 64 := by
  unfold small64 at h
  rw [Bool.and_eq_true] at h
  exact ⟨of_decide_eq_true h.1, of_decide_eq_true h.2⟩
theorem opp_div : Opp X (binaryOp .FloorDiv) dDiv := by
  refine ⟨_, op_fdiv, ?_⟩
  intro O H x y d v w Q hO hx hy he q
  unfold dDiv at he
  split at he
  · cases hx.int
    cases hy.int
    obtain ⟨hl, e⟩ := ok_ite he
    cases e
    exact ⟨_, _, rfl, rfl, hl, q _ H (Same.refl H) rp_int⟩
  · exact nomatch he
theorem opp_mod : Opp X (binaryOp .Mod) dMod := by
  refine ⟨_, op_mod.or op_modBI, ?_⟩
  intro O H x y d v w Q hO hx hy he q
  unfold dMod at he
  split at he
  · cases hx.int
    cases hy.int
    obtain ⟨hl, e⟩ := ok_ite he
    cases e
    exact .inl ⟨_, _, rfl, rfl, hl, q _ H (Same.refl H) rp_int⟩
  · cases hx.bl
    cases hy.int
    obtain ⟨hl, e⟩ := ok_ite he
    cases e
    exact .inr ⟨_, _, rfl, rfl, hl, q _ H (Same.refl H) rp_int⟩
  · exact nomatch he
theorem opp_pow : Opp X (binaryOp .Pow) dPow := by
  refine ⟨_, op_pow, ?_⟩
  intro O H x y d v w Q hO hx hy he q
  unfold dPow at he
  split at he
  · cases hx.int
    cases hy.int
    obtain ⟨⟨h1, h2, h3⟩, e⟩ := ok_ite he
    cases e
    have h4 := small64_iff h3
    exact ⟨_, _, rfl, rfl, ⟨h1, by omega, by omega⟩, q _ H (Same.refl H) rp_int⟩
  · exact nomatch he
theorem opp_ord {op : CmpOp} {p : Int → Int → Bool} (h : OpR X (compareOp op) (rI0 fun i j => .bl (p i j))) : Opp X (compareOp op) (dOrd p) := by
  refine ⟨_, h, ?_⟩
  intro O H x y d v w Q hO hx hy he q
  unfold dOrd at he
  split at he
  · cases hx.int
    cases hy.int
    cases R.ok_inj he
    exact ⟨_, _, rfl, rfl, q _ H (Same.refl H) rp_bl⟩
  · exact nomatch he
def rPr (K : PySem.W.Frag) (f : Int → Str → Int → Str → Bool) : R2 := fun x y H Q => ∃ (a b : Addr) (i j : Int) (s t : Str), x = .ref a ∧ y = .ref b ∧ SqT K H a [.int i, .str s] ∧ SqT K H b [.int j, .str t] ∧ Q (.bl (f i s j t)) H
theorem op_ltP (hu : X.A.units < cLine) : OpR X (compareOp .Lt) (rPr X.K ltP) := by
  intro pins s σ H x y v u Q I rx ry h
  obtain ⟨a, b, i, j, sa, sb, rfl, rfl, ha, hb, q⟩ := h
  cases rx
  cases ry
  obtain ⟨its, r1, p1, _⟩ := I.tuple ha
  obtain ⟨its2, r2, p2, _⟩ := I.tuple hb
  have two : ∀ {i : Int} {sa : Str} {its : List Value}, Vals [.int i, .str sa] its → ∃ u1 u2, its = [.int i u1, .str sa u2] := fun r => by
    cases r with
    | cons h r =>
      cases r with
      | cons h2 r =>
        cases r
        obtain ⟨u1, e1⟩ := h
        obtain ⟨u2, e2⟩ := h2
        exact ⟨u1, u2, by rw [e1, e2]⟩
  obtain ⟨u1, u2, rfl⟩ := two r1
  obtain ⟨w1, w2, rfl⟩ := two r2
  have R := Ob.RcOp.tuples_lt (A := X.A) (s := s) (e := fun k => if k = 0 then decide (i = j) else sa == sb) (r := fun k => if k = 0 then decide (i < j) else decide (sa.cps.toList < sb.cps.toList)) p1 p2 hu (fun k h1 h2 => by
    have hk : k = 0 ∨ k = 1 := by simp at h1; omega
    rcases hk with rfl | rfl
    · have z : (i == j) = decide (i = j) := by
        by_cases q : i = j
        · rw [decide_eq_true q]; exact beq_iff_eq.mpr q
        · rw [decide_eq_false q]; exact beq_eq_false_iff_ne.mpr q
      show SeqAt.EqAt _ _ (.int i u1) (.int j w1) (decide (i = j))
      rw [← z]
      exact SeqAt.EqAt.int_int _ _ _ _
    · show SeqAt.EqAt _ _ (.str sa u2) (.str sb w2) (sa == sb)
      exact SeqAt.EqAt.str_str _ _ _ _) (fun k h1 h2 _ => by
    have hk : k = 0 ∨ k = 1 := by simp at h1; omega
    rcases hk with rfl | rfl
    · exact Ob.RcOp.lt_int _ _ _ _
    · intro prog w E Q h
      exact PyProof.Rows.lt_str h)
  have e : Ob.lexAt (fun k => if k = 0 then decide (i = j) else sa == sb) (fun k => if k = 0 then decide (i < j) else decide (sa.cps.toList < sb.cps.toList)) (decide (2 < 2)) 0 2 = ltP i sa j sb := by
    unfold ltP
    rw [Ob.lexAt_succ, Ob.lexAt_succ, Ob.lexAt_zero]
    simp
  have R2 : Ob.RcOp .Lt X.A s (.ref a) (.ref b) (ltP i sa j sb) := by
    rw [← e]
    exact R
  have z : wpAny (model X.prog X.w) X.A (compareOp .Lt (.ref a) (.ref b)) (EP X pins σ Q) X.xe s := R2 X.prog X.w X.xe (EP X pins σ Q) ⟨.bl _, H, I, rfl, q⟩
  exact z
theorem op_gtP (hu : X.A.units < cLine) : OpR X (compareOp .Gt) (rPr X.K gtP) := by
  intro pins s σ H x y v u Q I rx ry h
  obtain ⟨a, b, i, j, sa, sb, rfl, rfl, ha, hb, q⟩ := h
  cases rx
  cases ry
  obtain ⟨its, r1, p1, _⟩ := I.tuple ha
  obtain ⟨its2, r2, p2, _⟩ := I.tuple hb
  have two : ∀ {i : Int} {sa : Str} {its : List Value}, Vals [.int i, .str sa] its → ∃ u1 u2, its = [.int i u1, .str sa u2] := fun r => by
    cases r with
    | cons h r =>
      cases r with
      | cons h2 r =>
        cases r
        obtain ⟨u1, e1⟩ := h
        obtain ⟨u2, e2⟩ := h2
        exact ⟨u1, u2, by rw [e1, e2]⟩
  obtain ⟨u1, u2, rfl⟩ := two r1
  obtain ⟨w1, w2, rfl⟩ := two r2
  have R := Ob.RcOp.tuples_gt (A := X.A) (s := s) (e := fun k => if k = 0 then decide (i = j) else sa == sb) (r := fun k => if k = 0 then decide (j < i) else decide (sb.cps.toList < sa.cps.toList)) p1 p2 hu (fun k h1 h2 => by
    have hk : k = 0 ∨ k = 1 := by simp at h1; omega
    rcases hk with rfl | rfl
    · have z : (i == j) = decide (i = j) := by
        by_cases q : i = j
        · rw [decide_eq_true q]; exact beq_iff_eq.mpr q
        · rw [decide_eq_false q]; exact beq_eq_false_iff_ne.mpr q
      show SeqAt.EqAt _ _ (.int i u1) (.int j w1) (decide (i = j))
      rw [← z]
      exact SeqAt.EqAt.int_int _ _ _ _
    · show SeqAt.EqAt _ _ (.str sa u2) (.str sb w2) (sa == sb)
      exact SeqAt.EqAt.str_str _ _ _ _) (fun k h1 h2 _ => by
    have hk : k = 0 ∨ k = 1 := by simp at h1; omega
    rcases hk with rfl | rfl
    · exact Ob.RcOp.gt_int _ _ _ _
    · intro prog w E Q h
      exact PySem.P.gt_str h)
  have e : Ob.lexAt (fun k => if k = 0 then decide (i = j) else sa == sb) (fun k => if k = 0 then decide (j < i) else decide (sb.cps.toList < sa.cps.toList)) (decide (2 > 2)) 0 2 = gtP i sa j sb := by
    unfold gtP
    rw [Ob.lexAt_succ, Ob.lexAt_succ, Ob.lexAt_zero]
    simp
  have R2 : Ob.RcOp .Gt X.A s (.ref a) (.ref b) (gtP i sa j sb) := by
    rw [← e]
    exact R
  have z : wpAny (model X.prog X.w) X.A (compareOp .Gt (.ref a) (.ref b)) (EP X pins σ Q) X.xe s := R2 X.prog X.w X.xe (EP X pins σ Q) ⟨.bl _, H, I, rfl, q⟩
  exact z
theorem opp_ordT {op : CmpOp} {p : Int → Int → Bool} {t : Int → Str → Int → Str → Bool} (h : OpR X (compareOp op) (rI0 fun i j => .bl (p i j))) (h2 : OpR X (compareOp op) (rPr X.K t)) : Opp X (compareOp op) (dOrdT p t) := by
  refine ⟨fun x y H Q => rI0 (fun i j => .bl (p i j)) x y H Q ∨ rPr X.K t x y H Q, ?_, ?_⟩
  · intro pins s σ H x y v u Q I rx ry hh
    rcases hh with hh | hh
    · exact h pins s σ H x y v u Q I rx ry hh
    · exact h2 pins s σ H x y v u Q I rx ry hh
  · intro O H x y d v w Q hO hx hy he q
    unfold dOrdT at he
    split at he
    · cases hx.int
      cases hy.int
      cases R.ok_inj he
      exact .inl ⟨_, _, rfl, rfl, q _ H (Same.refl H) rp_bl⟩
    · rename_i i a j b
      cases R.ok_inj he
      have pr : ∀ {i : Int} {a : Str} {v : V}, RpW X.K O H (.tup [.int i, .str a]) v → ∃ l, v = .ref l ∧ SqT X.K H l [.int i, .str a] := fun r => by
        obtain ⟨l, us, e, t, rl⟩ := r.tup
        rw [RpL] at rl
        obtain ⟨v1, r1, e1, h1, rl⟩ := rl
        rw [RpL] at rl
        obtain ⟨v2, r2, e2, h2, rl⟩ := rl
        rw [RpL] at rl
        have z1 := h1.w.int
        have z2 := h2.w.str
        subst e1 e2 z1 z2 rl
        exact ⟨l, e, t.sq⟩
      obtain ⟨l1, e1, s1⟩ := pr hx
      obtain ⟨l2, e2, s2⟩ := pr hy
      exact .inr ⟨l1, l2, i, j, a, b, e1, e2, s1, s2, q _ H (Same.refl H) rp_bl⟩
    · exact nomatch he
theorem rB_ok {a : R Bool} {d : D} (h : rB a = .ok d) : ∃ b, a = .ok b ∧ d = .bl b := by
  cases a with
  | ok b => exact ⟨b, rfl, (R.ok_inj h).symm⟩
  | exc c => exact nomatch h
  | bad => exact nomatch h
theorem rN_ok {a : R Bool} {d : D} (h : rN a = .ok d) : ∃ b, a = .ok b ∧ d = .bl (!b) := by
  cases a with
  | ok b => exact ⟨b, rfl, (R.ok_inj h).symm⟩
  | exc c => exact nomatch h
  | bad => exact nomatch h
theorem opp_eq (hu : X.A.units + 64 < cLine) : Opp X (compareOp .Eq) (dCmp .Eq) := by
  refine ⟨_, op_eqD hu, ?_⟩
  intro O H x y d v w Q hO hx hy he q
  obtain ⟨b, e1, rfl⟩ := rB_ok he
  obtain ⟨hs, e⟩ := ok_ite e1
  rw [Bool.and_eq_true] at hs
  cases e
  exact ⟨toPy x, toPy y, hx.dp hs.1, hy.dp hs.2, hs.1, hs.2, q _ H (Same.refl H) rp_bl⟩
theorem opp_ne (hu : X.A.units + 64 < cLine) : Opp X (compareOp .NotEq) (dCmp .NotEq) := by
  refine ⟨_, op_neD hu, ?_⟩
  intro O H x y d v w Q hO hx hy he q
  obtain ⟨b, e1, rfl⟩ := rN_ok he
  obtain ⟨hs, e⟩ := ok_ite e1
  rw [Bool.and_eq_true] at hs
  cases e
  exact ⟨toPy x, toPy y, hx.dp hs.1, hy.dp hs.2, hs.1, hs.2, q _ H (Same.refl H) rp_bl⟩
theorem rp_non_iff {K : PySem.W.Frag} {O : Addr → Prop} {H : Hp} {d : D} {v : V} (h : RpW K O H d v) : d = .non ∨ (d ≠ .non ∧ v ≠ .non) := by
  cases d with
  | non => exact .inl rfl
  | bl b => cases h.bl; exact .inr ⟨(fun z => nomatch z), (fun z => nomatch z)⟩
  | int b => cases h.int; exact .inr ⟨(fun z => nomatch z), (fun z => nomatch z)⟩
  | str b => cases h.str; exact .inr ⟨(fun z => nomatch z), (fun z => nomatch z)⟩
  | ref a =>
    refine .inr ⟨(fun z => nomatch z), fun z => ?_⟩
    rcases h with h | ⟨_, _, _, e, _⟩
    · rw [Rp] at h
      obtain ⟨b, h⟩ := h
      rw [h] at z
      exact nomatch z
    · exact nomatch e
  | tup ds => obtain ⟨a, _, rfl, _⟩ := h.tup; exact .inr ⟨(fun z => nomatch z), (fun z => nomatch z)⟩
  | lst ds => obtain ⟨a, _, rfl, _⟩ := h.lst; exact .inr ⟨(fun z => nomatch z), (fun z => nomatch z)⟩
theorem dIs_shape {x y : D} {b : Bool} (h : dIs x y = .ok b) : (y = .non ∧ ((x = .non ∧ b = true) ∨ (x ≠ .non ∧ b = false))) ∨ ∃ i j, x = .bl i ∧ y = .bl j ∧ b = decide (i = j) := by
  cases x <;> cases y <;> cases h <;> first
    | exact .inl ⟨rfl, .inl ⟨rfl, rfl⟩⟩
    | exact .inr ⟨_, _, rfl, rfl, rfl⟩
    | exact .inl ⟨rfl, .inr ⟨(fun z => by cases z), rfl⟩⟩
theorem opp_is : Opp X (compareOp .Is) (dCmp .Is) := by
  refine ⟨_, op_isN.or op_is_bl, ?_⟩
  intro O H x y d v w Q hO hx hy he q
  obtain ⟨b, e1, rfl⟩ := rB_ok he
  rcases dIs_shape e1 with ⟨rfl, h⟩ | ⟨i, j, rfl, rfl, rfl⟩
  · cases hy.non
    refine .inl ⟨rfl, ?_⟩
    rcases h with ⟨rfl, rfl⟩ | ⟨h1, rfl⟩
    · cases hx.non
      exact q _ H (Same.refl H) rp_bl
    · rcases rp_non_iff hx with z | z
      · exact absurd z h1
      · rw [decide_eq_false z.2]
        exact q _ H (Same.refl H) rp_bl
  · cases hx.bl
    cases hy.bl
    exact .inr ⟨i, j, rfl, rfl, q _ H (Same.refl H) rp_bl⟩
theorem opp_isnot : Opp X (compareOp .IsNot) (dCmp .IsNot) := by
  refine ⟨_, op_notN.or op_isnot_bl, ?_⟩
  intro O H x y d v w Q hO hx hy he q
  obtain ⟨b, e1, rfl⟩ := rN_ok he
  rcases dIs_shape e1 with ⟨rfl, h⟩ | ⟨i, j, rfl, rfl, rfl⟩
  · cases hy.non
    refine .inl ⟨rfl, ?_⟩
    rcases h with ⟨rfl, rfl⟩ | ⟨h1, rfl⟩
    · cases hx.non
      exact q _ H (Same.refl H) rp_bl
    · rcases rp_non_iff hx with z | z
      · exact absurd z h1
      · rw [decide_eq_false z.2]
        exact q _ H (Same.refl H) rp_bl
  · cases hx.bl
    cases hy.bl
    exact .inr ⟨i, j, rfl, rfl, q _ H (Same.refl H) rp_bl⟩
end
end LC

set_option Elab.async false
set_option linter.all false
set_option maxRecDepth 100000
set_option maxHeartbeats 1000000
namespace LC
open PySem PySem.Spec PyProof.Rows L2

def Av (O : Addr → Prop) (M : List Nat) (σ : L2.St) (b : Addr) : Prop := O b ∨ ∃ i ∈ M, σ[i]? = some (some (.ref b))

def clsNm : Nat → Str
  | 0 => "Hearer"
  | 1 => "Shortener"
  | _ => "Reader"
def flds : Nat → List Str
  | 0 => ["makers", "rest", "hold", "ticks", "row", "dark_ticks", "key", "key_end", "log"]
  | 1 => ["signs", "known"]
  | _ => ["text", "at", "deep"]
def lkOf (m : Nat) : Option (Nat × Nat × Nat) := if m < 1000 then none else some ((m - 1000) / 10000, (m - 1000) / 100 % 100, (m - 1000) % 100)
def frM (j m : Nat) : Bool := match lkOf m with
  | some (q, i, g) => j != i && (decide (j < g) || decide (g + (flds q).length ≤ j))
  | none => true
def fr (M : List Nat) (j : Nat) : Bool := decide (j < 1000) && M.all (frM j)
def Nf (M : List Nat) (i : Nat) : Prop := i ∉ M ∧ fr M i = true
structure ClsF (K : PySem.W.Frag) (q : Nat) (C : Addr) : Prop where
  ns : PySem.W.nsIn K mainGlobals (clsNm q) = some (some (.ref C))
  cl : Cls K C
  na : ∀ f ∈ flds q, NoAttr K C f
structure XL (K : PySem.W.Frag) (O : Addr → Prop) (M : List Nat) (σ : L2.St) (H : Hp) : Prop where
  at_ : ∀ m ∈ M, ∀ q i g, lkOf m = some (q, i, g) → ∃ a C dx vs, σ[i]? = some (some (.ref a)) ∧ O a ∧ H a = some (.ins C dx ((flds q).zip vs)) ∧ vs.length = (flds q).length ∧ ClsF K q C ∧ ∀ k v, vs[k]? = some v → σ[g + k]? = some (some v)
  ne : ∀ m ∈ M, ∀ m' ∈ M, ∀ q i g q' i' g' a, lkOf m = some (q, i, g) → lkOf m' = some (q', i', g') → σ[i]? = some (some (.ref a)) → σ[i']? = some (some (.ref a)) → i = i'
section
variable {K : PySem.W.Frag} {O O' : Addr → Prop} {H H' : Hp} {M M' : List Nat} {σ σ' : L2.St}
theorem lk_small {m : Nat} (h : m < 1000) : lkOf m = none := if_pos h
theorem fr_small {j : Nat} (h : fr M j = true) : j < 1000 := by
  unfold fr at h
  rw [Bool.and_eq_true] at h
  exact of_decide_eq_true h.1
theorem fr_mem {j m : Nat} (h : fr M j = true) (hm : m ∈ M) {q i g : Nat} (e : lkOf m = some (q, i, g)) : j ≠ i ∧ (j < g ∨ g + (flds q).length ≤ j) := by
  unfold fr at h
  rw [Bool.and_eq_true] at h
  have := List.all_eq_true.mp h.2 m hm
  unfold frM at this
  rw [e] at this
  simpa using this
theorem fr_sub {j : Nat} (h : fr M j = true) (hs : ∀ i ∈ M', i ∈ M) : fr M' j = true := by
  unfold fr at h ⊢
  rw [Bool.and_eq_true] at h ⊢
  exact ⟨h.1, List.all_eq_true.mpr fun m hm => List.all_eq_true.mp h.2 m (hs m hm)⟩
theorem XL.same (x : XL K O M σ H) (s : ∀ b C dx fs, H b = some (.ins C dx fs) → H' b = some (.ins C dx fs)) (ho : ∀ b C dx fs, H b = some (.ins C dx fs) → O b → O' b) : XL K O' M σ H' :=
  ⟨fun m hm q i g e => by
    obtain ⟨a, C, dx, vs, h1, h2, h3, h4, h5, h6⟩ := x.at_ m hm q i g e
    exact ⟨a, C, dx, vs, h1, ho _ _ _ _ h3 h2, s _ _ _ _ h3, h4, h5, h6⟩, x.ne⟩
theorem XL.sub (x : XL K O M σ H) (hs : ∀ m ∈ M', lkOf m = none ∨ m ∈ M) : XL K O M' σ H := by
  have hs' : ∀ m ∈ M', ∀ z, lkOf m = some z → m ∈ M := fun m hm z e => by
    rcases hs m hm with h | h
    · rw [e] at h
      exact nomatch h
    · exact h
  exact ⟨fun m hm q i g e => x.at_ m (hs' m hm _ e) q i g e, fun m hm m' hm' q i g q' i' g' a e e' => x.ne m (hs' m hm _ e) m' (hs' m' hm' _ e') q i g q' i' g' a e e'⟩
theorem XL.cong (x : XL K O M σ H) (h : ∀ j, fr M j = false → σ'[j]? = σ[j]?) : XL K O M σ' H := by
  have hi : ∀ m ∈ M, ∀ q i g, lkOf m = some (q, i, g) → σ'[i]? = σ[i]? := fun m hm q i g e => h i (Bool.eq_false_iff.mpr fun z => (fr_mem z hm e).1 rfl)
  refine ⟨fun m hm q i g e => ?_, fun m hm m' hm' q i g q' i' g' a e e' h1 h2 => ?_⟩
  · obtain ⟨a, C, dx, vs, h1, h2, h3, h4, h5, h6⟩ := x.at_ m hm q i g e
    refine ⟨a, C, dx, vs, by rw [hi m hm q i g e]; exact h1, h2, h3, h4, h5, fun k v hk => ?_⟩
    rw [h (g + k) (Bool.eq_false_iff.mpr fun z => by
      have := (fr_mem z hm e).2
      have hl := (List.getElem?_eq_some_iff.mp hk).1
      omega)]
    exact h6 k v hk
  · rw [hi m hm q i g e] at h1
    rw [hi m' hm' q' i' g' e'] at h2
    exact x.ne m hm m' hm' q i g q' i' g' a e e' h1 h2
theorem XL.set (x : XL K O M σ H) {i : Nat} {o : Option V} (h : fr M i = true) : XL K O M (σ.set i o) H :=
  x.cong fun j hj => List.getElem?_set_ne (fun z => by rw [← z, h] at hj; exact nomatch hj)
theorem XL.none (h : ∀ m ∈ M, lkOf m = none) : XL K O M σ H := by
  refine ⟨fun m hm q i g e => ?_, fun m hm m' hm' q i g q' i' g' a e e' => ?_⟩ <;> (rw [h m hm] at e; exact nomatch e)
end

def MemoE (s : Str) (kvs : List (List Key × V)) : Prop := (∀ k v, (k, v) ∈ kvs → ∃ i j : Nat, i ≤ s.length ∧ j ≤ s.length ∧ k = [.inl i, .inl j] ∧ v = .str (memG s i j)) ∧ (kvs.map (·.1)).Nodup ∧ s.length ≤ 900
def enE (e : Int × Int × Str) : List Key × V := ([.inl e.1, .inl e.2.1], .str e.2.2)
def DicE (es : List (Int × Int × Str)) (kvs : List (List Key × V)) : Prop := kvs = es.map enE
@[reducible] def MemX : Rf → List (List Key × V) → Prop
  | .txt s, kvs => MemoE s kvs
  | .dic es, kvs => DicE es kvs
  | .gd _, _ => False
  | .kd _, _ => False
def Ow (K : PySem.W.Frag) (A : Addr → Prop) (H : Hp) (d : D) (u : HO) : Prop := (∃ vs ds, d = .lst ds ∧ u = .lst vs ∧ RpL K A H ds vs) ∨ ∃ s kvs, d = .ref s ∧ u = .dT kvs ∧ MemX s kvs
theorem Ow.ext {K : PySem.W.Frag} {A : Addr → Prop} {H H' : Hp} {d : D} {u : HO} (h : Ow K A H d u) (s : Same H H') : Ow K A H' d u := by
  rcases h with ⟨vs, ds, e1, e2, r⟩ | h
  · exact .inl ⟨vs, ds, e1, e2, same_rpl s r⟩
  · exact .inr h
theorem Ow.w {K : PySem.W.Frag} {A : Addr → Prop} {H : Hp} {d : D} {u : HO} {a : Addr} (h : Ow K A H d u) (ha : H a = some u) : RpW K A H d (.ref a) := by
  rcases h with ⟨vs, ds, e1, e2, r⟩ | ⟨s, kvs, e1, e2, r⟩
  · subst e2
    exact .inr ⟨a, vs, ds, e1, rfl, ha, r⟩
  · subst e1
    exact .inl (by rw [Rp]; exact ⟨a, rfl⟩)
theorem Ow.nt {K : PySem.W.Frag} {A : Addr → Prop} {H : Hp} {d : D} {u : HO} (h : Ow K A H d u) : NT u := by
  rcases h with ⟨vs, ds, e1, e2, r⟩ | ⟨s, kvs, e1, e2, r⟩ <;> subst e2 <;> exact fun ps z => nomatch z
theorem Ow.keep {K : PySem.W.Frag} {A A' : Addr → Prop} {H H' : Hp} {d : D} {u : HO} (h : Ow K A H d u) (k : Keep A A' H H') : Ow K A' H' d u := by
  rcases h with ⟨vs, ds, e1, e2, r⟩ | h
  · exact .inl ⟨vs, ds, e1, e2, k.rpl _ _ r⟩
  · exact .inr h
theorem Ow.lst {K : PySem.W.Frag} {A : Addr → Prop} {H : Hp} {ds : List D} {u : HO} (h : Ow K A H (.lst ds) u) : ∃ vs, u = .lst vs ∧ RpL K A H ds vs := by
  rcases h with ⟨vs, ds', e1, e2, r⟩ | ⟨s, kvs, e1, _⟩
  · cases e1
    exact ⟨vs, e2, r⟩
  · exact nomatch e1
theorem Ow.ni {K : PySem.W.Frag} {A : Addr → Prop} {H : Hp} {d : D} {u : HO} (h : Ow K A H d u) {C dx : Addr} {fs : List (Str × V)} : u ≠ .ins C dx fs := by
  rcases h with ⟨vs, ds, e1, e2, r⟩ | ⟨s, kvs, e1, e2, r⟩ <;> subst e2 <;> exact fun z => nomatch z
structure Ok (K : PySem.W.Frag) (O : Addr → Prop) (M : List Nat) (ρ : Rho) (σ : L2.St) (H : Hp) : Prop where
  o0 : ∀ b, O b → H b ≠ none
  len : σ.length = ρ.length
  non : ∀ i : Nat, ρ[i]? = some none → σ[i]? = some none
  val : ∀ (i : Nat) (d : D), ρ[i]? = some (some d) → i ∉ M → ∃ v, σ[i]? = some (some v) ∧ Rp K (Av O M σ) H d v
  own : ∀ (i : Nat) (d : D), ρ[i]? = some (some d) → i ∈ M → ∃ a u, σ[i]? = some (some (.ref a)) ∧ H a = some u ∧ ¬ O a ∧ Ow K (Av O M σ) H d u
  inj : ∀ (i j : Nat) (a : Addr), i ∈ M → j ∈ M → σ[i]? = some (some (.ref a)) → σ[j]? = some (some (.ref a)) → i = j
  lnk : XL K O M σ H

section
variable {K : PySem.W.Frag} {O : Addr → Prop} {H H' : Hp} {M : List Nat} {ρ : Rho} {σ : L2.St}
theorem not_none {α : Type} {o : Option α} {x : α} (h : o = some x) : o ≠ none := by rw [h]; exact fun z => nomatch z
theorem Ok.slot (h : Ok K O M ρ σ H) {i : Nat} {v : V} (e : σ[i]? = some (some v)) : ∃ d, ρ[i]? = some (some d) := by
  cases q : ρ[i]? with
  | none =>
    have l : ρ.length ≤ i := List.getElem?_eq_none_iff.mp q
    rw [List.getElem?_eq_none_iff.mpr (by rw [h.len]; exact l)] at e
    exact nomatch e
  | some x =>
    cases x with
    | none =>
      rw [h.non i q] at e
      exact nomatch e
    | some d => exact ⟨d, rfl⟩
theorem Ok.dom (h : Ok K O M ρ σ H) : ∀ b, Av O M σ b → H b ≠ none := fun b hb => by
  rcases hb with hb | ⟨i, hi, e⟩
  · exact h.o0 b hb
  · obtain ⟨d, hd⟩ := h.slot e
    obtain ⟨a, u, e2, ha, _⟩ := h.own i d hd hi
    rw [e] at e2
    cases e2
    exact not_none ha
theorem same_dom (s : Same H H') {b : Addr} (h : H b ≠ none) : H' b ≠ none := by
  cases q : H b with
  | none => exact absurd q h
  | some o => exact not_none (s b o q)
theorem Ok.ext (h : Ok K O M ρ σ H) (s : Same H H') : Ok K O M ρ σ H' := by
  refine ⟨fun b hb => same_dom s (h.o0 b hb), h.len, h.non, fun i d e n => ?_, fun i d e m => ?_, h.inj, h.lnk.same (fun b C dx fs e => s _ _ e) (fun _ _ _ _ _ z => z)⟩
  · obtain ⟨v, e2, r⟩ := h.val i d e n
    exact ⟨v, e2, same_rp s r⟩
  · obtain ⟨a, u, e2, ha, hg, r⟩ := h.own i d e m
    exact ⟨a, u, e2, s _ _ ha, hg, r.ext s⟩
end

def tE (c : Cf) (K : PySem.W.Frag) (M : List Nat) (e : E) : TE := fun σ H Q => ∃ O ρ d, Ok K O M ρ σ H ∧ ev c e ρ = .ok d ∧ ∀ v H', Same H H' → Rp K (Av O M σ) H' d v → Q v H'
def tW (c : Cf) (K : PySem.W.Frag) (M : List Nat) (e : E) : TE := fun σ H Q => ∃ O ρ d, Ok K O M ρ σ H ∧ ev c e ρ = .ok d ∧ ∀ v H', Same H H' → RpW K (Av O M σ) H' d v → Q v H'
def tEs (c : Cf) (K : PySem.W.Frag) (M : List Nat) (es : List E) : TA := fun σ H Q => ∃ O ρ ds, Ok K O M ρ σ H ∧ evs c es ρ = .ok ds ∧ ∀ vs H', Same H H' → RpL K (Av O M σ) H' ds vs → Q vs H'
def tWs (c : Cf) (K : PySem.W.Frag) (M : List Nat) (es : List E) : TA := fun σ H Q => ∃ O ρ ds, Ok K O M ρ σ H ∧ evs c es ρ = .ok ds ∧ ∀ vs H', Same H H' → RpWL K (Av O M σ) H' ds vs → Q vs H'
def tT (c : Cf) (K : PySem.W.Frag) (M : List Nat) (e : E) : TT := fun σ H Q => ∃ O ρ d b, Ok K O M ρ σ H ∧ ev c e ρ = .ok d ∧ truth d = some b ∧ ∀ H', Same H H' → Q b H'

section
variable {X : Cx} {e : Expr} {es : List Expr} {c : Cf} {M : List Nat}
theorem pe_imp {t t' : TE} (h : PE X e t) (q : ∀ σ H Q, t' σ H Q → t σ H Q) : PE X e t' := ⟨fun pins s σ H Q I w => h.run pins s σ H Q I (q σ H Q w)⟩
theorem pt_imp {t t' : TT} (h : PT X e t) (q : ∀ σ H Q, t' σ H Q → t σ H Q) : PT X e t' := ⟨fun pins s σ H Q I w => h.run pins s σ H Q I (q σ H Q w)⟩
theorem pw_imp {t t' : TT} (h : PW X e t) (q : ∀ σ H Q, t' σ H Q → t σ H Q) : PW X e t' := ⟨fun wh pins s σ H Q I w => h.run wh pins s σ H Q I (q σ H Q w)⟩
theorem pa_imp {t t' : TA} (h : PA X es t) (q : ∀ σ H Q, t' σ H Q → t σ H Q) : PA X es t' := ⟨fun pos pins s σ H Q I w => h.run pos pins s σ H Q I (q σ H Q w)⟩
theorem pe_weak {f : E} (h : PE X e (tE c X.K M f)) : PE X e (tW c X.K M f) := pe_imp h fun σ H Q ⟨O, ρ, d, o, ee, q⟩ => ⟨O, ρ, d, o, ee, fun v H' s r => q v H' s r.w⟩

theorem l_var {i : Nat} {x : Str} {pos : Pos} (hN : X.N[i]? = some x) (hv : Vis X.env.scope x) (hd : (x == ("__debug__" : Str)) = false) (hcd : (x == ("__classdict__" : Str)) = false) (hM : i ∉ M) :
    PE X (.Name x pos) (tE c X.K M (.var i)) := pe_imp (pe_var hN hv hd hcd) fun σ H Q ⟨O, ρ, d, o, ee, q⟩ => by
  rw [ev, get] at ee
  split at ee
  · rename_i d' hd'
    cases ee
    obtain ⟨v, e2, r⟩ := o.val i d hd' hM
    exact ⟨v, e2, q v H (Same.refl H) r⟩
  · exact nomatch ee
theorem l_varW {i : Nat} {x : Str} {pos : Pos} (hN : X.N[i]? = some x) (hv : Vis X.env.scope x) (hd : (x == ("__debug__" : Str)) = false) (hcd : (x == ("__classdict__" : Str)) = false) :
    PE X (.Name x pos) (tW c X.K M (.var i)) := by
  by_cases hM : i ∈ M
  · refine pe_imp (pe_var hN hv hd hcd) fun σ H Q ⟨O, ρ, d, o, ee, q⟩ => ?_
    rw [ev, get] at ee
    split at ee
    · rename_i d' hd'
      cases ee
      obtain ⟨a, u, e2, ha, hg, r⟩ := o.own i d hd' hM
      exact ⟨.ref a, e2, q _ H (Same.refl H) (r.w ha)⟩
    · exact nomatch ee
  · exact pe_weak (l_var hN hv hd hcd hM)
theorem fld_get {K : PySem.W.Frag} {O : Addr → Prop} {ρ : Rho} {σ : L2.St} {H : Hp} (o : Ok K O M ρ σ H) {m q i g k : Nat} {f : Str} (hm : m ∈ M) (hl : lkOf m = some (q, i, g)) (hf : (flds q)[k]? = some f) (hnd : (flds q).Nodup) :
    ∃ a C dx fs v, σ[i]? = some (some (.ref a)) ∧ H a = some (.ins C dx fs) ∧ Cls K C ∧ NoAttr K C f ∧ fs.lookup f = some v ∧ σ[g + k]? = some (some v) := by
  obtain ⟨a, C, dx, vs, h1, h2, h3, h4, h5, h6⟩ := o.lnk.at_ m hm q i g hl
  have hk : k < vs.length := by rw [h4]; exact (List.getElem?_eq_some_iff.mp hf).1
  refine ⟨a, C, dx, _, vs[k], h1, h3, h5.cl, h5.na f (List.mem_of_getElem? hf), ?_, h6 k _ (List.getElem?_eq_getElem hk)⟩
  clear h3 h6 o hl hm h1 h2
  revert k vs
  generalize flds q = l at hnd
  induction l with
  | nil => intro k hf; exact nomatch hf
  | cons x r ih =>
    intro k hf vs h4 hk
    cases vs with
    | nil => exact nomatch h4
    | cons v vs =>
      rw [List.zip_cons_cons, List.lookup_cons]
      cases k with
      | zero =>
        cases hf
        rw [beq_self_eq_true]
        rfl
      | succ k =>
        have hf' : r[k]? = some f := hf
        have hne : (f == x) = false := by
          rw [beq_eq_false_iff_ne]
          intro z
          rw [z] at hf'
          exact (List.nodup_cons.mp hnd).1 (List.mem_of_getElem? hf')
        rw [hne]
        exact ih (List.nodup_cons.mp hnd).2 hf' vs (Nat.succ.inj h4) (Nat.lt_of_succ_lt_succ hk)
theorem flds_nd (q : Nat) : (flds q).Nodup := by
  unfold flds
  split <;> decide +kernel
theorem l_fld {m q i g k : Nat} {x f : Str} {pos pos' : Pos} (hN : X.N[i]? = some x) (hv : Vis X.env.scope x) (hd : (x == ("__debug__" : Str)) = false) (hcd : (x == ("__classdict__" : Str)) = false) (hm : m ∈ M) (hl : lkOf m = some (q, i, g)) (hf : (flds q)[k]? = some f) (hM : g + k ∉ M) :
    PE X (.Attribute (.Name x pos) f pos') (tE c X.K M (.var (g + k))) := pe_imp (pe_fld (pe_var hN hv hd hcd) rfl) fun σ H Q ⟨O, ρ, d, o, ee, qq⟩ => by
  rw [ev, get] at ee
  split at ee
  · rename_i d' hd'
    cases ee
    obtain ⟨v, e2, r⟩ := o.val (g + k) d hd' hM
    obtain ⟨a, C, dx, fs, v', h1, h2, h3, h4, h5, h6⟩ := fld_get o hm hl hf (flds_nd q)
    rw [h6] at e2
    cases e2
    exact ⟨.ref a, h1, a, C, dx, fs, v, rfl, h2, h3, h4, h5, qq v H (Same.refl H) r⟩
  · exact nomatch ee
theorem l_fldW {m q i g k : Nat} {x f : Str} {pos pos' : Pos} (hN : X.N[i]? = some x) (hv : Vis X.env.scope x) (hd : (x == ("__debug__" : Str)) = false) (hcd : (x == ("__classdict__" : Str)) = false) (hm : m ∈ M) (hl : lkOf m = some (q, i, g)) (hf : (flds q)[k]? = some f) :
    PE X (.Attribute (.Name x pos) f pos') (tW c X.K M (.var (g + k))) := by
  by_cases hM : g + k ∈ M
  · refine pe_imp (pe_fld (pe_var hN hv hd hcd) rfl) fun σ H Q ⟨O, ρ, d, o, ee, qq⟩ => ?_
    rw [ev, get] at ee
    split at ee
    · rename_i d' hd'
      cases ee
      obtain ⟨b, u, e2, hb, hg, r⟩ := o.own (g + k) d hd' hM
      obtain ⟨a, C, dx, fs, v', h1, h2, h3, h4, h5, h6⟩ := fld_get o hm hl hf (flds_nd q)
      rw [h6] at e2
      cases e2
      exact ⟨.ref a, h1, a, C, dx, fs, _, rfl, h2, h3, h4, h5, qq _ H (Same.refl H) (r.w hb)⟩
    · exact nomatch ee
  · exact pe_weak (l_fld hN hv hd hcd hm hl hf hM)
theorem l_cst {t : V} {d : D} (h : PE X e (tC t)) (r : ∀ K O H, Rp K O H d t) : PE X e (tE c X.K M (.cst d)) := pe_imp h fun σ H Q ⟨O, ρ, d', o, ee, q⟩ => by
  rw [ev] at ee
  cases ee
  exact q t H (Same.refl H) (r _ _ _)
theorem l_glb {x : Str} {d : D} {t : V} (h : PE X e (tC t)) (hl : c.glb.lookup x = some d) (r : ∀ O H, Rp X.K O H d t) : PE X e (tE c X.K M (.glb x)) := pe_imp h fun σ H Q ⟨O, ρ, d', o, ee, q⟩ => by
  rw [ev, hl] at ee
  cases ee
  exact q t H (Same.refl H) (r _ _)

theorem l_op2 {a b f : E} {g : D → D → R D} {ta tb : TE} {r : R2} (hs : OpS X.K r g) (he : ∀ ρ, ev c f ρ = (ev c a ρ).bind fun x => (ev c b ρ).bind fun y => g x y)
    {ea : Expr} (h : PE X ea (tOp r (tW c X.K M a) (tW c X.K M b))) : PE X ea (tE c X.K M f) := pe_imp h fun σ H Q ⟨O, ρ, d, o, ee, q⟩ => by
  rw [he] at ee
  obtain ⟨x, e1, ee⟩ := bind_ok ee
  obtain ⟨y, e2, ee⟩ := bind_ok ee
  refine ⟨O, ρ, x, o, e1, fun v H1 s1 r1 => ⟨O, ρ, y, o.ext s1, e2, fun w H2 s2 r2 => ?_⟩⟩
  exact hs _ H2 x y d v w Q ((o.ext s1).ext s2).dom (same_rpw s2 r1) r2 ee fun u H3 s3 r3 => q u H3 ((s1.trans s2).trans s3) r3
theorem l_bin {op : Operator} {a b : Expr} {a' b' : E} {pos : Pos} (ho : Opp X (binaryOp op) (dBin op)) (ha : PE X a (tW c X.K M a')) (hb : PE X b (tW c X.K M b')) : PE X (.BinOp a op b pos) (tE c X.K M (.bin op a' b')) := by
  obtain ⟨r, h1, h2⟩ := ho
  exact l_op2 (ta := tW c X.K M a') (tb := tW c X.K M b') h2 (fun ρ => by rw [ev]) (pe_op h1 ha hb)
theorem l_cmp {op : CmpOp} {a b : Expr} {a' b' : E} {pos : Pos} (ho : Opp X (compareOp op) (dCmp op)) (ha : PE X a (tW c X.K M a')) (hb : PE X b (tW c X.K M b')) (hm : behindInMarks op b = false) : PE X (.Compare a [op] [b] pos) (tE c X.K M (.cmp op a' b')) := by
  obtain ⟨r, h1, h2⟩ := ho
  exact l_op2 (ta := tW c X.K M a') (tb := tW c X.K M b') h2 (fun ρ => by rw [ev]) (pe_cmpR h1 ha hb hm)
theorem l_neg {a : Expr} {a' : E} {pos : Pos} (ha : PE X a (tW c X.K M a')) : PE X (.UnaryOp .USub a pos) (tE c X.K M (.neg a')) := pe_imp (pe_un un_neg ha) fun σ H Q ⟨O, ρ, d, o, ee, q⟩ => by
  rw [ev] at ee
  obtain ⟨x, e1, ee⟩ := bind_ok ee
  refine ⟨O, ρ, x, o, e1, fun v H1 s1 r1 => ?_⟩
  split at ee
  · cases r1.int
    cases ee
    exact ⟨_, rfl, q _ H1 s1 rp_int⟩
  · exact nomatch ee
theorem l_not {a : Expr} {a' : E} {pos : Pos} (ha : PE X a (tW c X.K M a')) : PE X (.UnaryOp .Not a pos) (tE c X.K M (.not a')) := pe_imp (pe_not ha) fun σ H Q ⟨O, ρ, d, o, ee, q⟩ => by
  rw [ev] at ee
  obtain ⟨x, e1, ee⟩ := bind_ok ee
  refine ⟨O, ρ, x, o, e1, fun v H1 s1 r1 => ?_⟩
  split at ee
  · cases r1.bl
    cases ee
    exact ⟨_, rfl, q _ H1 s1 rp_bl⟩
  · exact nomatch ee
theorem l_and {a b : Expr} {rest : List Expr} {a' b' : E} {pos : Pos} (ha : PE X a (tW c X.K M a')) (hb : PE X (.BoolOp .And (b :: rest) pos) (tE c X.K M b')) : PE X (.BoolOp .And (a :: b :: rest) pos) (tE c X.K M (.and a' b')) := pe_imp (pe_and ha hb) fun σ H Q ⟨O, ρ, d, o, ee, q⟩ => by
  rw [ev] at ee
  obtain ⟨x, e1, ee⟩ := bind_ok ee
  refine ⟨O, ρ, x, o, e1, fun v H1 s1 r1 => ?_⟩
  split at ee
  · cases r1.bl
    exact ⟨_, rfl, iteT ⟨O, ρ, d, o.ext s1, ee, fun v H2 s2 r2 => q v H2 (s1.trans s2) r2⟩⟩
  · cases r1.bl
    cases ee
    exact ⟨_, rfl, iteF (q _ H1 s1 rp_bl)⟩
  · exact nomatch ee
theorem l_or {a b : Expr} {rest : List Expr} {a' b' : E} {pos : Pos} (ha : PE X a (tW c X.K M a')) (hb : PE X (.BoolOp .Or (b :: rest) pos) (tE c X.K M b')) : PE X (.BoolOp .Or (a :: b :: rest) pos) (tE c X.K M (.or a' b')) := pe_imp (pe_or ha hb) fun σ H Q ⟨O, ρ, d, o, ee, q⟩ => by
  rw [ev] at ee
  obtain ⟨x, e1, ee⟩ := bind_ok ee
  refine ⟨O, ρ, x, o, e1, fun v H1 s1 r1 => ?_⟩
  split at ee
  · cases r1.bl
    cases ee
    exact ⟨_, rfl, iteT (q _ H1 s1 rp_bl)⟩
  · cases r1.bl
    exact ⟨_, rfl, iteF ⟨O, ρ, d, o.ext s1, ee, fun v H2 s2 r2 => q v H2 (s1.trans s2) r2⟩⟩
  · exact nomatch ee
theorem l_chn {op op' : CmpOp} {a b e3 : Expr} {a' b' f : E} {pos : Pos} (ho : Opp X (compareOp op) (dCmp op)) (ho' : Opp X (compareOp op') (dCmp op')) (ha : PE X a (tW c X.K M a')) (hb : PE X b (tW c X.K M b')) (hc : PE X e3 (tW c X.K M f)) (hm : behindInMarks op' e3 = false) :
    PE X (.Compare a [op, op'] [b, e3] pos) (tE c X.K M (.chn op op' a' b' f)) := by
  obtain ⟨r, h1, h2⟩ := ho
  obtain ⟨r', h1', h2'⟩ := ho'
  refine pe_imp (pe_chain h1 h1' ha hb hc (by simp [lastMarks, hm])) fun σ H Q ⟨O, ρ, d, o, ee, q⟩ => ?_
  rw [ev] at ee
  obtain ⟨x, e1, ee⟩ := bind_ok ee
  obtain ⟨y, e2, ee⟩ := bind_ok ee
  obtain ⟨z, e3, ee⟩ := bind_ok ee
  refine ⟨O, ρ, x, o, e1, fun v H1 s1 r1 => ⟨O, ρ, y, o.ext s1, e2, fun w H2 s2 r2 => ?_⟩⟩
  refine h2 _ H2 x y z v w _ ((o.ext s1).ext s2).dom (same_rpw s2 r1) r2 e3 fun u H3 s3 r3 => ?_
  split at ee
  · cases r3.w.bl
    refine ⟨_, rfl, iteT ⟨O, ρ, ?_⟩⟩
    obtain ⟨w4, e4, ee⟩ := bind_ok ee
    refine ⟨w4, ((o.ext s1).ext s2).ext s3, e4, fun u4 H4 s4 r4 => ?_⟩
    exact h2' _ H4 y w4 d w u4 Q (((o.ext s1).ext s2).ext (s3.trans s4)).dom (same_rpw (s3.trans s4) r2) r4 ee fun u5 H5 s5 r5 => q u5 H5 ((s1.trans s2).trans ((s3.trans s4).trans s5)) r5
  · cases r3.w.bl
    cases ee
    exact ⟨_, rfl, iteF (q _ H3 ((s1.trans s2).trans s3) rp_bl)⟩
  · exact nomatch ee
theorem l_nil : PA X [] (tEs c X.K M []) := pa_imp pa_nil fun σ H Q ⟨O, ρ, ds, o, ee, q⟩ => by
  rw [evs] at ee
  cases ee
  exact q [] H (Same.refl H) RpL.nil
theorem l_cons {a : Expr} {as : List Expr} {a' : E} {as' : List E} (ha : PE X a (tE c X.K M a')) (hr : PA X as (tEs c X.K M as')) (hs : starEach (a :: as) X.env = (false, eval a X.env) :: starEach as X.env) : PA X (a :: as) (tEs c X.K M (a' :: as')) := pa_imp (pa_cons ha hr hs) fun σ H Q ⟨O, ρ, ds, o, ee, q⟩ => by
  rw [evs] at ee
  obtain ⟨x, e1, ee⟩ := bind_ok ee
  obtain ⟨xs, e2, ee⟩ := bind_ok ee
  cases ee
  exact ⟨O, ρ, x, o, e1, fun v H1 s1 r1 => ⟨O, ρ, xs, o.ext s1, e2, fun vs H2 s2 r2 => q _ H2 (s1.trans s2) (RpL.cons (same_rp s2 r1) r2)⟩⟩
theorem l_nilW : PA X [] (tWs c X.K M []) := pa_imp pa_nil fun σ H Q ⟨O, ρ, ds, o, ee, q⟩ => by
  rw [evs] at ee
  cases ee
  exact q [] H (Same.refl H) rfl
theorem l_consW {a : Expr} {as : List Expr} {a' : E} {as' : List E} (ha : PE X a (tW c X.K M a')) (hr : PA X as (tWs c X.K M as')) (hs : starEach (a :: as) X.env = (false, eval a X.env) :: starEach as X.env) : PA X (a :: as) (tWs c X.K M (a' :: as')) := pa_imp (pa_cons ha hr hs) fun σ H Q ⟨O, ρ, ds, o, ee, q⟩ => by
  rw [evs] at ee
  obtain ⟨x, e1, ee⟩ := bind_ok ee
  obtain ⟨xs, e2, ee⟩ := bind_ok ee
  cases ee
  exact ⟨O, ρ, x, o, e1, fun v H1 s1 r1 => ⟨O, ρ, xs, o.ext s1, e2, fun vs H2 s2 r2 => q _ H2 (s1.trans s2) ⟨_, _, rfl, same_rpw s2 r1, r2⟩⟩⟩
theorem l_tup {k : Nat} {pos : Pos} {es' : List E} (h : PA X es (tEs c X.K M es')) : PE X (.Tuple es k pos) (tE c X.K M (.tup es')) := pe_imp (pe_tup h) fun σ H Q ⟨O, ρ, d, o, ee, q⟩ => by
  rw [ev] at ee
  obtain ⟨ds, e1, ee⟩ := bind_ok ee
  obtain ⟨hl, e2⟩ := ok_ite ee
  cases e2
  exact ⟨O, ρ, ds, o, e1, fun vs H1 s1 r1 => ⟨by rw [← r1.length]; exact lim_line hl, fun p hp => q _ _ (s1.trans (same_new hp)) (new_tup hp (o.ext s1).dom r1)⟩⟩
theorem l_lst {pos : Pos} {es' : List E} (h : PA X es (tEs c X.K M es')) : PE X (.List es pos) (tE c X.K M (.lst es')) := pe_imp (pe_lst h) fun σ H Q ⟨O, ρ, d, o, ee, q⟩ => by
  rw [ev] at ee
  obtain ⟨ds, e1, ee⟩ := bind_ok ee
  obtain ⟨hl, e2⟩ := ok_ite ee
  cases e2
  exact ⟨O, ρ, ds, o, e1, fun vs H1 s1 r1 => ⟨by rw [← r1.length]; exact lim_line hl, fun p hp => q _ _ (s1.trans (same_new hp)) (new_lst hp (o.ext s1).dom r1)⟩⟩
def CallS (K : PySem.W.Frag) (r : List V → Hp → VK → Prop) (f : List D → R D) : Prop :=
  ∀ (O : Addr → Prop) (H : Hp) (xs : List D) (d : D) (vs : List V) (Q : VK), (∀ b, O b → H b ≠ none) → RpWL K O H xs vs → f xs = .ok d → (∀ u H', Same H H' → Rp K O H' d u → Q u H') → r vs H Q
theorem l_bi {a : Expr} {as : List Expr} {f : E} {as' : List E} {g : List D → R D} {r : List V → Hp → VK → Prop} (hs : CallS X.K r g) (he : ∀ ρ, ev c f ρ = (evs c as' ρ).bind g) (h : PE X e (tCB r (tWs c X.K M as'))) : PE X e (tE c X.K M f) := pe_imp h fun σ H Q ⟨O, ρ, d, o, ee, q⟩ => by
  rw [he] at ee
  obtain ⟨xs, e1, ee⟩ := bind_ok ee
  exact ⟨O, ρ, xs, o, e1, fun vs H1 s1 r1 => hs _ H1 xs d vs Q (o.ext s1).dom r1 ee fun u H2 s2 r2 => q u H2 (s1.trans s2) r2⟩
def spF (K : PySem.W.Frag) (f : List D → R D) : Sp := fun vs H Q _ => ∃ (O : Addr → Prop) (ds : List D) (d : D), (∀ b, O b → H b ≠ none) ∧ RpL K O H ds vs ∧ f ds = .ok d ∧ ∀ v H', Same H H' → Rp K O H' d v → Q v H'
theorem l_call {x : Str} {p pos : Pos} {a : Expr} {as : List Expr} {as' : List E} {k : Nat} {f : Addr} {fd : FuncData} {ps : List Str} (F : FnOk X.prog X.w X.K X.mg X.base CX0 k f fd ps (spF X.K (c.call x))) (hr : Room k X.A) (hg : Gl X x) (hm : X.mg x = some (.ref f))
    (hk : PySem.W.keepIn X.K (.ref f) = true) (hb : Binds X.K fd ps []) (ha : PA X (a :: as) (tEs c X.K M as')) (hdb : (x == ("__debug__" : Str)) = false)
    (hs : starEach (a :: as) X.env = (false, eval a X.env) :: starEach as X.env) (hpl : (backTo pos (starEach as X.env)).any (·.1) = false) : PE X (.Call (.Name x p) (a :: as) [] pos) (tE c X.K M (.call x as')) :=
  pe_imp (pe_call F hr hg hm hk hb .nil pass0 ha hdb hs hpl) fun σ H Q ⟨O, ρ, d, o, ee, q⟩ => by
  rw [ev] at ee
  obtain ⟨xs, e1, ee⟩ := bind_ok ee
  refine ⟨O, ρ, xs, o, e1, fun vs H1 s1 r1 => ?_⟩
  show spF X.K (c.call x) (vs ++ []) H1 Q E0
  rw [List.append_nil]
  exact ⟨Av O M σ, xs, d, (o.ext s1).dom, r1, ee, fun v H2 s2 r2 => q v H2 (s1.trans s2) r2⟩
theorem l_truth {a : Expr} {a' : E} (ha : PE X a (tW c X.K M a')) (he : ∀ whole, isTrue a X.env whole = (do let v ← whole; standAt a.pos; holding [v] (truthy v))) : PT X a (tT c X.K M a') := pt_imp (pt_truth ha he) fun σ H Q ⟨O, ρ, d, b, o, ee, et, q⟩ => by
  refine ⟨O, ρ, d, o, ee, fun v H1 s1 r1 => ⟨b, ?_, q H1 s1⟩⟩
  cases d with
  | non => cases r1.non; cases et; exact rfl
  | bl b => cases r1.bl; cases et; exact rfl
  | int b => cases r1.int; cases et; exact rfl
  | str b =>
    cases r1.str
    rw [truth] at et
    split at et
    · cases et
      exact ⟨lim_line (by assumption), rfl⟩
    · exact nomatch et
  | ref a => exact nomatch et
  | tup ds =>
    obtain ⟨a, vs, rfl, t, l⟩ := r1.tup
    cases et
    refine .inr (.inl ⟨vs, t.sq, ?_⟩)
    have := l.length
    cases ds <;> cases vs <;> first | rfl | simp at this
  | lst ds =>
    obtain ⟨a, vs, rfl, t, l⟩ := r1.lst
    cases et
    refine .inl ⟨vs, .inl t, ?_⟩
    have := l.length
    cases ds <;> cases vs <;> first | rfl | simp at this
theorem l_cmpT {op : CmpOp} {a b : Expr} {a' b' : E} {pos : Pos} (ho : Opp X (compareOp op) (dCmp op)) (ha : PE X a (tW c X.K M a')) (hb : PE X b (tW c X.K M b')) (hm : behindInMarks op b = false) (hB : ∀ x y d, dCmp op x y = .ok d → ∃ k, d = .bl k) : PT X (.Compare a [op] [b] pos) (tT c X.K M (.cmp op a' b')) := by
  obtain ⟨r, h1, h2⟩ := ho
  refine pt_imp (pt_cmpR h1 ha hb hm) fun σ H Q ⟨O, ρ, d, b, o, ee, et, q⟩ => ?_
  rw [ev] at ee
  obtain ⟨x, e1, ee⟩ := bind_ok ee
  obtain ⟨y, e2, ee⟩ := bind_ok ee
  refine ⟨O, ρ, x, o, e1, fun v H1 s1 r1 => ⟨O, ρ, y, o.ext s1, e2, fun w H2 s2 r2 => ?_⟩⟩
  refine h2 _ H2 x y d v w _ ((o.ext s1).ext s2).dom (same_rpw s2 r1) r2 ee fun u H3 s3 r3 => ?_
  obtain ⟨k, rfl⟩ := hB x y d ee
  cases r3.w.bl
  cases et
  exact ⟨_, rfl, q H3 ((s1.trans s2).trans s3)⟩
theorem dOrd_bl {p : Int → Int → Bool} {x y d : D} (h : dOrd p x y = .ok d) : ∃ k, d = .bl k := by
  unfold dOrd at h
  split at h
  · exact ⟨_, (R.ok_inj h).symm⟩
  · exact nomatch h
theorem dOrdT_bl {p : Int → Int → Bool} {t : Int → Str → Int → Str → Bool} {x y d : D} (h : dOrdT p t x y = .ok d) : ∃ k, d = .bl k := by
  unfold dOrdT at h
  split at h
  · exact ⟨_, (R.ok_inj h).symm⟩
  · exact ⟨_, (R.ok_inj h).symm⟩
  · exact nomatch h
theorem dCmp_bl {op : CmpOp} {x y d : D} (h : dCmp op x y = .ok d) : ∃ k, d = .bl k := by
  cases op with
  | Eq => obtain ⟨b, _, e⟩ := rB_ok h; exact ⟨_, e⟩
  | NotEq => obtain ⟨b, _, e⟩ := rN_ok h; exact ⟨_, e⟩
  | Is => obtain ⟨b, _, e⟩ := rB_ok h; exact ⟨_, e⟩
  | IsNot => obtain ⟨b, _, e⟩ := rN_ok h; exact ⟨_, e⟩
  | In => obtain ⟨b, _, e⟩ := rB_ok h; exact ⟨_, e⟩
  | NotIn => obtain ⟨b, _, e⟩ := rN_ok h; exact ⟨_, e⟩
  | Lt => exact dOrdT_bl h
  | LtE => exact dOrd_bl h
  | Gt => exact dOrdT_bl h
  | GtE => exact dOrd_bl h
theorem l_notT {a : Expr} {a' : E} {pos : Pos} (ha : PT X a (tT c X.K M a')) : PT X (.UnaryOp .Not a pos) (tT c X.K M (.not a')) := pt_imp (pt_not ha) fun σ H Q ⟨O, ρ, d, b, o, ee, et, q⟩ => by
  rw [ev] at ee
  obtain ⟨x, e1, ee⟩ := bind_ok ee
  split at ee
  · cases ee
    cases et
    exact ⟨O, ρ, _, _, o, e1, rfl, fun H1 s1 => q H1 s1⟩
  · exact nomatch ee
theorem l_andT {a b : Expr} {rest : List Expr} {a' b' : E} {pos : Pos} (ha : PT X a (tT c X.K M a')) (hb : PW X (.BoolOp .And (b :: rest) pos) (tT c X.K M b')) : PW X (.BoolOp .And (a :: b :: rest) pos) (tT c X.K M (.and a' b')) := pw_imp (pw_and ha hb) fun σ H Q ⟨O, ρ, d, t, o, ee, et, q⟩ => by
  rw [ev] at ee
  obtain ⟨x, e1, ee⟩ := bind_ok ee
  split at ee
  · exact ⟨O, ρ, _, true, o, e1, rfl, fun H1 s1 => iteT ⟨O, ρ, d, t, o.ext s1, ee, et, fun H2 s2 => q H2 (s1.trans s2)⟩⟩
  · cases ee
    cases et
    exact ⟨O, ρ, _, false, o, e1, rfl, fun H1 s1 => iteF (q H1 s1)⟩
  · exact nomatch ee
theorem l_orT {a b : Expr} {rest : List Expr} {a' b' : E} {pos : Pos} (ha : PT X a (tT c X.K M a')) (hb : PW X (.BoolOp .Or (b :: rest) pos) (tT c X.K M b')) : PW X (.BoolOp .Or (a :: b :: rest) pos) (tT c X.K M (.or a' b')) := pw_imp (pw_or ha hb) fun σ H Q ⟨O, ρ, d, t, o, ee, et, q⟩ => by
  rw [ev] at ee
  obtain ⟨x, e1, ee⟩ := bind_ok ee
  split at ee
  · cases ee
    cases et
    exact ⟨O, ρ, _, true, o, e1, rfl, fun H1 s1 => iteT (q H1 s1)⟩
  · exact ⟨O, ρ, _, false, o, e1, rfl, fun H1 s1 => iteF ⟨O, ρ, d, t, o.ext s1, ee, et, fun H2 s2 => q H2 (s1.trans s2)⟩⟩
  · exact nomatch ee
end
end LC

set_option Elab.async false
set_option linter.all false
set_option maxRecDepth 100000
set_option maxHeartbeats 1000000
namespace LC
open PySem PySem.Spec PyProof.Rows L2

theorem atI_map {α β : Type} (f : α → β) (xs : List α) (i : Int) : atI (xs.map f) i = (atI xs i).map f := by
  unfold atI
  rw [List.length_map]
  cases ixN xs.length i with
  | none => rfl
  | some j => exact List.getElem?_map
theorem mem_of_atI {α : Type} {xs : List α} {i : Int} {x : α} (h : atI xs i = some x) : x ∈ xs := by
  unfold atI at h
  cases q : ixN xs.length i with
  | none => rw [q] at h; exact nomatch h
  | some j => rw [q] at h; exact List.mem_of_getElem? h
section
variable {K : PySem.W.Frag} {O : Addr → Prop} {H : Hp} {ds : List D} {vs : List V} {d : D}
theorem RpL.atI (h : RpL K O H ds vs) {i : Int} (e : L2.atI ds i = some d) : ∃ v, L2.atI vs i = some v ∧ Rp K O H d v := by
  obtain ⟨ps, rfl, rfl, q⟩ := h.zip
  rw [atI_map] at e ⊢
  cases hp : L2.atI ps i with
  | none =>
    rw [hp] at e
    exact nomatch e
  | some p =>
    rw [hp] at e
    cases e
    exact ⟨p.2, rfl, q p (mem_of_atI hp)⟩
theorem rpl_ints : ∀ {ds : List D} {vs : List V} {ns : List Int}, RpL K O H ds vs → intsOf ds = some ns → vs = ns.map V.int
  | [], _, _, h, e => by
    rw [RpL] at h
    subst h
    cases e
    rfl
  | d :: ds, _, ns, h, e => by
    rw [RpL] at h
    obtain ⟨v, r, rfl, t, l⟩ := h
    cases d with
    | int i =>
      rw [intsOf] at e
      cases q : intsOf ds with
      | none => rw [q] at e; exact nomatch e
      | some ms =>
        rw [q] at e
        cases e
        rw [Rp] at t
        rw [t, rpl_ints l q]
        rfl
    | _ => exact nomatch e
theorem rpl_bools : ∀ {ds : List D} {vs : List V} {ns : List Bool}, RpL K O H ds vs → boolsOf ds = some ns → vs = ns.map V.bl
  | [], _, _, h, e => by
    rw [RpL] at h
    subst h
    cases e
    rfl
  | d :: ds, _, ns, h, e => by
    rw [RpL] at h
    obtain ⟨v, r, rfl, t, l⟩ := h
    cases d with
    | bl i =>
      rw [boolsOf] at e
      cases q : boolsOf ds with
      | none => rw [q] at e; exact nomatch e
      | some ms =>
        rw [q] at e
        cases e
        rw [Rp] at t
        rw [t, rpl_bools l q]
        rfl
    | _ => exact nomatch e
end

section
variable {X : Cx} {c : Cf} {M : List Nat}
theorem ops_ix {K : PySem.W.Frag} : OpS K (rIx K) dIdx := by
  intro O H x y d v w Q hO hx hy he q
  unfold dIdx at he
  split at he
  · obtain ⟨a, vs, rfl, t, l⟩ := hx.tup
    cases hy.int
    split at he
    · rename_i d' hd
      cases he
      obtain ⟨u, hu, r⟩ := l.atI hd
      exact .inr (.inl ⟨a, vs, _, u, rfl, rfl, t.sq, hu, q u H (Same.refl H) r⟩)
    · exact nomatch he
  · obtain ⟨a, vs, rfl, t, l⟩ := hx.lst
    cases hy.int
    split at he
    · rename_i d' hd
      cases he
      obtain ⟨u, hu, r⟩ := l.atI hd
      exact .inl ⟨a, vs, _, u, rfl, rfl, .inl t, hu, q u H (Same.refl H) r⟩
    · exact nomatch he
  · cases hx.str
    cases hy.int
    split at he
    · split at he
      · rename_i hl _ c hc
        cases he
        exact .inr (.inr ⟨_, _, c, rfl, rfl, lim_line hl, hc, q _ H (Same.refl H) rp_str⟩)
      · exact nomatch he
    · exact nomatch he
  · exact nomatch he
theorem l_idx {a b : Expr} {a' b' : E} {pos : Pos} (ha : PE X a (tW c X.K M a')) (hb : PE X b (tW c X.K M b')) (hs : PlainIx b) : PE X (.Subscript a b pos) (tE c X.K M (.idx a' b')) :=
  l_op2 (ta := tW c X.K M a') (tb := tW c X.K M b') ops_ix (fun ρ => by rw [ev]) (pe_ix ix_seq ha hb hs)

def tO (c : Cf) (K : PySem.W.Frag) (M : List Nat) (b : Bool) (e : E) : TO := fun σ H Q => ∃ O ρ i, Ok K O M ρ σ H ∧ prt b (ev c e ρ) = .ok i ∧ ∀ H', Same H H' → Q i H'
theorem po_imp {e : Option Expr} {t t' : TO} (h : PO X e t) (q : ∀ σ H Q, t' σ H Q → t σ H Q) : PO X e t' := ⟨fun pins s σ H Q I w => h.run pins s σ H Q I (q σ H Q w)⟩
theorem l_noPart {e : E} : PO X none (tO c X.K M false e) := po_imp po_none fun σ H Q ⟨O, ρ, i, o, ee, q⟩ => by
  rw [prt] at ee
  cases ee
  exact q H (Same.refl H)
theorem l_part {a : Expr} {a' : E} (h : PE X a (tW c X.K M a')) : PO X (some a) (tO c X.K M true a') := po_imp (po_some h) fun σ H Q ⟨O, ρ, i, o, ee, q⟩ => by
  cases hd : ev c a' ρ with
  | ok d =>
    rw [hd] at ee
    refine ⟨O, ρ, d, o, hd, fun v H1 s1 r1 => ?_⟩
    cases d with
    | int j =>
      cases r1.int
      cases ee
      exact ⟨j, rfl, q H1 s1⟩
    | _ => exact nomatch ee
  | exc x =>
    rw [hd] at ee
    exact nomatch ee
  | bad =>
    rw [hd] at ee
    exact nomatch ee
theorem cut_whole {xs : List D} {n : Nat} {l h : Option Int} (hlen : xs.length = n) (h1 : HT.sIx n 0 l = 0) (h2 : HT.sIx n n h = n) : cutL xs l h = xs := by
  unfold cutL
  rw [hlen, h1, h2, List.drop_zero, Nat.sub_zero, ← hlen, List.take_length]
theorem l_cut {a : Expr} {lo hi : Option Expr} {a' lo' hi' : E} {bl bh : Bool} {p2 pos : Pos} (ha : PE X a (tW c X.K M a')) (hl : PO X lo (tO c X.K M bl lo')) (hh : PO X hi (tO c X.K M bh hi')) : PE X (.Subscript a (.Slice lo hi none p2) pos) (tE c X.K M (.cut a' bl lo' bh hi')) :=
  pe_imp (pe_slice (sl_tupA.or (sl_list.or sl_str)) ha hl hh) fun σ H Q ⟨O, ρ, d, o, ee, q⟩ => by
  rw [ev] at ee
  obtain ⟨x, e1, ee⟩ := bind_ok ee
  obtain ⟨l, e2, ee⟩ := bind_ok ee
  obtain ⟨h, e3, ee⟩ := bind_ok ee
  unfold dCut at ee
  · refine ⟨O, ρ, x, o, e1, fun v H1 s1 r1 => ⟨O, ρ, l, o.ext s1, e2, fun H2 s2 => ⟨O, ρ, h, (o.ext s1).ext s2, e3, fun H3 s3 => ?_⟩⟩⟩
    have s4 : Same H H3 := (s1.trans s2).trans s3
    have r3 := same_rpw (s2.trans s3) r1
    split at ee
    · cases ee
      obtain ⟨a, vs, rfl, t, r⟩ := r3.tup
      refine .inl ⟨a, vs, rfl, t.sq, fun hw => q _ H3 s4 ?_, fun _ p hp => q _ _ (s4.trans (same_new hp)) (new_tup hp (o.ext s4).dom (r.cut l h))⟩
      rw [Rp]
      refine ⟨a, vs, rfl, t, ?_⟩
      rw [cut_whole r.length hw.1 hw.2]
      exact r
    · cases ee
      obtain ⟨a, vs, rfl, t, r⟩ := r3.lst
      exact .inr (.inl ⟨a, vs, rfl, .inl t, fun p hp => q _ _ (s4.trans (same_new hp)) (new_lst hp (o.ext s4).dom (r.cut l h))⟩)
    · cases r3.str
      obtain ⟨hz, e⟩ := ok_ite ee
      cases e
      exact .inr (.inr ⟨_, rfl, lim_line hz, q _ H3 s4 rp_str⟩)
    · exact nomatch ee

def tyName : Ty → String
  | .int => "int"
  | .bool => "bool"
  | .str => "str"
  | .tuple => "tuple"
  | .list => "list"
theorem l_isi {e : Expr} {a' : E} {t : Ty} (h : PE X e (tCB (rIsi X.K) (tCons (tW c X.K M a') (tCons (tC (.ty (tyName t))) tNil)))) : PE X e (tE c X.K M (.isi a' t)) := pe_imp h fun σ H Q ⟨O, ρ, d, o, ee, q⟩ => by
  rw [ev] at ee
  obtain ⟨x, e1, ee⟩ := bind_ok ee
  obtain ⟨b, e2, rfl⟩ := rB_ok ee
  refine ⟨O, ρ, x, o, e1, fun v H1 s1 r1 => ?_⟩
  show rIsi X.K [v, .ty (tyName t)] H1 Q
  have qb := q (.bl b) H1 s1 rp_bl
  cases x with
  | non =>
    cases r1.non
    cases t <;> cases e2 <;> exact ⟨_, _, _, _, _, rfl, .ty _, .base .non, kit_ty (by decide +kernel), qb⟩
  | bl i =>
    cases r1.bl
    cases t <;> cases e2 <;> exact ⟨_, _, _, _, _, rfl, .ty _, .base (.bl _), kit_ty (by decide +kernel), qb⟩
  | int i =>
    cases r1.int
    cases t <;> cases e2 <;> exact ⟨_, _, _, _, _, rfl, .ty _, .base (.int _), kit_ty (by decide +kernel), qb⟩
  | str i =>
    cases r1.str
    cases t <;> cases e2 <;> exact ⟨_, _, _, _, _, rfl, .ty _, .base (.str _), kit_ty (by decide +kernel), qb⟩
  | ref i => cases t <;> exact nomatch e2
  | tup ds =>
    obtain ⟨a, vs, rfl, tt, r⟩ := r1.tup
    have ty : TyX X.K H1 (.ref a) (.type "tuple") := by
      rcases tt with ⟨tt, _⟩ | tt
      · rcases tt with tt | ⟨ob, tt⟩
        · exact .base (.tup tt)
        · exact .fTuple tt
      · rcases tt with (tt | ⟨ob, tt⟩) | ⟨ob, its, n, h1, h2, _⟩
        · exact nomatch tt
        · exact nomatch tt
        · exact .kTuple h1 h2
    cases t <;> cases e2 <;> exact ⟨_, _, _, _, _, rfl, .ty _, ty, kit_ty (by decide +kernel), qb⟩
  | lst ds =>
    obtain ⟨a, vs, rfl, tt, r⟩ := r1.lst
    have ty : TyX X.K H1 (.ref a) (.type "list") := by
      rcases tt with tt | ⟨ob, tt⟩
      · exact .base (.lst tt)
      · exact .base (.frz tt)
    cases t <;> cases e2 <;> exact ⟨_, _, _, _, _, rfl, .ty _, ty, kit_ty (by decide +kernel), qb⟩

theorem callR_or {f : Value} {r r' : List V → Hp → VK → Prop} (h : CallR X f r) (h' : CallR X f r') : CallR X f (fun xs H Q => r xs H Q ∨ r' xs H Q) := by
  intro pins s σ H xs us Q I rx q
  rcases q with q | q
  · exact h pins s σ H xs us Q I rx q
  · exact h' pins s σ H xs us Q I rx q
def Cap (X : Cx) (f : Value) (g : List D → R D) : Prop := ∃ r, CallR X f r ∧ CallS X.K r g
theorem rpwl_one {K : PySem.W.Frag} {O : Addr → Prop} {H : Hp} {x : D} {vs : List V} (h : RpWL K O H [x] vs) : ∃ v, vs = [v] ∧ RpW K O H x v := by
  obtain ⟨v, r, rfl, t, e⟩ := h
  cases e
  exact ⟨v, rfl, t⟩
theorem rpwl_two {K : PySem.W.Frag} {O : Addr → Prop} {H : Hp} {x y : D} {vs : List V} (h : RpWL K O H [x, y] vs) : ∃ v w, vs = [v, w] ∧ RpW K O H x v ∧ RpW K O H y w := by
  obtain ⟨v, r, rfl, t, e⟩ := h
  obtain ⟨w, rfl, t'⟩ := rpwl_one e
  exact ⟨v, w, rfl, t, t'⟩
theorem rpwl_three {K : PySem.W.Frag} {O : Addr → Prop} {H : Hp} {x y z : D} {vs : List V} (h : RpWL K O H [x, y, z] vs) : ∃ v w u, vs = [v, w, u] ∧ RpW K O H x v ∧ RpW K O H y w ∧ RpW K O H z u := by
  obtain ⟨v, r, rfl, t, e⟩ := h
  obtain ⟨w, u, rfl, t', t''⟩ := rpwl_two e
  exact ⟨v, w, u, rfl, t, t', t''⟩
theorem cap_len : Cap X (.builtin "len") dLen := by
  refine ⟨_, call_len, ?_⟩
  intro O H xs d vs Q hO hx he q
  unfold dLen at he
  split at he
  · obtain ⟨v, rfl, r⟩ := rpwl_one hx
    cases r.str
    obtain ⟨hl, e⟩ := ok_ite he
    cases e
    exact ⟨_, _, rfl, ⟨lim_line hl, rfl⟩, q _ H (Same.refl H) rp_int⟩
  · obtain ⟨v, rfl, r⟩ := rpwl_one hx
    obtain ⟨a, vs, rfl, t, l⟩ := r.tup
    cases he
    rw [l.length] at q
    exact ⟨_, _, rfl, .inr ⟨vs, t.sq, rfl⟩, q _ H (Same.refl H) rp_int⟩
  · obtain ⟨v, rfl, r⟩ := rpwl_one hx
    obtain ⟨a, vs, rfl, t, l⟩ := r.lst
    cases he
    rw [l.length] at q
    exact ⟨_, _, rfl, .inl ⟨vs, .inl t, rfl⟩, q _ H (Same.refl H) rp_int⟩
  · exact nomatch he
theorem cap_int : Cap X (.type "int") dInt := by
  refine ⟨_, callR_or call_int1 call_int_str, ?_⟩
  intro O H xs d vs Q hO hx he q
  unfold dInt at he
  split at he
  · obtain ⟨v, rfl, r⟩ := rpwl_one hx
    cases r.int
    cases he
    exact .inl (.inl ⟨_, rfl, q _ H (Same.refl H) rp_int⟩)
  · obtain ⟨v, rfl, r⟩ := rpwl_one hx
    cases r.bl
    cases he
    exact .inl (.inr ⟨_, rfl, q _ H (Same.refl H) rp_int⟩)
  · obtain ⟨v, rfl, r⟩ := rpwl_one hx
    cases r.str
    split at he
    · rename_i hl
      split at he
      · rename_i n hn
        cases he
        exact .inr ⟨_, _, rfl, hn, hl, q _ H (Same.refl H) rp_int⟩
      · exact nomatch he
    · exact nomatch he
  · exact nomatch he
theorem log_small {n : Nat} (h : n < 10 ^ 250) : n.log2 < 1920 := by
  by_cases h0 : n = 0
  · subst h0
    decide
  · rw [Nat.log2_lt h0]
    exact Nat.lt_trans h (Nat.lt_of_lt_of_le (show 10 ^ 250 < 2 ^ 1000 by decide +kernel) (Nat.pow_le_pow_right (by decide) (by decide)))
theorem cap_str : Cap X (.type "str") dStr := by
  refine ⟨_, call_str_int, ?_⟩
  intro O H xs d vs Q hO hx he q
  unfold dStr at he
  split at he
  · obtain ⟨v, rfl, r⟩ := rpwl_one hx
    cases r.int
    obtain ⟨hl, e⟩ := ok_ite he
    cases e
    exact ⟨_, rfl, log_small hl, q _ H (Same.refl H) rp_str⟩
  · exact nomatch he
theorem cap_tuple : Cap X (.type "tuple") dTuple := by
  refine ⟨_, call_tuple_of, ?_⟩
  intro O H xs d vs Q hO hx he q
  unfold dTuple at he
  split at he
  · obtain ⟨v, rfl, r⟩ := rpwl_one hx
    obtain ⟨a, vs, rfl, t, l⟩ := r.tup
    cases he
    refine ⟨a, vs, rfl, .inr ⟨t.sq, q _ H (Same.refl H) ?_⟩⟩
    rw [Rp]
    exact ⟨a, vs, rfl, t, l⟩
  · obtain ⟨v, rfl, r⟩ := rpwl_one hx
    obtain ⟨a, vs, rfl, t, l⟩ := r.lst
    cases he
    exact ⟨a, vs, rfl, .inl ⟨.inl t, fun p hp => q _ _ (same_new hp) (new_tup hp hO l)⟩⟩
  · exact nomatch he
theorem vals_signs {x : Str} : ∀ (cs : List Nat) (us : List Value) (i : Nat), us.length = cs.length → (∀ j c, cs[j]? = some c → x.cps[i + j]? = some c) → (∀ j v, us[j]? = some v → SignAt x (i + j) v) → Vals (cs.map fun c => V.str ⟨#[c]⟩) us
  | [], [], _, _, _, _ => .nil
  | [], _ :: _, _, h, _, _ => nomatch h
  | _ :: _, [], _, h, _, _ => nomatch h
  | c :: cs, u :: us, i, hl, h1, h2 => by
    obtain ⟨c', t, e1, e2⟩ := h2 0 u rfl
    have e3 := h1 0 c rfl
    rw [e1] at e3
    cases e3
    refine .cons ⟨t, e2⟩ (vals_signs (x := x) cs us (i + 1) (Nat.succ.inj hl) (fun j c hc => ?_) fun j v hv => ?_)
    · rw [show i + 1 + j = i + (j + 1) by omega]
      exact h1 (j + 1) c hc
    · rw [show i + 1 + j = i + (j + 1) by omega]
      exact h2 (j + 1) v hv
theorem cr_listS (hc : X.calm = true) : CallR X (.type "list") (fun xs H Q => ∃ x : Str, xs = [.str x] ∧ x.length ≤ LIM ∧ ∀ p, H p = none → Q (.ref p) (upd H p (.lst (x.cps.toList.map fun c => V.str ⟨#[c]⟩)))) := by
  intro pins s σ H xs us Q I r h
  obtain ⟨x, rfl, hl, q⟩ := h
  obtain ⟨u, rfl, t, rfl⟩ := vals1 r
  have hz : x.cps.size ≤ sizeLine := lim_line hl
  refine call_list_str (I.ok.hd hc) x t (fun h' tk acc n kp e it => ?_) hz
  refine ⟨.ref s.heap.objs.size, _, I.laid (t' := tk) kp (Nat.le_refl _) (show ObjOk X.prog X.w _ h' _ (.lst (x.cps.toList.map fun c => V.str ⟨#[c]⟩)) from ⟨?_, acc.toList, n, ?_, ?_⟩), rfl, q _ (I.hok.fresh (Nat.le_refl _))⟩
  · rw [List.length_map, Array.length_toList]
    exact hz
  · refine vals_signs (x := x) _ _ 0 (by rw [Array.length_toList, Array.length_toList, it.1]) (fun j c hc => ?_) fun j v hv => ?_
    · rw [Nat.zero_add, ← Array.getElem?_toList]
      exact hc
    · rw [Nat.zero_add]
      exact it.2 j v (by rw [← Array.getElem?_toList]; exact hv)
  · rw [Array.toArray_toList]
    exact e
theorem rpl_signs {K : PySem.W.Frag} {O : Addr → Prop} {H : Hp} : ∀ cs : List Nat, RpL K O H (cs.map fun c => D.str ⟨#[c]⟩) (cs.map fun c => V.str ⟨#[c]⟩)
  | [] => RpL.nil
  | c :: cs => RpL.cons (by rw [Rp]) (rpl_signs cs)
theorem cap_list (hc : X.calm = true) : Cap X (.type "list") dList := by
  refine ⟨_, callR_or call_list_of (cr_listS hc), ?_⟩
  intro O H xs d vs Q hO hx he q
  unfold dList at he
  split at he
  · obtain ⟨v, rfl, r⟩ := rpwl_one hx
    obtain ⟨a, vs, rfl, t, l⟩ := r.tup
    cases he
    exact .inl ⟨a, vs, rfl, .inr t.sq, fun p hp => q _ _ (same_new hp) (new_lst hp hO l)⟩
  · obtain ⟨v, rfl, r⟩ := rpwl_one hx
    obtain ⟨a, vs, rfl, t, l⟩ := r.lst
    cases he
    exact .inl ⟨a, vs, rfl, .inl (.inl t), fun p hp => q _ _ (same_new hp) (new_lst hp hO l)⟩
  · obtain ⟨v, rfl, r⟩ := rpwl_one hx
    cases r.str
    obtain ⟨hl, e⟩ := ok_ite he
    cases e
    exact .inr ⟨_, rfl, hl, fun p hp => q _ _ (same_new hp) (new_lst hp hO (rpl_signs _))⟩
  · exact nomatch he
theorem cap_abs : Cap X (.builtin "abs") dAbs := by
  refine ⟨_, call_abs, ?_⟩
  intro O H xs d vs Q hO hx he q
  unfold dAbs at he
  split at he
  · obtain ⟨v, rfl, r⟩ := rpwl_one hx
    cases r.int
    cases he
    exact ⟨_, rfl, q _ H (Same.refl H) rp_int⟩
  · exact nomatch he
theorem cap_all (hc : X.calm = true) : Cap X (.builtin "all") dAll := by
  refine ⟨_, cr_all hc, ?_⟩
  intro O H xs d vs Q hO hx he q
  unfold dAll at he
  split at he
  · obtain ⟨v, rfl, r⟩ := rpwl_one hx
    obtain ⟨a, vs, rfl, t, l⟩ := r.lst
    split at he
    · rename_i bs hb
      cases he
      have e := rpl_bools l hb
      subst e
      exact ⟨a, bs, rfl, .inl t, q _ H (Same.refl H) rp_bl⟩
    · exact nomatch he
  · exact nomatch he
theorem sum_tup_raw {prog : Program} {w : World} {A : Around} {E : Value → Shared → Prop} {s : Shared} {Q : Value → Shared → Prop} {t : Addr} {its : List Value} {ns : List Int} (hh : A.handled = none) (ht : IsTup s.heap t its.toArray) (hi : IntsAre its ns)
    (h : ∀ h' tk t', (∀ b o, s.heap.get? b = some o → h'.get? b = some o) → Q (.int ns.sum t') { s with heap := h', toks := tk }) : wpAny (model prog w) A (call (.builtin "sum") [.ref t]) Q E s := by
  obtain ⟨xs, e⟩ := hi.allInts.items
  have hn : numsOf (intItems xs).toList = ns := by rw [← e]; exact hi.numsOf
  rw [nums_intItems] at hn
  have ht' : s.heap.IsTuple t (intItems xs) := by rw [← e]; exact ht
  refine PySem.W.ktm_sumG hh ht' fun h' tk t' hk => ?_
  have := h h' tk t' hk
  rw [preSum_eq, List.take_of_length_le (by simp), hn]
  exact this
theorem cr_sumT (hc : X.calm = true) : CallR X (.builtin "sum") (fun vs H Q => ∃ (a : Addr) (ns : List Int), vs = [V.ref a] ∧ SqT X.K H a (ns.map V.int) ∧ Q (.int ns.sum) H) := by
  intro pins s σ H vs us Q I r h
  obtain ⟨a, ns, rfl, hs, q⟩ := h
  obtain ⟨its, rv, hl, _⟩ := I.tuple hs
  rw [Vals.ref1 r]
  exact sum_tup_raw (I.ok.hd hc) hl rv.ints fun h' tk t' hk => ⟨.int _, H, I.kept hk, ⟨_, rfl⟩, q⟩
theorem cap_sum (hc : X.calm = true) : Cap X (.builtin "sum") dSum := by
  refine ⟨_, callR_or (cr_sum hc) (cr_sumT hc), ?_⟩
  intro O H xs d vs Q hO hx he q
  unfold dSum at he
  split at he
  · obtain ⟨v, rfl, r⟩ := rpwl_one hx
    obtain ⟨a, vs, rfl, t, l⟩ := r.tup
    split at he
    · rename_i ns hb
      cases he
      have e := rpl_ints l hb
      subst e
      exact .inr ⟨a, ns, rfl, t.sq, q _ H (Same.refl H) rp_int⟩
    · exact nomatch he
  · obtain ⟨v, rfl, r⟩ := rpwl_one hx
    obtain ⟨a, vs, rfl, t, l⟩ := r.lst
    split at he
    · rename_i ns hb
      cases he
      have e := rpl_ints l hb
      subst e
      exact .inl ⟨a, ns, rfl, .inl t, q _ H (Same.refl H) rp_int⟩
    · exact nomatch he
  · exact nomatch he
theorem maxL_spec : ∀ (ns : List Int) (n : Int), maxL n ns ∈ n :: ns ∧ ∀ y ∈ n :: ns, y ≤ maxL n ns
  | [], n => ⟨List.mem_cons_self, fun y hy => by rw [List.mem_singleton.mp hy]; exact Int.le_refl _⟩
  | m :: ns, n => by
    have ih := maxL_spec ns (if m > n then m else n)
    rw [maxL]
    by_cases h : m > n
    · rw [if_pos h] at ih ⊢
      refine ⟨List.mem_cons_of_mem _ ih.1, fun y hy => ?_⟩
      rcases List.mem_cons.mp hy with rfl | hy
      · exact Int.le_trans (Int.le_of_lt h) (ih.2 m List.mem_cons_self)
      · exact ih.2 y hy
    · rw [if_neg h] at ih ⊢
      refine ⟨?_, fun y hy => ?_⟩
      · rcases List.mem_cons.mp ih.1 with e | e
        · rw [e]; exact List.mem_cons_self
        · exact List.mem_cons_of_mem _ (List.mem_cons_of_mem _ e)
      · rcases List.mem_cons.mp hy with rfl | hy
        · exact ih.2 _ List.mem_cons_self
        · rcases List.mem_cons.mp hy with rfl | hy
          · exact Int.le_trans (Int.not_lt.mp h) (ih.2 n List.mem_cons_self)
          · exact ih.2 y (List.mem_cons_of_mem _ hy)
theorem minL_spec : ∀ (ns : List Int) (n : Int), minL n ns ∈ n :: ns ∧ ∀ y ∈ n :: ns, minL n ns ≤ y
  | [], n => ⟨List.mem_cons_self, fun y hy => by rw [List.mem_singleton.mp hy]; exact Int.le_refl _⟩
  | m :: ns, n => by
    have ih := minL_spec ns (if m < n then m else n)
    rw [minL]
    by_cases h : m < n
    · rw [if_pos h] at ih ⊢
      refine ⟨List.mem_cons_of_mem _ ih.1, fun y hy => ?_⟩
      rcases List.mem_cons.mp hy with rfl | hy
      · exact Int.le_trans (ih.2 m List.mem_cons_self) (Int.le_of_lt h)
      · exact ih.2 y hy
    · rw [if_neg h] at ih ⊢
      refine ⟨?_, fun y hy => ?_⟩
      · rcases List.mem_cons.mp ih.1 with e | e
        · rw [e]; exact List.mem_cons_self
        · exact List.mem_cons_of_mem _ (List.mem_cons_of_mem _ e)
      · rcases List.mem_cons.mp hy with rfl | hy
        · exact ih.2 _ List.mem_cons_self
        · rcases List.mem_cons.mp hy with rfl | hy
          · exact Int.le_trans (ih.2 n List.mem_cons_self) (Int.not_lt.mp h)
          · exact ih.2 y (List.mem_cons_of_mem _ hy)
theorem call_max3 (hc : X.calm = true) : CallR X (.builtin "max") (fun xs H Q => ∃ i j k, xs = [.int i, .int j, .int k] ∧ Q (.int (maxL i [j, k])) H) := by
  intro pins s σ H xs us Q I r h
  obtain ⟨i, j, k, rfl, q⟩ := h
  obtain ⟨u1, u2, u3, rfl, ⟨t1, rfl⟩, ⟨t2, rfl⟩, ⟨t3, rfl⟩⟩ : ∃ a b c, us = [a, b, c] ∧ RelV (.int i) a ∧ RelV (.int j) b ∧ RelV (.int k) c := by
    cases r with
    | cons p r =>
      cases r with
      | cons p' r =>
        cases r with
        | cons p'' r =>
          cases r
          exact ⟨_, _, _, rfl, p, p', p''⟩
  refine max_three_ints (I.ok.hd hc) fun h' tk kk => ⟨_, H, I.kept kk, ?_, q⟩
  show ∃ t, _ = Value.int (if k > (if j > i then j else i) then k else (if j > i then j else i)) t
  by_cases h1 : j > i <;> by_cases h2 : k > j <;> by_cases h3 : k > i <;> simp only [h1, h2, h3, if_true, if_false] <;> exact ⟨_, rfl⟩
theorem call_min3 (hc : X.calm = true) : CallR X (.builtin "min") (fun xs H Q => ∃ i j k, xs = [.int i, .int j, .int k] ∧ Q (.int (minL i [j, k])) H) := by
  intro pins s σ H xs us Q I r h
  obtain ⟨i, j, k, rfl, q⟩ := h
  obtain ⟨u1, u2, u3, rfl, ⟨t1, rfl⟩, ⟨t2, rfl⟩, ⟨t3, rfl⟩⟩ : ∃ a b c, us = [a, b, c] ∧ RelV (.int i) a ∧ RelV (.int j) b ∧ RelV (.int k) c := by
    cases r with
    | cons p r =>
      cases r with
      | cons p' r =>
        cases r with
        | cons p'' r =>
          cases r
          exact ⟨_, _, _, rfl, p, p', p''⟩
  refine min_three_ints (I.ok.hd hc) fun h' tk kk => ⟨_, H, I.kept kk, ?_, q⟩
  show ∃ t, _ = Value.int (if k < (if j < i then j else i) then k else (if j < i then j else i)) t
  by_cases h1 : j < i <;> by_cases h2 : k < j <;> by_cases h3 : k < i <;> simp only [h1, h2, h3, if_true, if_false] <;> exact ⟨_, rfl⟩
end
end LC

set_option Elab.async false
set_option linter.all false
set_option maxRecDepth 100000
set_option maxHeartbeats 1000000
namespace LC
open PySem PySem.Spec PyProof.Rows L2
section
variable {prog : Program} {w : World} {A : Around} {E : Value → Shared → Prop} {s : Shared} {Q : Value → Shared → Prop} {t : Addr} {its : List Value} {ns : List Int}
theorem max_tup_raw (hh : A.handled = none) (ht : IsTup s.heap t its.toArray) (hi : IntsAre its ns) (hne : 0 < ns.length)
    (h : ∀ h' tk m t', (∀ b o, s.heap.get? b = some o → h'.get? b = some o) → m ∈ ns → (∀ a, a ∈ ns → a ≤ m) → Q (.int m t') { s with heap := h', toks := tk }) : wpAny (model prog w) A (PySem.call (.builtin "max") [.ref t]) Q E s := by
  obtain ⟨xs, e⟩ := hi.allInts.items
  have hn : numsOf (intItems xs).toList = ns := by rw [← e]; exact hi.numsOf
  rw [nums_intItems] at hn
  subst hn
  have hsz : 0 < xs.size := by simpa using hne
  have ht' : s.heap.IsTuple t (intItems xs) := by rw [← e]; exact ht
  obtain ⟨o, ho, hc, n, hd⟩ := id ht'
  have hneq : t ≠ s.heap.objs.size := Nat.ne_of_lt (Heap.lt_size ho)
  refine call_max_walk (wpAny_pyIter_tuple ht' ?_)
  refine ⟨s.heap.objs.size, _, _, _, _, _, _, rfl, Walks.tuple (A := A.in1) hh s.heap.objs.size t hneq (intItems xs), ⟨⟨_, Heap.get?_push_size _ rfl, rfl, rfl⟩, ht'.at fun o e => Heap.get?_push_of_some _ e⟩, fun b hb => ?_, by simpa [intItems] using hsz, CmpOf.ints_gt (numAt xs) (fun _ _ => intItems_at), fun v h' tk hP hk => ?_⟩
  · rcases List.mem_cons.mp hb with rfl | hb
    · exact Heap.lt_size (Heap.get?_push_size _ rfl)
    · obtain rfl := List.mem_singleton.mp hb
      exact Heap.lt_size (Heap.get?_push_of_some _ ho)
  · have hv : (intItems xs)[argBest (fun i j => decide (numAt xs i > numAt xs j)) (xs.size - 1)]? = some v := by simpa [intItems] using hP
    obtain ⟨t', rfl⟩ := intItems_at hv
    obtain ⟨h1, h2⟩ := argBest_gt (numAt xs) (xs.size - 1)
    refine h h' tk _ t' (fun b o q => hk b o (fun z => absurd (Heap.lt_size q) ((List.mem_singleton.mp z) ▸ Nat.lt_irrefl _)) (Heap.get?_push_of_some _ q)) ?_ fun a ha => ?_
    · rw [numAt_eq]
      exact PySem.getD_mem (by rw [List.length_map, Array.length_toList]; omega)
    · obtain ⟨j, hj, rfl⟩ := mem_getD ha
      rw [List.length_map, Array.length_toList] at hj
      rw [← numAt_eq]
      exact h2 j (by omega)
theorem min_tup_raw (hh : A.handled = none) (ht : IsTup s.heap t its.toArray) (hi : IntsAre its ns) (hne : 0 < ns.length)
    (h : ∀ h' tk m t', (∀ b o, s.heap.get? b = some o → h'.get? b = some o) → m ∈ ns → (∀ a, a ∈ ns → m ≤ a) → Q (.int m t') { s with heap := h', toks := tk }) : wpAny (model prog w) A (PySem.call (.builtin "min") [.ref t]) Q E s := by
  obtain ⟨xs, e⟩ := hi.allInts.items
  have hn : numsOf (intItems xs).toList = ns := by rw [← e]; exact hi.numsOf
  rw [nums_intItems] at hn
  subst hn
  have hsz : 0 < xs.size := by simpa using hne
  have ht' : s.heap.IsTuple t (intItems xs) := by rw [← e]; exact ht
  obtain ⟨o, ho, hc, n, hd⟩ := id ht'
  have hneq : t ≠ s.heap.objs.size := Nat.ne_of_lt (Heap.lt_size ho)
  refine call_min_walk (wpAny_pyIter_tuple ht' ?_)
  refine ⟨s.heap.objs.size, _, _, _, _, _, _, rfl, Walks.tuple (A := A.in1) hh s.heap.objs.size t hneq (intItems xs), ⟨⟨_, Heap.get?_push_size _ rfl, rfl, rfl⟩, ht'.at fun o e => Heap.get?_push_of_some _ e⟩, fun b hb => ?_, by simpa [intItems] using hsz, CmpOf.ints_lt (numAt xs) (fun _ _ => intItems_at), fun v h' tk hP hk => ?_⟩
  · rcases List.mem_cons.mp hb with rfl | hb
    · exact Heap.lt_size (Heap.get?_push_size _ rfl)
    · obtain rfl := List.mem_singleton.mp hb
      exact Heap.lt_size (Heap.get?_push_of_some _ ho)
  · have hv : (intItems xs)[argBest (fun i j => decide (numAt xs i < numAt xs j)) (xs.size - 1)]? = some v := by simpa [intItems] using hP
    obtain ⟨t', rfl⟩ := intItems_at hv
    obtain ⟨h1, h2⟩ := argBest_lt (numAt xs) (xs.size - 1)
    refine h h' tk _ t' (fun b o q => hk b o (fun z => absurd (Heap.lt_size q) ((List.mem_singleton.mp z) ▸ Nat.lt_irrefl _)) (Heap.get?_push_of_some _ q)) ?_ fun a ha => ?_
    · rw [numAt_eq]
      exact PySem.getD_mem (by rw [List.length_map, Array.length_toList]; omega)
    · obtain ⟨j, hj, rfl⟩ := mem_getD ha
      rw [List.length_map, Array.length_toList] at hj
      rw [← numAt_eq]
      exact h2 j (by omega)
end
section
variable {X : Cx} {c : Cf} {M : List Nat}
theorem cr_maxT (hc : X.calm = true) : CallR X (.builtin "max") (fun vs H Q => ∃ (a : Addr) (ns : List Int), vs = [V.ref a] ∧ SqT X.K H a (ns.map V.int) ∧ 0 < ns.length ∧ ∀ m, m ∈ ns → (∀ y, y ∈ ns → y ≤ m) → Q (.int m) H) := by
  intro pins s σ H vs us Q I r h
  obtain ⟨a, ns, rfl, hs, hne, q⟩ := h
  obtain ⟨its, rv, hl, _⟩ := I.tuple hs
  rw [Vals.ref1 r]
  exact max_tup_raw (I.ok.hd hc) hl rv.ints hne fun h' tk m t' hk h1 h2 => ⟨.int _, H, I.kept hk, ⟨_, rfl⟩, q m h1 h2⟩
theorem cr_minT (hc : X.calm = true) : CallR X (.builtin "min") (fun vs H Q => ∃ (a : Addr) (ns : List Int), vs = [V.ref a] ∧ SqT X.K H a (ns.map V.int) ∧ 0 < ns.length ∧ ∀ m, m ∈ ns → (∀ y, y ∈ ns → m ≤ y) → Q (.int m) H) := by
  intro pins s σ H vs us Q I r h
  obtain ⟨a, ns, rfl, hs, hne, q⟩ := h
  obtain ⟨its, rv, hl, _⟩ := I.tuple hs
  rw [Vals.ref1 r]
  exact min_tup_raw (I.ok.hd hc) hl rv.ints hne fun h' tk m t' hk h1 h2 => ⟨.int _, H, I.kept hk, ⟨_, rfl⟩, q m h1 h2⟩
theorem cap_max (hc : X.calm = true) : Cap X (.builtin "max") dMax := by
  refine ⟨_, callR_or (call_max2 hc) (callR_or (call_max3 hc) (callR_or (cr_maxT hc) (cr_max hc))), ?_⟩
  intro O H xs d vs Q hO hx he q
  unfold dMax at he
  split at he
  · obtain ⟨v, w, rfl, r, r'⟩ := rpwl_two hx
    cases r.int
    cases r'.int
    cases he
    exact .inl ⟨_, _, rfl, q _ H (Same.refl H) rp_int⟩
  · obtain ⟨v, w, u, rfl, r, r', r''⟩ := rpwl_three hx
    cases r.int
    cases r'.int
    cases r''.int
    cases he
    exact .inr (.inl ⟨_, _, _, rfl, q _ H (Same.refl H) rp_int⟩)
  · obtain ⟨v, rfl, r⟩ := rpwl_one hx
    obtain ⟨a, vs, rfl, t, l⟩ := r.tup
    split at he
    · rename_i n ns hb
      cases he
      have e := rpl_ints l hb
      subst e
      refine .inr (.inr (.inl ⟨a, n :: ns, rfl, t.sq, Nat.succ_pos _, fun m h1 h2 => ?_⟩))
      obtain ⟨g1, g2⟩ := maxL_spec ns n
      rw [Int.le_antisymm (g2 m h1) (h2 _ g1)]
      exact q _ H (Same.refl H) rp_int
    · exact nomatch he
  · obtain ⟨v, rfl, r⟩ := rpwl_one hx
    obtain ⟨a, vs, rfl, t, l⟩ := r.lst
    split at he
    · rename_i n ns hb
      cases he
      have e := rpl_ints l hb
      subst e
      refine .inr (.inr (.inr ⟨a, n :: ns, rfl, .inl t, Nat.succ_pos _, fun m h1 h2 => ?_⟩))
      obtain ⟨g1, g2⟩ := maxL_spec ns n
      rw [Int.le_antisymm (g2 m h1) (h2 _ g1)]
      exact q _ H (Same.refl H) rp_int
    · exact nomatch he
  · exact nomatch he
open PySem.W (dataLt minD keyToks keyToksAll AlikeAll alike min_list_data reads_keeps readsAll_atA readsAll_len)
theorem psOf_eq : ∀ {xs : List D} {ps : List (Int × Str)}, psOf xs = some ps → xs = ps.map prS
  | [], ps, h => by
    cases h
    rfl
  | x :: xs, ps, h => by
    unfold psOf at h
    split at h
    · rename_i e
      exact nomatch e
    · rename_i i t r e
      cases e
      obtain ⟨qs, h1, h2⟩ := Option.map_eq_some_iff.mp h
      subst h2
      rw [psOf_eq h1]
      rfl
    · exact nomatch h
theorem toPy_prS (p : Int × Str) : toPy (prS p) = .tuple [.int p.1, .str p.2] := by
  unfold prS
  simp only [toPy, toPys]
theorem prS_inj {p q : Int × Str} (h : toPy (prS p) = toPy (prS q)) : p = q := by
  rw [toPy_prS, toPy_prS] at h
  injection h with h
  injection h with h1 h2
  injection h2 with h2 _
  injection h1 with h1
  injection h2 with h2
  obtain ⟨a, b⟩ := p
  obtain ⟨c, d⟩ := q
  dsimp only at h1 h2
  rw [h1, h2]
theorem lt_prS (p q : Int × Str) : dataLt (toPy (prS p)) (toPy (prS q)) = ltP p.1 p.2 q.1 q.2 := by
  rw [toPy_prS, toPy_prS]
  unfold dataLt
  simp only [keyToks, keyToksAll, List.cons_append, List.nil_append]
  unfold ltP
  rw [PyProof.Rows.lex_self]
  by_cases h : p.1 = q.1
  · rw [if_pos h, h, PyProof.Rows.lex_self, PyProof.Rows.lex_self]
    by_cases h2 : (p.2 == q.2) = true
    · rw [if_pos h2, eq_of_beq h2]
      exact PyProof.Rows.lex_irrefl _
    · rw [if_neg h2]
      have hne : (Sum.inr p.2.cps.toList : Int ⊕ List Nat) ≠ Sum.inr q.2.cps.toList := fun z => by
        injection z with z
        exact h2 (by rw [PySem.W.str_of_cps z]; exact beq_self_eq_true _)
      exact PyProof.Rows.lex_diff (O := itemOrd) hne
  · rw [if_neg h]
    have hne : (Sum.inl p.1 : Int ⊕ List Nat) ≠ Sum.inl q.1 := fun z => by
      injection z with z
      exact h z
    exact PyProof.Rows.lex_diff (O := itemOrd) hne
theorem minD_prS : ∀ (ps : List (Int × Str)) (p : Int × Str), minD (toPy (prS p)) (ps.map fun q => toPy (prS q)) = toPy (prS (minP p ps))
  | [], p => rfl
  | q :: ps, p => by
    have e : minD (toPy (prS p)) ((q :: ps).map fun q => toPy (prS q)) = minD (if dataLt (toPy (prS q)) (toPy (prS p)) = true then toPy (prS q) else toPy (prS p)) (ps.map fun q => toPy (prS q)) := rfl
    have e2 : minP p (q :: ps) = minP (if ltP q.1 q.2 p.1 p.2 = true then q else p) ps := rfl
    rw [e, e2, lt_prS, ← minD_prS ps]
    congr 1
    split <;> rfl
theorem cr_minP (hc : X.calm = true) (hu : X.A.units + 65 < cLine) : CallR X (.builtin "min") (fun vs H Q => ∃ (a : Addr) (ws : List V) (p : Int × Str) (ps : List (Int × Str)), vs = [V.ref a] ∧ SqL X.K H a ws ∧ Dp X.K H (.ref a) (.list ((p :: ps).map fun q => toPy (prS q))) ∧ PyData.canLayAll0 ((p :: ps).map fun q => toPy (prS q)) = true ∧
    ∀ (i : Nat) (w : V), ws[i]? = some w → (p :: ps)[i]? = some (minP p ps) → Q w H) := by
  intro pins s σ H vs us Q I r h
  obtain ⟨a, ws, p, ps, rfl, hs, hd, hcl, q⟩ := h
  obtain ⟨its, rv, hl, _⟩ := I.list hs
  rw [Vals.ref1 r]
  obtain ⟨as, r1⟩ := Dp.reads I _ (.ref a) (.ref a) hd rfl
  generalize hds : (p :: ps).map (fun q => toPy (prS q)) = ds at r1 hcl
  cases r1 with
  | @list _ o vs n _ as' h1 h2 h3 h4 =>
    obtain ⟨o', n', g1, g2, g3, g4⟩ := hl
    rw [h1] at g1
    cases g1
    have ev : vs = its.toArray := by
      rw [h3] at g4
      injection g4
    subst ev
    have hh : X.A.handled = none := I.ok.hd hc
    subst hds
    have hal : AlikeAll ((p :: ps).map fun q => toPy (prS q)) := by
      refine ⟨fun x hx y hy => ?_, fun x hx => ?_⟩
      · obtain ⟨p1, _, rfl⟩ := List.mem_map.mp hx
        obtain ⟨p2, _, rfl⟩ := List.mem_map.mp hy
        rw [toPy_prS, toPy_prS]
        rfl
      · obtain ⟨p1, _, rfl⟩ := List.mem_map.mp hx
        rw [toPy_prS]
        exact fun z => nomatch z
    have hdp : ∀ (l : List (Int × Str)), PyData.depthAll (l.map fun q => toPy (prS q)) ≤ 2 := fun l => by
      induction l with
      | nil => exact Nat.zero_le _
      | cons z l ih =>
        rw [List.map_cons, toPy_prS]
        show max _ (PyData.depthAll (l.map fun q => toPy (prS q))) ≤ 2
        exact Nat.max_le.mpr ⟨by simp [PyData.depth, PyData.depthAll], ih⟩
    have hd2 := hdp (p :: ps)
    refine min_list_data hh ⟨o, h1, h2, ?_⟩ h4 hal (Nat.lt_of_le_of_lt (Nat.add_le_add_left hd2 _) (by omega)) fun i v h' tk bs hv hrd hk => ?_
    · exact ⟨n, h3⟩
    · obtain ⟨bs2, r2, hi, _⟩ := readsAll_atA h4 i v hv
      have r3 := reads_keeps hk r2
      have hu1 := (PySem.Reads.unique r3 _ _ hrd).1
      rw [minD_prS] at hu1
      have hip : i < (p :: ps).length := by
        have := readsAll_len h4
        rw [List.length_map] at this
        have hi2 : i < its.toArray.size := by
          rcases Nat.lt_or_ge i its.toArray.size with z | z
          · exact z
          · rw [Array.getElem?_eq_none z] at hv
            exact nomatch hv
        omega
      have hpi : (p :: ps)[i]? = some (minP p ps) := by
        rw [List.getD_eq_getElem?_getD, List.getElem?_map, List.getElem?_eq_getElem hip] at hu1
        rw [List.getElem?_eq_getElem hip, prS_inj hu1]
      have hil : i < ws.length := by
        have := rv.length
        rw [this]
        rcases Nat.lt_or_ge i its.length with z | z
        · exact z
        · rw [List.getElem?_toArray, List.getElem?_eq_none z] at hv
          exact nomatch hv
      obtain ⟨u, hu1, hu2⟩ := rv.get (List.getElem?_eq_getElem hil)
      rw [List.getElem?_toArray, hu1] at hv
      cases hv
      exact ⟨ws[i], H, I.kept hk, hu2, q i _ (List.getElem?_eq_getElem hil) hpi⟩
theorem toPys_prS : ∀ ps : List (Int × Str), toPys (ps.map prS) = ps.map fun q => toPy (prS q)
  | [] => by rw [List.map_nil, toPys]; rfl
  | p :: ps => by rw [List.map_cons, toPys, toPys_prS ps]; rfl
theorem rpl_get {K : PySem.W.Frag} {O : Addr → Prop} {H : Hp} : ∀ {ds : List D} {vs : List V} {i : Nat} {w : V} {d : D}, RpL K O H ds vs → vs[i]? = some w → ds[i]? = some d → Rp K O H d w
  | [], vs, i, w, d, _, _, h => nomatch h
  | d :: ds, vs, i, w, d', r, hv, hd => by
    rw [RpL] at r
    obtain ⟨v, q, rfl, t, l⟩ := r
    cases i with
    | zero =>
      cases hv
      cases hd
      exact t
    | succ i => exact rpl_get l hv hd
theorem cap_min (hc : X.calm = true) (hu : X.A.units + 65 < cLine) : Cap X (.builtin "min") dMin := by
  refine ⟨_, callR_or (call_min2 hc) (callR_or (call_min3 hc) (callR_or (cr_minT hc) (callR_or (cr_min hc) (cr_minP hc hu)))), ?_⟩
  intro O H xs d vs Q hO hx he q
  unfold dMin at he
  split at he
  · obtain ⟨v, w, rfl, r, r'⟩ := rpwl_two hx
    cases r.int
    cases r'.int
    cases he
    exact .inl ⟨_, _, rfl, q _ H (Same.refl H) rp_int⟩
  · obtain ⟨v, w, u, rfl, r, r', r''⟩ := rpwl_three hx
    cases r.int
    cases r'.int
    cases r''.int
    cases he
    exact .inr (.inl ⟨_, _, _, rfl, q _ H (Same.refl H) rp_int⟩)
  · obtain ⟨v, rfl, r⟩ := rpwl_one hx
    obtain ⟨a, vs, rfl, t, l⟩ := r.tup
    split at he
    · rename_i n ns hb
      cases he
      have e := rpl_ints l hb
      subst e
      refine .inr (.inr (.inl ⟨a, n :: ns, rfl, t.sq, Nat.succ_pos _, fun m h1 h2 => ?_⟩))
      obtain ⟨g1, g2⟩ := minL_spec ns n
      rw [Int.le_antisymm (h2 _ g1) (g2 m h1)]
      exact q _ H (Same.refl H) rp_int
    · exact nomatch he
  · obtain ⟨v, rfl, r⟩ := rpwl_one hx
    obtain ⟨a, vs, rfl, t, l⟩ := r.lst
    split at he
    · rename_i n ns hb
      cases he
      have e := rpl_ints l hb
      subst e
      refine .inr (.inr (.inr (.inl ⟨a, n :: ns, rfl, .inl t, Nat.succ_pos _, fun m h1 h2 => ?_⟩)))
      obtain ⟨g1, g2⟩ := minL_spec ns n
      rw [Int.le_antisymm (h2 _ g1) (g2 m h1)]
      exact q _ H (Same.refl H) rp_int
    · split at he
      · rename_i p ps hp
        split at he
        · rename_i hcl
          cases he
          have e := psOf_eq hp
          subst e
          have hcl2 := hcl
          rw [toPys_prS] at hcl2
          have hdp := rpl_dp _ _ l hcl
          rw [toPys_prS] at hdp
          exact .inr (.inr (.inr (.inr ⟨a, vs, p, ps, rfl, .inl t, .lst (.inl t) hdp, hcl2, fun i w h1 h2 => q _ H (Same.refl H) (rpl_get l h1 (by rw [List.getElem?_map, h2]; rfl))⟩)))
        · exact nomatch he
      · exact nomatch he
  · exact nomatch he
theorem op_inT (hu : X.A.units + 65 < cLine) : OpR X (compareOp .In) (fun x y H Q => ∃ d ds, Dp X.K H x d ∧ Dp X.K H y (.tuple ds) ∧ SeqAt.shaped d = true ∧ SeqAt.shaped (.tuple ds) = true ∧ Q (.bl (ds.any fun z => PyData.eqv z d)) H) := by
  intro pins s σ H x y v u Q I rx ry h
  obtain ⟨d, ds, hd, he, sd, se, q⟩ := h
  obtain ⟨as, r1⟩ := Dp.reads I d x v hd rx
  obtain ⟨bs, r2⟩ := Dp.reads I (.tuple ds) y u he ry
  exact SeqAt.in_tuple_reads r2 r1 (SeqAt.canLay_of_shaped se) (SeqAt.canLay_of_shaped sd) (room_in_shaped sd hu) ⟨.bl _, H, I, rfl, q⟩
theorem op_notInT (hu : X.A.units + 65 < cLine) : OpR X (compareOp .NotIn) (fun x y H Q => ∃ d ds, Dp X.K H x d ∧ Dp X.K H y (.tuple ds) ∧ SeqAt.shaped d = true ∧ SeqAt.shaped (.tuple ds) = true ∧ Q (.bl (!ds.any fun z => PyData.eqv z d)) H) := by
  intro pins s σ H x y v u Q I rx ry h
  obtain ⟨d, ds, hd, he, sd, se, q⟩ := h
  obtain ⟨as, r1⟩ := Dp.reads I d x v hd rx
  obtain ⟨bs, r2⟩ := Dp.reads I (.tuple ds) y u he ry
  exact SeqAt.notIn_tuple_reads r2 r1 (SeqAt.canLay_of_shaped se) (SeqAt.canLay_of_shaped sd) (room_in_shaped sd hu) ⟨.bl _, H, I, rfl, q⟩
theorem str_of {s : Str} {l : List Nat} (h : s.cps.toList = l) : s = ⟨l.toArray⟩ := by
  obtain ⟨a⟩ := s
  cases h
  rfl
theorem any_toPys (d : PyData) : ∀ ys : List D, ((toPys ys).any fun z => PyData.eqv z d) = ys.any fun z => PyData.eqv (toPy z) d
  | [] => by rw [toPys]; rfl
  | y :: ys => by rw [toPys, List.any_cons, List.any_cons, any_toPys d ys]
theorem opp_in (hu : X.A.units + 65 < cLine) : Opp X (compareOp .In) (dCmp .In) := by
  refine ⟨_, (op_inD hu).or ((op_inT hu).or op_in_sign), ?_⟩
  intro O H x y d v w Q hO hx hy he q
  obtain ⟨b, e1, rfl⟩ := rB_ok he
  unfold dIn at e1
  split at e1
  · obtain ⟨hs, e⟩ := ok_ite e1
    rw [Bool.and_eq_true] at hs
    subst e
    have h2 := hy.dp hs.2
    rw [toPy] at h2
    refine .inl ⟨toPy x, _, hx.dp hs.1, h2, hs.1, by rw [← toPy]; exact hs.2, ?_⟩
    rw [any_toPys]
    exact q _ H (Same.refl H) rp_bl
  · obtain ⟨hs, e⟩ := ok_ite e1
    rw [Bool.and_eq_true] at hs
    subst e
    have h2 := hy.dp hs.2
    rw [toPy] at h2
    refine .inr (.inl ⟨toPy x, _, hx.dp hs.1, h2, hs.1, by rw [← toPy]; exact hs.2, ?_⟩)
    rw [any_toPys]
    exact q _ H (Same.refl H) rp_bl
  · split at e1
    · split at e1
      · rename_i hc
        cases e1
        cases hx.str
        cases hy.str
        exact .inr (.inr ⟨_, _, congrArg V.str (str_of hc), rfl, q _ H (Same.refl H) rp_bl⟩)
      · exact nomatch e1
    · exact nomatch e1
  · exact nomatch e1
theorem opp_notIn (hu : X.A.units + 65 < cLine) : Opp X (compareOp .NotIn) (dCmp .NotIn) := by
  refine ⟨_, (op_notInD hu).or ((op_notInT hu).or op_notIn_sign), ?_⟩
  intro O H x y d v w Q hO hx hy he q
  obtain ⟨b, e1, rfl⟩ := rN_ok he
  unfold dIn at e1
  split at e1
  · obtain ⟨hs, e⟩ := ok_ite e1
    rw [Bool.and_eq_true] at hs
    subst e
    have h2 := hy.dp hs.2
    rw [toPy] at h2
    refine .inl ⟨toPy x, _, hx.dp hs.1, h2, hs.1, by rw [← toPy]; exact hs.2, ?_⟩
    rw [any_toPys]
    exact q _ H (Same.refl H) rp_bl
  · obtain ⟨hs, e⟩ := ok_ite e1
    rw [Bool.and_eq_true] at hs
    subst e
    have h2 := hy.dp hs.2
    rw [toPy] at h2
    refine .inr (.inl ⟨toPy x, _, hx.dp hs.1, h2, hs.1, by rw [← toPy]; exact hs.2, ?_⟩)
    rw [any_toPys]
    exact q _ H (Same.refl H) rp_bl
  · split at e1
    · split at e1
      · rename_i hc
        cases e1
        cases hx.str
        cases hy.str
        exact .inr (.inr ⟨_, _, congrArg V.str (str_of hc), rfl, q _ H (Same.refl H) rp_bl⟩)
      · exact nomatch e1
    · exact nomatch e1
  · exact nomatch e1
end
theorem insI_perm (x : Int) : ∀ l : List Int, (insI x l).Perm (x :: l)
  | [] => List.Perm.refl _
  | y :: r => by
    rw [insI]
    split
    · exact List.Perm.refl _
    · exact ((insI_perm x r).cons y).trans (List.Perm.swap x y r)
theorem srtI_perm : ∀ l : List Int, (srtI l).Perm l
  | [] => List.Perm.refl _
  | x :: r => (insI_perm x (srtI r)).trans ((srtI_perm r).cons x)
theorem insI_srt (x : Int) : ∀ l : List Int, l.Pairwise (· ≤ ·) → (insI x l).Pairwise (· ≤ ·)
  | [], _ => List.pairwise_singleton _ _
  | y :: r, h => by
    rw [insI]
    obtain ⟨h1, h2⟩ := List.pairwise_cons.mp h
    split
    · rename_i hxy
      refine List.pairwise_cons.mpr ⟨fun z hz => ?_, h⟩
      rcases List.mem_cons.mp hz with rfl | hz
      · exact hxy
      · exact Int.le_trans hxy (h1 z hz)
    · rename_i hxy
      refine List.pairwise_cons.mpr ⟨fun z hz => ?_, insI_srt x r h2⟩
      rcases List.mem_cons.mp ((insI_perm x r).mem_iff.mp hz) with rfl | hz
      · omega
      · exact h1 z hz
theorem srtI_srt : ∀ l : List Int, (srtI l).Pairwise (· ≤ ·)
  | [] => List.Pairwise.nil
  | x :: r => insI_srt x _ (srtI_srt r)
theorem leP_tr {p q r : Int × Int} (h1 : leP p q) (h2 : leP q r) : leP p r := by
  unfold leP at h1 h2 ⊢
  omega
theorem leP_no {p q : Int × Int} (h : ¬ leP p q) : leP q p := by
  unfold leP at h ⊢
  omega
theorem leP_as {p q : Int × Int} (h1 : leP p q) (h2 : leP q p) : p = q := by
  unfold leP at h1 h2
  exact Prod.ext (by omega) (by omega)
theorem insP_perm (x : Int × Int) : ∀ l : List (Int × Int), (insP x l).Perm (x :: l)
  | [] => List.Perm.refl _
  | y :: r => by
    rw [insP]
    split
    · exact List.Perm.refl _
    · exact ((insP_perm x r).cons y).trans (List.Perm.swap x y r)
theorem srtP_perm : ∀ l : List (Int × Int), (srtP l).Perm l
  | [] => List.Perm.refl _
  | x :: r => (insP_perm x (srtP r)).trans ((srtP_perm r).cons x)
theorem insP_srt (x : Int × Int) : ∀ l : List (Int × Int), l.Pairwise leP → (insP x l).Pairwise leP
  | [], _ => List.pairwise_singleton _ _
  | y :: r, h => by
    rw [insP]
    obtain ⟨h1, h2⟩ := List.pairwise_cons.mp h
    split
    · rename_i hxy
      refine List.pairwise_cons.mpr ⟨fun z hz => ?_, h⟩
      rcases List.mem_cons.mp hz with rfl | hz
      · exact hxy
      · exact leP_tr hxy (h1 z hz)
    · rename_i hxy
      refine List.pairwise_cons.mpr ⟨fun z hz => ?_, insP_srt x r h2⟩
      rcases List.mem_cons.mp ((insP_perm x r).mem_iff.mp hz) with rfl | hz
      · exact leP_no hxy
      · exact h1 z hz
theorem srtP_srt : ∀ l : List (Int × Int), (srtP l).Pairwise leP
  | [] => List.Pairwise.nil
  | x :: r => insP_srt x _ (srtP_srt r)
def PrP (K : PySem.W.Frag) (H : Hp) (v : V) (p : Int × Int) : Prop := ∃ t, v = .ref t ∧ SqT K H t [.int p.1, .int p.2]
def rSrt (K : PySem.W.Frag) : List V → Hp → VK → Prop := fun vs H Q => ∃ (a : Addr) (xs : List V) (ps : List (Int × Int)), vs = [V.ref a] ∧ SqL K H a xs ∧ ps.length = xs.length ∧ (∀ (i : Nat) x p, xs[i]? = some x → ps[i]? = some p → PrP K H x p) ∧
  ∀ ys q, ys.length = ps.length → (∀ (i : Nat) y p, ys[i]? = some y → (srtP ps)[i]? = some p → ∃ j : Nat, xs[j]? = some y ∧ ps[j]? = some p) → H q = none → Q (.ref q) (upd H q (.lst ys))
section
variable {X : Cx}
open Classical in
noncomputable def keyP (K : PySem.W.Frag) (H : Hp) (v : V) : Int × Int := if h : ∃ p, PrP K H v p then h.choose else (0, 0)
theorem keyP_eq {pins : List (Addr × Obj)} {s : Shared} {σ : L2.St} {H : Hp} (I : L2.Inv X pins σ H s) {v : V} {p : Int × Int} (h : PrP X.K H v p) : keyP X.K H v = p := by
  have hx : ∃ p, PrP X.K H v p := ⟨p, h⟩
  have e : keyP X.K H v = hx.choose := dif_pos hx
  obtain ⟨t, e1, g1⟩ := hx.choose_spec
  obtain ⟨t', e2, g2⟩ := h
  rw [e1] at e2
  cases e2
  have := I.tuple_inj g1 g2
  rw [e]
  injection this with q1 q2
  injection q2 with q2 _
  exact Prod.ext (V.int.inj q1) (V.int.inj q2)
theorem cr_srt : CallR X (.builtin "sorted") (rSrt X.K) := by
  intro pins s σ H vs us Q I r h
  obtain ⟨a, xs, ps, rfl, hs, hlen, hx, q⟩ := h
  obtain ⟨its, rv, hl, hz⟩ := I.list hs
  rw [Vals.ref1 r]
  have hpr : ∀ x ∈ xs, ∃ (j : Nat) (p : Int × Int), xs[j]? = some x ∧ ps[j]? = some p ∧ PrP X.K H x p := fun x m => by
    obtain ⟨j, hj, rfl⟩ := List.getElem_of_mem m
    have g1 := List.getElem?_eq_getElem hj
    have g2 := List.getElem?_eq_getElem (show j < ps.length by omega)
    exact ⟨j, _, g1, g2, hx j _ _ g1 g2⟩
  obtain ⟨e1, e2⟩ := refs_back rv fun x m => by
    obtain ⟨j, p, _, _, t, e, _⟩ := hpr x m
    exact ⟨t, e⟩
  have hkm : xs.map (keyP X.K H) = ps := by
    apply List.ext_getElem?
    intro i
    rw [List.getElem?_map]
    cases hi : xs[i]? with
    | none =>
      rw [List.getElem?_eq_none_iff] at hi
      exact (List.getElem?_eq_none_iff.mpr (by omega)).symm
    | some x =>
      have hil : i < xs.length := (List.getElem?_eq_some_iff.mp hi).1
      have g2 := List.getElem?_eq_getElem (show i < ps.length by omega)
      rw [g2]
      exact congrArg some (keyP_eq I (hx i _ _ hi g2))
  refine SrtO.sorted_pairsO (k := fun u => keyP X.K H (backV u)) hl.isList (by rw [← rv.length]; exact hz) (fun v hv => ?_) fun h' d out h1 h2 kp hd hn => ?_
  · obtain ⟨t, rfl⟩ := e2 v hv
    have hm : V.ref t ∈ xs := by rw [e1]; exact List.mem_map_of_mem (f := backV) hv
    obtain ⟨j, p, _, _, hp⟩ := hpr _ hm
    have hk := keyP_eq I hp
    obtain ⟨t', e, ht⟩ := hp
    cases e
    obtain ⟨its2, r2, ⟨o, ho, hc, n, hd⟩, _⟩ := I.tuple ht
    obtain ⟨u1, u2, rfl, ri, rj⟩ := vals2 r2
    obtain ⟨t1, rfl⟩ := ri
    obtain ⟨t2, rfl⟩ := rj
    refine ⟨t, o, t1, t2, n, rfl, ho, hc, ?_⟩
    rw [show backV (Value.ref t) = V.ref t from rfl, hk]
    exact hd
  · have h3 : ∀ u ∈ out, ∃ a, u = Value.ref a := fun u hu => e2 u (h2.perm.mem_iff.mp hu)
    obtain ⟨n, hn⟩ := hn
    have hperm : (out.map backV).Perm xs := by
      rw [e1]
      exact h2.perm.map backV
    have hke : (out.map backV).map (keyP X.K H) = srtP ps := by
      have p1 : ((out.map backV).map (keyP X.K H)).Perm (srtP ps) := by
        have := hperm.map (keyP X.K H)
        rw [hkm] at this
        exact this.trans (srtP_perm ps).symm
      refine List.Perm.eq_of_pairwise (le := leP) (fun a b _ _ x y => leP_as x y) ?_ (srtP_srt ps) p1
      rw [List.map_map]
      refine List.pairwise_map.mpr (h1.imp fun {x y} hh => ?_)
      have := SrtO.lexB_no.mp hh
      show leP (keyP X.K H (backV x)) (keyP X.K H (backV y))
      unfold leP
      omega
    have hol : out.length = ps.length := by
      have := hperm.length_eq
      rw [List.length_map] at this
      omega
    refine ⟨.ref d, upd H d (.lst (out.map backV)), I.laid (t' := s.toks) kp hd ⟨?_, out, n, vals_back h3, hn⟩, rfl, q _ d ?_ (fun i y p hy hp => ?_) (I.hok.fresh hd)⟩
    · rw [List.length_map, hol, hlen]
      exact hz
    · rw [List.length_map]
      exact hol
    · have hym : y ∈ xs := hperm.mem_iff.mp (List.mem_of_getElem? hy)
      obtain ⟨j, p', g1, g2, hpp⟩ := hpr y hym
      have hk := keyP_eq I hpp
      rw [← hke, List.getElem?_map, hy] at hp
      have : keyP X.K H y = p := Option.some.inj hp
      rw [← this, hk]
      exact ⟨j, g1, g2⟩
theorem prs_get {K : PySem.W.Frag} {O : Addr → Prop} {H : Hp} : ∀ {ds : List D} {vs : List V} {ps : List (Int × Int)}, RpL K O H ds vs → prsOf ds = some ps → ps.length = vs.length ∧ ∀ (i : Nat) x p, vs[i]? = some x → ps[i]? = some p → Rp K O H (prD1 p) x
  | [], _, _, h, e => by
    rw [RpL] at h
    subst h
    cases e
    exact ⟨rfl, fun i x p h1 _ => by simp at h1⟩
  | d :: ds, _, ps, h, e => by
    rw [RpL] at h
    obtain ⟨v, r, rfl, t, l⟩ := h
    unfold prsOf at e
    split at e
    · rename_i heq
      cases heq
    · rename_i a b r' heq
      cases heq
      cases hq : prsOf ds with
      | none => rw [hq] at e; exact nomatch e
      | some qs =>
        rw [hq] at e
        cases e
        obtain ⟨h1, h2⟩ := prs_get l hq
        refine ⟨by rw [List.length_cons, List.length_cons, h1], fun i x p g1 g2 => ?_⟩
        cases i with
        | zero =>
          rw [List.getElem?_cons_zero] at g1 g2
          cases g1
          cases g2
          exact t
        | succ i =>
          rw [List.getElem?_cons_succ] at g1 g2
          exact h2 i x p g1 g2
    · exact nomatch e
theorem rp_pair {K : PySem.W.Frag} {O : Addr → Prop} {H : Hp} {p : Int × Int} {x : V} (h : Rp K O H (prD1 p) x) : PrP K H x p := by
  unfold prD1 at h
  rw [Rp] at h
  obtain ⟨t, vs, rfl, ht, l⟩ := h
  rw [RpL] at l
  obtain ⟨v1, r1, rfl, g1, l⟩ := l
  rw [RpL] at l
  obtain ⟨v2, r2, rfl, g2, l⟩ := l
  rw [RpL] at l
  subst l
  rw [Rp] at g1 g2
  subst g1 g2
  exact ⟨t, rfl, ht.sq⟩
theorem rpl_by {K : PySem.W.Frag} {O : Addr → Prop} {H : Hp} : ∀ {ps : List (Int × Int)} {vs : List V}, vs.length = ps.length → (∀ (i : Nat) x p, vs[i]? = some x → ps[i]? = some p → Rp K O H (prD1 p) x) → RpL K O H (ps.map prD1) vs
  | [], [], _, _ => RpL.nil
  | p :: ps, v :: vs, hl, h => RpL.cons (h 0 v p rfl rfl) (rpl_by (by simpa using hl) fun i x q g1 g2 => h (i + 1) x q g1 g2)
  | [], _ :: _, hl, _ => by simp at hl
  | _ :: _, [], hl, _ => by simp at hl
theorem rpl_mi {K : PySem.W.Frag} {O : Addr → Prop} {H : Hp} : ∀ ns : List Int, RpL K O H (ns.map D.int) (ns.map V.int)
  | [] => RpL.nil
  | n :: ns => RpL.cons (by rw [Rp]) (rpl_mi ns)
theorem gather_tup {P : Program} {w : World} {A : Around} {E : Value → Shared → Prop} {z : Shared} {tp : Addr} {us : List Value} {Q : List Value → Shared → Prop} (ht : z.heap.IsTuple tp us.toArray) (hn : us.length ≤ sizeLine)
    (hq : Q us { z with heap := (z.heap.push (seqObj "list" #[] 0)).update z.heap.objs.size (Obj.mapSeq (· ++ us.toArray)) }) : wpAny (model P w) A (collect (.ref tp)) Q E z := by
  obtain ⟨ob, hob, hcl, m, hda⟩ := id ht
  have new : (z.heap.push (seqObj "list" #[] 0)).get? z.heap.objs.size = some (seqObj "list" #[] 0) := Heap.get?_push_size _ rfl
  have old : (z.heap.push (seqObj "list" #[] 0)).get? tp = some ob := Heap.get?_push_of_some _ hob
  have hty : (Value.type "tuple" == Value.type "list" || Value.type "tuple" == Value.type "tuple") = true := by decide
  unfold collect
  refine wpAny_bind (wpAny_runValue (codeAny_builtin entry_proto_collect' (?_ : wpAny _ _ (do again (.builtin "list.__iadd__" ⟨[← newList [], .ref tp], []⟩)) _ _ z)))
  refine wpAny_bind (wpAny_newList (wpAny_pure ⟨Code.quiet_builtin _ (by decide +kernel), codeAny_builtin entry_list_iadd' (?_ : wpAny _ _ (Builtin.List.listExtendWith (.ref z.heap.objs.size) (.ref tp) (.ref z.heap.objs.size)) _ _ { z with heap := z.heap.push (seqObj "list" #[] 0) })⟩))
  unfold Builtin.List.listExtendWith
  refine wpAny_bind (wpAny_typeOf (T := "tuple") ⟨ob, old, hcl⟩ ?_)
  rw [if_pos (by first | exact hty | simpa using hty)]
  refine wpAny_bind (listItems_at old hda (wpAny_bind (listItems_at (xs := #[]) (n := 0) new rfl ?_)))
  rw [if_neg (by simp)]
  have hfit : (#[] ++ us.toArray : Array Value).size ≤ sizeLine + 1 := by
    rw [Array.size_append, List.size_toArray]
    show 0 + us.length ≤ sizeLine + 1
    omega
  refine wpAny_bind (listUpdate_at (xs := #[]) (n := 0) new rfl (wpAny_pure ?_) (Nat.zero_le _) hfit)
  refine wpAny_bind (m := load z.heap.objs.size) (wpAny_load (get?_update_seq new _) ?_)
  have e : ((#[] : Array Value) ++ us.toArray).toList = us := by simp
  show wpAny _ _ (pure ((#[] : Array Value) ++ us.toArray).toList) Q E _
  rw [e]
  exact wpAny_pure hq
theorem sorted_ordT {P : Program} {w : World} {A : Around} {E : Value → Shared → Prop} {z : Shared} {tp : Addr} {us : List Value} {lt : Value → Value → Bool} {Q : Value → Shared → Prop} (W : SrtO.Swo lt) (ht : z.heap.IsTuple tp us.toArray) (hn : us.length ≤ sizeLine)
    (hS : 2 ≤ us.length → ∀ (g : Heap) (a : Addr), g.get? a = some (seqObj "list" us.toArray 0) → SrtO.SortableO P w A.in1.in1 { z with heap := g } a us lt)
    (hq : ∀ out : List Value, SrtO.Srtd lt out → SrtO.Stb lt out us → Q (.ref (z.heap.objs.size + 1)) { z with heap := sortedAll z.heap us out.toArray }) :
    wpAny (model P w) A (call (.builtin "sorted") [.ref tp]) Q E z := by
  refine Calls.call_function_entry kind_sorted plain_sorted entry_sorted (args_sorted1 _) ?_
  unfold Builtin.«sorted»
  refine wpAny_bind (m := checkCount "sorted" 1 1 _) (wpAny_pure (wpAny_bind (gather_tup ht hn (wpAny_bind (wpAny_newList ?_ hn)))))
  generalize hg : (z.heap.push (seqObj "list" #[] 0)).update z.heap.objs.size (Obj.mapSeq (· ++ us.toArray)) = g
  have hgs : g.objs.size = z.heap.objs.size + 1 := by
    rw [← hg, Heap.size_update, Heap.size_push]
  have hat : (g.push (seqObj "list" us.toArray 0)).get? (z.heap.objs.size + 1) = some (seqObj "list" us.toArray 0) := by
    rw [← hgs]
    exact Heap.get?_push_size _ rfl
  show wpAny _ _ _ _ _ { z with heap := g.push (seqObj "list" us.toArray 0) }
  rw [hgs]
  refine wpAny_bind (wpAny_holding (wpAny_call_entry slot_list_sort ⟨_, hat, rfl⟩ entry_list_sort (SrtO.list_sort_ord W hat hn (fun h2 => hS h2 _ _ hat) fun out hs hb => ⟨_, rfl, wpAny_pure ⟨_, rfl, ?_⟩⟩) (args_list_sort _)))
  have := hq out hs hb
  unfold sortedAll at this
  rw [hg] at this
  exact this
def rSortedTI (K : PySem.W.Frag) : List V → Hp → VK → Prop := fun vs H Q => ∃ (a : Addr) (ns : List Int), vs = [V.ref a] ∧ SqT K H a (ns.map V.int) ∧
  ∀ (ns' : List Int) (p : Addr), ns'.Perm ns → ns'.Pairwise (· ≤ ·) → H p = none → Q (.ref p) (upd H p (.lst (ns'.map V.int)))
theorem cr_sortedTI : CallR X (.builtin "sorted") (rSortedTI X.K) := by
  intro pins s σ H vs us Q I r h
  obtain ⟨a, ns, rfl, hs, q⟩ := h
  obtain ⟨its, rv, hl, hz⟩ := I.tuple hs
  rw [Vals.ref1 r]
  have hi := rv.ints
  refine sorted_ordT SrtO.swo_int hl (by rw [← rv.length]; exact hz) (fun h2 g a' _ => SrtO.ints_sortable hi h2) fun out h1 h2 => ?_
  obtain ⟨k1, k2, k3⟩ := SrtO.ints_out hi h1 h2
  obtain ⟨ep, he'⟩ := PyProof.Rows.sortedAll_at s.heap its out.toArray
  have hlen : ((out.map SrtO.iv).map V.int).length ≤ sizeLine := by
    rw [List.length_map, k2.length_eq]
    rw [List.length_map] at hz
    exact hz
  exact ⟨.ref _, upd H (s.heap.objs.size + 1) (.lst ((out.map SrtO.iv).map V.int)), I.laid (t' := s.toks) (fun _ _ => PyProof.Rows.sortedAll_old) (Nat.le_succ _) ⟨hlen, out, ep, vals_of_ints k1, he'⟩, rfl, q _ _ k2 k3 (I.hok.fresh (Nat.le_succ _))⟩
theorem cap_sorted : Cap X (.builtin "sorted") dSorted := by
  refine ⟨_, callR_or (callR_or cr_sortedI cr_srt) cr_sortedTI, ?_⟩
  intro O H xs d vs Q hO hx he q
  unfold dSorted at he
  split at he
  · obtain ⟨v, rfl, r⟩ := rpwl_one hx
    obtain ⟨a, vs, rfl, t, l⟩ := r.lst
    split at he
    · rename_i ns hb
      cases he
      have e := rpl_ints l hb
      subst e
      refine .inl (.inl ⟨a, ns, rfl, .inl t, fun ns' p h1 h2 hp => ?_⟩)
      have e : ns' = srtI ns := List.Perm.eq_of_pairwise (le := fun x y : Int => x ≤ y) (fun a b _ _ x y => Int.le_antisymm x y) h2 (srtI_srt ns) (h1.trans (srtI_perm ns).symm)
      subst e
      exact q _ _ (same_new hp) (new_lst hp hO (rpl_mi _))
    · split at he
      · rename_i ps hb
        cases he
        obtain ⟨g1, g2⟩ := prs_get l hb
        refine .inl (.inr ⟨a, vs, ps, rfl, .inl t, g1, fun i x p h1 h2 => rp_pair (g2 i x p h1 h2), fun ys p hl hy hp => ?_⟩)
        refine q _ _ (same_new hp) (new_lst hp hO (rpl_by ?_ fun i x p' h1 h2 => ?_))
        · rw [hl, (srtP_perm ps).length_eq]
        · obtain ⟨j, k1, k2⟩ := hy i x p' h1 h2
          exact g2 j x p' k1 k2
      · exact nomatch he
  · obtain ⟨v, rfl, r⟩ := rpwl_one hx
    obtain ⟨a, vs, rfl, t, l⟩ := r.tup
    split at he
    · rename_i ns hb
      cases he
      have e := rpl_ints l hb
      subst e
      refine .inr ⟨a, ns, rfl, t.sq, fun ns' p h1 h2 hp => ?_⟩
      have e : ns' = srtI ns := List.Perm.eq_of_pairwise (le := fun x y : Int => x ≤ y) (fun a b _ _ x y => Int.le_antisymm x y) h2 (srtI_srt ns) (h1.trans (srtI_perm ns).symm)
      subst e
      exact q _ _ (same_new hp) (new_lst hp hO (rpl_mi _))
    · exact nomatch he
  · exact nomatch he
end
end LC

set_option Elab.async false
set_option linter.all false
set_option maxRecDepth 100000
set_option maxHeartbeats 1000000
namespace LC
open PySem PySem.Spec PyProof.Rows L2
def pickN {α : Type} (xs : List α) (lo st : Int) (n : Nat) : List α := (List.range n).filterMap fun (k : Nat) => xs[(lo + (k : Int) * st).toNat]?
theorem fm_congr {α β : Type} {f g : α → Option β} : ∀ {l : List α}, (∀ x ∈ l, f x = g x) → l.filterMap f = l.filterMap g
  | [], _ => rfl
  | x :: r, h => by
    rw [List.filterMap_cons, List.filterMap_cons, h x List.mem_cons_self, fm_congr fun y hy => h y (List.mem_cons_of_mem _ hy)]
theorem pick_even {α : Type} : ∀ (xs : List α), (List.range ((xs.length + 1) / 2)).filterMap (fun (k : Nat) => xs[2 * k]?) = evens xs
  | [] => by simp [evens]
  | [x] => by simp [evens, List.range_succ]
  | x :: y :: r => by
    have e : ((x :: y :: r).length + 1) / 2 = (r.length + 1) / 2 + 1 := by
      rw [List.length_cons, List.length_cons]
      omega
    rw [e, List.range_succ_eq_map, List.filterMap_cons]
    show x :: List.filterMap (fun (k : Nat) => (x :: y :: r)[2 * k]?) (List.map Nat.succ (List.range ((r.length + 1) / 2))) = x :: evens r
    rw [List.filterMap_map, ← pick_even r]
    congr 1
theorem pick_all {α : Type} : ∀ (xs : List α) (n : Nat), n = xs.length → (List.range n).filterMap (fun (k : Nat) => xs[k]?) = xs
  | [], _, h => by subst h; rfl
  | x :: r, _, h => by
    subst h
    rw [List.length_cons, List.range_succ_eq_map, List.filterMap_cons]
    show x :: List.filterMap (fun (k : Nat) => (x :: r)[k]?) (List.map Nat.succ (List.range r.length)) = x :: r
    rw [List.filterMap_map]
    congr 1
    exact pick_all r _ rfl
def stpSt : Stp → Int
  | .rev => -1
  | .even => 2
  | .odd => 2
def stpLo : Stp → Option Int
  | .rev => none
  | .even => none
  | .odd => some 1
theorem pick_stp {α : Type} (k : Stp) (xs : List α) : pickN xs (Builtin.Slice.sliceAdjust (stpLo k) none (stpSt k) xs.length).1 (stpSt k)
    (Builtin.Slice.slicePlaces (Builtin.Slice.sliceAdjust (stpLo k) none (stpSt k) xs.length).1 (Builtin.Slice.sliceAdjust (stpLo k) none (stpSt k) xs.length).2 (stpSt k)) = stpL k xs := by
  unfold pickN
  cases k with
  | rev =>
    have e1 : Builtin.Slice.sliceAdjust (stpLo .rev) none (stpSt .rev) xs.length = ((xs.length : Int) - 1, -1) := by
      simp [Builtin.Slice.sliceAdjust, stpLo, stpSt]
    have e2 : Builtin.Slice.slicePlaces ((xs.length : Int) - 1) (-1) (-1) = xs.length := by
      unfold Builtin.Slice.slicePlaces
      have h : ¬ ((-1 : Int) > 0) := by omega
      rw [if_neg h, show -(-1 : Int) = 1 from rfl, Int.ediv_one]
      split <;> omega
    rw [e1]
    show List.filterMap (fun (k : Nat) => xs[((xs.length : Int) - 1 + (k : Int) * -1).toNat]?) (List.range (Builtin.Slice.slicePlaces ((xs.length : Int) - 1) (-1) (-1))) = xs.reverse
    rw [e2, ← pick_all xs.reverse xs.length (by rw [List.length_reverse])]
    apply fm_congr
    intro k hk
    have hk := List.mem_range.mp hk
    rw [List.getElem?_reverse hk]
    congr 1
    omega
  | even =>
    have e1 : Builtin.Slice.sliceAdjust (stpLo .even) none (stpSt .even) xs.length = (0, (xs.length : Int)) := by
      simp [Builtin.Slice.sliceAdjust, stpLo, stpSt]
    have e2 : Builtin.Slice.slicePlaces 0 (xs.length : Int) 2 = (xs.length + 1) / 2 := by
      unfold Builtin.Slice.slicePlaces
      have h : (2 : Int) > 0 := by omega
      rw [if_pos h]
      split <;> omega
    rw [e1]
    show List.filterMap (fun (k : Nat) => xs[((0 : Int) + (k : Int) * 2).toNat]?) (List.range (Builtin.Slice.slicePlaces 0 (xs.length : Int) 2)) = evens xs
    rw [e2, ← pick_even xs]
    apply fm_congr
    intro k hk
    congr 1
    omega
  | odd =>
    cases xs with
    | nil => rfl
    | cons x r =>
      have e1 : Builtin.Slice.sliceAdjust (stpLo .odd) none (stpSt .odd) (x :: r).length = (1, ((x :: r).length : Int)) := by
        simp [Builtin.Slice.sliceAdjust, stpLo, stpSt]
        omega
      have e2 : Builtin.Slice.slicePlaces 1 ((x :: r).length : Int) 2 = (r.length + 1) / 2 := by
        unfold Builtin.Slice.slicePlaces
        have h : (2 : Int) > 0 := by omega
        rw [if_pos h, List.length_cons]
        split <;> omega
      rw [e1]
      show List.filterMap (fun (k : Nat) => (x :: r)[((1 : Int) + (k : Int) * 2).toNat]?) (List.range (Builtin.Slice.slicePlaces 1 ((x :: r).length : Int) 2)) = evens r
      rw [e2, ← pick_even r]
      apply fm_congr
      intro k hk
      rw [show ((1 : Int) + (k : Int) * 2).toNat = 2 * k + 1 by omega]
      rfl
theorem stpL_len {α : Type} (k : Stp) (xs : List α) : (stpL k xs).length ≤ xs.length := by
  have h : ∀ ys : List α, (evens ys).length ≤ ys.length := fun ys => by
    rw [← pick_even]
    refine Nat.le_trans (List.length_filterMap_le _ _) ?_
    rw [List.length_range]
    omega
  cases k with
  | rev => exact Nat.le_of_eq List.length_reverse
  | even => exact h xs
  | odd => exact Nat.le_trans (h _) (by rw [List.length_tail]; omega)
section
variable {prog : Program} {w : World} {A : Around} {E : Value → Shared → Prop} {s : Shared}
theorem sliceApplied_stp {sl : Addr} {vl vs : Value} {n : Nat} {Q : Int × Int × Nat → Shared → Prop} (k : Stp) (hs : s.heap.IsSliceOf sl vl .none vs) (pl : IsPart vl (stpLo k)) (ps : IsPart vs (some (stpSt k)))
    (h : Q ((Builtin.Slice.sliceAdjust (stpLo k) none (stpSt k) n).1, stpSt k, Builtin.Slice.slicePlaces (Builtin.Slice.sliceAdjust (stpLo k) none (stpSt k) n).1 (Builtin.Slice.sliceAdjust (stpLo k) none (stpSt k) n).2 (stpSt k)) s) :
    wpAny (model prog w) A (Builtin.Slice.sliceApplied (.ref sl) (pure (n : Int))) Q E s := by
  obtain ⟨os, hos, hcs, hds⟩ := id hs
  unfold Builtin.Slice.sliceApplied Builtin.Slice.sliceFields
  refine wpAny_bind (wpAny_bind (wpAny_field hos hds (x := vl) rfl (wpAny_bind (wpAny_field hos hds (x := .none) rfl (wpAny_bind (wpAny_field hos hds (x := vs) rfl (wpAny_pure ?_)))))))
  refine wpAny_bind (HT.slicePart_ ps ?_)
  have hne : ¬ ((stpSt k == 0) = true) := by cases k <;> decide
  show wpAny _ _ (if (stpSt k == 0) = true then _ else _) _ _ s
  rw [if_neg hne]
  refine wpAny_bind (HT.slicePart_ pl (wpAny_bind (slicePart_none (wpAny_bind (wpAny_pure ?_)))))
  exact wpAny_pure h
theorem getItem_tuple_stp {t sl : Addr} {items : Array Value} {vl vs : Value} {Q : Value → Shared → Prop} (k : Stp) (ht : IsTup s.heap t items) (hs : s.heap.IsSliceOf sl vl .none vs) (pl : IsPart vl (stpLo k)) (ps : IsPart vs (some (stpSt k)))
    (h : Q (.ref s.heap.objs.size) { s with heap := s.heap.push { cls := .type "tuple", data := .seq (stpL k items.toList).toArray } }) (hsz : items.size ≤ sizeLine) : wpAny (model prog w) A (getItem (.ref t) (.ref sl)) Q E s := by
  have hok : sizeOk (.seq (stpL k items.toList).toArray) := by
    show (stpL k items.toList).toArray.size ≤ sizeLine
    have := stpL_len k items.toList
    rw [Array.length_toList] at this
    rw [List.size_toArray]
    exact Nat.le_trans this hsz
  obtain ⟨os, hos, hcs, hds⟩ := id hs
  have hTs : s.TypeIs (.ref sl) "slice" := ⟨os, hos, hcs⟩
  unfold getItem
  try with_reducible refine wpAny_holding ?_
  first | refine wpAny_bind (wpAny_pure ?_) | skip
  refine wpAny_bind (wpAny_sequenceKey ht.typeIs (by decide) ?_)
  refine wpAny_bind (wpAny_callSpecial?_slot (name := Str.ofString "__getitem__") ht.typeIs PyProof.Rows.slot_tuple_getitem (wpAny_call_entry PyProof.Rows.slot_tuple_getitem ht.typeIs entry_tuple_getitem ?_ (args_tuple_getitem _ _)))
  show wpAny _ _ (Builtin.Tuple.tupleItemsOf (.ref t) >>= _) _ _ s
  refine wpAny_bind (tupleItemsOf_ ht ?_)
  refine wpAny_bind (wpAny_typeOf hTs ?_)
  rw [if_pos (by decide)]
  refine wpAny_bind (sliceApplied_stp k hs pl ps ?_)
  have hno : ¬ ((((Builtin.Slice.sliceAdjust (stpLo k) none (stpSt k) items.size).1 == 0 && stpSt k == 1 && (Builtin.Slice.slicePlaces (Builtin.Slice.sliceAdjust (stpLo k) none (stpSt k) items.size).1 (Builtin.Slice.sliceAdjust (stpLo k) none (stpSt k) items.size).2 (stpSt k)) == items.size)) = true) := by
    intro q
    rw [Bool.and_eq_true, Bool.and_eq_true] at q
    have q1 := q.1.2
    cases k <;> exact absurd q1 (by decide)
  show wpAny _ _ (if ((Builtin.Slice.sliceAdjust (stpLo k) none (stpSt k) items.size).1 == 0 && stpSt k == 1 && (Builtin.Slice.slicePlaces (Builtin.Slice.sliceAdjust (stpLo k) none (stpSt k) items.size).1 (Builtin.Slice.sliceAdjust (stpLo k) none (stpSt k) items.size).2 (stpSt k)) == items.size) = true then _ else _) _ _ s
  rw [if_neg hno]
  have ep := pick_stp k items.toList
  unfold pickN at ep
  rw [Array.length_toList] at ep
  simp only [Array.getElem?_toList] at ep
  rw [ep]
  first
    | exact wpAny_bind (m := Builtin.Tuple.tupleExact _) (wpAny_newObj_type (wpAny_pure ⟨_, rfl, wpAny_pure h⟩) hok)
    | exact wpAny_bind (m := Builtin.Tuple.tupleExact _) (wpAny_newObj_type (wpAny_bind (wpAny_pure (wpAny_pure ⟨_, rfl, wpAny_pure h⟩))) hok)
    | exact wpAny_bind (wpAny_bind (m := Builtin.Tuple.tupleExact _) (wpAny_newObj_type (wpAny_pure (wpAny_pure ⟨_, rfl, wpAny_pure h⟩)) hok))
    | exact wpAny_bind (wpAny_bind (m := Builtin.Tuple.tupleExact _) (wpAny_newObj_type (wpAny_pure ⟨_, rfl, wpAny_pure h⟩) hok))
theorem listPick_stp (k : Stp) (items : Array Value) : slicePick items (stpLo k) none (some (stpSt k)) = (stpL k items.toList).toArray := by
  rw [← pick_stp k items.toList]
  unfold slicePick pickN sliceRange
  rw [List.filterMap_map]
  have e1 : (sliceBounds (stpLo k) none (some (stpSt k)) items.size) = ((Builtin.Slice.sliceAdjust (stpLo k) none (stpSt k) items.size).1, (Builtin.Slice.sliceAdjust (stpLo k) none (stpSt k) items.size).2, stpSt k) := by
    cases k
    · simp [sliceBounds, Builtin.Slice.sliceAdjust, stpLo, stpSt]
    · simp [sliceBounds, Builtin.Slice.sliceAdjust, stpLo, stpSt]
    · simp [sliceBounds, Builtin.Slice.sliceAdjust, stpLo, stpSt]
      omega
  rw [e1, Array.length_toList]
  generalize (Builtin.Slice.sliceAdjust (stpLo k) none (stpSt k) items.size).1 = lo
  generalize (Builtin.Slice.sliceAdjust (stpLo k) none (stpSt k) items.size).2 = hi
  congr 1
  have e2 : (if stpSt k > 0 then (if lo < hi then (hi - lo + stpSt k - 1) / stpSt k else 0) else (if lo > hi then (lo - hi - stpSt k - 1) / (-stpSt k) else 0)).toNat = Builtin.Slice.slicePlaces lo hi (stpSt k) := by
    unfold Builtin.Slice.slicePlaces
    have n1 : ¬ ((-1 : Int) > 0) := by omega
    have p2 : (2 : Int) > 0 := by omega
    have hst : stpSt k = -1 ∨ stpSt k = 2 := by cases k <;> first | exact .inl rfl | exact .inr rfl
    clear e1
    generalize stpSt k = st at hst ⊢
    rcases hst with rfl | rfl
    · rw [if_neg n1, if_neg n1, show -(-1 : Int) = 1 from rfl, Int.ediv_one, Int.ediv_one]
      split <;> omega
    · rw [if_pos p2, if_pos p2]
      split <;> omega
  show List.filterMap ((fun x => items[x]?) ∘ fun (j : Nat) => (lo + stpSt k * (j : Int)).toNat) (List.range ((if stpSt k > 0 then (if lo < hi then (hi - lo + stpSt k - 1) / stpSt k else 0) else (if lo > hi then (lo - hi - stpSt k - 1) / (-stpSt k) else 0)).toNat)) = _
  rw [e2]
  apply fm_congr
  intro j hj
  show items[(lo + stpSt k * (j : Int)).toNat]? = items.toList[(lo + (j : Int) * stpSt k).toNat]?
  rw [Array.getElem?_toList, Int.mul_comm]
end
end LC

set_option Elab.async false
set_option linter.all false
set_option maxRecDepth 100000
set_option maxHeartbeats 1000000
namespace LC
open PySem PySem.Spec PyProof.Rows L2
theorem map_stp {α β : Type} (k : Stp) (f : α → β) (l : List α) : stpL k (l.map f) = (stpL k l).map f := by
  cases k with
  | rev => exact (List.map_reverse).symm
  | even => exact map_evens f l
  | odd =>
    show evens (l.map f).tail = (evens l.tail).map f
    rw [← List.map_tail, map_evens]
theorem mem_stp {α : Type} (k : Stp) (l : List α) (x : α) (h : x ∈ stpL k l) : x ∈ l := by
  cases k with
  | rev => exact List.mem_reverse.mp h
  | even => exact mem_evens l x h
  | odd => exact List.mem_of_mem_tail (mem_evens _ x h)
theorem paired_zip {α β : Type} {F : α → β → Prop} : ∀ {xs : List α} {ys : List β}, Paired F xs ys → ∃ ps : List (α × β), xs = ps.map (·.1) ∧ ys = ps.map (·.2) ∧ ∀ p ∈ ps, F p.1 p.2
  | _, _, .nil => ⟨[], rfl, rfl, fun _ z => nomatch z⟩
  | _, _, .cons (a := a) (b := b) h t => by
    obtain ⟨ps, rfl, rfl, q⟩ := paired_zip t
    refine ⟨(a, b) :: ps, rfl, rfl, fun p hp => ?_⟩
    rcases List.mem_cons.mp hp with rfl | hp
    · exact h
    · exact q p hp
theorem paired_of {α β : Type} {F : α → β → Prop} : ∀ {ps : List (α × β)}, (∀ p ∈ ps, F p.1 p.2) → Paired F (ps.map (·.1)) (ps.map (·.2))
  | [], _ => .nil
  | p :: ps, h => .cons (h p List.mem_cons_self) (paired_of fun q hq => h q (List.mem_cons_of_mem _ hq))
theorem vals_stp {xs : List V} {us : List Value} (k : Stp) (r : Vals xs us) : Vals (stpL k xs) (stpL k us) := by
  obtain ⟨ps, rfl, rfl, q⟩ := paired_zip r
  rw [map_stp, map_stp]
  exact paired_of fun p hp => q p (mem_stp k ps p hp)
theorem rev_picked (z : Str) : (Builtin.Str.strSliceIndices none none (-1) z.length).filterMap (z.cps[·]?) = z.cps.toList.reverse := by
  rw [PyProof.Rows.picked_rev, PyProof.Rows.filterMap_get z.cps _ (fun i hi => by
    obtain ⟨k, hk, rfl⟩ := List.mem_map.mp hi
    have hk' : k < z.length := List.mem_range.mp hk
    show z.length - 1 - k < z.length
    omega), List.map_map]
  apply List.ext_getElem?
  intro k
  by_cases hk : k < z.length
  · have hk2 : k < z.cps.toList.length := by rw [Array.length_toList]; exact hk
    rw [List.getElem?_map, List.getElem?_range hk, List.getElem?_reverse hk2, Option.map_some]
    show some (z.cps.getD (z.length - 1 - k) 0) = _
    have h3 : z.length - 1 - k < z.cps.size := by show z.length - 1 - k < z.length; omega
    rw [Array.getElem?_toList, Array.length_toList, show z.cps.size - 1 - k = z.length - 1 - k from rfl, Array.getElem?_eq_getElem h3]
    simp [Array.getD, h3]
  · rw [List.getElem?_eq_none (by rw [List.length_map, List.length_range]; omega), List.getElem?_eq_none (by rw [List.length_reverse, Array.length_toList]; show z.length ≤ k; omega)]
section
variable {X : Cx} {c : Cf} {M : List Nat}
def rStp (K : PySem.W.Frag) (k : Stp) : V → Hp → VK → Prop := fun x H Q => (∃ a xs, x = .ref a ∧ SqT K H a xs ∧ ∀ p, H p = none → Q (.ref p) (upd H p (.tup (stpL k xs)))) ∨ (∃ a xs, x = .ref a ∧ SqL K H a xs ∧ ∀ p, H p = none → Q (.ref p) (upd H p (.lst (stpL k xs)))) ∨ (∃ z, k = .rev ∧ x = .str z ∧ z.length ≤ sizeLine ∧ Q (.str ⟨z.cps.toList.reverse.toArray⟩) H)
theorem pe_stp {e st : Expr} {lo : Option Expr} {te : TE} {p3 pos : Pos} (k : Stp) (he : PE X e te) (hl : PO X lo (fun _ H Q => Q (stpLo k) H)) (hst : PO X (some st) (fun _ H Q => Q (some (stpSt k)) H)) :
    PE X (.Subscript e (.Slice lo none (some st) p3) pos) (tUn (rStp X.K k) te) := by
  refine ⟨fun pins s σ H Q I h => ?_⟩
  refine Subscript_ (thn (he.run pins s σ H _ I h) fun v s1 ⟨x, H1, I1, r1, q1⟩ => ?_)
  refine wpAny_Slice (thn (hl.run pins s1 σ H1 (fun o H2 => o = stpLo k ∧ H2 = H1) I1 ⟨rfl, rfl⟩) fun vl s2 ⟨l, H2, I2, pl, el, e2⟩ => ?_)
  subst el e2
  refine thn (po_none.run pins s2 σ H2 (fun o H3 => o = none ∧ H3 = H2) I2 ⟨rfl, rfl⟩) fun vu s3 ⟨u, H3, I3, pu, eu, e3⟩ => ?_
  subst eu e3
  refine thn (hst.run pins s3 σ H3 (fun o H4 => o = some (stpSt k) ∧ H4 = H3) I3 ⟨rfl, rfl⟩) fun vs s4 ⟨o, H4, I4, ps, eo, e4⟩ => ?_
  subst eo e4
  have I5 : Inv X pins σ H4 { s4 with heap := s4.heap.push { cls := .type "slice", data := .fields #[vl, vu, vs] } } := I4.kept (t' := s4.toks) fun b ob q => Heap.get?_push_of_some _ q
  have hne : some (stpSt k) ≠ some 0 := by cases k <;> decide
  cases pu
  rcases q1 with ⟨a, xs, ex, hx, q⟩ | ⟨a, xs, ex, hx, q⟩ | ⟨z, ek, ex, hz, q⟩
  · subst ex
    cases r1
    obtain ⟨its, r, ht, hz⟩ := I5.tuple hx
    have hlen := r.length
    show wpAny (model X.prog X.w) X.A (subscriptTail e (.Slice lo none (some st) p3) (.ref a) (.ref s4.heap.objs.size)) (EP X pins σ Q) X.xe { s4 with heap := s4.heap.push { cls := .type "slice", data := .fields #[vl, .none, vs] } }
    refine tail_any (ops := [.ref a, .ref s4.heap.objs.size]) ht.typeIs (PyProof.Rows.slot_tuple_getitem.lookup) ?_ (by with_unfolding_all rfl)
    refine getItem_tuple_stp k ht (Heap.IsSliceOf.new _ vl .none vs) pl ps ?_ (by rw [List.size_toArray, ← hlen]; exact hz)
    refine ⟨.ref _, _, I5.laid (t' := s4.toks) (o := .tup (stpL k xs)) (fun b ob q => Heap.get?_push_of_some _ q) (Nat.le_refl _) ?_, rfl, q _ (I5.hok.fresh (Nat.le_refl _))⟩
    exact ⟨Nat.le_trans (stpL_len k xs) hz, _, vals_stp k r, IsTup.new _ _⟩
  · subst ex
    cases r1
    obtain ⟨its, r, ht, hz⟩ := I5.list hx
    have hlen := r.length
    show wpAny (model X.prog X.w) X.A (subscriptTail e (.Slice lo none (some st) p3) (.ref a) (.ref s4.heap.objs.size)) (EP X pins σ Q) X.xe { s4 with heap := s4.heap.push { cls := .type "slice", data := .fields #[vl, .none, vs] } }
    refine tail_any (ops := [.ref a, .ref s4.heap.objs.size]) ht.isList.typeIs (PySem.slot_list_getitem.lookup) ?_ (by with_unfolding_all rfl)
    refine wpAny_getItem_list_slice ht.isList (Heap.IsSliceOf.new _ vl .none vs) pl .none ps hne ?_ (by rw [List.size_toArray, ← hlen]; exact hz)
    rw [listPick_stp]
    refine ⟨.ref _, _, I5.laid (t' := s4.toks) (o := .lst (stpL k xs)) (fun b ob q => Heap.get?_push_of_some _ q) (Nat.le_refl _) ?_, rfl, q _ (I5.hok.fresh (Nat.le_refl _))⟩
    exact ⟨Nat.le_trans (stpL_len k xs) hz, _, 0, vals_stp k r, Heap.get?_push_size _ rfl⟩
  · subst ek ex
    obtain ⟨t, rfl⟩ := r1
    obtain ⟨sl, rfl, e0⟩ := IsPart.raw pl
    obtain ⟨ss, rfl, e1⟩ := IsPart.raw ps
    show wpAny (model X.prog X.w) X.A (subscriptTail e (.Slice lo none (some st) p3) (.str z t) (.ref s4.heap.objs.size)) (EP X pins σ Q) X.xe { s4 with heap := s4.heap.push { cls := .type "slice", data := .fields #[_, .none, _] } }
    refine tail_any (ops := [.str z t, .ref s4.heap.objs.size]) (typeIs_str _ _ _) (F.slot_str_getitem.lookup) ?_ (by with_unfolding_all rfl)
    refine wpAny_getItem_str_slice (l := sl) (u := none) (st := ss) ⟨_, Heap.get?_push_size _ rfl, rfl, rfl⟩ (by rw [e1]; rfl) ?_
    unfold sliceMade slicePicked
    rw [e0, e1]
    show Made.post (if ((-1 : Int) == 1 && _) = true then _ else Made.str ⟨((Builtin.Str.strSliceIndices none none (-1) z.length).filterMap (z.cps[·]?)).toArray⟩) (EP X pins σ Q) _
    rw [if_neg (by simp), rev_picked]
    exact ⟨by show z.cps.toList.reverse.toArray.size ≤ sizeLine; rw [List.size_toArray, List.length_reverse, Array.length_toList]; exact hz, .str _, H4, I5.tok _, ⟨_, rfl⟩, q⟩
theorem l_stp {e st : Expr} {lo : Option Expr} {e' : E} {p3 pos : Pos} (k : Stp) (he : PE X e (tW c X.K M e')) (hl : PO X lo (fun _ H Q => Q (stpLo k) H)) (hst : PO X (some st) (fun _ H Q => Q (some (stpSt k)) H)) :
    PE X (.Subscript e (.Slice lo none (some st) p3) pos) (tE c X.K M (.stp k e')) := pe_imp (pe_stp k he hl hst) fun σ H Q ⟨O, ρ, d, o, ee, q⟩ => by
  rw [ev] at ee
  obtain ⟨x, e1, ee⟩ := bind_ok ee
  refine ⟨O, ρ, x, o, e1, fun v H1 s1 r1 => ?_⟩
  unfold dStp at ee
  split at ee
  · obtain ⟨hl, e⟩ := ok_ite ee
    cases e
    obtain ⟨a, vs, rfl, t, r⟩ := r1.tup
    exact .inl ⟨a, vs, rfl, t.sq, fun p hp => q _ _ (s1.trans (same_new hp)) (new_tup hp (o.ext s1).dom (r.stp k))⟩
  · obtain ⟨hl, e⟩ := ok_ite ee
    cases e
    obtain ⟨a, vs, rfl, t, r⟩ := r1.lst
    exact .inr (.inl ⟨a, vs, rfl, .inl t, fun p hp => q _ _ (s1.trans (same_new hp)) (new_lst hp (o.ext s1).dom (r.stp k))⟩)
  · obtain ⟨hl, e⟩ := ok_ite ee
    cases e
    cases r1.str
    exact .inr (.inr ⟨_, hl.1, rfl, lim_line hl.2, q _ H1 s1 rp_str⟩)
  · exact nomatch ee
theorem po_neg1 {k : Nat} {p1 p2 : Pos} : PO X (some (.UnaryOp .USub (.Constant (.int 1) k p1) p2)) (fun _ H Q => Q (some (-1)) H) := po_imp (po_some (pe_un un_neg pe_int)) fun σ H Q q => ⟨1, rfl, -1, rfl, q⟩
theorem po_two {k : Nat} {p1 : Pos} : PO X (some (.Constant (.int 2) k p1)) (fun _ H Q => Q (some 2) H) := po_imp (po_some pe_int) fun σ H Q q => ⟨2, rfl, q⟩
theorem po_one {k : Nat} {p1 : Pos} : PO X (some (.Constant (.int 1) k p1)) (fun _ H Q => Q (some 1) H) := po_imp (po_some pe_int) fun σ H Q q => ⟨1, rfl, q⟩

theorem rep_vals {xs : List V} {us : List Value} (n : Nat) (r : Vals xs us) : Vals (List.replicate n xs).flatten (List.replicate n us).flatten := by
  obtain ⟨ps, rfl, rfl, q⟩ := paired_zip r
  have e : ∀ {β : Type} (f : V × Value → β), (List.replicate n (ps.map f)).flatten = ((List.replicate n ps).flatten).map f := fun f => by
    rw [List.map_flatten, List.map_replicate]
  rw [e, e]
  refine paired_of fun p hp => ?_
  obtain ⟨l, hl, hp⟩ := List.mem_flatten.mp hp
  rw [(List.mem_replicate.mp hl).2] at hp
  exact q p hp
theorem op_repR : OpR X (binaryOp .Mult) (fun x y H Q => ∃ l k xs, x = .ref l ∧ y = .int k ∧ Rd H l (.lst xs) ∧ 0 ≤ k ∧ k ≤ 1000 ∧ xs.length ≤ 1000 ∧ ∀ p, H p = none → Q (.ref p) (upd H p (.lst (rep xs k)))) := by
  intro pins s σ H x y v u Q I rx ry h
  obtain ⟨l, k, xs, rfl, rfl, hH, h1, h2, hz, q⟩ := h
  cases rx
  obtain ⟨t, rfl⟩ := ry
  obtain ⟨z, its, n, r, e⟩ := rd_obj I hH
  have hl := r.length
  have hzz : its.length * k.toNat ≤ 1000 * 1000 := Nat.mul_le_mul (by omega) (by omega)
  have hmil : 1000 * 1000 ≤ sizeLine := by decide
  have hlen : its.toArray.size * k.toNat ≤ sizeLine := by rw [List.size_toArray]; omega
  have hcap : ¬ its.toArray.size * k.toNat > (2 ^ 63 - 1) / 8 := by
    have : (sizeLine : Nat) ≤ (2 ^ 63 - 1) / 8 := by decide
    omega
  have hfit : ¬ (!Builtin.List.listFitsIndex k) = true := by
    rw [fitsIndex_both (by omega) (by omega)]
    exact Bool.false_ne_true
  have hlong : ¬ Builtin.List.listTooLong (its.toArray.size * k.toNat) = true := by
    rw [notLongL hlen]
    exact Bool.false_ne_true
  have hnew : List.foldl (fun x1 x2 => x1 ++ x2) #[] (List.replicate (if its.toArray.isEmpty = true then 0 else k.toNat) its.toArray) = (List.replicate k.toNat its).flatten.toArray := by
    have f0 : ∀ m : Nat, List.foldl (fun x1 x2 => x1 ++ x2) #[] (List.replicate m its.toArray) = (List.replicate m its).flatten.toArray := fun m => by
      have := foldl_rep its m []
      rw [List.nil_append] at this
      exact this
    rw [f0]
    cases its with
    | nil => simp
    | cons a r' => rw [if_neg (by simp)]
  refine wpAny_binaryOp_repeat_ref (T := "list") (U := "int") (by decide) ⟨_, e, rfl⟩ (fun s' => typeIs_int s' k t) noFill_list_mul F.fills_int_mul F.slot_int_rmul repeat_list F.slot_int_index.lookup
    (call_meets F.slot_int_rmul (typeIs_int s k t) F.entry_int_rmul (F.args_int_rmul_2 _ _) (int___rmul___int_list k t l its.toArray n)
      ⟨e, rfl, ⟨_, e, rfl⟩, call_meets F.slot_list_mul ⟨_, e, rfl⟩ F.entry_list_mul (F.args_list_mul_2 _ _) (AutoListH.list___mul___list_int_3 l its.toArray n k t hfit hcap hlong) ⟨e, ?_⟩⟩)
  rw [hnew]
  refine ⟨.ref _, _, I.lnew (t' := s.toks) (rep_vals k.toNat r) ?_, rfl, q _ I.fresh⟩
  rw [PyProof.Rows.lm_len_rep_flat, Nat.mul_comm, hl]
  omega
theorem tuple_mul1 (l : Addr) (items : Array Value) (n : Nat) (dd : Option Addr) (sl : Array (Option Value)) (u : Tok) :
    Meets (Builtin.«tuple.__mul__» ⟨[.ref l, .int 1 u], []⟩) (fun _ R s => s.heap.get? l = some { cls := .type "tuple", dict := dd, data := .seq items n, slots := sl } ∧ R (.ok (.ret (Value.ref l))) s) :=
  .of_wp fun prog w A R s h => by
    obtain ⟨hp, g, d, tk, os⟩ := s
    obtain ⟨hl, h⟩ := h
    have f1 := AutoSeq1.idx_int
    wp_walk using wpAny_loadPart' hl
    exact ⟨_, rfl, h⟩
theorem tuple_mul0 (l : Addr) (items : Array Value) (n : Nat) (dd : Option Addr) (sl : Array (Option Value)) (u : Tok) (c1 : (items.isEmpty || (0 : Int) == 1) = false) :
    Meets (Builtin.«tuple.__mul__» ⟨[.ref l, .int 0 u], []⟩) (fun _ R s => s.heap.get? l = some { cls := .type "tuple", dict := dd, data := .seq items n, slots := sl } ∧
      R (.ok (.ret (Value.ref s.heap.objs.size))) { s with heap := s.heap.push { cls := Value.type "tuple", data := Data.seq #[] }, toks := s.toks }) :=
  .of_wp fun prog w A R s h => by
    obtain ⟨hp, g, d, tk, os⟩ := s
    obtain ⟨hl, h⟩ := h
    have f1 := AutoSeq1.idx_int
    wp_walk using wpAny_loadPart' hl
    repeat (first
      | (refine wpAny_ite_false (decide_eq_false (by rw [c1]; exact Bool.false_ne_true)) ?_; wp_walk using wpAny_loadPart' hl))
    exact ⟨_, rfl, h⟩
theorem op_repT2 : OpR X (binaryOp .Mult) (fun x y H Q => ∃ l k xs, x = .ref l ∧ y = .int k ∧ SqT X.K H l xs ∧ xs ≠ [] ∧ ((k = 1 ∧ Q (.ref l) H) ∨ (k = 0 ∧ ∀ p, H p = none → Q (.ref p) (upd H p (.tup []))))) := by
  intro pins s σ H x y v u Q I rx ry h
  obtain ⟨l, k, xs, rfl, rfl, hT, hne, q⟩ := h
  cases rx
  obtain ⟨t, rfl⟩ := ry
  obtain ⟨its, r, ⟨⟨cls, dd, data, sl⟩, ho, hc, n, hd⟩, hs⟩ := I.tuple hT
  simp only at hc hd
  subst hc hd
  have hle : its.length = xs.length := r.length.symm
  have hi : its.toArray.isEmpty = false := by
    cases its with
    | nil => exact absurd (List.eq_nil_of_length_eq_zero hle.symm) hne
    | cons a b => rfl
  rcases q with ⟨rfl, q⟩ | ⟨rfl, q⟩
  · exact wpAny_binaryOp_repeat_ref (T := "tuple") (U := "int") (by decide) ⟨_, ho, rfl⟩ (fun s' => typeIs_int s' 1 t) noFill_tuple_mul F.fills_int_mul F.slot_int_rmul repeat_tuple F.slot_int_index.lookup
      (call_meets F.slot_int_rmul (typeIs_int s 1 t) F.entry_int_rmul (F.args_int_rmul_2 _ _) (int_rmul_tuple 1 t l its.toArray n dd sl)
        ⟨ho, rfl, ⟨_, ho, rfl⟩, call_meets F.slot_tuple_mul ⟨_, ho, rfl⟩ F.entry_tuple_mul (F.args_tuple_mul_2 _ _) (tuple_mul1 l its.toArray n dd sl t) ⟨ho, ⟨.ref l, H, I, rfl, q⟩⟩⟩)
  · refine wpAny_binaryOp_repeat_ref (T := "tuple") (U := "int") (by decide) ⟨_, ho, rfl⟩ (fun s' => typeIs_int s' 0 t) noFill_tuple_mul F.fills_int_mul F.slot_int_rmul repeat_tuple F.slot_int_index.lookup
      (call_meets F.slot_int_rmul (typeIs_int s 0 t) F.entry_int_rmul (F.args_int_rmul_2 _ _) (int_rmul_tuple 0 t l its.toArray n dd sl)
        ⟨ho, rfl, ⟨_, ho, rfl⟩, call_meets F.slot_tuple_mul ⟨_, ho, rfl⟩ F.entry_tuple_mul (F.args_tuple_mul_2 _ _) (tuple_mul0 l its.toArray n dd sl t (by rw [hi]; rfl)) ⟨ho, ?_⟩⟩)
    refine ⟨.ref s.heap.objs.size, _, I.laid (t' := s.toks) (o := .tup []) (fun b ob q => Heap.get?_push_of_some _ q) (Nat.le_refl _) ?_, rfl, q _ (I.hok.fresh (Nat.le_refl _))⟩
    exact ⟨Nat.zero_le _, [], .nil, IsTup.new _ _⟩
theorem op_mulS : OpR X (binaryOp .Mult) (fun x y H Q => ∃ (z : Str) (n : Int), x = V.str z ∧ y = .int n ∧ MulOk z n ∧ Q (.str (Txt.mul z n)) H) := by
  intro pins s σ H x y v u Q I rx ry h
  obtain ⟨z, n, rfl, rfl, hk, q⟩ := h
  obtain ⟨t, rfl⟩ := rx
  obtain ⟨t', rfl⟩ := ry
  exact SB.mul hk fun t' k => ⟨.str _, H, I.tok _, ⟨_, rfl⟩, q⟩
theorem mulOk_of {z : Str} {n : Int} (h0 : 0 ≤ n) (h1 : n ≤ 1000) (h2 : z.length ≤ 1000) : MulOk z n := by
  refine ⟨?_, fun hn _ => ?_, fun hn _ => ?_⟩
  · rw [decide_eq_false (by omega), decide_eq_false (by omega)]
    rfl
  · have h3 : (9223372036854775 : Int) ≤ (2 ^ 63 - 1) / n := by
      rw [Int.le_ediv_iff_mul_le (by omega)]
      omega
    omega
  · have h3 : z.length * n.toNat ≤ 1000 * 1000 := Nat.mul_le_mul h2 (by omega)
    unfold Builtin.Str.tooLong
    have h4 : (1000 * 1000 : Nat) ≤ sizeLine := by decide
    exact decide_eq_false (by omega)
theorem opp_mul : Opp X (binaryOp .Mult) dMul := by
  refine ⟨_, op_mul.or (op_repT.or (op_repT2.or (op_repR.or op_mulS))), ?_⟩
  intro O H x y d v w Q hO hx hy he q
  unfold dMul at he
  split at he
  · cases hx.int
    cases hy.int
    obtain ⟨hl, e⟩ := ok_ite he
    cases e
    rw [Bool.or_eq_true] at hl
    exact .inl ⟨_, _, rfl, rfl, hl.imp small64_iff small64_iff, q _ H (Same.refl H) rp_int⟩
  · obtain ⟨a, vs, rfl, ta, ra⟩ := hx.tup
    cases hy.int
    obtain ⟨⟨h1, h2, h3, h4⟩, e⟩ := ok_ite he
    cases e
    rename_i ds k
    have hlen := ra.length
    have hne : vs ≠ [] := fun z => h1 (List.eq_nil_of_length_eq_zero (by rw [hlen, z]; rfl))
    by_cases hk : 2 ≤ k
    · exact .inr (.inl ⟨a, k, vs, rfl, rfl, ta.sq, hne, hk, h2, by omega, fun p hp => q _ _ (same_new hp) (new_tup hp hO (ra.rep k))⟩)
    · refine .inr (.inr (.inl ⟨a, k, vs, rfl, rfl, ta.sq, hne, ?_⟩))
      by_cases hk1 : k = 1
      · refine .inl ⟨hk1, q _ H (Same.refl H) ?_⟩
        subst hk1
        rw [show rep ds 1 = ds by simp [rep], Rp]
        exact ⟨a, vs, rfl, ta, ra⟩
      · have hk0 : k = 0 := by omega
        refine .inr ⟨hk0, fun p hp => q _ _ (same_new hp) ?_⟩
        subst hk0
        rw [show rep ds 0 = [] by simp [rep]]
        exact new_tup hp hO RpL.nil
  · obtain ⟨a, vs, rfl, ta, ra⟩ := hx.lst
    cases hy.int
    obtain ⟨⟨h2, h3, h4⟩, e⟩ := ok_ite he
    cases e
    have hlen := ra.length
    exact .inr (.inr (.inr (.inl ⟨a, _, vs, rfl, rfl, ta, h4, h2, by omega, fun p hp => q _ _ (same_new hp) (new_lst hp hO (ra.rep _))⟩)))
  · cases hx.str
    cases hy.int
    obtain ⟨⟨h2, h3, h4⟩, e⟩ := ok_ite he
    cases e
    exact .inr (.inr (.inr (.inr ⟨_, _, rfl, rfl, mulOk_of h4 h2 h3, q _ H (Same.refl H) rp_str⟩)))
  · exact nomatch he
theorem opp_bin (op : Operator) (h : op = .Add ∨ op = .Sub ∨ op = .Mult ∨ op = .FloorDiv ∨ op = .Mod ∨ op = .Pow) : Opp X (binaryOp op) (dBin op) := by
  rcases h with rfl | rfl | rfl | rfl | rfl | rfl
  · exact opp_add
  · exact opp_sub
  · exact opp_mul
  · exact opp_div
  · exact opp_mod
  · exact opp_pow
theorem opp_cmp (hu : X.A.units + 65 < cLine) (op : CmpOp) : Opp X (compareOp op) (dCmp op) := by
  cases op with
  | Eq => exact opp_eq (by omega)
  | NotEq => exact opp_ne (by omega)
  | Lt => exact opp_ordT op_lt (op_ltP (by omega))
  | LtE => exact opp_ord op_le
  | Gt => exact opp_ordT op_gt (op_gtP (by omega))
  | GtE => exact opp_ord op_ge
  | Is => exact opp_is
  | IsNot => exact opp_isnot
  | In => exact opp_in hu
  | NotIn => exact opp_notIn hu
end
end LC

set_option Elab.async false
set_option linter.all false
set_option maxRecDepth 100000
set_option maxHeartbeats 1000000
namespace LC
open PySem PySem.Spec PyProof.Rows L2
inductive Kd where
  | l | t
def SqK (K : PySem.W.Frag) (H : Hp) (k : Kd) (a : Addr) (xs : List V) : Prop := match k with
  | .l => SqL K H a xs
  | .t => SqT K H a xs
def ObK (h : Heap) (k : Kd) (a : Addr) (its : Array Value) : Prop := match k with
  | .l => h.IsList a its
  | .t => h.IsTuple a its
def ItK (h : Heap) (k : Kd) (it a : Addr) (i : Nat) : Prop := match k with
  | .l => h.IsListIter it a i
  | .t => h.IsTupleIter it a i
def oK (k : Kd) (a : Addr) : Obj := match k with
  | .l => { cls := .type "list_iterator", data := .fields #[.ref a, .int 0 0] }
  | .t => { cls := .type "tuple_iterator", data := .fields #[.ref a, .int 0 0] }
theorem drawsK {prog : Program} {w : World} {A : Around} (hh : A.handled = none) (k : Kd) (it a : Addr) (hne : a ≠ it) (items : Array Value) :
    Draws prog w A it [it, a] items.size (fun i v => items[i]? = some v) (fun i h => ItK h k it a i ∧ ObK h k a items) := by
  cases k with
  | l => exact Draws.list hh it a hne items
  | t => exact Draws.tuple hh it a hne items
theorem begK (k : Kd) (a : Addr) (items : Array Value) : Begins (.ref a) (oK k a) fun h => ObK h k a items := by
  cases k with
  | l => exact begins_list a items
  | t => exact begins_tuple a items
theorem itK_new {h : Heap} {k : Kd} {it a : Addr} (e : h.get? it = some (oK k a)) : ItK h k it a 0 := by
  cases k with
  | l => exact ⟨_, e, rfl, rfl⟩
  | t => exact ⟨_, e, rfl, rfl⟩
theorem itK_obj {h : Heap} {k : Kd} {it a : Addr} {i : Nat} (st : ItK h k it a i) : ∃ o, h.get? it = some o ∧ ∀ v, o.data ≠ .cell v := by
  cases k with
  | l => obtain ⟨o, ho, hc, hd⟩ := st; exact ⟨o, ho, fun v q => by rw [hd] at q; cases q⟩
  | t => obtain ⟨o, ho, hc, hd⟩ := st; exact ⟨o, ho, fun v q => by rw [hd] at q; cases q⟩
theorem itK_at {h h' : Heap} {k : Kd} {it a : Addr} {i : Nat} (st : ItK h k it a i) (kp : ∀ o, h.get? it = some o → h'.get? it = some o) : ItK h' k it a i := by
  cases k with
  | l => obtain ⟨o, ho, r⟩ := st; exact ⟨o, kp o ho, r⟩
  | t => obtain ⟨o, ho, r⟩ := st; exact ⟨o, kp o ho, r⟩
section
variable {X : Cx} {pins : List (Addr × Obj)} {σ : L2.St} {H : Hp} {s : Shared} {k : Kd} {a : Addr} {xs ys : List V}
theorem inv_seq (I : Inv X pins σ H s) (h : SqK X.K H k a xs) : ∃ its : List Value, Vals xs its ∧ ObK s.heap k a its.toArray ∧ xs.length ≤ sizeLine := by
  cases k with
  | l => obtain ⟨its, r, p, z⟩ := I.list h; exact ⟨its, r, p.isList, z⟩
  | t => obtain ⟨its, r, p, z⟩ := I.tuple h; exact ⟨its, r, p, z⟩
theorem inv_seq_inj (I : Inv X pins σ H s) (h : SqK X.K H k a xs) (h' : SqK X.K H k a ys) : xs = ys := by
  cases k with
  | l => exact I.list_inj h h'
  | t => exact I.tuple_inj h h'
theorem obK_lt {h : Heap} {its : Array Value} (p : ObK h k a its) : a < h.objs.size := by
  cases k with
  | l => obtain ⟨o, e, _⟩ := p; exact Heap.lt_size e
  | t => obtain ⟨o, e, _⟩ := p; exact Heap.lt_size e
end
set_option maxHeartbeats 4000000 in
theorem meets_enum1 {v : Value} {o : Obj} {H : Heap → Prop} (B : Begins v o H) :
    Meets (Builtin.«enumerate.__new__» ⟨[.type "enumerate", v], []⟩) (fun _ R s => H s.heap ∧
      R (.ok (.ret (.ref (s.heap.push o).objs.size))) { s with heap := (s.heap.push o).push { cls := .type "enumerate", data := .fields #[.none, .bool false, .ref s.heap.objs.size, rawInt 0, .none, .none] } }) :=
  .of_wp fun prog w A R s h => by
    obtain ⟨hp, g, d, tk, os⟩ := s
    obtain ⟨h1, h⟩ := h
    have hsub := sub_enumerate
    have q1 : ∀ {A' : Around} {E : Value → Shared → Prop} {Q : Value → Shared → Prop}, Q (.ref hp.objs.size) ⟨hp.push o, g, d, tk, os⟩ → wpAny (model prog w) A' (pyIter v) Q E ⟨hp, g, d, tk, os⟩ :=
      fun q => B.iter prog w _ _ ⟨hp, g, d, tk, os⟩ _ h1 q
    wp_walk using q1
    refine wpAny_stack_any fun st => wpAny_pure ?_
    split
    · rename_i c _ _ _ _ _
      cases (c == Value.type "enumerate")
      · wp_walk using q1
        exact ⟨_, rfl, h⟩
      · wp_walk using q1
        exact ⟨_, rfl, h⟩
    · wp_walk using q1
      exact ⟨_, rfl, h⟩
theorem enum_begins1 {prog : Program} {w : World} {A : Around} {E : Value → Shared → Prop} {s : Shared} {v : Value} {o : Obj} {H : Heap → Prop} {Q : Value → Shared → Prop} (B : Begins v o H) (h1 : H s.heap)
    (h : ∀ h', IsEnum h' (s.heap.objs.size + 1) s.heap.objs.size 0 .none → h'.get? s.heap.objs.size = some o → h'.objs.size = s.heap.objs.size + 2 → (∀ b o, s.heap.get? b = some o → h'.get? b = some o) → Q (.ref (s.heap.objs.size + 1)) { s with heap := h' }) :
    wpAny (model prog w) A (PySem.call (.type "enumerate") [v]) Q E s := by
  refine callType_new F.called_enumerate (by decide) (F.typeCall_enumerate_1 _) (F.newCall_enumerate_1 _) (fun obj => F.args_object_init_2 obj _) F.entry_enumerate_new (meets_enum1 B) ⟨h1, ?_⟩
  have hz : (s.heap.push o).objs.size = s.heap.objs.size + 1 := Heap.size_push ..
  show _ ∧ _
  rw [hz]
  have he : IsEnum ((s.heap.push o).push { cls := .type "enumerate", data := .fields #[.none, .bool false, .ref s.heap.objs.size, rawInt 0, .none, .none] }) (s.heap.objs.size + 1) s.heap.objs.size 0 .none := by
    have := Heap.get?_push_size (s.heap.push o) (o := { cls := .type "enumerate", data := .fields #[.none, .bool false, .ref s.heap.objs.size, rawInt 0, .none, .none] }) rfl
    rw [hz] at this
    exact this
  exact ⟨⟨_, he, rfl⟩, h _ he (Heap.get?_push_of_some _ (Heap.get?_push_size _ B.free)) (by rw [Heap.size_push, hz]) fun b o x => Heap.get?_push_of_some _ (Heap.get?_push_of_some _ x)⟩
def IteK (K : PySem.W.Frag) (k : Kd) (a : Addr) : It :=
  ⟨fun i H => ∃ (xs : List V) (x : V), SqK K H k a xs ∧ xs[i]? = some x, fun i H v H' => ∃ T x, v = .ref T ∧ H T = none ∧ H' = upd H T (.tup [.int (i : Nat), x]) ∧ ∀ xs, SqK K H k a xs → xs[i]? = some x, fun i H => ∃ xs : List V, SqK K H k a xs ∧ xs.length = i⟩
theorem turn_enumK {P : Program} {w : World} {K : PySem.W.Frag} {elts : List Expr} {kk : Nat} {tpos : Pos} (k : Kd) (a e it : Addr) (hne : e ≠ it) (hea : e ≠ a) (hai : a ≠ it) :
    Turn P w K (.Tuple elts kk tpos) (IteK K k a) [e, it] e (fun i h => (∃ old, IsEnum h e it ((i : Nat) : Int) old) ∧ ItK h k it a i) where
  mem := by simp
  obj := fun i h st b hb => by
    obtain ⟨⟨old, he⟩, hit⟩ := st
    have e' : b = e ∨ b = it := by simpa using hb
    rcases e' with z | z
    · rw [z]
      exact ⟨_, he, fun v q => nomatch q⟩
    · rw [z]
      exact itK_obj hit
  keep := fun i h h' st kp => let ⟨⟨old, he⟩, hi⟩ := st; ⟨⟨old, kp e (by simp) _ he⟩, itK_at hi fun o q => kp it (by simp) o q⟩
  item := by
    intro X hP hw hK hc i pins s σ H E I hf st hg
    subst hP hw hK
    obtain ⟨⟨old, he⟩, hit⟩ := st
    obtain ⟨xs, x, hq, hx⟩ := hg
    obtain ⟨its, rv, p, hz⟩ := inv_seq I hq
    obtain ⟨u, hu, ru⟩ := rv.get hx
    have hel : e < s.heap.objs.size := Heap.lt_size he
    have hil : it < s.heap.objs.size := by obtain ⟨_, q, _⟩ := itK_obj hit; exact Heap.lt_size q
    have Dr := drawsK (prog := X.prog) (w := X.w) (A := X.A.in1) (I.ok.hd hc) k it a hai its.toArray
    have hlt : i < its.toArray.size := by
      rw [List.size_toArray]
      exact (List.getElem?_eq_some_iff.mp hu).1
    refine wpAny_pyNext_enum_itemD Dr he ⟨hit, p⟩ hlt hne (by simp [hne, hea]) fun y h' tk hP ho st' hT hsz hk => ?_
    have ey : y = u := by
      have hP' : its.toArray[i]? = some y := hP
      rw [List.getElem?_toArray, hu] at hP'
      exact (Option.some.inj hP').symm
    subst ey
    refine ⟨_, rfl, wpAny_letOwnedTupleGo_enum (s := { s with heap := h', toks := tk + 1 }) ho fun h'' he' sb => ?_⟩
    have hT2 : h''.get? s.heap.objs.size = some { cls := .type "tuple", data := .seq #[.int i tk, y] } := (sb.2 _ (Nat.ne_of_gt hel)).trans hT
    have new : ObjOk X.prog X.w (upd H s.heap.objs.size (.tup [.int (i : Nat), x])) h'' s.heap.objs.size (.tup [.int (i : Nat), x]) :=
      ⟨by show 2 ≤ sizeLine; decide, [.int i tk, y], .cons ⟨_, rfl⟩ (.cons ru .nil), ⟨_, hT2, rfl, _, rfl⟩⟩
    have I1 : Inv X pins σ (upd H s.heap.objs.size (.tup [.int (i : Nat), x])) { s with heap := h'', toks := tk + 1 } :=
      I.turnedNew (ch := [e, it]) (fun b ob hb q => (sb.2 b (fun z => hb (by simp [z]))).trans (hk b ob (fun z => hb (by simp [z])) (fun z => hb (by simp [z])) q)) hf (Nat.le_refl _) new
    refine ⟨.ref s.heap.objs.size, _, I1, rfl, ⟨_, x, rfl, I.hok.fresh (Nat.le_refl _), rfl, fun ys hy => by rw [inv_seq_inj I hy hq]; exact hx⟩, ⟨⟨y, ?_⟩, itK_at st'.1 fun o q => (sb.2 it (Ne.symm hne)).trans q⟩, fun b hb => ?_⟩
    · have e1 : ((i + 1 : Nat) : Int) = (i : Int) + 1 := by omega
      rw [e1]
      exact he'
    · have hb' : b < s.heap.objs.size := by
        have e' : b = e ∨ b = it := by simpa using hb
        rcases e' with z | z
        · rw [z]; exact hel
        · rw [z]; exact hil
      rw [upd_ne (Nat.ne_of_lt hb')]
      exact (hf b hb).1
  done := by
    intro X hP hw hK hc i pins s σ H E I hf st hg
    subst hP hw hK
    obtain ⟨⟨old, he⟩, hit⟩ := st
    obtain ⟨xs, hq, hx⟩ := hg
    obtain ⟨its, rv, p, hz⟩ := inv_seq I hq
    obtain ⟨f0, f1, f2, f3, f4, f5⟩ := hf it (by simp)
    have hl := rv.length
    have Dr := drawsK (prog := X.prog) (w := X.w) (A := X.A.in1) (I.ok.hd hc) k it a hai its.toArray
    have hn : its.toArray.size = i := by rw [List.size_toArray]; omega
    exact wpAny_pyNext_enum_endD Dr he (by rw [hn]; exact ⟨hit, p⟩) fun h' eb => ⟨rfl, I.turned (t' := s.toks) (fun b o hb q => eb b o hb q) f0 f1 f3 f4 f5⟩
  self := fun A i s Q E st h => let ⟨⟨_, he⟩, _⟩ := st; wpAny_pyIter_enum he h
def iEnumK (K : PySem.W.Frag) (ta : TA) : TI := fun σ H R => ta σ H fun vs H1 => ∃ k a xs, vs = [.ref a] ∧ SqK K H1 k a xs ∧ R (IteK K k a) H1
theorem pi_enumK {X : Cx} {e : Expr} {ta : TA} {p pos tpos : Pos} {elts : List Expr} {kk : Nat} (hg : Gl X "enumerate") (hm : X.mg "enumerate" = none) (ha : PA X [e] ta) (hs : starEach [e] X.env = [(false, eval e X.env)]) :
    PI X (.Tuple elts kk tpos) (.Call (.Name "enumerate" p) [e] [] pos) (iEnumK X.K ta) := by
  refine ⟨fun pins s σ H R I h => ?_⟩
  refine Call_ (ld_blt I hg hm boot_enumerate (PyProof.Rows.callWith_type1 (thn (ha.run pos pins s σ H _ I h) fun us s1 ⟨vs, H1, I1, r1, q1⟩ => ?_) hs rfl))
  obtain ⟨k, a, xs, ex, hq, q⟩ := q1
  subst ex
  cases r1 with
  | cons r rr =>
    cases rr
    cases r
    obtain ⟨its, rv, p', hz⟩ := inv_seq I1 hq
    have hlt := obK_lt p'
    refine enum_begins1 (begK k a its.toArray) p' fun h' he hit hsz hk => wpAny_pyIter_enum he ?_
    have I2 : Inv X pins σ H1 { s1 with heap := h' } := I1.kept (t' := s1.toks) hk
    refine ⟨s1.heap.objs.size + 1, [s1.heap.objs.size + 1, s1.heap.objs.size], _, _, H1, rfl, I2, turn_enumK k a (s1.heap.objs.size + 1) s1.heap.objs.size (Nat.succ_ne_self _) (Nat.ne_of_gt (Nat.lt_succ_of_lt hlt)) (Nat.ne_of_lt hlt), ⟨⟨.none, he⟩, itK_new hit⟩, fun b hb => ?_, q⟩
    have e' : b = s1.heap.objs.size + 1 ∨ b = s1.heap.objs.size := by simpa using hb
    have hle : s1.heap.objs.size ≤ b := by
      rcases e' with z | z
      · rw [z]; exact Nat.le_add_right _ _
      · rw [z]; exact Nat.le_refl _
    exact I1.fpOk hle (I1.hok.fresh hle)
def ItzK (K : PySem.W.Frag) (k k' : Kd) (a b : Addr) : It :=
  ⟨fun i H => ∃ (xs ys : List V) (x y : V), SqK K H k a xs ∧ SqK K H k' b ys ∧ xs[i]? = some x ∧ ys[i]? = some y,
    fun i H v H' => ∃ T x y, v = .ref T ∧ H T = none ∧ H' = upd H T (.tup [x, y]) ∧ (∀ xs, SqK K H k a xs → xs[i]? = some x) ∧ ∀ ys, SqK K H k' b ys → ys[i]? = some y,
    fun i H => ∃ xs ys : List V, SqK K H k a xs ∧ SqK K H k' b ys ∧ i = min xs.length ys.length⟩
theorem turn_zipK {P : Program} {w : World} {K : PySem.W.Frag} {elts : List Expr} {kk : Nat} {tpos : Pos} (k k' : Kd) {a b z TI TO i1 i2 : Addr} (S : ZipSep2 z TI TO i1 i2 [i1, a] [i2, b]) (ha : a ≠ i1) (hb : b ≠ i2) :
    Turn P w K (.Tuple elts kk tpos) (ItzK K k k' a b) [z, TI, TO, i1, i2] z (fun i h => IsZip h z TI TO .none ∧ IsTupOf2 h TI (.ref i1) (.ref i2) ∧ (∃ x y, IsTupOf2 h TO x y) ∧ ItK h k i1 a i ∧ ItK h k' i2 b i) where
  mem := by simp
  obj := fun i h st c hc => by
    obtain ⟨hz, hTI, ⟨x, y, hTO⟩, h1, h2⟩ := st
    have e' : c = z ∨ c = TI ∨ c = TO ∨ c = i1 ∨ c = i2 := by simpa using hc
    rcases e' with q | q | q | q | q
    · rw [q]; exact ⟨_, hz, fun v q => nomatch q⟩
    · rw [q]; exact ⟨_, hTI, fun v q => nomatch q⟩
    · rw [q]; exact ⟨_, hTO, fun v q => nomatch q⟩
    · rw [q]; exact itK_obj h1
    · rw [q]; exact itK_obj h2
  keep := fun i h h' st kp => by
    obtain ⟨hz, hTI, ⟨x, y, hTO⟩, h1, h2⟩ := st
    exact ⟨kp z (by simp) _ hz, kp TI (by simp) _ hTI, ⟨x, y, kp TO (by simp) _ hTO⟩, itK_at h1 fun o q => kp i1 (by simp) o q, itK_at h2 fun o q => kp i2 (by simp) o q⟩
  item := by
    intro X hP hw hK hc i pins s σ H E I hf st hg
    subst hP hw hK
    obtain ⟨hz, hTI, ⟨x0, y0, hTO⟩, h1, h2⟩ := st
    obtain ⟨xs, ys, x, y, hqx, hqy, hx, hy⟩ := hg
    obtain ⟨its, rv, p, _⟩ := inv_seq I hqx
    obtain ⟨its2, rv2, p2, _⟩ := inv_seq I hqy
    obtain ⟨u, hu, ru⟩ := rv.get hx
    obtain ⟨u2, hu2, ru2⟩ := rv2.get hy
    have hzl : z < s.heap.objs.size := Heap.lt_size hz
    have D1 := drawsK (prog := X.prog) (w := X.w) (A := X.A.in1) (I.ok.hd hc) k i1 a ha its.toArray
    have D2 := drawsK (prog := X.prog) (w := X.w) (A := X.A.in1) (I.ok.hd hc) k' i2 b hb its2.toArray
    have hlt1 : i < its.toArray.size := by rw [List.size_toArray]; exact (List.getElem?_eq_some_iff.mp hu).1
    have hlt2 : i < its2.toArray.size := by rw [List.size_toArray]; exact (List.getElem?_eq_some_iff.mp hu2).1
    refine wpAny_pyNext_zipD2_item S D1 D2 hz hTI hTO ⟨h1, p⟩ ⟨h2, p2⟩ hlt1 hlt2 fun y1 y2 h' tk hP1 hP2 z' TO' d1 d2 hT hsz hk => ?_
    have e1 : y1 = u := by
      have q : its.toArray[i]? = some y1 := hP1
      rw [List.getElem?_toArray, hu] at q
      exact (Option.some.inj q).symm
    have e2 : y2 = u2 := by
      have q : its2.toArray[i]? = some y2 := hP2
      rw [List.getElem?_toArray, hu2] at q
      exact (Option.some.inj q).symm
    subst e1 e2
    refine ⟨_, rfl, wpAny_letOwnedTupleGo_zip (s := { s with heap := h', toks := tk }) z' fun h'' z'' sb => ?_⟩
    have hT2 : h''.get? s.heap.objs.size = some { cls := .type "tuple", data := .seq #[y1, y2] } := (sb.2 _ (Nat.ne_of_gt hzl)).trans hT
    have new : ObjOk X.prog X.w (upd H s.heap.objs.size (.tup [x, y])) h'' s.heap.objs.size (.tup [x, y]) :=
      ⟨by show 2 ≤ sizeLine; decide, [y1, y2], .cons ru (.cons ru2 .nil), ⟨_, hT2, rfl, _, rfl⟩⟩
    have I1 : Inv X pins σ (upd H s.heap.objs.size (.tup [x, y])) { s with heap := h'', toks := tk } :=
      I.turnedNew (ch := [z, TI, TO, i1, i2]) (fun c o hb q => (sb.2 c (fun q' => hb (by simp [q']))).trans (hk c o (fun q' => hb (by simp [q'])) (fun q' => hb (by simp [q'])) (fun q' => hb (by simp [q'])) (fun q' => hb (by simp [q'])) q)) hf (Nat.le_refl _) new
    refine ⟨.ref s.heap.objs.size, _, I1, rfl, ⟨_, x, y, rfl, I.hok.fresh (Nat.le_refl _), rfl, fun l hl => by rw [inv_seq_inj I hl hqx]; exact hx, fun l hl => by rw [inv_seq_inj I hl hqy]; exact hy⟩, ⟨z'', ?_, ⟨y1, y2, ?_⟩, ?_, ?_⟩, fun c hcm => ?_⟩
    · exact (sb.2 _ S.TIz).trans (hk _ _ S.TIz S.TITO S.TIi1 S.TIi2 hTI)
    · exact (sb.2 _ S.TOz).trans TO'
    · exact itK_at d1.1 fun o q => (sb.2 _ (Ne.symm S.zi1)).trans q
    · exact itK_at d2.1 fun o q => (sb.2 _ (Ne.symm S.zi2)).trans q
    · have hlt : c < s.heap.objs.size := by
        have e' : c = z ∨ c = TI ∨ c = TO ∨ c = i1 ∨ c = i2 := by simpa using hcm
        rcases e' with q | q | q | q | q
        · rw [q]; exact hzl
        · rw [q]; exact Heap.lt_size hTI
        · rw [q]; exact Heap.lt_size hTO
        · rw [q]; obtain ⟨_, e1, _⟩ := itK_obj h1; exact Heap.lt_size e1
        · rw [q]; obtain ⟨_, e2, _⟩ := itK_obj h2; exact Heap.lt_size e2
      rw [upd_ne (Nat.ne_of_lt hlt)]
      exact (hf c hcm).1
  done := by
    intro X hP hw hK hc i pins s σ H E I hf st hg
    subst hP hw hK
    obtain ⟨hz, hTI, ⟨x0, y0, hTO⟩, h1, h2⟩ := st
    obtain ⟨xs, ys, hqx, hqy, hend⟩ := hg
    obtain ⟨its, rv, p, _⟩ := inv_seq I hqx
    obtain ⟨its2, rv2, p2, _⟩ := inv_seq I hqy
    have l1 := rv.length
    have l2 := rv2.length
    have D1 := drawsK (prog := X.prog) (w := X.w) (A := X.A.in1) (I.ok.hd hc) k i1 a ha its.toArray
    have D2 := drawsK (prog := X.prog) (w := X.w) (A := X.A.in1) (I.ok.hd hc) k' i2 b hb its2.toArray
    exact wpAny_pyNext_zipD2_end (i := i) S D1 D2 hz hTI hTO ⟨h1, p⟩ ⟨h2, p2⟩ (by rw [List.size_toArray]; omega) (by rw [List.size_toArray]; omega) (by rw [List.size_toArray, List.size_toArray]; omega) fun h' tk hk => ⟨rfl, I.turnedL (ch := [z, TI, TO, i1, i2]) (fun c o hb q =>
      hk c o (fun q' => hb (by simp [q'])) (fun q' => hb (by simp [q'])) (fun q' => hb (by simp [q'])) (fun q' => hb (by simp [q'])) q) hf⟩
  self := fun A i s Q E st h => wpAny_pyIter_zip st.1 h
def iZipK (K : PySem.W.Frag) (ta : TA) : TI := fun σ H R => ta σ H fun vs H1 => ∃ k k' a b xs ys, vs = [.ref a, .ref b] ∧ SqK K H1 k a xs ∧ SqK K H1 k' b ys ∧ R (ItzK K k k' a b) H1
theorem pi_zipK {X : Cx} {e e2 : Expr} {ta : TA} {p pos tpos : Pos} {elts : List Expr} {kk : Nat} (hg : Gl X "zip") (hm : X.mg "zip" = none) (ha : PA X [e, e2] ta)
    (hs : starEach [e, e2] X.env = (false, eval e X.env) :: starEach [e2] X.env) (hpl : (backTo pos (starEach [e2] X.env)).any (·.1) = false) :
    PI X (.Tuple elts kk tpos) (.Call (.Name "zip" p) [e, e2] [] pos) (iZipK X.K ta) := by
  refine ⟨fun pins s σ H R I h => ?_⟩
  refine Call_ (ld_blt I hg hm PyProof.Rows.boot_zip (PyProof.Rows.callWith_type1 (thn (ha.run pos pins s σ H _ I h) fun us s1 ⟨vs, H1, I1, r1, q1⟩ => ?_) hs hpl))
  obtain ⟨k, k', a, b, xs, ys, ex, hqx, hqy, q⟩ := q1
  subst ex
  cases r1 with
  | cons r rr =>
    cases rr with
    | cons r' rr =>
      cases rr
      cases r
      cases r'
      obtain ⟨its, rv, p1, _⟩ := inv_seq I1 hqx
      obtain ⟨its2, rv2, p2, _⟩ := inv_seq I1 hqy
      have la := obK_lt p1
      have lb := obK_lt p2
      refine zip_begins2 (begK k a its.toArray) (begK k' b its2.toArray) p1 p2 fun h' hz hTI hTO h1 h2 hsz hk => wpAny_pyIter_zip hz ?_
      have I2 : Inv X pins σ H1 { s1 with heap := h' } := I1.kept (t' := s1.toks) hk
      have S := zip_sep2 (N := s1.heap.objs.size) (fp1 := [a]) (fp2 := [b]) (fun c hc => by rw [List.mem_singleton.mp hc]; exact la) (fun c hc => by rw [List.mem_singleton.mp hc]; exact lb)
      refine ⟨s1.heap.objs.size + 4, [s1.heap.objs.size + 4, s1.heap.objs.size + 2, s1.heap.objs.size + 3, s1.heap.objs.size, s1.heap.objs.size + 1], _, _, H1, rfl, I2, turn_zipK k k' S (Nat.ne_of_lt la) (Nat.ne_of_lt (Nat.lt_succ_of_lt lb)), ⟨hz, hTI, ⟨_, _, hTO⟩, itK_new h1, itK_new h2⟩, fun c hcm => ?_, q⟩
      have e' : c = s1.heap.objs.size + 4 ∨ c = s1.heap.objs.size + 2 ∨ c = s1.heap.objs.size + 3 ∨ c = s1.heap.objs.size ∨ c = s1.heap.objs.size + 1 := by simpa using hcm
      have hle : s1.heap.objs.size ≤ c := by
        rcases e' with z | z | z | z | z
        · rw [z]; exact Nat.le_add_right _ _
        · rw [z]; exact Nat.le_add_right _ _
        · rw [z]; exact Nat.le_add_right _ _
        · rw [z]; exact Nat.le_refl _
        · rw [z]; exact Nat.le_add_right _ _
      exact I1.fpOk hle (I1.hok.fresh hle)
end LC

set_option Elab.async false
set_option linter.all false
set_option maxRecDepth 100000
set_option maxHeartbeats 1000000
namespace LC
open PySem PySem.Spec PyProof.Rows L2
def ItS (K : PySem.W.Frag) (k : Kd) (a : Addr) : It := match k with
  | .l => Itl K a
  | .t => Itt K a
def iAny (K : PySem.W.Frag) (te : TE) : TI := fun σ H R => te σ H fun x H1 => (∃ k a xs, x = .ref a ∧ SqK K H1 k a xs ∧ R (ItS K k a) H1) ∨ ∃ z, x = .str z ∧ R (Its z) H1
theorem pi_any {X : Cx} {tg e : Expr} {te : TE} (he : PE X e te) : PI X tg e (iAny X.K te) := by
  refine ⟨fun pins s σ H R I h => ?_⟩
  refine thn (he.run pins s σ H _ I h) fun v s1 ⟨x, H1, I1, r1, q1⟩ => ?_
  rcases q1 with ⟨k, a, xs, e, hq, q⟩ | ⟨x, ex, q⟩
  · subst e
    cases r1
    cases k with
    | l =>
      obtain ⟨its, rv, p, hz⟩ := I1.list hq
      exact wpAny_pyIter_list p.isList (pi_one (tk := s1.toks) I1 _ (turn_list a _) ⟨_, Heap.get?_push_size _ rfl, rfl, rfl⟩ q)
    | t =>
      obtain ⟨its, rv, p, hz⟩ := I1.tuple hq
      exact wpAny_pyIter_tuple (show s1.heap.IsTuple a its.toArray from p) (pi_one (tk := s1.toks) I1 _ (turn_tuple a _) ⟨_, Heap.get?_push_size _ rfl, rfl, rfl⟩ q)
  · subst ex
    obtain ⟨t, rfl⟩ := r1
    cases ha : x.cps.all (· < 128)
    · exact wpAny_pyIter_wide ha (pi_one (tk := s1.toks) I1 _ (turn_str _ x t "str_iterator" (.inr rfl)) ⟨_, Heap.get?_push_size _ rfl, rfl, rfl⟩ q)
    · exact wpAny_pyIter_ascii ha (pi_one (tk := s1.toks) I1 _ (turn_str _ x t "str_ascii_iterator" (.inl rfl)) ⟨_, Heap.get?_push_size _ rfl, rfl, rfl⟩ q)

structure Wk (K : PySem.W.Frag) (Rel : (Addr → Prop) → Hp → Prop) (J : It) (its : List D) : Prop where
  go : ∀ O H i, Rel O H → i < its.length → J.go i H
  stop : ∀ O H, Rel O H → J.stop its.length H
  yld : ∀ (O : Addr → Prop) H i x H' d, Rel O H → (∀ b, O b → H b ≠ none) → its[i]? = some d → J.yld i H x H' → Same H H' ∧ Rp K O H' d x

def SrcRel (b : Bool) (O : Addr → Prop) (H : Hp) : (Addr → Prop) → Hp → Prop := fun O' H' => match b with
  | true => Keep O O' H H'
  | false => Keep O O' H H' ∧ Same H H'
def RpB (b : Bool) (K : PySem.W.Frag) (O : Addr → Prop) (H : Hp) (d : D) (v : V) : Prop := match b with
  | true => Rp K O H d v
  | false => RpW K O H d v
section
variable {K : PySem.W.Frag} {O : Addr → Prop} {H : Hp} {b : Bool}
theorem RpB.w {d : D} {v : V} (h : RpB b K O H d v) : RpW K O H d v := by
  cases b with
  | true => exact Rp.w h
  | false => exact h
theorem rpb_seq {d : D} {v : V} {ds : List D} (h : RpB b K O H d v) (e : seqOf d = some ds) :
    ∃ k a vs, v = .ref a ∧ SqK K H k a vs ∧ ∀ O' H', SrcRel b O H O' H' → SqK K H' k a vs ∧ RpL K O' H' ds vs := by
  cases d with
  | tup es =>
    cases e
    obtain ⟨a, vs, rfl, t, r⟩ := h.w.tup
    refine ⟨.t, a, vs, rfl, t.sq, fun O' H' rel => ?_⟩
    cases b with
    | true => exact ⟨(Keep.tupAt rel t).sq, Keep.rpl rel _ _ r⟩
    | false =>
      exact ⟨(Keep.tupAt rel.1 t).sq, Keep.rpl rel.1 _ _ r⟩
  | lst es =>
    cases e
    cases b with
    | true =>
      have h' : Rp K O H (.lst _) v := h
      rw [Rp] at h'
      obtain ⟨a, vs, rfl, t, r⟩ := h'
      exact ⟨.l, a, vs, rfl, t.sq, fun O' H' rel => ⟨(Keep.lstAt rel t).sq, Keep.rpl rel _ _ r⟩⟩
    | false =>
      obtain ⟨a, vs, rfl, t, r⟩ := RpW.lst h
      refine ⟨.l, a, vs, rfl, .inl t, fun O' H' rel => ?_⟩
      refine ⟨.inl ?_, Keep.rpl rel.1 _ _ r⟩
      rcases t with t | ⟨o, t⟩
      · exact .inl (rel.2 _ _ t)
      · exact .inr ⟨o, rel.2 _ _ t⟩
  | _ => exact nomatch e
theorem wk_seq {d : D} {v : V} {ds : List D} (h : RpB b K O H d v) (e : seqOf d = some ds) : ∃ k a vs, v = .ref a ∧ SqK K H k a vs ∧ Wk K (SrcRel b O H) (ItS K k a) ds := by
  obtain ⟨k, a, vs, rfl, sq, q⟩ := rpb_seq h e
  refine ⟨k, a, vs, rfl, sq, ⟨fun O' H' i rel hi => ?_, fun O' H' rel => ?_, fun O' H' i x H'' d rel hO hd hy => ?_⟩⟩
  · obtain ⟨s1, r1⟩ := q O' H' rel
    have hlt : i < vs.length := by rw [← r1.length]; exact hi
    cases k with
    | l => exact ⟨vs, vs[i], s1, List.getElem?_eq_getElem hlt⟩
    | t => exact ⟨vs, vs[i], s1, List.getElem?_eq_getElem hlt⟩
  · obtain ⟨s1, r1⟩ := q O' H' rel
    cases k with
    | l => exact ⟨vs, s1, Nat.le_of_eq r1.length.symm⟩
    | t => exact ⟨vs, s1, Nat.le_of_eq r1.length.symm⟩
  · obtain ⟨s1, r1⟩ := q O' H' rel
    obtain ⟨w, hw, rw'⟩ := r1.get hd
    cases k with
    | l =>
      obtain ⟨rfl, hy⟩ := hy
      have e : x = w := Option.some.inj ((hy vs s1).symm.trans hw)
      subst e
      exact ⟨Same.refl _, rw'⟩
    | t =>
      obtain ⟨rfl, hy⟩ := hy
      have e : x = w := Option.some.inj ((hy vs s1).symm.trans hw)
      subst e
      exact ⟨Same.refl _, rw'⟩
theorem wk_str {Rel : (Addr → Prop) → Hp → Prop} (z : Str) : Wk K Rel (Its z) (z.cps.toList.map fun c => D.str ⟨#[c]⟩) := by
  have hl : (z.cps.toList.map fun c => D.str ⟨#[c]⟩).length = z.cps.size := by rw [List.length_map, Array.length_toList]
  refine ⟨fun O' H' i rel hi => ?_, fun O' H' rel => ?_, fun O' H' i x H'' d rel hO hd hy => ?_⟩
  · rw [hl] at hi
    exact hi
  · rw [hl]
    exact Nat.le_refl _
  · obtain ⟨rfl, c, hc, rfl⟩ := hy
    rw [List.getElem?_map, Array.getElem?_toList, hc] at hd
    cases hd
    exact ⟨Same.refl _, rp_str⟩
theorem wk_range {Rel : (Addr → Prop) → Hp → Prop} (lo : Int) (n : Nat) : Wk K Rel (Itr lo n) (rgL lo n) := by
  have hl : (rgL lo n).length = n := by rw [rgL, List.length_map, List.length_range]
  refine ⟨fun O' H' i rel hi => ?_, fun O' H' rel => ?_, fun O' H' i x H'' d rel hO hd hy => ?_⟩
  · rw [hl] at hi
    exact hi
  · rw [hl]
    exact Nat.le_refl _
  · obtain ⟨rfl, rfl⟩ := hy
    have hi : i < n := by
      have := (List.getElem?_eq_some_iff.mp hd).1
      rw [hl] at this
      exact this
    rw [rgL, List.getElem?_map, List.getElem?_range hi] at hd
    cases hd
    exact ⟨Same.refl _, rp_int⟩
theorem wk_rangeC {Rel : (Addr → Prop) → Hp → Prop} (lo c : Int) (n : Nat) : Wk K Rel (Itc lo c n) (rgC lo c n) := by
  have hl : (rgC lo c n).length = n := by rw [rgC, List.length_map, List.length_range]
  refine ⟨fun O' H' i rel hi => ?_, fun O' H' rel => ?_, fun O' H' i x H'' d rel hO hd hy => ?_⟩
  · rw [hl] at hi
    exact hi
  · rw [hl]
    exact Nat.le_refl _
  · obtain ⟨rfl, rfl⟩ := hy
    have hi : i < n := by
      have := (List.getElem?_eq_some_iff.mp hd).1
      rw [hl] at this
      exact this
    rw [rgC, List.getElem?_map, List.getElem?_range hi] at hd
    cases hd
    exact ⟨Same.refl _, rp_int⟩
theorem enumL_get : ∀ (xs : List D) (k i : Nat), (enumL k xs)[i]? = (xs[i]?).map fun d => .tup [.int ((k + i : Nat)), d]
  | [], _, _ => rfl
  | x :: r, k, 0 => rfl
  | x :: r, k, i + 1 => by
    show (enumL (k + 1) r)[i]? = _
    rw [enumL_get r (k + 1) i, show k + 1 + i = k + (i + 1) by omega]
    rfl
theorem enumL_len : ∀ (xs : List D) (k : Nat), (enumL k xs).length = xs.length
  | [], _ => rfl
  | x :: r, k => by
    show (enumL (k + 1) r).length + 1 = r.length + 1
    rw [enumL_len r]
theorem wk_enum {d : D} {v : V} {ds : List D} (h : RpB b K O H d v) (e : seqOf d = some ds) : ∃ k a vs, v = .ref a ∧ SqK K H k a vs ∧ Wk K (SrcRel b O H) (IteK K k a) (enumL 0 ds) := by
  obtain ⟨k, a, vs, rfl, sq, q⟩ := rpb_seq h e
  refine ⟨k, a, vs, rfl, sq, ⟨fun O' H' i rel hi => ?_, fun O' H' rel => ?_, fun O' H' i x H'' d rel hO hd hy => ?_⟩⟩
  · obtain ⟨s1, r1⟩ := q O' H' rel
    have hlt : i < vs.length := by rw [← r1.length, ← enumL_len ds 0]; exact hi
    exact ⟨vs, vs[i], s1, List.getElem?_eq_getElem hlt⟩
  · obtain ⟨s1, r1⟩ := q O' H' rel
    exact ⟨vs, s1, by rw [enumL_len]; exact r1.length.symm⟩
  · obtain ⟨s1, r1⟩ := q O' H' rel
    obtain ⟨T, y, rfl, nT, rfl, hy⟩ := hy
    rw [enumL_get] at hd
    cases hx : ds[i]? with
    | none => rw [hx] at hd; exact nomatch hd
    | some d' =>
      rw [hx] at hd
      cases hd
      obtain ⟨w, hw, rw'⟩ := r1.get hx
      have e : y = w := Option.some.inj ((hy vs s1).symm.trans hw)
      subst e
      refine ⟨same_new nT, ?_⟩
      rw [Nat.zero_add]
      exact new_tup nT hO (RpL.cons rp_int (RpL.cons rw' RpL.nil))
theorem zipL_get : ∀ (xs ys : List D) (i : Nat) (x y : D), xs[i]? = some x → ys[i]? = some y → (zipL xs ys)[i]? = some (.tup [x, y])
  | x :: xs, y :: ys, 0, _, _, h, h' => by cases h; cases h'; rfl
  | x :: xs, y :: ys, i + 1, a, b, h, h' => by
    show (zipL xs ys)[i]? = _
    exact zipL_get xs ys i a b h h'
  | [], _, _, _, _, h, _ => by simp at h
  | _ :: _, [], _, _, _, _, h => by simp at h
theorem zipL_len : ∀ (xs ys : List D), (zipL xs ys).length = min xs.length ys.length
  | [], _ => by simp [zipL]
  | _ :: _, [] => by simp [zipL]
  | x :: xs, y :: ys => by
    show (zipL xs ys).length + 1 = min (xs.length + 1) (ys.length + 1)
    rw [zipL_len xs ys]
    omega
theorem wk_zip {d d2 : D} {v v2 : V} {ds es : List D} (h : RpB b K O H d v) (h2 : RpB b K O H d2 v2) (e : seqOf d = some ds) (e2 : seqOf d2 = some es) :
    ∃ k k' a a2 vs ws, v = .ref a ∧ v2 = .ref a2 ∧ SqK K H k a vs ∧ SqK K H k' a2 ws ∧ Wk K (SrcRel b O H) (ItzK K k k' a a2) (zipL ds es) := by
  obtain ⟨k, a, vs, rfl, sq, q⟩ := rpb_seq h e
  obtain ⟨k', a2, ws, rfl, sq2, q2⟩ := rpb_seq h2 e2
  refine ⟨k, k', a, a2, vs, ws, rfl, rfl, sq, sq2, ⟨fun O' H' i rel hi => ?_, fun O' H' rel => ?_, fun O' H' i x H'' d rel hO hd hy => ?_⟩⟩
  · obtain ⟨s1, r1⟩ := q O' H' rel
    obtain ⟨s2, r2⟩ := q2 O' H' rel
    rw [zipL_len, r1.length, r2.length] at hi
    have h1 : i < vs.length := by omega
    have h2 : i < ws.length := by omega
    exact ⟨vs, ws, vs[i], ws[i], s1, s2, List.getElem?_eq_getElem h1, List.getElem?_eq_getElem h2⟩
  · obtain ⟨s1, r1⟩ := q O' H' rel
    obtain ⟨s2, r2⟩ := q2 O' H' rel
    exact ⟨vs, ws, s1, s2, by rw [zipL_len, r1.length, r2.length]⟩
  · obtain ⟨s1, r1⟩ := q O' H' rel
    obtain ⟨s2, r2⟩ := q2 O' H' rel
    obtain ⟨T, y, y2, rfl, nT, rfl, hy, hy2⟩ := hy
    have hi : i < (zipL ds es).length := (List.getElem?_eq_some_iff.mp hd).1
    rw [zipL_len] at hi
    have h1 : i < ds.length := by omega
    have h2 : i < es.length := by omega
    rw [zipL_get ds es i _ _ (List.getElem?_eq_getElem h1) (List.getElem?_eq_getElem h2)] at hd
    cases hd
    obtain ⟨w, hw, rw'⟩ := r1.get (List.getElem?_eq_getElem h1)
    obtain ⟨w2, hw2, rw2⟩ := r2.get (List.getElem?_eq_getElem h2)
    have e : y = w := Option.some.inj ((hy vs s1).symm.trans hw)
    have e2 : y2 = w2 := Option.some.inj ((hy2 ws s2).symm.trans hw2)
    subst e e2
    exact ⟨same_new nT, new_tup nT hO (RpL.cons rw' (RpL.cons rw2 RpL.nil))⟩
end
end LC

set_option Elab.async false
set_option linter.all false
set_option maxRecDepth 100000
set_option maxHeartbeats 1000000
namespace LC
open PySem PySem.Spec PyProof.Rows L2
theorem rgc_ok {a b c : Int} (ha : -(2 ^ 30) ≤ a) (ha' : a < 2 ^ 30) (hb : -(2 ^ 30) ≤ b) (hb' : b < 2 ^ 30) (hc : 0 < c) (hc' : c < 1000) : RgC a b c (if a < b then ((b - a - 1) / c + 1).toNat else 0) := by
  have hq : a < b → 0 ≤ (b - a - 1) / c ∧ (b - a - 1) / c ≤ b - a - 1 := fun h => ⟨Int.ediv_nonneg (by omega) (by omega), Int.ediv_le_self _ (by omega)⟩
  refine ⟨by omega, by omega, ?_, ?_⟩
  · unfold Builtin.Range.small Builtin.Range.rangeSize
    simp only [Builtin.Range.rangeFitsLong, Bool.and_eq_true, Bool.or_eq_true, decide_eq_true_eq, beq_iff_eq, show c > 0 by omega, if_true]
    by_cases h : a < b
    · obtain ⟨h1, h2⟩ := hq h
      simp only [h, if_true]
      omega
    · simp only [h, if_false]
      omega
  · unfold Builtin.Range.rangeSize
    rw [if_pos (show c > 0 by omega)]
    by_cases h : a < b
    · obtain ⟨h1, h2⟩ := hq h
      rw [if_pos h, if_pos h]
      omega
    · rw [if_neg h, if_neg h]
      rfl
def RpBL (b : Bool) (K : PySem.W.Frag) (O : Addr → Prop) (H : Hp) (ds : List D) (vs : List V) : Prop := match b with
  | true => RpL K O H ds vs
  | false => RpWL K O H ds vs
def tB1 (b : Bool) (c : Cf) (K : PySem.W.Frag) (M : List Nat) (e : E) : TE := fun σ H Q => ∃ O ρ d, Ok K O M ρ σ H ∧ ev c e ρ = .ok d ∧ ∀ v H', Same H H' → RpB b K (Av O M σ) H' d v → Q v H'
def tBs (b : Bool) (c : Cf) (K : PySem.W.Frag) (M : List Nat) (es : List E) : TA := fun σ H Q => ∃ O ρ ds, Ok K O M ρ σ H ∧ evs c es ρ = .ok ds ∧ ∀ vs H', Same H H' → RpBL b K (Av O M σ) H' ds vs → Q vs H'
section
variable {K : PySem.W.Frag} {O : Addr → Prop} {H : Hp} {b : Bool}
theorem RpBL.w {ds : List D} {vs : List V} (h : RpBL b K O H ds vs) : RpWL K O H ds vs := by
  cases b with
  | true => exact RpL.w h
  | false => exact h
theorem rpbl_one {x : D} {vs : List V} (h : RpBL b K O H [x] vs) : ∃ v, vs = [v] ∧ RpB b K O H x v := by
  cases b with
  | true =>
    have h' : RpL K O H [x] vs := h
    rw [RpL] at h'
    obtain ⟨v, r, rfl, t, e⟩ := h'
    rw [RpL] at e
    subst e
    exact ⟨v, rfl, t⟩
  | false => exact rpwl_one h
theorem rpbl_two {x y : D} {vs : List V} (h : RpBL b K O H [x, y] vs) : ∃ v w, vs = [v, w] ∧ RpB b K O H x v ∧ RpB b K O H y w := by
  cases b with
  | true =>
    have h' : RpL K O H [x, y] vs := h
    rw [RpL] at h'
    obtain ⟨v, r, rfl, t, e⟩ := h'
    obtain ⟨w, rfl, t'⟩ := rpbl_one (b := true) e
    exact ⟨v, w, rfl, t, t'⟩
  | false => exact rpwl_two h
end
def tI (b : Bool) (c : Cf) (K : PySem.W.Frag) (M : List Nat) (k : Src) (ss : List E) : TI := fun σ H R => ∃ O ρ ds its, Ok K O M ρ σ H ∧ evs c ss ρ = .ok ds ∧ items k ds = .ok its ∧
  ∀ J H', Same H H' → Wk K (SrcRel b (Av O M σ) H') J its → R J H'
section
variable {X : Cx} {c : Cf} {M : List Nat} {b : Bool} {tg : Expr}
theorem pi_imp {e : Expr} {t t' : TI} (h : PI X tg e t) (q : ∀ σ H R, t' σ H R → t σ H R) : PI X tg e t' := ⟨fun pins s σ H R I w => h.run pins s σ H R I (q σ H R w)⟩
theorem small62_iff {i : Int} (h : small62 i = true) : -(2 ^ 30) ≤ i ∧ i < 2 ^ 30 := by
  unfold small62 at h
  rw [Bool.and_eq_true] at h
  exact ⟨of_decide_eq_true h.1, of_decide_eq_true h.2⟩
theorem evs_one {e : E} {ρ : Rho} {ds : List D} (h : evs c [e] ρ = .ok ds) : ∃ d, ev c e ρ = .ok d ∧ ds = [d] := by
  rw [evs] at h
  obtain ⟨x, e1, h⟩ := bind_ok h
  rw [evs] at h
  cases h
  exact ⟨x, e1, rfl⟩
theorem s_seq {e : Expr} {e' : E} (h : PE X e (tB1 b c X.K M e')) : PI X tg e (tI b c X.K M .seq [e']) := pi_imp (pi_any h) fun σ H R ⟨O, ρ, ds, its, o, ee, ei, q⟩ => by
  obtain ⟨d, e1, rfl⟩ := evs_one ee
  refine ⟨O, ρ, d, o, e1, fun v H1 s1 r1 => ?_⟩
  rw [items] at ei
  unfold itSeq at ei
  split at ei
  · rename_i xs he
    cases ei
    cases he
    obtain ⟨k, a, vs, rfl, sq, w⟩ := wk_seq r1 rfl
    exact .inl ⟨k, a, vs, rfl, sq, q _ H1 s1 w⟩
  · rename_i xs he
    cases ei
    cases he
    obtain ⟨k, a, vs, rfl, sq, w⟩ := wk_seq r1 rfl
    exact .inl ⟨k, a, vs, rfl, sq, q _ H1 s1 w⟩
  · rename_i z he
    cases ei
    cases he
    cases r1.w.str
    exact .inr ⟨_, rfl, q _ H1 s1 (wk_str _)⟩
  · exact nomatch ei
theorem s_rng1 {e : Expr} {e' : E} {p pos : Pos} (hg : Gl X "range") (hm : X.mg "range" = none) (h : PA X [e] (tBs b c X.K M [e'])) (hs : starEach [e] X.env = [(false, eval e X.env)]) : PI X tg (.Call (.Name "range" p) [e] [] pos) (tI b c X.K M .rng [e']) :=
  pi_imp (pi_range1 hg hm h hs) fun σ H R ⟨O, ρ, ds, its, o, ee, ei, q⟩ => by
  obtain ⟨d, e1, rfl⟩ := evs_one ee
  refine ⟨O, ρ, [d], o, ee, fun vs H1 s1 r1 => ?_⟩
  obtain ⟨v, rfl, r⟩ := rpbl_one r1
  rw [items] at ei
  cases d with
  | int n =>
    obtain ⟨hn, e⟩ := ok_ite ei
    cases e
    cases r.w.int
    obtain ⟨h1, h2⟩ := small62_iff hn
    exact ⟨n, rfl, by omega, by omega, q _ H1 s1 (wk_range _ _)⟩
  | _ => exact nomatch ei
theorem evs_two {e f : E} {ρ : Rho} {ds : List D} (h : evs c [e, f] ρ = .ok ds) : ∃ d d', ds = [d, d'] := by
  rw [evs] at h
  obtain ⟨x, e1, h⟩ := bind_ok h
  obtain ⟨ys, e2, h⟩ := bind_ok h
  obtain ⟨y, _, rfl⟩ := evs_one e2
  cases h
  exact ⟨x, y, rfl⟩
theorem evs_three {e f g : E} {ρ : Rho} {ds : List D} (h : evs c [e, f, g] ρ = .ok ds) : ∃ d d' d'', ds = [d, d', d''] := by
  rw [evs] at h
  obtain ⟨x, e1, h⟩ := bind_ok h
  obtain ⟨ys, e2, h⟩ := bind_ok h
  obtain ⟨y, z, rfl⟩ := evs_two e2
  cases h
  exact ⟨x, y, z, rfl⟩
theorem s_rng2 {e f : Expr} {e' f' : E} {p pos : Pos} (hg : Gl X "range") (hm : X.mg "range" = none) (h : PA X [e, f] (tBs b c X.K M [e', f'])) (hs : starEach [e, f] X.env = [(false, eval e X.env), (false, eval f X.env)]) (hs2 : starEach [f] X.env = [(false, eval f X.env)]) :
    PI X tg (.Call (.Name "range" p) [e, f] [] pos) (tI b c X.K M .rng [e', f']) := pi_imp (pi_range2 hg hm h hs hs2) fun σ H R ⟨O, ρ, ds, its, o, ee, ei, q⟩ => by
  obtain ⟨d, d', rfl⟩ := evs_two ee
  refine ⟨O, ρ, [d, d'], o, ee, fun vs H1 s1 r1 => ?_⟩
  obtain ⟨v, w, rfl, r, r'⟩ := rpbl_two r1
  rw [items] at ei
  unfold itRng at ei
  split at ei
  · rename_i he
    cases he
  · rename_i n m he
    cases he
    obtain ⟨hn, e⟩ := ok_ite ei
    cases e
    cases r.w.int
    cases r'.w.int
    rw [Bool.and_eq_true] at hn
    obtain ⟨h1, h2⟩ := small62_iff hn.1
    obtain ⟨h3, h4⟩ := small62_iff hn.2
    exact ⟨_, _, rfl, ⟨by omega, by omega, by omega, by omega⟩, q _ H1 s1 (wk_range _ _)⟩
  · rename_i he
    cases he
  · exact nomatch ei
theorem s_rng3 {e f g : Expr} {e' f' g' : E} {p pos : Pos} (hg : Gl X "range") (hm : X.mg "range" = none) (h : PA X [e, f, g] (tBs b c X.K M [e', f', g'])) (hs : starEach [e, f, g] X.env = (false, eval e X.env) :: starEach [f, g] X.env) (hpl : (backTo pos (starEach [f, g] X.env)).any (·.1) = false) :
    PI X tg (.Call (.Name "range" p) [e, f, g] [] pos) (tI b c X.K M .rng [e', f', g']) := pi_imp (pi_range3 hg hm h hs hpl) fun σ H R ⟨O, ρ, ds, its, o, ee, ei, q⟩ => by
  obtain ⟨d, d', d'', rfl⟩ := evs_three ee
  refine ⟨O, ρ, [d, d', d''], o, ee, fun vs H1 s1 r1 => ?_⟩
  obtain ⟨v, w, u, rfl, r, r', r''⟩ := rpwl_three r1.w
  rw [items] at ei
  unfold itRng at ei
  split at ei
  · rename_i he
    cases he
  · rename_i he
    cases he
  · rename_i n m k he
    cases he
    obtain ⟨hn, e⟩ := ok_ite ei
    cases e
    cases r.int
    cases r'.int
    cases r''.int
    rw [Bool.and_eq_true, Bool.and_eq_true] at hn
    obtain ⟨h1, h2⟩ := small62_iff hn.1.1
    obtain ⟨h3, h4⟩ := small62_iff hn.1.2
    obtain ⟨h5, h6⟩ := of_decide_eq_true hn.2
    exact ⟨_, _, _, _, rfl, rgc_ok h1 h2 h3 h4 h5 h6, q _ H1 s1 (wk_rangeC _ _ _)⟩
  · exact nomatch ei
theorem s_enum {e : Expr} {e' : E} {p pos tpos : Pos} {elts : List Expr} {kk : Nat} (hg : Gl X "enumerate") (hm : X.mg "enumerate" = none) (h : PA X [e] (tBs b c X.K M [e'])) (hs : starEach [e] X.env = [(false, eval e X.env)]) :
    PI X (.Tuple elts kk tpos) (.Call (.Name "enumerate" p) [e] [] pos) (tI b c X.K M .enum [e']) := pi_imp (pi_enumK hg hm h hs) fun σ H R ⟨O, ρ, ds, its, o, ee, ei, q⟩ => by
  obtain ⟨d, e1, rfl⟩ := evs_one ee
  refine ⟨O, ρ, [d], o, ee, fun vs H1 s1 r1 => ?_⟩
  obtain ⟨v, rfl, r⟩ := rpbl_one r1
  rw [items, itEnum] at ei
  split at ei
  · rename_i xs hx
    cases ei
    obtain ⟨k, a, vs, rfl, sq, w⟩ := wk_enum r hx
    exact ⟨k, a, vs, rfl, sq, q _ H1 s1 w⟩
  · exact nomatch ei
theorem s_zip {e f : Expr} {e' f' : E} {p pos tpos : Pos} {elts : List Expr} {kk : Nat} (hg : Gl X "zip") (hm : X.mg "zip" = none) (h : PA X [e, f] (tBs b c X.K M [e', f'])) (hs : starEach [e, f] X.env = (false, eval e X.env) :: starEach [f] X.env) (hpl : (backTo pos (starEach [f] X.env)).any (·.1) = false) :
    PI X (.Tuple elts kk tpos) (.Call (.Name "zip" p) [e, f] [] pos) (tI b c X.K M .zip [e', f']) := pi_imp (pi_zipK hg hm h hs hpl) fun σ H R ⟨O, ρ, ds, its, o, ee, ei, q⟩ => by
  obtain ⟨d, d', rfl⟩ := evs_two ee
  refine ⟨O, ρ, [d, d'], o, ee, fun vs H1 s1 r1 => ?_⟩
  obtain ⟨v, w, rfl, r, r'⟩ := rpbl_two r1
  rw [items, itZip] at ei
  split at ei
  · rename_i xs ys hx hy
    cases ei
    obtain ⟨k, k', a, a2, vs, ws, rfl, rfl, sq, sq2, w⟩ := wk_zip r r' hx hy
    exact ⟨k, k', a, a2, vs, ws, rfl, sq, sq2, q _ H1 s1 w⟩
  · exact nomatch ei
end
theorem wipe_get (σ : L2.St) : ∀ (vs : List Nat) (j : Nat), (wipe σ vs)[j]? = if j ∈ vs ∧ j < σ.length then some none else σ[j]?
  | [], j => by simp [wipe]
  | v :: vs, j => by
    rw [wipe, List.getElem?_set, wipe_get σ vs j, wipe_length]
    by_cases h : v = j
    · subst h
      by_cases hl : v < σ.length
      · simp [hl]
      · simp [hl]
    · rw [if_neg h]
      have : j ≠ v := fun e => h e.symm
      simp [this]
theorem wipeR_eq (ρ : Rho) : ∀ (vs : List Nat) (j : Nat), (wipeR ρ vs)[j]? = if j ∈ vs ∧ j < ρ.length then some none else ρ[j]?
  | [], j => by simp [wipeR]
  | v :: vs, j => by
    have hl : ∀ (vs : List Nat), (wipeR ρ vs).length = ρ.length := fun vs => by
      induction vs with
      | nil => rfl
      | cons w ws ih => rw [wipeR, List.length_set, ih]
    rw [wipeR, List.getElem?_set, wipeR_eq ρ vs j, hl]
    by_cases h : v = j
    · subst h
      by_cases hl : v < ρ.length
      · simp [hl]
      · simp [hl]
    · rw [if_neg h]
      have : j ≠ v := fun e => h e.symm
      simp [this]
theorem wipe_set {σ : L2.St} {i : Nat} {x : Option V} {own : List Nat} (h : i ∈ own) : wipe (σ.set i x) own = wipe σ own := by
  apply List.ext_getElem?
  intro j
  rw [wipe_get, wipe_get, List.length_set]
  by_cases hj : j ∈ own ∧ j < σ.length
  · rw [if_pos hj, if_pos hj]
  · rw [if_neg hj, if_neg hj, List.getElem?_set]
    by_cases e : i = j
    · subst e
      have : ¬ i < σ.length := fun z => hj ⟨h, z⟩
      rw [if_pos rfl, if_neg this, List.getElem?_eq_none (by omega)]
    · rw [if_neg e]
section
variable {K : PySem.W.Frag} {O : Addr → Prop} {H H' : Hp} {M : List Nat} {ρ ρ' : Rho} {σ : L2.St} {d : D} {v : V}
theorem av_set {i : Nat} {x : Option V} (h : i ∉ M) : Av O M (σ.set i x) = Av O M σ := by
  funext b
  apply propext
  constructor
  · rintro (z | ⟨j, hj, e⟩)
    · exact .inl z
    · refine .inr ⟨j, hj, ?_⟩
      rw [List.getElem?_set_ne (fun q => h (by rw [q]; exact hj))] at e
      exact e
  · rintro (z | ⟨j, hj, e⟩)
    · exact .inl z
    · refine .inr ⟨j, hj, ?_⟩
      rw [List.getElem?_set_ne (fun q => h (by rw [q]; exact hj))]
      exact e
theorem Ok.set {i : Nat} (h : Ok K O M ρ σ H) (hf : Nf M i) (r : Rp K (Av O M σ) H d v) : Ok K O M (ρ.set i (some d)) (σ.set i (some v)) H := by
  have hi := hf.1
  have ne : ∀ j, j ∈ M → i ≠ j := fun j hj z => hi (by rw [z]; exact hj)
  refine ⟨h.o0, by rw [List.length_set, List.length_set, h.len], fun j e => ?_, fun j d' e n => ?_, fun j d' e m => ?_, fun j k a hj hk e1 e2 => ?_, h.lnk.set hf.2⟩
  · by_cases hij : i = j
    · subst hij
      rw [List.getElem?_set] at e
      simp at e
    · rw [List.getElem?_set_ne hij] at e ⊢
      exact h.non j e
  · rw [av_set hi]
    by_cases hij : i = j
    · subst hij
      have hl : i < ρ.length := by
        have := (List.getElem?_eq_some_iff.mp e).1
        rw [List.length_set] at this
        exact this
      rw [List.getElem?_set_self hl] at e
      cases e
      exact ⟨v, List.getElem?_set_self (by rw [h.len]; exact hl), r⟩
    · rw [List.getElem?_set_ne hij] at e ⊢
      exact h.val j d' e n
  · rw [av_set hi]
    rw [List.getElem?_set_ne (ne j m)] at e ⊢
    exact h.own j d' e m
  · rw [List.getElem?_set_ne (ne j hj)] at e1
    rw [List.getElem?_set_ne (ne k hk)] at e2
    exact h.inj j k a hj hk e1 e2
theorem av_wipe {own : List Nat} (h : ∀ i ∈ own, i ∉ M) : Av O M (wipe σ own) = Av O M σ := by
  funext b
  apply propext
  have key : ∀ j ∈ M, (wipe σ own)[j]? = σ[j]? := fun j hj => by
    rw [wipe_get, if_neg]
    rintro ⟨z, _⟩
    exact h j z hj
  constructor
  · rintro (z | ⟨j, hj, e⟩)
    · exact .inl z
    · exact .inr ⟨j, hj, by rw [← key j hj]; exact e⟩
  · rintro (z | ⟨j, hj, e⟩)
    · exact .inl z
    · exact .inr ⟨j, hj, by rw [key j hj]; exact e⟩
theorem Ok.wipe {own : List Nat} (h : Ok K O M ρ σ H) (hf : ∀ i ∈ own, Nf M i) : Ok K O M (wipeR ρ own) (L2.wipe σ own) H := by
  have ho : ∀ i ∈ own, i ∉ M := fun i hi => (hf i hi).1
  have hl : (wipeR ρ own).length = ρ.length := by
    clear ho hf
    induction own with
    | nil => rfl
    | cons w ws ih => rw [wipeR, List.length_set, ih]
  have key : ∀ j ∈ M, (L2.wipe σ own)[j]? = σ[j]? := fun j hj => by
    rw [wipe_get, if_neg]
    rintro ⟨z, _⟩
    exact ho j z hj
  refine ⟨h.o0, by rw [wipe_length, hl, h.len], fun j e => ?_, fun j d' e n => ?_, fun j d' e m => ?_, fun j k a hj hk e1 e2 => ?_, h.lnk.cong fun j hj => by
    rw [wipe_get, if_neg]
    rintro ⟨z, _⟩
    rw [(hf j z).2] at hj
    exact nomatch hj⟩
  · rw [wipeR_eq] at e
    rw [wipe_get, h.len]
    split at e
    · rename_i hc
      rw [if_pos hc]
    · rename_i hc
      rw [if_neg hc]
      exact h.non j e
  · rw [av_wipe ho]
    rw [wipeR_eq] at e
    rw [wipe_get, h.len]
    split at e
    · exact nomatch e
    · rename_i hc
      rw [if_neg hc]
      exact h.val j d' e n
  · rw [av_wipe ho, key j m]
    rw [wipeR_eq] at e
    split at e
    · exact nomatch e
    · exact h.own j d' e m
  · rw [key j hj] at e1
    rw [key k hk] at e2
    exact h.inj j k a hj hk e1 e2
def setS : List Nat → List V → L2.St → L2.St
  | i :: is, v :: vs, σ => setS is vs (σ.set i (some v))
  | _, _, σ => σ
theorem Ok.setAll : ∀ {is : List Nat} {ds : List D} {vs : List V} {ρ ρ' : Rho} {σ : L2.St}, Ok K O M ρ σ H → (∀ i ∈ is, Nf M i) → RpL K (Av O M σ) H ds vs → setAll is ds ρ = some ρ' →
    Ok K O M ρ' (setS is vs σ) H ∧ Av O M (setS is vs σ) = Av O M σ ∧ ∀ own, (∀ i ∈ is, i ∈ own) → L2.wipe (setS is vs σ) own = L2.wipe σ own
  | [], [], vs, ρ, ρ', σ, h, _, r, e => by
    cases e
    exact ⟨h, rfl, fun _ _ => rfl⟩
  | i :: is, d :: ds, vs, ρ, ρ', σ, h, hM, r, e => by
    rw [RpL] at r
    obtain ⟨v, vr, rfl, r1, r2⟩ := r
    have hi := hM i List.mem_cons_self
    have h1 := h.set hi r1
    obtain ⟨g1, g2, g3⟩ := Ok.setAll (is := is) (ds := ds) (vs := vr) h1 (fun j hj => hM j (List.mem_cons_of_mem _ hj)) (by rw [av_set hi.1]; exact r2) e
    refine ⟨g1, by rw [← av_set (σ := σ) hi.1]; exact g2, fun own ho => ?_⟩
    rw [← wipe_set (σ := σ) (x := some v) (ho i List.mem_cons_self)]
    exact g3 own fun j hj => ho j (List.mem_cons_of_mem _ hj)
  | [], _ :: _, _, _, _, _, _, _, _, e => nomatch e
  | _ :: _, [], _, _, _, _, _, _, _, e => nomatch e
end
def slots : Tg → List Nat
  | .one i => [i]
  | .many is => is
def tG (K : PySem.W.Frag) (M : List Nat) (tg : Tg) : TG := fun v σ H Q => ∃ O ρ d ρ', Ok K O M ρ σ H ∧ Rp K (Av O M σ) H d v ∧ bindT tg d ρ = some ρ' ∧
  ∀ σ', Ok K O M ρ' σ' H → Av O M σ' = Av O M σ → (∀ own, (∀ i ∈ slots tg, i ∈ own) → wipe σ' own = wipe σ own) → Q σ' H
section
variable {X : Cx} {c : Cf} {M : List Nat}
theorem pg_imp {tg : Expr} {t t' : TG} (h : PG X tg t) (q : ∀ v σ H Q, t' v σ H Q → t v σ H Q) : PG X tg t' := ⟨fun pins s σ H v u Q I r w => h.run pins s σ H v u Q I r (q v σ H Q w)⟩
theorem g_one {i : Nat} {x : Str} {pos : Pos} (hN : X.N.Nodup) (hi : X.N[i]? = some x) (hx : Loc X.env.scope x) (hf : X.fn x = true ∨ X.env.scope.names.lookup x = some .local) (hM : Nf M i) : PG X (.Name x pos) (tG X.K M (.one i)) :=
  pg_imp (pg_name hN hi hx hf) fun v σ H Q ⟨O, ρ, d, ρ', o, r, e, q⟩ => by
  cases e
  exact q _ (o.set hM r) (av_set hM.1) fun own ho => wipe_set (ho i List.mem_cons_self)
def gsN : List Nat → TGs
  | [] => gNil
  | i :: is => gCons (gName i) (gsN is)
theorem gsN_set : ∀ (is : List Nat) (vs : List V) (σ : L2.St) (H : Hp) (Q : L2.St → Hp → Prop), vs.length = is.length → Q (setS is vs σ) H → gsN is vs σ H Q
  | [], [], σ, H, Q, _, q => ⟨rfl, q⟩
  | i :: is, v :: vs, σ, H, Q, h, q => ⟨v, vs, rfl, gsN_set is vs _ H Q (by simpa using h) q⟩
  | [], _ :: _, _, _, _, h, _ => by simp at h
  | _ :: _, [], _, _, _, h, _ => by simp at h
theorem setAll_len : ∀ {is : List Nat} {ds : List D} {ρ ρ' : Rho}, setAll is ds ρ = some ρ' → ds.length = is.length
  | [], [], _, _, _ => rfl
  | i :: is, d :: ds, ρ, ρ', h => by
    rw [List.length_cons, List.length_cons, setAll_len (is := is) (ds := ds) h]
  | [], _ :: _, _, _, h => nomatch h
  | _ :: _, [], _, _, h => nomatch h
theorem g_many {is : List Nat} {es : List Expr} {k : Nat} {pos : Pos} (hc : X.calm = true) (h : PGs X es (gsN is)) (hn : (assignEach es X.env).length = is.length) (hst : (assignEach es X.env).findIdx? (·.1) = none) (hM : ∀ i ∈ is, Nf M i) : PG X (.Tuple es k pos) (tG X.K M (.many is)) :=
  pg_imp (pg_tup hc h hn hst) fun v σ H Q ⟨O, ρ, d, ρ', o, r, e, q⟩ => by
  cases d with
  | tup ds =>
    rw [Rp] at r
    obtain ⟨a, vs, rfl, t, l⟩ := r
    obtain ⟨g1, g2, g3⟩ := o.setAll hM l e
    have hl := setAll_len e
    exact ⟨a, vs, rfl, t.sq, by rw [← l.length, hl], gsN_set is vs σ H Q (by rw [← l.length, hl]) (q _ g1 g2 g3)⟩
  | _ => exact nomatch e
end
end LC

set_option Elab.async false
set_option linter.all false
set_option maxRecDepth 100000
set_option maxHeartbeats 1000000
namespace LC
open PySem PySem.Spec PyProof.Rows L2
section
variable {K : PySem.W.Frag} {c : Cf} {M : List Nat}
def lcF (c : Cf) (own : List Nat) (tg : Tg) (cond elt : E) (ρ : Rho) : D → R (Option D) := fun d => match bindT tg d (wipeR ρ own) with
  | some ρ' => (ev c cond ρ').bind fun t => (rTruth t).bind fun b => match b with
    | true => (ev c elt ρ').bind fun x => .ok (some x)
    | false => .ok none
  | none => .bad
def tF (c : Cf) (K : PySem.W.Frag) (M : List Nat) (e : E) : TE := fun σ H Q => ∃ O ρ ds, Ok K O M ρ σ H ∧ ev c e ρ = .ok (.lst ds) ∧ ∀ p vs H', Same H H' → H p = none → H' p = some (.lst vs) → RpL K (fun b => Av O M σ b ∨ b = p) H' ds vs → Q (.ref p) H'
theorem tF_of {e : E} {σ : L2.St} {H : Hp} {Q : VK} (hl : ∀ ρ d, ev c e ρ = .ok d → ∃ ds, d = .lst ds) (h : tE c K M e σ H Q) : tF c K M e σ H Q := by
  obtain ⟨O, ρ, d, o, ee, q⟩ := h
  obtain ⟨ds, rfl⟩ := hl ρ d ee
  refine ⟨O, ρ, ds, o, ee, fun p vs H' s hp hv r => q _ H' s (rp_lst hv (fun z => o.dom p z hp) (Keep.rpl ⟨fun b ob hb _ => hb, fun b _ z => .inl z⟩ _ _ r))⟩
theorem lc_read {own : List Nat} {tg : Tg} {k : Src} {ss : List E} {cond elt : E} {σ : L2.St} {H : Hp} {Q : VK} (hownF : ∀ i ∈ own, Nf M i) (hslots : ∀ i ∈ slots tg, i ∈ own)
    (h : tF c K M (.lc own tg k ss cond elt) σ H Q) : tLc (tI false c K M k ss) (tG K M tg) (tT c K M cond) (tE c K M elt) own σ H Q := by
  have hown : ∀ i ∈ own, i ∉ M := fun i hi => (hownF i hi).1
  obtain ⟨O, ρ, r, o, ee, q⟩ := h
  rw [ev] at ee
  obtain ⟨ds, e1, ee⟩ := bind_ok ee
  obtain ⟨its, e2, ee⟩ := bind_ok ee
  have hLim : its.length ≤ LIM := by
    by_cases hl : its.length ≤ LIM
    · exact hl
    · rw [if_neg hl] at ee
      exact nomatch ee
  rw [if_pos hLim] at ee
  obtain ⟨r2, e3, ee⟩ := bind_ok ee
  have e4 : r2 = r := by
    cases ee
    rfl
  have e3' : lcGo (lcF c own tg cond elt ρ) its = .ok r := by
    rw [← e4]
    exact e3
  clear e3 e4 ee
  refine ⟨O, ρ, ds, its, o, e1, e2, fun J H1 s1 wk Dd nD => ?_⟩
  have o1 := o.ext s1
  have nA : ¬ Av O M σ Dd := fun z => o1.dom Dd z nD
  -- the owned of the callers, and the list that is being made
  have sub : ∀ (b : Addr), H1 b ≠ none → b ≠ Dd := fun b hb z => hb (by rw [z]; exact nD)
  refine ⟨fun i m H2 => m = its.length - i ∧ i ≤ its.length ∧ Same H1 H2 ∧ ∃ acc accD rest, H2 Dd = some (.lst acc) ∧ RpL K (Av (fun b => O b ∨ b = Dd) M σ) H2 accD acc ∧ lcGo (lcF c own tg cond elt ρ) (its.drop i) = .ok rest ∧ accD ++ rest = r ∧ accD.length ≤ i,
    ⟨its.length, rfl, Nat.zero_le _, same_new nD, [], [], r, upd_same, RpL.nil, e3', rfl, Nat.le_refl _⟩, ?_⟩
  rintro i m H2 ⟨rfl, hi, s2, acc, accD, rest, hD, ra, eg, er, hlen⟩
  -- the frame as it stands at this turn, the new list among what is to be kept away from
  have kp : Keep (Av O M σ) (Av (fun b => O b ∨ b = Dd) M σ) H1 H2 := ⟨fun b ob hb _ => s2 b ob hb, fun b hb z => by
    rcases z with (z | z) | z
    · exact .inl z
    · exact absurd z (sub b (liv_ne hb))
    · exact .inr z⟩
  have oD : Ok K (fun b => O b ∨ b = Dd) M ρ σ H2 := by
    refine ⟨fun b hb => ?_, o1.len, o1.non, fun j d' e n => ?_, fun j d' e mm => ?_, o1.inj, o1.lnk.same (fun b C dx fs e => s2 _ _ e) (fun _ _ _ _ _ z => .inl z)⟩
    · rcases hb with hb | hb
      · exact same_dom s2 (o1.o0 b hb)
      · rw [hb]
        exact not_none hD
    · obtain ⟨v, g1, g2⟩ := o1.val j d' e n
      exact ⟨v, g1, kp.rp _ _ g2⟩
    · obtain ⟨a, u, g2, g3, g4, g5⟩ := o1.own j d' e mm
      refine ⟨a, u, g2, s2 _ _ g3, fun z => ?_, g5.keep kp⟩
      rcases z with z | z
      · exact g4 z
      · exact sub a (not_none g3) z
  by_cases hlt : i < its.length
  · refine .inr ⟨wk.go _ H2 i ⟨kp, s2⟩ hlt, fun H' => Same H1 H' ∧ ∃ acc accD rest, H' Dd = some (.lst acc) ∧ RpL K (Av (fun b => O b ∨ b = Dd) M σ) H' accD acc ∧ lcGo (lcF c own tg cond elt ρ) (its.drop (i + 1)) = .ok rest ∧ accD ++ rest = r ∧ accD.length ≤ i + 1,
      fun H' hN => ⟨its.length - (i + 1), by omega, rfl, hlt, hN⟩, fun x H3 hy => ?_⟩
    have hd := List.getElem?_eq_getElem hlt
    obtain ⟨s3, rx⟩ := wk.yld _ H2 i x H3 _ ⟨kp, s2⟩ oD.dom hd hy
    rw [List.drop_eq_getElem_cons hlt, lcGo] at eg
    obtain ⟨ob, f1, eg⟩ := bind_ok eg
    obtain ⟨rest', f2, eg⟩ := bind_ok eg
    unfold lcF at f1
    split at f1
    · rename_i ρ' hb
      obtain ⟨t, t1, f1⟩ := bind_ok f1
      obtain ⟨bb, t2, f1⟩ := bind_ok f1
      have ow := (oD.ext s3).wipe (own := own) hownF
      have rxD : Rp K (Av (fun b => O b ∨ b = Dd) M (wipe σ own)) H3 its[i] x := by
        rw [av_wipe hown]
        exact rx
      refine ⟨_, _, _, ρ', ow, rxD, hb, fun σ' o' av' w' => ⟨?_, ?_⟩⟩
      · rw [w' own hslots]
        apply List.ext_getElem?
        intro j
        rw [wipe_get, wipe_get, wipe_length]
        by_cases hj : j ∈ own ∧ j < σ.length
        · rw [if_pos hj, if_pos hj]
        · rw [if_neg hj, if_neg hj]
      have av2 : Av (fun b => O b ∨ b = Dd) M σ' = Av (fun b => O b ∨ b = Dd) M σ := by rw [av', av_wipe hown]
      have s13 := s2.trans s3
      have hD3 : H3 Dd = some (.lst acc) := s3 _ _ hD
      unfold rTruth at t2
      split at t2
      · rename_i b0 ht
        cases t2
        refine ⟨_, ρ', t, bb, o', t1, ht, fun H4 s4 => ?_⟩
        have s14 := s13.trans s4
        cases bb with
        | true =>
          obtain ⟨y, y1, f1⟩ := bind_ok f1
          cases f1
          cases eg
          refine iteT ⟨_, ρ', y, o'.ext s4, y1, fun v H5 s5 r5 => ?_⟩
          have s15 := s14.trans s5
          have hD5 : H5 Dd = some (.lst acc) := s5 _ _ (s4 _ _ hD3)
          rw [av2] at r5
          have ra5 := same_rpl ((s3.trans s4).trans s5) ra
          have kD : Keep (Av (fun b => O b ∨ b = Dd) M σ) (Av (fun b => O b ∨ b = Dd) M σ) H5 (upd H5 Dd (.lst (acc ++ [v]))) := ⟨fun b ob hb nb => by
            rw [upd_ne (fun z => nb.1 (.inl (.inr z)))]
            exact hb, fun _ _ z => z⟩
          have hacc : acc.length < sizeLine := by
            rw [← ra.length]
            exact lim_lt (by omega)
          refine ⟨acc, hD5, hacc, fun b ob hb => ?_, acc ++ [v], accD ++ [y], rest', upd_same, kD.rpl _ _ (ra5.append (RpL.cons r5 RpL.nil)), f2, ?_, ?_⟩
          · rw [upd_ne (sub b (not_none hb))]
            exact s15 _ _ hb
          · rw [List.append_assoc]
            exact er
          · rw [List.length_append]
            show accD.length + 1 ≤ i + 1
            omega
        | false =>
          cases f1
          cases eg
          exact iteF ⟨s14, acc, accD, rest', s4 _ _ hD3, same_rpl (s3.trans s4) ra, f2, er, by omega⟩
      · exact nomatch t2
    · exact nomatch f1
  · have ei : i = its.length := by omega
    subst ei
    refine .inl ⟨wk.stop _ H2 ⟨kp, s2⟩, ?_⟩
    rw [List.drop_length, lcGo] at eg
    cases eg
    rw [List.append_nil] at er
    subst er
    refine q Dd acc H2 (s1.trans s2) (Same.free s1 nD) hD ?_
    exact Keep.rpl ⟨fun b ob hb _ => hb, fun b _ z => by
      rcases z with (z | z) | z
      · exact .inl (.inl z)
      · exact .inr z
      · exact .inl (.inr z)⟩ _ _ ra
theorem lc_lst {own : List Nat} {tg : Tg} {k : Src} {ss : List E} {cond elt : E} : ∀ ρ d, ev c (.lc own tg k ss cond elt) ρ = .ok d → ∃ ds, d = .lst ds := fun ρ d ee => by
  rw [ev] at ee
  obtain ⟨ds, e1, ee⟩ := bind_ok ee
  obtain ⟨its, e2, ee⟩ := bind_ok ee
  by_cases hl : its.length ≤ LIM
  · rw [if_pos hl] at ee
    obtain ⟨r, e3, ee⟩ := bind_ok ee
    exact ⟨r, (R.ok_inj ee).symm⟩
  · rw [if_neg hl] at ee
    exact nomatch ee
end
theorem new_items {O : Addr → Prop} {H : Hp} {K : PySem.W.Frag} {p : Addr} {ob : HO} {ds : List D} {vs : List V} (hp : H p = none) (r : RpL K O H ds vs) : RpL K (fun b => O b ∨ b = p) (upd H p ob) ds vs :=
  Keep.rpl (O := O) ⟨fun b o h _ => same_new hp b o h, fun b hb z => by
    rcases z with z | z
    · exact z
    · exact absurd hp (by rw [← z]; exact liv_ne hb)⟩ _ _ r
section
variable {X : Cx} {c : Cf} {M : List Nat}
theorem l_lcF {elt tg iter : Expr} {ifs : List Expr} {scope : Scope} {own : List (Str × Nat)} {pos : Pos} {tg' : Tg} {k : Src} {ss : List E} {cond elt' : E} (hc : X.calm = true) (hN : X.N.Nodup) (hi : PI X tg iter (tI false c X.K M k ss)) (ok : BlkOk X.N X.env.scope scope own)
    (hg : ∀ (s : Shared) (H : Hp) (C : Addr) (cl : List (Str × Addr)) (fp : List Addr), PG (X.blk s H scope (compEnvC scope cl C X.env) fp) tg (tG X.K M tg'))
    (ht : ∀ (s : Shared) (H : Hp) (C : Addr) (cl : List (Str × Addr)) (fp : List Addr), PTs (X.blk s H scope (compEnvC scope cl C X.env) fp) ifs (tT c X.K M cond))
    (he : ∀ (s : Shared) (H : Hp) (C : Addr) (cl : List (Str × Addr)) (fp : List Addr), PE (X.blk s H scope (compEnvC scope cl C X.env) fp) elt (tE c X.K M elt')) (hs : ∀ x, foldedSetIterable iter X.env x = pure x)
    (hown : ∀ i ∈ own.map (·.2), Nf M i) (hslots : ∀ i ∈ slots tg', i ∈ own.map (·.2)) : PE X (.ListComp elt [⟨tg, iter, ifs, 0⟩] scope pos) (tF c X.K M (.lc (own.map (·.2)) tg' k ss cond elt')) :=
  pe_imp (pe_lc hc hN hi ok hg ht he hs) fun σ H Q h => lc_read hown hslots h
theorem l_lstF {es : List Expr} {pos : Pos} {es' : List E} (h : PA X es (tEs c X.K M es')) : PE X (.List es pos) (tF c X.K M (.lst es')) := pe_imp (pe_lst h) fun σ H Q ⟨O, ρ, ds, o, ee, q⟩ => by
  rw [ev] at ee
  obtain ⟨xs, e1, ee⟩ := bind_ok ee
  obtain ⟨hl, e2⟩ := ok_ite ee
  cases e2
  exact ⟨O, ρ, _, o, e1, fun vs H1 s1 r1 => ⟨by rw [← r1.length]; exact lim_line hl, fun p hp => q p vs _ (s1.trans (same_new hp)) (Same.free s1 hp) upd_same (new_items hp r1)⟩⟩
theorem l_addF {a b : Expr} {a' b' : E} {pos : Pos} (ha : PE X a (tW c X.K M a')) (hb : PE X b (tW c X.K M b')) : PE X (.BinOp a .Add b pos) (tF c X.K M (.bin .Add a' b')) := pe_imp (pe_op op_catR ha hb) fun σ H Q ⟨O, ρ, ds, o, ee, q⟩ => by
  rw [ev] at ee
  obtain ⟨x, e1, ee⟩ := bind_ok ee
  obtain ⟨y, e2, ee⟩ := bind_ok ee
  refine ⟨O, ρ, x, o, e1, fun v H1 s1 r1 => ⟨O, ρ, y, o.ext s1, e2, fun w H2 s2 r2 => ?_⟩⟩
  rw [dBin] at ee
  unfold dAdd at ee
  split at ee
  · exact nomatch ee
  · obtain ⟨_, e⟩ := ok_ite ee
    exact nomatch e
  · obtain ⟨_, e⟩ := ok_ite ee
    exact nomatch e
  · obtain ⟨hl, e⟩ := ok_ite ee
    cases e
    obtain ⟨l1, vs, rfl, t1, g1⟩ := (same_rpw s2 r1).lst
    obtain ⟨l2, ws, rfl, t2, g2⟩ := r2.lst
    exact ⟨l1, l2, vs, ws, rfl, rfl, t1, t2, by rw [← g1.length, ← g2.length]; exact lim_line hl, fun p hp => q p _ _ ((s1.trans s2).trans (same_new hp)) (Same.free (s1.trans s2) hp) upd_same (new_items hp (g1.append g2))⟩
  · exact nomatch ee
  · exact nomatch ee
theorem l_mulF {a b : Expr} {a' b' : E} {pos : Pos} (ha : PE X a (tW c X.K M a')) (hb : PE X b (tW c X.K M b')) : PE X (.BinOp a .Mult b pos) (tF c X.K M (.bin .Mult a' b')) := pe_imp (pe_op op_repR ha hb) fun σ H Q ⟨O, ρ, ds, o, ee, q⟩ => by
  rw [ev] at ee
  obtain ⟨x, e1, ee⟩ := bind_ok ee
  obtain ⟨y, e2, ee⟩ := bind_ok ee
  refine ⟨O, ρ, x, o, e1, fun v H1 s1 r1 => ⟨O, ρ, y, o.ext s1, e2, fun w H2 s2 r2 => ?_⟩⟩
  rw [dBin] at ee
  unfold dMul at ee
  split at ee
  · obtain ⟨_, e⟩ := ok_ite ee
    exact nomatch e
  · obtain ⟨_, e⟩ := ok_ite ee
    exact nomatch e
  · obtain ⟨⟨h2, h3, h4⟩, e⟩ := ok_ite ee
    cases e
    obtain ⟨l1, vs, rfl, t1, g1⟩ := (same_rpw s2 r1).lst
    cases r2.int
    have hlen := g1.length
    exact ⟨l1, _, vs, rfl, rfl, t1, h4, h2, by omega, fun p hp => q p _ _ ((s1.trans s2).trans (same_new hp)) (Same.free (s1.trans s2) hp) upd_same (new_items hp (g1.rep _))⟩
  · obtain ⟨_, e⟩ := ok_ite ee
    exact nomatch e
  · exact nomatch ee
end
theorem rpl_strs {K : PySem.W.Frag} {O : Addr → Prop} {H : Hp} : ∀ {ds : List D} {vs : List V} {ss : List Str}, RpL K O H ds vs → strsOf ds = some ss → vs = ss.map V.str
  | [], vs, ss, h, e => by
    rw [RpL] at h
    cases e
    exact h
  | .str z :: r, vs, ss, h, e => by
    rw [RpL] at h
    obtain ⟨v, q, rfl, t, l⟩ := h
    rw [strsOf] at e
    cases hr : strsOf r with
    | none => rw [hr] at e; cases e
    | some ts =>
      rw [hr] at e
      cases e
      rw [Rp] at t
      subst t
      rw [rpl_strs l hr]
      rfl
  | .non :: _, _, _, _, e => nomatch e
  | .bl _ :: _, _, _, _, e => nomatch e
  | .int _ :: _, _, _, _, e => nomatch e
  | .ref _ :: _, _, _, _, e => nomatch e
  | .tup _ :: _, _, _, _, e => nomatch e
  | .lst _ :: _, _, _, _, e => nomatch e
theorem rpl_ofStrs {K : PySem.W.Frag} {O : Addr → Prop} {H : Hp} : ∀ ss : List Str, RpL K O H (ss.map D.str) (ss.map V.str)
  | [] => RpL.nil
  | s :: ss => RpL.cons rp_str (rpl_ofStrs ss)
def mthName : Mth → Str
  | .join => "join"
  | .split => "split"
  | .index => "index"
theorem mth_str {m : Mth} {x : D} {ys : List D} {d : D} (h : dMth m x ys = .ok d) : ∃ a, x = .str a := by
  cases x with
  | str a => exact ⟨a, rfl⟩
  | _ => exact nomatch h
section
variable {X : Cx} {c : Cf} {M : List Nat}
theorem l_mth_of {m : Mth} {id : String} {r : V → List V → Hp → VK → Prop} {o : Expr} {es : List Expr} {o' : E} {es' : List E} {q0 : Expr} (h : PE X q0 (tBM X.K "str" r (tW c X.K M o') (tWs c X.K M es')))
    (hr : ∀ (O : Addr → Prop) (H : Hp) (a : Str) (ys : List D) (vs : List V) (d : D) (Q : VK), (∀ b, O b → H b ≠ none) → RpWL X.K O H ys vs → dMth m (.str a) ys = .ok d → (∀ u H', Same H H' → Rp X.K O H' d u → Q u H') → r (.str a) vs H Q) : PE X q0 (tE c X.K M (.mth m o' es')) := pe_imp h fun σ H Q ⟨O, ρ, d, ok, ee, q⟩ => by
  rw [ev] at ee
  obtain ⟨x, e1, ee⟩ := bind_ok ee
  obtain ⟨ys, e2, ee⟩ := bind_ok ee
  obtain ⟨a, rfl⟩ := mth_str ee
  refine ⟨O, ρ, _, ok, e1, fun v H1 s1 r1 => ?_⟩
  cases r1.str
  exact ⟨rfl, O, ρ, ys, ok.ext s1, e2, fun vs H2 s2 r2 => hr _ H2 a ys vs d Q ((ok.ext s1).ext s2).dom r2 ee fun u H3 s3 r3 => q u H3 ((s1.trans s2).trans s3) r3⟩
theorem l_mth {m : Mth} {o e : Expr} {es : List Expr} {o' : E} {es' : List E} {apos cpos : Pos} (ho : PE X o (tW c X.K M o')) (ha : PA X (e :: es) (tWs c X.K M es')) (hbase : attributeBase o (mthName m) X.env (eval o X.env) = eval o X.env)
    (hfew : ((backTo cpos (starEach (e :: es) X.env)).all (fun x => !x.1) && (backToKw cpos (keywordEach [] X.env)).all (fun x => x.1.isSome) && decide ((e :: es).length + ([] : List Keyword).length + (if ([] : List Keyword).isEmpty then 0 else 1) < 30)) = true)
    (hline : (apos.endLine == cpos.line) = true) (hs : starEach (e :: es) X.env = (false, eval e X.env) :: starEach es X.env) (hplain : (backTo cpos (starEach es X.env)).any (·.1) = false) : PE X (.Call (.Attribute o (mthName m) apos) (e :: es) [] cpos) (tE c X.K M (.mth m o' es')) := by
  cases m with
  | join =>
    refine l_mth_of (m := .join) (id := "str.join") (o := o) (es := es) (pe_bm PySem.F.plainAttrs_str PySem.F.slot_str_join PySem.F.type_str_join mt_join ho ha hbase hfew hline hs hplain) ?_
    intro O H a ys vs d Q hO hx he q
    have he : dJoin a ys = .ok d := he
    unfold dJoin at he
    split at he
    · obtain ⟨v, rfl, r1⟩ := rpwl_one hx
      split at he
      · rename_i ss hss
        obtain ⟨hl, e⟩ := ok_ite he
        cases e
        obtain ⟨p, us, rfl, t, l⟩ := r1.lst
        have e := rpl_strs l hss
        subst e
        exact ⟨_, p, ss, rfl, rfl, .inl (.inl t), Nat.le_trans hl (show LIM ≤ 16777216 by decide), q _ H (Same.refl H) rp_str⟩
      · exact nomatch he
    · exact nomatch he
  | split =>
    refine l_mth_of (m := .split) (id := "str.split") (o := o) (es := es) (pe_bm PySem.F.plainAttrs_str PySem.F.slot_str_split PySem.F.type_str_split mt_split ho ha hbase hfew hline hs hplain) ?_
    intro O H a ys vs d Q hO hx he q
    have he : dSplit a ys = .ok d := he
    unfold dSplit at he
    split at he
    · obtain ⟨v, rfl, r1⟩ := rpwl_one hx
      cases r1.str
      obtain ⟨⟨h1, h2⟩, e⟩ := ok_ite he
      cases e
      exact ⟨_, _, rfl, rfl, h1, Nat.le_trans (Nat.add_le_add_right h2 2) (show LIM + 2 ≤ sizeLine by decide), fun p hp => q _ _ (same_new hp) (new_lst hp hO (rpl_ofStrs _))⟩
    · exact nomatch he
  | index =>
    refine l_mth_of (m := .index) (id := "str.index") (o := o) (es := es) (pe_bm PySem.F.plainAttrs_str PySem.F.slot_str_index PySem.F.type_str_index mt_sindex ho ha hbase hfew hline hs hplain) ?_
    intro O H a ys vs d Q hO hx he q
    have he : dIndex a ys = .ok d := he
    unfold dIndex at he
    split at he
    · obtain ⟨v, rfl, r1⟩ := rpwl_one hx
      cases r1.str
      split at he
      · rename_i i rest hi
        cases he
        exact ⟨_, _, i, rest, rfl, rfl, hi, q _ H (Same.refl H) rp_int⟩
      · exact nomatch he
    · exact nomatch he
theorem insU_mem {x k : Int} : ∀ l : List Int, k ∈ insU x l ↔ k = x ∨ k ∈ l
  | [] => by simp [insU]
  | y :: r => by
    rw [insU]
    split
    · simp
    · split
      · rename_i h
        subst h
        simp
      · rw [List.mem_cons, insU_mem r, List.mem_cons]
        constructor
        · rintro (h | h | h)
          · exact .inr (.inl h)
          · exact .inl h
          · exact .inr (.inr h)
        · rintro (h | h | h)
          · exact .inr (.inl h)
          · exact .inl h
          · exact .inr (.inr h)
theorem insU_lt {x : Int} : ∀ l : List Int, l.Pairwise (· < ·) → (insU x l).Pairwise (· < ·)
  | [], _ => by simp [insU]
  | y :: r, h => by
    have h' := List.pairwise_cons.mp h
    rw [insU]
    split
    · rename_i hxy
      refine List.pairwise_cons.mpr ⟨fun z hz => ?_, h⟩
      rcases List.mem_cons.mp hz with rfl | hz
      · exact hxy
      · have := h'.1 z hz
        omega
    · split
      · exact h
      · rename_i h1 h2
        refine List.pairwise_cons.mpr ⟨fun z hz => ?_, insU_lt r h'.2⟩
        rcases (insU_mem r).mp hz with rfl | hz
        · omega
        · exact h'.1 z hz
theorem srtU_mem {k : Int} : ∀ l : List Int, k ∈ srtU l ↔ k ∈ l
  | [] => by simp [srtU]
  | x :: r => by rw [srtU, insU_mem, srtU_mem r, List.mem_cons]
theorem srtU_lt : ∀ l : List Int, (srtU l).Pairwise (· < ·)
  | [] => by simp [srtU]
  | x :: r => insU_lt _ (srtU_lt r)
theorem lt_nodup {l : List Int} (h : l.Pairwise (· < ·)) : l.Nodup := h.imp fun {a b} z e => by
  subst e
  exact absurd z (Int.lt_irrefl _)
theorem srtU_eq {ns l : List Int} (h1 : l.Pairwise (· < ·)) (h2 : ∀ k, k ∈ l ↔ decide (k ∈ ns) = true) : l = srtU ns := by
  refine List.Perm.eq_of_pairwise (le := fun x y : Int => x < y) (fun a b _ _ x y => absurd (Int.lt_trans x y) (Int.lt_irrefl _)) h1 (srtU_lt ns) ((List.perm_ext_iff_of_nodup (lt_nodup h1) (lt_nodup (srtU_lt ns))).mpr fun k => ?_)
  rw [h2 k, srtU_mem, decide_eq_true_eq]
def rSetT (K : PySem.W.Frag) (w : World) : List V → Hp → VK → Prop := fun xs H Q => ∃ (l : Addr) (ns : List Int), xs = [.ref l] ∧ SqT K H l (ns.map V.int) ∧ ns.length < 64 ∧ ∀ p k, k ≤ ns.length → H p = none → Q (.ref p) (upd H p (SetO w p (fun j => decide (j ∈ ns)) k))
theorem cr_setT (hc : X.calm = true) : CallR X (.type "set") (rSetT X.K X.w) := by
  intro pins s σ H xs us Q I r h
  obtain ⟨l, ns, rfl, hT, hlen, q⟩ := h
  rw [Vals.ref1 r]
  obtain ⟨its, rv, ht, _⟩ := I.tuple hT
  refine call_set_tupI (items := its.toArray) ns (I.ok.hd hc) ht (by rw [List.toList_toArray]; exact rv.ints) (by unfold scanBound; omega) fun h' tk k R hk kp => ?_
  exact ⟨.ref _, upd H s.heap.objs.size (SetO X.w s.heap.objs.size (fun j => decide (j ∈ ns)) k), I.laid (t' := tk) kp (Nat.le_refl _) (setO_new R), rfl, q _ k hk (I.hok.fresh (Nat.le_refl _))⟩
def rLenSet (w : World) : List V → Hp → VK → Prop := fun vs H Q => ∃ (a : Addr) (S : Int → Bool) (n : Nat), vs = [.ref a] ∧ H a = some (SetO w a S n) ∧ n < 64 ∧ ∀ ks : List Int, ks.Nodup → (∀ k, k ∈ ks ↔ S k = true) → Q (.int (ks.length : Nat)) H
theorem cr_lenSet : CallR X (.builtin "len") (rLenSet X.w) := by
  intro pins s σ H vs us Q I r h
  obtain ⟨a, S, n, rfl, ha, hn, q⟩ := h
  rw [Vals.ref1 r]
  obtain ⟨o, es, ep, t, ho, hx, hd, g, nd, hm, hb, hf, hsz, _⟩ := setO_get I ha
  refine call_len_set ho hx hd hf (by omega) ⟨.int es.size, H, I.tok _, ⟨_, rfl⟩, ?_⟩
  have := q (es.toList.map keyOf) nd fun k => (hm k).symm
  rw [List.length_map, Array.length_toList] at this
  exact this
theorem l_set {a : Expr} {a' f : E} {g : D → R D} {q0 : Expr} {r rs : List V → Hp → VK → Prop} (h : PE X q0 (tCB r (tCons (tCB rs (tWs c X.K M [a'])) tNil))) (he : ∀ ρ, ev c f ρ = (ev c a' ρ).bind g)
    (hg : ∀ (O : Addr → Prop) (H : Hp) (x : D) (v : V) (d : D) (Q : VK), (∀ b, O b → H b ≠ none) → RpW X.K O H x v → g x = .ok d → (∀ u H', Same H H' → Rp X.K O H' d u → Q u H') → rs [v] H fun w H' => r [w] H' Q) : PE X q0 (tE c X.K M f) := pe_imp h fun σ H Q ⟨O, ρ, d, ok, ee, q⟩ => by
  rw [he] at ee
  obtain ⟨x, e1, ee⟩ := bind_ok ee
  refine ⟨O, ρ, [x], ok, by rw [evs, e1]; rfl, fun vs H1 s1 r1 => ?_⟩
  obtain ⟨v, rfl, r2⟩ := rpwl_one r1
  exact hg _ H1 x v d Q (ok.ext s1).dom r2 ee fun u H2 s2 r3 => q u H2 (s1.trans s2) r3
theorem set_call (hc : X.calm = true) (hu : X.A.units + 4 < cLine) : CallR X (.type "set") (fun xs H Q => rSetT X.K X.w xs H Q ∨ Ls.rSetL X.K X.w xs H Q ∨ Ls.rSetS X.prog X.w xs H Q ∨ Ls.rSetR X.K xs H Q) :=
  callR_or (cr_setT hc) (callR_or (Ls.cr_setL hc) (callR_or (Ls.cr_setS hc) (Ls.cr_setR hc hu)))
theorem sorted_call (hc : X.calm = true) : CallR X (.builtin "sorted") (fun xs H Q => rSortedSet X.w xs H Q ∨ Ls.rSortedSetS X.prog X.w xs H Q) := callR_or (cr_sortedSet hc) (Ls.cr_sortedSetS hc)
theorem len_call : CallR X (.builtin "len") (fun xs H Q => rLenSet X.w xs H Q ∨ Ls.rLenN xs H Q) := callR_or cr_lenSet Ls.cr_lenN
theorem l_sst {a : Expr} {a' : E} {p p2 q1 pos : Pos} {k : Nat} (hr : Room k X.A) (hc : X.calm = true) (hg : Gl X "sorted") (hm : X.mg "sorted" = none) (hg2 : Gl X "set") (hm2 : X.mg "set" = none) (ha : PA X [a] (tWs c X.K M [a'])) (hs : starEach [a] X.env = [(false, eval a X.env)]) : PE X (.Call (.Name "sorted" p) [.Call (.Name "set" p2) [a] [] q1] [] pos) (tE c X.K M (.sst a')) := by
  have inner := pe_callTy (pos := q1) (p := p2) (x := "set") (set_call hc (by have := hr.un; omega)) hg2 hm2 (by decide +kernel) ha (by decide +kernel) (by decide +kernel) hs rfl
  refine l_set (a := a) (pe_callB (sorted_call hc) hg hm (by decide +kernel) (pa_cons inner pa_nil rfl) (by decide +kernel) (by decide +kernel) rfl rfl) (fun ρ => by rw [ev]) fun O H x v d Q hO rv h q => ?_
  unfold dSst at h
  split at h
  · rename_i xs
    split at h
    · rename_i ns hi
      obtain ⟨hl, e⟩ := ok_ite h
      cases e
      obtain ⟨l, us, rfl, t, rl⟩ := rv.tup
      have e := rpl_ints rl hi
      subst e
      refine .inl ⟨l, ns, rfl, t.sq, hl, fun p k hk hp => .inl ⟨p, _, k, rfl, upd_same, by omega, fun l2 p' h1 h2 _ hp' => ?_⟩⟩
      rw [srtU_eq h1 h2]
      have s1 : Same H (upd H p (SetO X.w p (fun j => decide (j ∈ ns)) k)) := same_new hp
      exact q _ _ (s1.trans (same_new hp')) (new_lst hp' (fun b hb => same_dom s1 (hO b hb)) (rpl_mi _))
    · exact nomatch h
  · rename_i xs
    split at h
    · rename_i ns hi
      obtain ⟨⟨hl, hl2⟩, e⟩ := ok_ite h
      cases e
      obtain ⟨l, us, rfl, t, rl⟩ := rv.lst
      have e := rpl_ints rl hi
      subst e
      refine .inr (.inl ⟨l, ns, rfl, .inl t, by unfold scanBound; omega, fun p k hp hk => .inl ⟨p, _, k, rfl, upd_same, ?_, fun l2 p' h1 h2 _ hp' => ?_⟩⟩)
      · rw [hk _ (lt_nodup (srtU_lt ns)) fun z => srtU_mem ns]
        exact hl2
      · rw [srtU_eq h1 h2]
        have s1 : Same H (upd H p (SetO X.w p (fun j => decide (j ∈ ns)) k)) := same_new hp
        exact q _ _ (s1.trans (same_new hp')) (new_lst hp' (fun b hb => same_dom s1 (hO b hb)) (rpl_mi _))
    · exact nomatch h
  · rename_i s
    obtain ⟨hl, e⟩ := ok_ite h
    cases e
    cases rv.str
    refine .inr (.inr (.inl ⟨s, rfl, by unfold scanBound; omega, fun p hp => .inr ⟨p, _, rfl, upd_same, by unfold Ls.sgs; rw [List.length_reverse, List.length_map, Array.length_toList]; exact hl, fun ss p' h1 h2 h3 hp' => ?_⟩⟩))
    obtain ⟨is, e, g1, g2⟩ := Ls.sorted_sgs h1 h2 h3
    rw [srtU_eq g1 fun k => (g2 k).trans decide_eq_true_iff.symm] at e
    have s1 : Same H (upd H p (Ls.SetSO X.prog X.w p (Ls.sgs s))) := same_new hp
    refine q _ _ (s1.trans (same_new hp')) (new_lst hp' (fun b hb => same_dom s1 (hO b hb)) ?_)
    rw [e, List.map_map]
    have := rpl_ofStrs (K := X.K) (O := O) (H := upd H p (Ls.SetSO X.prog X.w p (Ls.sgs s))) ((srtU (s.cps.toList.map Int.ofNat)).map Ls.sgI)
    rw [List.map_map, List.map_map] at this
    exact this
  · exact nomatch h
def rRpr (K : PySem.W.Frag) : List V → Hp → VK → Prop := fun vs H Q => ∃ (a : Addr) (d : PyData), vs = [V.ref a] ∧ Dp K H (V.ref a) d ∧ d.showable = true ∧ d.hasDict = false ∧ d.depth ≤ 20 ∧ d.shown.length ≤ sizeLine ∧ Q (.str d.shown) H
theorem cr_repr {k : Nat} (hg : X.A.guards = some []) (hr : Room k X.A) : CallR X (.builtin "repr") (rRpr X.K) := by
  intro pins s σ H vs us Q I r h
  obtain ⟨a, d, rfl, hd, h1, h2, h3, h4, q⟩ := h
  rw [Vals.ref1 r]
  obtain ⟨as, r1⟩ := Dp.reads I d (V.ref a) (.ref a) hd rfl
  exact repr_of_reads' r1 h1 (PyData.noDict_hsm h2) hg (by have := hr.un; omega) (fun _ _ e => e) (fun h' u tk hk => ⟨.str d.shown, H, I.kept hk, ⟨_, rfl⟩, q⟩) h4
theorem l_rpr {a : Expr} {a' : E} {p pos : Pos} {k : Nat} (hgd : X.A.guards = some []) (hr : Room k X.A) (hg : Gl X "repr") (hm : X.mg "repr" = none) (ha : PA X [a] (tWs c X.K M [a'])) (hs : starEach [a] X.env = [(false, eval a X.env)]) : PE X (.Call (.Name "repr" p) [a] [] pos) (tE c X.K M (.rpr a')) :=
  pe_imp (pe_callB (cr_repr hgd hr) hg hm (by decide +kernel) ha (by decide +kernel) (by decide +kernel) hs rfl) fun σ H Q ⟨O, ρ, d, ok, ee, q⟩ => by
  rw [ev] at ee
  obtain ⟨x, e1, ee⟩ := bind_ok ee
  unfold dRpr at ee
  obtain ⟨hk, e⟩ := ok_ite ee
  cases e
  refine ⟨O, ρ, [x], ok, by rw [evs, e1]; rfl, fun vs H1 s1 r1 => ?_⟩
  obtain ⟨v, rfl, r2⟩ := rpwl_one r1
  cases x with
  | tup xs =>
    simp only [rpOk, Bool.and_eq_true, decide_eq_true_eq, Bool.not_eq_true'] at hk
    obtain ⟨⟨⟨⟨k1, k2⟩, k3⟩, k4⟩, k5⟩ := hk
    have hd := r2.dp k1
    obtain ⟨b, us, rfl, _, _⟩ := r2.tup
    exact ⟨b, _, rfl, hd, k2, k3, k4, Nat.le_trans k5 (by decide), q _ H1 s1 rp_str⟩
  | _ => exact nomatch hk
theorem rows_rl {K : PySem.W.Frag} {O : Addr → Prop} {H : Hp} : ∀ {xs : List D} {us : List V} {rs : List (List Int)}, RpL K O H xs us → rowsOf xs = some rs → ∃ L : List (Addr × List Int), us = L.map (fun p => V.ref p.1) ∧ L.map (·.2) = rs ∧ ∀ p ∈ L, SqT K H p.1 (p.2.map V.int)
  | [], us, rs, r, e => by
    rw [RpL] at r
    subst r
    cases e
    exact ⟨[], rfl, rfl, fun p hp => nomatch hp⟩
  | d :: xs, us, rs, r, e => by
    rw [RpL] at r
    obtain ⟨v, r', rfl, t, l⟩ := r
    cases d with
    | tup ds =>
      rw [rowsOf] at e
      split at e
      · rename_i ns rs' e1 e2
        cases e
        obtain ⟨L, h1, h2, h3⟩ := rows_rl l e2
        obtain ⟨a, ws, rfl, ta, tl⟩ := t.w.tup
        have := rpl_ints tl e1
        subst this
        refine ⟨(a, ns) :: L, by rw [h1, List.map_cons], by rw [List.map_cons, h2], fun p hp => ?_⟩
        rcases List.mem_cons.mp hp with z | z
        · subst z
          exact ta.sq
        · exact h3 p z
      · exact nomatch e
    | _ => exact nomatch e
theorem l_lss {a : Expr} {a' : E} {p p2 q1 pos : Pos} {k : Nat} (hr : Room k X.A) (hc : X.calm = true) (hg : Gl X "len") (hm : X.mg "len" = none) (hg2 : Gl X "set") (hm2 : X.mg "set" = none) (ha : PA X [a] (tWs c X.K M [a'])) (hs : starEach [a] X.env = [(false, eval a X.env)]) : PE X (.Call (.Name "len" p) [.Call (.Name "set" p2) [a] [] q1] [] pos) (tE c X.K M (.lss a')) := by
  have inner := pe_callTy (pos := q1) (p := p2) (x := "set") (set_call hc (by have := hr.un; omega)) hg2 hm2 (by decide +kernel) ha (by decide +kernel) (by decide +kernel) hs rfl
  refine l_set (a := a) (pe_callB len_call hg hm (by decide +kernel) (pa_cons inner pa_nil rfl) (by decide +kernel) (by decide +kernel) rfl rfl) (fun ρ => by rw [ev]) fun O H x v d Q hO rv h q => ?_
  unfold dLss at h
  split at h
  · rename_i xs
    split at h
    · rename_i ns hi
      obtain ⟨hl, e⟩ := ok_ite h
      cases e
      obtain ⟨l, us, rfl, t, rl⟩ := rv.tup
      have e := rpl_ints rl hi
      subst e
      refine .inl ⟨l, ns, rfl, t.sq, hl, fun p k hk hp => .inl ⟨p, _, k, rfl, upd_same, by omega, fun ks h1 h2 => ?_⟩⟩
      have e : ks.length = (srtU ns).length := ((List.perm_ext_iff_of_nodup h1 (lt_nodup (srtU_lt ns))).mpr fun z => by rw [h2 z, srtU_mem, decide_eq_true_eq]).length_eq
      rw [e]
      exact q _ _ (same_new hp) rp_int
    · exact nomatch h
  · rename_i xs
    split at h
    · rename_i rs hi
      obtain ⟨⟨hl, hn⟩, e⟩ := ok_ite h
      cases e
      obtain ⟨l, us, rfl, t, rl⟩ := rv.lst
      obtain ⟨L, e1, e2, e3⟩ := rows_rl rl hi
      subst e1
      have hL : L.length = rs.length := by rw [← e2, List.length_map]
      refine .inr (.inr (.inr ⟨l, L, rfl, .inl t, e3, by rw [hL]; exact hl, by rw [e2]; exact hn, fun p hp => .inr ⟨p, _, rfl, upd_same, by omega, ?_⟩⟩))
      rw [hL]
      exact q _ _ (same_new hp) rp_int
    · exact nomatch h
  · exact nomatch h
def DEnt (K : PySem.W.Frag) : Option Value → Option D → Prop
  | none, none => True
  | some u, some d => ∃ v, RelV v u ∧ ∀ O H, Rp K O H d v
  | _, _ => False
theorem l_rpl {o : Expr} {o' : E} {x y a b : Str} {t u : Tok} {p1 p2 apos cpos : Pos} (ho : PE X o (tW c X.K M o')) (hg1 : Gl X x) (hg2 : Gl X y) (h1 : X.mg x = some (.str a t)) (h2 : X.mg y = some (.str b u)) (ht : t ≠ 0) (hu : u ≠ 0) (htu : t ≠ u)
    (e1 : c.glb.lookup x = some (.str a)) (e2 : c.glb.lookup y = some (.str b)) (d1 : (x == ("__debug__" : Str)) = false) (d2 : (y == ("__debug__" : Str)) = false) (hbase : attributeBase o "replace" X.env (eval o X.env) = eval o X.env) (hline : (apos.endLine == cpos.line) = true) : PE X (.Call (.Attribute o "replace" apos) [.Name x p1, .Name y p2] [] cpos) (tE c X.K M (.rpl o' x y)) := by
  refine ⟨fun pins s σ H Q I ⟨O, ρ, d, ok, ee, q⟩ => ?_⟩
  rw [ev, e1, e2] at ee
  obtain ⟨v, ev1, ee⟩ := bind_ok ee
  cases v with
  | str z =>
    obtain ⟨⟨g1, g2, g3⟩, e⟩ := ok_ite ee
    cases e
    refine PySem.Call_method2 hbase rfl hline (thn (ho.run pins s σ H (fun v H1 => v = .str z ∧ Same H H1) I ⟨O, ρ, _, ok, ev1, fun v H1 s1 r1 => ⟨r1.str, s1⟩⟩) fun v s1 ⟨x1, H1, I1, r1, q1, s1'⟩ => ?_)
    subst q1
    obtain ⟨tz, rfl⟩ := r1
    refine ⟨"str", _, PySem.F.plainAttrs_str, PySem.F.slot_str_replace, PySem.F.type_str_replace, typeIs_str _ _ _, (fun _ e => nomatch e), Calls.callWith_builtin rfl (Calls.evalArgs_plain (Calls.spliced_cons ?_))⟩
    refine ld_glob I1 hg1 h1 (Calls.spliced_cons (ld_glob I1 hg2 h2 (Calls.spliced_nil ?_) d2)) d1
    refine PySem.SC.replace ht hu htu g1 ?_ fun t' k => ⟨.str (Txt.replace z a b), H1, I1.tok k, ⟨t', rfl⟩, q _ H1 s1' rp_str⟩
    have h3 : (z.length + 1) * b.length ≤ (1000000 + 1) * 14 := Nat.mul_le_mul (Nat.add_le_add_right g2 1) g3
    have h4 : z.length ≤ 1000000 := g2
    omega
  | _ => exact nomatch ee
theorem l_kin {a : Expr} {a' : E} {x : Str} {kvs : List (Str × D)} {dd : Addr} {es : Array DictEntry} {m : Nat} {neg : Bool} {px pos : Pos} (ha : PE X a (tW c X.K M a')) (hg : Gl X x) (hm : X.mg x = some (.ref dd)) (DD : KDict X.K X.w dd es m) (e1 : c.dct.lookup x = some kvs)
    (hent : ∀ z, ∃ r, PySem.W.nsIn X.K dd z = some r ∧ DEnt X.K r (kvs.lookup z)) (d1 : (x == ("__debug__" : Str)) = false) : PE X (.Compare a [if neg = true then .NotIn else .In] [.Name x px] pos) (tE c X.K M (.kin neg a' x)) := by
  have hx : PE X (.Name x px) (tC (.ref dd)) := pe_glob hg hm rfl d1
  have hs : ∀ z r, DEnt X.K r (kvs.lookup z) → r.isSome = (kvs.lookup z).isSome := fun z r h => by
    cases r <;> cases hk : kvs.lookup z <;> rw [hk] at h <;> first | rfl | exact h.elim
  cases neg with
  | true =>
    refine pe_imp (pe_cmpR (op_notIn_kd DD) ha hx rfl) fun σ H Q ⟨O, ρ, d, ok, ee, q⟩ => ?_
    rw [ev, e1] at ee
    obtain ⟨v, ev1, ee⟩ := bind_ok ee
    refine ⟨O, ρ, v, ok, ev1, fun w H1 s1 r1 => ?_⟩
    cases v with
    | str z =>
      cases ee
      cases r1.str
      obtain ⟨r, h1, h2⟩ := hent z
      refine ⟨z, r, rfl, rfl, h1, ?_⟩
      rw [hs z r h2]
      exact q _ H1 s1 rp_bl
    | _ => exact nomatch ee
  | false =>
    refine pe_imp (pe_cmpR (op_in_kd DD) ha hx rfl) fun σ H Q ⟨O, ρ, d, ok, ee, q⟩ => ?_
    rw [ev, e1] at ee
    obtain ⟨v, ev1, ee⟩ := bind_ok ee
    refine ⟨O, ρ, v, ok, ev1, fun w H1 s1 r1 => ?_⟩
    cases v with
    | str z =>
      cases ee
      cases r1.str
      obtain ⟨r, h1, h2⟩ := hent z
      refine ⟨z, r, rfl, rfl, h1, ?_⟩
      rw [hs z r h2]
      exact q _ H1 s1 rp_bl
    | _ => exact nomatch ee
theorem l_kinT {a : Expr} {a' : E} {x : Str} {kvs : List (Str × D)} {dd : Addr} {es : Array DictEntry} {m : Nat} {neg : Bool} {px pos : Pos} (ha : PE X a (tW c X.K M a')) (hg : Gl X x) (hm : X.mg x = some (.ref dd)) (DD : KDict X.K X.w dd es m) (e1 : c.dct.lookup x = some kvs)
    (hent : ∀ z, ∃ r, PySem.W.nsIn X.K dd z = some r ∧ DEnt X.K r (kvs.lookup z)) (d1 : (x == ("__debug__" : Str)) = false) : PT X (.Compare a [if neg = true then .NotIn else .In] [.Name x px] pos) (tT c X.K M (.kin neg a' x)) := by
  have hx : PE X (.Name x px) (tC (.ref dd)) := pe_glob hg hm rfl d1
  have hs : ∀ z r, DEnt X.K r (kvs.lookup z) → r.isSome = (kvs.lookup z).isSome := fun z r h => by
    cases r <;> cases hk : kvs.lookup z <;> rw [hk] at h <;> first | rfl | exact h.elim
  cases neg with
  | true =>
    refine pt_imp (pt_cmpR (op_notIn_kd DD) ha hx rfl) fun σ H Q ⟨O, ρ, d, b, ok, ee, et, q⟩ => ?_
    rw [ev, e1] at ee
    obtain ⟨v, ev1, ee⟩ := bind_ok ee
    refine ⟨O, ρ, v, ok, ev1, fun w H1 s1 r1 => ?_⟩
    cases v with
    | str z =>
      cases ee
      cases et
      cases r1.str
      obtain ⟨r, h1, h2⟩ := hent z
      refine ⟨z, r, rfl, rfl, h1, _, rfl, ?_⟩
      rw [hs z r h2]
      exact q H1 s1
    | _ => exact nomatch ee
  | false =>
    refine pt_imp (pt_cmpR (op_in_kd DD) ha hx rfl) fun σ H Q ⟨O, ρ, d, b, ok, ee, et, q⟩ => ?_
    rw [ev, e1] at ee
    obtain ⟨v, ev1, ee⟩ := bind_ok ee
    refine ⟨O, ρ, v, ok, ev1, fun w H1 s1 r1 => ?_⟩
    cases v with
    | str z =>
      cases ee
      cases et
      cases r1.str
      obtain ⟨r, h1, h2⟩ := hent z
      refine ⟨z, r, rfl, rfl, h1, _, rfl, ?_⟩
      rw [hs z r h2]
      exact q H1 s1
    | _ => exact nomatch ee
theorem ix_kd {dd : Addr} {es : Array DictEntry} {m : Nat} (DD : KDict X.K X.w dd es m) : IxR X (fun x y H Q => ∃ (z : Str) (u0 : Value) (v0 : V), x = .ref dd ∧ y = .str z ∧ PySem.W.nsIn X.K dd z = some (some u0) ∧ RelV v0 u0 ∧ Q v0 H) := by
  intro value slice pins s σ H x y v u Q I rx ry h hs
  have hx : x = .ref dd := by
    obtain ⟨_, _, _, e, _⟩ := h
    exact e
  subst hx
  have hv : v = .ref dd := rx
  subst hv
  exact tail_any (ops := [.ref dd, u]) (kd_type DD I) (PySem.F.slot_dict_getitem.lookup) (op_item_kd DD pins s σ H _ _ _ _ Q I rx ry h) hs
theorem l_kget {a : Expr} {a' : E} {x : Str} {kvs : List (Str × D)} {dd : Addr} {es : Array DictEntry} {m : Nat} {px pos : Pos} (ha : PE X a (tW c X.K M a')) (hg : Gl X x) (hm : X.mg x = some (.ref dd)) (DD : KDict X.K X.w dd es m) (e1 : c.dct.lookup x = some kvs)
    (hent : ∀ z, ∃ r, PySem.W.nsIn X.K dd z = some r ∧ DEnt X.K r (kvs.lookup z)) (d1 : (x == ("__debug__" : Str)) = false) (hs : PlainIx a) : PE X (.Subscript (.Name x px) a pos) (tE c X.K M (.kget x a')) := by
  have hx : PE X (.Name x px) (tC (.ref dd)) := pe_glob hg hm rfl d1
  refine pe_imp (pe_ix (ix_kd DD) hx ha hs) fun σ H Q ⟨O, ρ, d, ok, ee, q⟩ => ?_
  rw [ev, e1] at ee
  obtain ⟨v, ev1, ee⟩ := bind_ok ee
  refine ⟨O, ρ, v, ok, ev1, fun w H1 s1 r1 => ?_⟩
  cases v with
  | str z =>
    cases r1.str
    obtain ⟨r, h1, h2⟩ := hent z
    unfold dKget at ee
    dsimp only at ee
    cases hk : kvs.lookup z with
    | none => rw [hk] at ee; exact nomatch ee
    | some d' =>
      rw [hk] at ee h2
      cases ee
      cases r with
      | none => exact h2.elim
      | some u0 =>
        obtain ⟨v0, r0, rp0⟩ := h2
        exact ⟨z, u0, v0, rfl, rfl, h1, r0, q _ H1 s1 (rp0 _ _)⟩
  | _ => exact nomatch ee
end
end LC

set_option Elab.async false
set_option linter.all false
set_option maxRecDepth 100000
set_option maxHeartbeats 1000000
namespace LC
open PySem PySem.Spec PyProof.Rows L2

structure OkS (K : PySem.W.Frag) (O : Addr → Prop) (G : Hp) (M : List Nat) (ρ : Rho) (σ : L2.St) (H : Hp) : Prop where
  ok : Ok K O M ρ σ H
  same : Same G H
  fresh : ∀ i ∈ M, ∀ a, σ[i]? = some (some (.ref a)) → G a = none
  frl : ∀ m ∈ M, ∀ q i g, lkOf m = some (q, i, g) → ∀ a, σ[i]? = some (some (.ref a)) → G a = none

section
variable {K : PySem.W.Frag} {O O' O2 : Addr → Prop} {G H H' H2 : Hp} {M M' : List Nat} {ρ ρ' : Rho} {σ σ' : L2.St} {d : D} {v : V}
theorem Keep.refl : Keep O O H H := ⟨fun _ _ h _ => h, fun _ _ h => h⟩
theorem Keep.trans (a : Keep O O' H H') (b : Keep O' O2 H' H2) : Keep O O2 H H2 := by
  refine ⟨fun x o h n => b.heap x o (a.heap x o h n) ⟨fun z => n.1 (a.own x ⟨o, h, n.2⟩ z), n.2⟩, fun x h z => ?_⟩
  by_cases ho : O x
  · exact ho
  · obtain ⟨o, q, nt⟩ := h
    exact a.own x ⟨o, q, nt⟩ (b.own x ⟨o, a.heap x o q ⟨ho, nt⟩, nt⟩ z)
theorem Keep.same (s : Same H H') (k : ∀ b, (∃ o, H b = some o ∧ NT o) → O' b → O b) : Keep O O' H H' := ⟨fun b o h _ => s b o h, k⟩
theorem av_sub (hs : ∀ i ∈ M', i ∈ M) : ∀ b, Av O M' σ b → Av O M σ b := fun b h => by
  rcases h with h | ⟨i, hi, e⟩
  · exact .inl h
  · exact .inr ⟨i, hs i hi, e⟩
theorem Ok.drop (h : Ok K O M ρ σ H) (hs : ∀ i ∈ M', i ∈ M) : Ok K O M' ρ σ H := by
  have kp : Keep (Av O M σ) (Av O M' σ) H H := ⟨fun b o e _ => e, fun b _ z => av_sub hs b z⟩
  refine ⟨h.o0, h.len, h.non, fun i d e n => ?_, fun i d e m => ?_, fun i j a hi hj => h.inj i j a (hs i hi) (hs j hj), h.lnk.sub fun m hm => .inr (hs m hm)⟩
  · by_cases hm : i ∈ M
    · obtain ⟨a, u, e2, ha, ho, r⟩ := h.own i d e hm
      rcases r with ⟨vs, ds, rfl, rfl, r⟩ | ⟨s, kvs, rfl, _⟩
      · refine ⟨.ref a, e2, rp_lst ha (fun z => ?_) (kp.rpl _ _ r)⟩
        rcases z with z | ⟨j, hj, e3⟩
        · exact ho z
        · have := h.inj i j a hm (hs j hj) e2 e3
          subst this
          exact n hj
      · exact ⟨.ref a, e2, by rw [Rp]; exact ⟨a, rfl⟩⟩
    · obtain ⟨v, e2, r⟩ := h.val i d e hm
      exact ⟨v, e2, kp.rp _ _ r⟩
  · obtain ⟨a, u, e2, ha, ho, r⟩ := h.own i d e (hs i m)
    exact ⟨a, u, e2, ha, ho, r.keep kp⟩
theorem OkS.drop (h : OkS K O G M ρ σ H) (hs : ∀ i ∈ M', i ∈ M) : OkS K O G M' ρ σ H := ⟨h.ok.drop hs, h.same, fun i hi a e => h.fresh i (hs i hi) a e, fun m hm => h.frl m (hs m hm)⟩
theorem OkS.ext (h : OkS K O G M ρ σ H) (s : Same H H') : OkS K O G M ρ σ H' := ⟨h.ok.ext s, h.same.trans s, h.fresh, h.frl⟩
theorem OkS.set {i : Nat} (h : OkS K O G M ρ σ H) (hf : Nf M i) (r : Rp K (Av O M σ) H d v) : OkS K O G M (ρ.set i (some d)) (σ.set i (some v)) H :=
  ⟨h.ok.set hf r, h.same, fun j hj a e => h.fresh j hj a (by rw [List.getElem?_set_ne (fun z => hf.1 (by rw [z]; exact hj))] at e; exact e), fun m hm q j g e a e1 => h.frl m hm q j g e a (by rw [List.getElem?_set_ne (fr_mem hf.2 hm e).1] at e1; exact e1)⟩
theorem OkS.take {i : Nat} {p : Addr} {vs : List V} {ds : List D} (h : OkS K O G M ρ σ H) (hf : Nf M i) (s : Same H H') (hp : H p = none) (hv : H' p = some (.lst vs)) (r : RpL K (fun b => Av O M σ b ∨ b = p) H' ds vs) (hl : i < ρ.length) :
    OkS K O G (i :: M) (ρ.set i (some (.lst ds))) (σ.set i (some (.ref p))) H' ∧ Keep (Av O M σ) (Av O (i :: M) (σ.set i (some (.ref p)))) H H' := by
  have hi := hf.1
  have h' := h.ext s
  have nav : ∀ b, Av O (i :: M) (σ.set i (some (.ref p))) b → b = p ∨ Av O M σ b := fun b z => by
    rcases z with z | ⟨j, hj, e⟩
    · exact .inr (.inl z)
    · by_cases hij : i = j
      · subst hij
        rw [List.getElem?_set] at e
        simp only [if_true] at e
        split at e
        · cases e
          exact .inl rfl
        · exact nomatch e
      · rw [List.getElem?_set_ne hij] at e
        rcases List.mem_cons.mp hj with q | q
        · exact absurd q.symm hij
        · exact .inr (.inr ⟨j, q, e⟩)
  have kpp : Keep (Av O M σ) (Av O (i :: M) (σ.set i (some (.ref p)))) H H' := Keep.same s fun b hb z => by
    rcases nav b z with q | q
    · exact absurd hp (by rw [← q]; exact liv_ne hb)
    · exact q
  have nO : ¬ O p := fun z => h.ok.o0 p z hp
  have ne : ∀ j ∈ M, ∀ a, σ[j]? = some (some (.ref a)) → a ≠ p := fun j hj a e z => by
    subst z
    exact h.ok.dom a (.inr ⟨j, hj, e⟩) hp
  have nM : ∀ j ∈ M, i ≠ j := fun j hj z => hi (by rw [z]; exact hj)
  have hself : (σ.set i (some (.ref p)))[i]? = some (some (.ref p)) := List.getElem?_set_self (by rw [h.ok.len]; exact hl)
  have hG : G p = none := Same.free h.same hp
  have sr : RpL K (Av O (i :: M) (σ.set i (some (.ref p)))) H' ds vs := Keep.rpl ⟨fun b ob hb _ => hb, fun b _ z => by
    rcases nav b z with q | q
    · exact .inr q
    · exact .inl q⟩ _ _ r
  refine ⟨⟨⟨fun b hb => h'.ok.o0 b hb, by rw [List.length_set, List.length_set, h.ok.len], fun j e => ?_, fun j d' e n => ?_, fun j d' e m => ?_, fun j k a hj hk e1 e2 => ?_, (h'.ok.lnk.set hf.2).sub fun m hm => by
    rcases List.mem_cons.mp hm with z | z
    · rw [z]
      exact .inl (lk_small (fr_small hf.2))
    · exact .inr z⟩, h'.same, fun j hj a e => ?_, fun m hm q j g e a e1 => ?_⟩, kpp⟩
  · by_cases hij : i = j
    · subst hij
      rw [List.getElem?_set_self hl] at e
      exact nomatch e
    · rw [List.getElem?_set_ne hij] at e ⊢
      exact h.ok.non j e
  · have hij : i ≠ j := fun z => n (by rw [z]; exact List.mem_cons_self)
    rw [List.getElem?_set_ne hij] at e ⊢
    obtain ⟨v, e2, r2⟩ := h.ok.val j d' e (fun z => n (List.mem_cons_of_mem _ z))
    exact ⟨v, e2, kpp.rp _ _ r2⟩
  · by_cases hij : i = j
    · subst hij
      rw [List.getElem?_set_self hl] at e
      cases e
      exact ⟨p, _, hself, hv, nO, .inl ⟨vs, ds, rfl, rfl, sr⟩⟩
    · rw [List.getElem?_set_ne hij] at e ⊢
      have hm : j ∈ M := by
        rcases List.mem_cons.mp m with q | q
        · exact absurd q.symm hij
        · exact q
      obtain ⟨a, u, e2, ha, ho, r2⟩ := h.ok.own j d' e hm
      exact ⟨a, u, e2, s _ _ ha, ho, r2.keep kpp⟩
  · rcases List.mem_cons.mp hj with qj | qj <;> rcases List.mem_cons.mp hk with qk | qk
    · rw [qj, qk]
    · subst qj
      rw [hself] at e1
      cases e1
      rw [List.getElem?_set_ne (nM k qk)] at e2
      exact absurd rfl (ne k qk _ e2)
    · subst qk
      rw [hself] at e2
      cases e2
      rw [List.getElem?_set_ne (nM j qj)] at e1
      exact absurd rfl (ne j qj _ e1)
    · rw [List.getElem?_set_ne (nM j qj)] at e1
      rw [List.getElem?_set_ne (nM k qk)] at e2
      exact h.ok.inj j k a qj qk e1 e2
  · rcases List.mem_cons.mp hj with q | q
    · subst q
      rw [hself] at e
      cases e
      exact hG
    · rw [List.getElem?_set_ne (nM j q)] at e
      exact h.fresh j q a e
  · rcases List.mem_cons.mp hm with z | z
    · rw [z, lk_small (fr_small hf.2)] at e
      exact nomatch e
    · rw [List.getElem?_set_ne (fr_mem hf.2 z e).1] at e1
      exact h.frl m z q j g e a e1
theorem OkS.mutU {i : Nat} {a : Addr} {dn : D} {un : HO} (h : OkS K O G M ρ σ H) (hi : i ∈ M) (e : σ[i]? = some (some (.ref a))) (r : Ow K (Av O M σ) H dn un) (hl : i < ρ.length) :
    OkS K O G M (ρ.set i (some dn)) σ (upd H a un) ∧ Keep (Av O M σ) (Av O M σ) H (upd H a un) := by
  have ava : Av O M σ a := .inr ⟨i, hi, e⟩
  have kp : Keep (Av O M σ) (Av O M σ) H (upd H a un) := ⟨fun b o hb n => by
    rw [upd_ne (fun z => n.1 (by rw [z]; exact ava))]
    exact hb, fun _ _ z => z⟩
  have hd : ∀ b, H b ≠ none → upd H a un b ≠ none := fun b hb => by
    by_cases q : b = a
    · rw [q, upd_same]
      exact fun z => nomatch z
    · rw [upd_ne q]
      exact hb
  refine ⟨⟨⟨fun b hb => hd b (h.ok.o0 b hb), by rw [List.length_set, h.ok.len], fun j q => ?_, fun j d' q n => ?_, fun j d' q m => ?_, h.ok.inj, h.ok.lnk.same (fun b C dx fs hb => ?_) (fun _ _ _ _ _ z => z)⟩, fun b o hb => ?_, h.fresh, h.frl⟩, kp⟩
  · by_cases hij : i = j
    · subst hij
      rw [List.getElem?_set_self hl] at q
      exact nomatch q
    · rw [List.getElem?_set_ne hij] at q
      exact h.ok.non j q
  · have hij : i ≠ j := fun z => n (by rw [← z]; exact hi)
    rw [List.getElem?_set_ne hij] at q
    obtain ⟨v, e2, r2⟩ := h.ok.val j d' q n
    exact ⟨v, e2, kp.rp _ _ r2⟩
  · by_cases hij : i = j
    · subst hij
      rw [List.getElem?_set_self hl] at q
      cases q
      obtain ⟨d0, hd0⟩ := h.ok.slot e
      obtain ⟨a', _, e2, _, ho, _⟩ := h.ok.own i d0 hd0 hi
      rw [e] at e2
      cases e2
      exact ⟨a, un, e, upd_same, ho, r.keep kp⟩
    · rw [List.getElem?_set_ne hij] at q
      obtain ⟨a', us, e2, ha, ho, r2⟩ := h.ok.own j d' q m
      have hne : a' ≠ a := fun z => by
        subst z
        exact hij (h.ok.inj i j a' hi m e e2)
      exact ⟨a', us, e2, by rw [upd_ne hne]; exact ha, ho, r2.keep kp⟩
  · have hne : b ≠ a := fun z => by
      obtain ⟨d0, hd0⟩ := h.ok.slot e
      obtain ⟨a', u0, e2, ha, _, r0⟩ := h.ok.own i d0 hd0 hi
      rw [e] at e2
      cases e2
      rw [z, ha] at hb
      exact Ow.ni r0 (Option.some.inj hb)
    rw [upd_ne hne]
    exact hb
  · have hne : b ≠ a := fun z => by
      have := h.fresh i hi a e
      rw [← z, hb] at this
      exact nomatch this
    rw [upd_ne hne]
    exact h.same b o hb
theorem OkS.mut {i : Nat} {a : Addr} {vs ws : List V} {ds es : List D} (h : OkS K O G M ρ σ H) (hi : i ∈ M) (e : σ[i]? = some (some (.ref a))) (r : RpL K (Av O M σ) H es ws) (hl : i < ρ.length) :
    OkS K O G M (ρ.set i (some (.lst es))) σ (upd H a (.lst ws)) ∧ Keep (Av O M σ) (Av O M σ) H (upd H a (.lst ws)) := h.mutU hi e (.inl ⟨ws, es, rfl, rfl, r⟩) hl
end
end LC

set_option Elab.async false
set_option linter.all false
set_option maxRecDepth 100000
set_option maxHeartbeats 1000000
namespace LC
open PySem PySem.Spec PyProof.Rows L2
def Fin1 (K : PySem.W.Frag) (O : Addr → Prop) (G : Hp) (M M' : List Nat) (σ : L2.St) (H : Hp) (Dn : Ends) : Fl → Prop
  | .nx ρ' => ∀ σ' H', OkS K O G M' ρ' σ' H' → Keep (Av O M σ) (Av O M' σ') H H' → Dn.nx σ' H'
  | .rt d => ∀ v H', Same G H' → Rp K O H' d v → Dn.rt v H'
def tS (c : Cf) (wf : Nat) (K : PySem.W.Frag) (M M' : List Nat) (s : S) : TS := fun Dn σ H => ∃ O G ρ f, OkS K O G M ρ σ H ∧ xs c wf s ρ = .ok f ∧ Fin1 K O G M M' σ H Dn f
def tSs (c : Cf) (wf : Nat) (K : PySem.W.Frag) (M M' : List Nat) (ss : List S) : TS := fun Dn σ H => ∃ O G ρ f, OkS K O G M ρ σ H ∧ xss c wf ss ρ = .ok f ∧ Fin1 K O G M M' σ H Dn f
section
variable {X : Cx} {c : Cf} {wf : Nat} {M M1 M2 M' : List Nat} {st : Stmt} {sts : List Stmt}
theorem ps_imp {t t' : TS} (h : PS X st t) (q : ∀ Dn σ H, t' Dn σ H → t Dn σ H) : PS X st t' := ⟨fun pins s σ H Dn I w => h.run pins s σ H Dn I (q Dn σ H w)⟩
theorem pss_imp {t t' : TS} (h : PSs X sts t) (q : ∀ Dn σ H, t' Dn σ H → t Dn σ H) : PSs X sts t' := ⟨fun pins s σ H Dn I w => h.run pins s σ H Dn I (q Dn σ H w)⟩
theorem fin_weak {K : PySem.W.Frag} {O : Addr → Prop} {G : Hp} {σ : L2.St} {H : Hp} {Dn : Ends} {f : Fl} (hs : ∀ i ∈ M2, i ∈ M1) (h : Fin1 K O G M M2 σ H Dn f) : Fin1 K O G M M1 σ H Dn f := by
  cases f with
  | nx ρ' => exact fun σ' H' o k => h σ' H' (o.drop hs) ⟨k.heap, fun b hb z => k.own b hb (av_sub hs b z)⟩
  | rt d => exact h
theorem ss_weak {ss : List S} (hs : ∀ i ∈ M2, i ∈ M1) (h : PSs X sts (tSs c wf X.K M M1 ss)) : PSs X sts (tSs c wf X.K M M2 ss) := pss_imp h fun Dn σ H ⟨O, G, ρ, f, o, e, q⟩ => ⟨O, G, ρ, f, o, e, fin_weak hs q⟩
theorem ss_nil : PSs X [] (tSs c wf X.K M M []) := pss_imp pss_nil fun Dn σ H ⟨O, G, ρ, f, o, e, q⟩ => by
  rw [xss] at e
  cases e
  exact q σ H o Keep.refl
theorem ss_cons {s : S} {ss : List S} (h1 : PS X st (tS c wf X.K M M1 s)) (h2 : PSs X sts (tSs c wf X.K M1 M2 ss)) : PSs X (st :: sts) (tSs c wf X.K M M2 (s :: ss)) := pss_imp (pss_cons h1 h2) fun Dn σ H ⟨O, G, ρ, f, o, e, q⟩ => by
  rw [xss] at e
  obtain ⟨z, e1, e⟩ := bind_ok e
  refine ⟨O, G, ρ, z, o, e1, ?_⟩
  cases z with
  | nx ρ' =>
    intro σ' H' o' k'
    refine ⟨O, G, ρ', f, o', e, ?_⟩
    cases f with
    | nx ρ2 => exact fun σ2 H2 o2 k2 => q σ2 H2 o2 (k'.trans k2)
    | rt d => exact q
  | rt d =>
    cases e
    exact q
theorem ss_frz {i : Nat} {ss : List S} (hs : ∀ j ∈ M1, j ∈ M) (h : PSs X sts (tSs c wf X.K M1 M2 ss)) : PSs X sts (tSs c wf X.K M M2 (.frz i :: ss)) := pss_imp h fun Dn σ H ⟨O, G, ρ, f, o, e, q⟩ => by
  rw [xss, xs] at e
  refine ⟨O, G, ρ, f, o.drop hs, e, ?_⟩
  have k0 : Keep (Av O M σ) (Av O M1 σ) H H := ⟨fun _ _ h _ => h, fun b _ z => av_sub hs b z⟩
  cases f with
  | nx ρ2 => exact fun σ2 H2 o2 k2 => q σ2 H2 o2 (k0.trans k2)
  | rt d => exact q
theorem s_pas {pos : Pos} : PS X (.Pass pos) (tS c wf X.K M M .pas) := ps_imp ps_pass fun Dn σ H ⟨O, G, ρ, f, o, e, q⟩ => by
  rw [xs] at e
  cases e
  exact q σ H o Keep.refl
theorem s_ret {e : Expr} {e' : E} {pos : Pos} (h : PE X e (tE c X.K M e')) : PS X (.Return (some e) pos) (tS c wf X.K M M' (.ret e')) := ps_imp (ps_ret h) fun Dn σ H ⟨O, G, ρ, f, o, ee, q⟩ => by
  rw [xs] at ee
  obtain ⟨d, e1, ee⟩ := bind_ok ee
  cases ee
  exact ⟨O, ρ, d, o.ok, e1, fun v H1 s1 r1 => q v H1 (o.same.trans s1) (Keep.rp ⟨fun _ _ h _ => h, fun b _ z => .inl z⟩ _ _ r1)⟩
theorem s_exp {e : Expr} {e' : E} (h : PS X st (tDrop (tW c X.K M e'))) : PS X st (tS c wf X.K M M (.exp e')) := ps_imp h fun Dn σ H ⟨O, G, ρ, f, o, ee, q⟩ => by
  rw [xs] at ee
  obtain ⟨d, e1, ee⟩ := bind_ok ee
  cases ee
  exact ⟨O, ρ, d, o.ok, e1, fun v H1 s1 r1 => q σ H1 (o.ext s1) (keep_same s1)⟩
def wo (M : List Nat) (i : Nat) : List Nat := M.filter (fun j => j != i)
theorem wo_sub {i : Nat} : ∀ j ∈ wo M i, j ∈ M := fun j hj => (List.mem_filter.mp hj).1
theorem wo_not {i : Nat} : i ∉ wo M i := fun h => by
  have := (List.mem_filter.mp h).2
  simp at this
theorem wo_nf {i : Nat} (h : fr M i = true) : Nf (wo M i) i := ⟨wo_not, fr_sub h wo_sub⟩
theorem s_set_of {i : Nat} {e' : E} (hf : fr M i = true) (h : PS X st (tAsg (tE c X.K M e') (gName i))) : PS X st (tS c wf X.K M (wo M i) (.set i e')) := ps_imp h fun Dn σ H ⟨O, G, ρ, f, o, ee, q⟩ => by
  rw [xs] at ee
  obtain ⟨d, e1, ee⟩ := bind_ok ee
  cases ee
  refine ⟨O, ρ, d, o.ok, e1, fun v H1 s1 r1 => ?_⟩
  have o1 := (o.ext s1).drop (M' := wo M i) wo_sub
  have k0 : Keep (Av O M σ) (Av O (wo M i) σ) H1 H1 := ⟨fun _ _ h _ => h, fun b _ z => av_sub wo_sub b z⟩
  refine q _ H1 (o1.set (wo_nf hf) (k0.rp _ _ r1)) ?_
  rw [av_set wo_not]
  exact (keep_same s1).trans k0
theorem some_lt {α : Type} {l : List α} {i : Nat} {x : α} (h : l[i]? = some x) : i < l.length := (List.getElem?_eq_some_iff.mp h).1
theorem s_own {i : Nat} {e' : E} (hf : fr M i = true) (h : PS X st (tAsg (tF c X.K M e') (gName i))) : PS X st (tS c wf X.K M (i :: wo M i) (.own i e')) := ps_imp h fun Dn σ H ⟨O, G, ρ, f, o, ee, q⟩ => by
  rw [xs] at ee
  obtain ⟨d, e1, ee⟩ := bind_ok ee
  cases d with
  | lst ds =>
    dsimp only at ee
    split at ee
    · rename_i hh
      cases ee
      refine ⟨O, ρ, ds, o.ok, e1, fun p vs H1 s1 hp hv r1 => ?_⟩
      have k0 : Keep (Av O M σ) (Av O (wo M i) σ) H H := ⟨fun _ _ h _ => h, fun b _ z => av_sub wo_sub b z⟩
      obtain ⟨g1, g2⟩ := (o.drop (M' := wo M i) wo_sub).take (wo_nf hf) s1 hp hv (Keep.rpl ⟨fun _ _ h _ => h, fun b _ z => by
        rcases z with z | z
        · exact .inl (av_sub wo_sub b z)
        · exact .inr z⟩ _ _ r1) (some_lt hh)
      exact q _ H1 g1 (k0.trans g2)
    · exact nomatch ee
  | _ => exact nomatch ee
theorem s_par {i j : Nat} {a b : E} (hi : fr M i = true) (hj : fr M j = true) (hij : i ≠ j) (h : PS X st (tPar i j (tEs c X.K M [a, b]))) : PS X st (tS c wf X.K M (wo (wo M i) j) (.par i j a b)) := ps_imp h fun Dn σ H ⟨O, G, ρ, f, o, ee, q⟩ => by
  rw [xs] at ee
  obtain ⟨x, e1, ee⟩ := bind_ok ee
  obtain ⟨y, e2, ee⟩ := bind_ok ee
  cases ee
  refine ⟨O, ρ, [x, y], o.ok, by rw [evs, evs, evs, e1, e2]; rfl, fun vs H1 s1 r1 => ?_⟩
  rw [RpL] at r1
  obtain ⟨v, r', rfl, rv, r1⟩ := r1
  rw [RpL] at r1
  obtain ⟨w, r', rfl, rw', r1⟩ := r1
  rw [RpL] at r1
  subst r1
  have hsub : ∀ k ∈ wo (wo M i) j, k ∈ M := fun k hk => wo_sub k (wo_sub k hk)
  have o1 := (o.ext s1).drop (M' := wo (wo M i) j) hsub
  have k0 : Keep (Av O M σ) (Av O (wo (wo M i) j) σ) H1 H1 := ⟨fun _ _ h _ => h, fun b _ z => av_sub hsub b z⟩
  have ni : Nf (wo (wo M i) j) i := ⟨fun z => wo_not (wo_sub i z), fr_sub hi hsub⟩
  have nj : Nf (wo (wo M i) j) j := ⟨wo_not, fr_sub hj hsub⟩
  have o2 := o1.set ni (k0.rp _ _ rv)
  have o3 := o2.set nj (by rw [av_set ni.1]; exact k0.rp _ _ rw')
  refine ⟨v, w, rfl, q _ H1 o3 ?_⟩
  rw [av_set nj.1, av_set ni.1]
  exact (keep_same s1).trans k0
theorem s_pac {i j : Nat} {a : E} {d : D} {w : V} (hi : fr M i = true) (hj : fr M j = true) (hij : i ≠ j) (hd : ∀ O H, Rp X.K O H d w) (h : PS X st (tPar i j (tCons (tF c X.K M a) (tCons (tC w) tNil)))) : PS X st (tS c wf X.K M (i :: wo (wo M i) j) (.pac i j a d)) := ps_imp h fun Dn σ H ⟨O, G, ρ, f, o, ee, q⟩ => by
  rw [xs] at ee
  obtain ⟨x, e1, ee⟩ := bind_ok ee
  cases x with
  | lst ds =>
    dsimp only at ee
    split at ee
    · rename_i hh
      cases ee
      refine ⟨O, ρ, ds, o.ok, e1, fun p vs H1 s1 hp hv r1 => ?_⟩
      have hsub : ∀ k ∈ wo (wo M i) j, k ∈ M := fun k hk => wo_sub k (wo_sub k hk)
      have k0 : Keep (Av O M σ) (Av O (wo (wo M i) j) σ) H H := ⟨fun _ _ h _ => h, fun b _ z => av_sub hsub b z⟩
      have ni : Nf (wo (wo M i) j) i := ⟨fun z => wo_not (wo_sub i z), fr_sub hi hsub⟩
      obtain ⟨g1, g2⟩ := (o.drop (M' := wo (wo M i) j) hsub).take ni s1 hp hv (Keep.rpl ⟨fun _ _ h _ => h, fun b _ z => by
        rcases z with z | z
        · exact .inl (av_sub hsub b z)
        · exact .inr z⟩ _ _ r1) (some_lt hh)
      have nj : Nf (i :: wo (wo M i) j) j := by
        refine ⟨fun z => ?_, ?_⟩
        · rcases List.mem_cons.mp z with z | z
          · exact hij z.symm
          · exact wo_not z
        · have hj' := fr_sub hj hsub
          unfold fr at hj' ⊢
          rw [Bool.and_eq_true] at hj' ⊢
          refine ⟨hj'.1, ?_⟩
          rw [List.all_cons, hj'.2, Bool.and_true]
          unfold frM
          rw [lk_small (fr_small hi)]
      refine ⟨.ref p, w, rfl, q _ H1 (g1.set nj (hd _ _)) ?_⟩
      rw [av_set nj.1]
      exact k0.trans g2
    · exact nomatch ee
  | _ => exact nomatch ee
theorem get_own {K : PySem.W.Frag} {O : Addr → Prop} {ρ : Rho} {σ : L2.St} {H : Hp} {i : Nat} {ds : List D} (o : Ok K O M ρ σ H) (hi : i ∈ M) (h : get ρ i = .ok (.lst ds)) :
    i < ρ.length ∧ ∃ a vs, σ[i]? = some (some (.ref a)) ∧ H a = some (.lst vs) ∧ RpL K (Av O M σ) H ds vs := by
  unfold get at h
  split at h
  · rename_i d hd
    cases h
    obtain ⟨a, u, e2, ha, ho, r⟩ := o.own i _ hd hi
    obtain ⟨vs, e1, r1⟩ := Ow.lst r
    subst e1
    exact ⟨some_lt hd, a, vs, e2, ha, r1⟩
  · exact nomatch h
theorem s_app {i : Nat} {e' : E} (hi : i ∈ M) (h : PS X st (tDrop (tBM X.K "list" rAppend (tVar i) (tCons (tE c X.K M e') tNil)))) : PS X st (tS c wf X.K M M (.app i e')) := ps_imp h fun Dn σ H ⟨O, G, ρ, f, o, ee, q⟩ => by
  rw [xs] at ee
  obtain ⟨d, e1, ee⟩ := bind_ok ee
  obtain ⟨l, e2, ee⟩ := bind_ok ee
  cases l with
  | lst ds =>
    obtain ⟨hl, e3⟩ := ok_ite ee
    cases e3
    obtain ⟨hil, a, vs, hs, ha, r⟩ := get_own o.ok hi e2
    refine ⟨.ref a, hs, .inl ⟨rfl, vs, .inl (.inl ha)⟩, O, ρ, d, o.ok, e1, fun v H1 s1 r1 => ?_⟩
    refine ⟨a, vs, v, rfl, rfl, s1 _ _ ha, by rw [← r.length]; exact lim_lt hl, ?_⟩
    obtain ⟨g1, g2⟩ := (o.ext s1).mut (vs := vs) (ds := ds) hi hs ((same_rpl s1 r).append (RpL.cons r1 RpL.nil)) hil
    exact q _ _ g1 ((keep_same s1).trans g2)
  | _ => exact nomatch ee
theorem s_ext {i : Nat} {e' : E} (hi : i ∈ M) (h : PS X st (tDrop (tBM X.K "list" rExtend (tVar i) (tCons (tF c X.K M e') tNil)))) : PS X st (tS c wf X.K M M (.ext i e')) := ps_imp h fun Dn σ H ⟨O, G, ρ, f, o, ee, q⟩ => by
  rw [xs] at ee
  obtain ⟨d, e1, ee⟩ := bind_ok ee
  obtain ⟨l, e2, ee⟩ := bind_ok ee
  cases l with
  | lst ds =>
    cases d with
    | lst es =>
      obtain ⟨hl, e3⟩ := ok_ite ee
      cases e3
      obtain ⟨hil, a, vs, hs, ha, r⟩ := get_own o.ok hi e2
      refine ⟨.ref a, hs, .inl ⟨rfl, vs, .inl (.inl ha)⟩, O, ρ, es, o.ok, e1, fun p ws H1 s1 hp hv r1 => ?_⟩
      have r1' : RpL X.K (Av O M σ) H1 es ws := Keep.rpl ⟨fun _ _ h _ => h, fun b _ z => .inl z⟩ _ _ r1
      refine ⟨a, p, vs, ws, rfl, rfl, s1 _ _ ha, hv, by rw [← r.length, ← r1.length]; exact Nat.le_of_lt (lim_lt hl), ?_⟩
      obtain ⟨g1, g2⟩ := (o.ext s1).mut (vs := vs) (ds := ds) hi hs ((same_rpl s1 r).append r1') hil
      exact q _ _ g1 ((keep_same s1).trans g2)
    | _ => exact nomatch ee
  | _ => exact nomatch ee
theorem s_put {i : Nat} {k' e' : E} (hi : i ∈ M) (h : PS X st (tAsg (tE c X.K M e') (gSub (tVar i) (tW c X.K M k') rSetL))) : PS X st (tS c wf X.K M M (.put i k' e')) := ps_imp h fun Dn σ H ⟨O, G, ρ, f, o, ee, q⟩ => by
  rw [xs] at ee
  obtain ⟨d, e1, ee⟩ := bind_ok ee
  obtain ⟨z, e2, ee⟩ := bind_ok ee
  obtain ⟨l, e3, ee⟩ := bind_ok ee
  cases l with
  | lst ds =>
    cases z with
    | int n =>
      dsimp only at ee
      split at ee
      · rename_i es hes
        cases ee
        unfold setAt at hes
        cases hj : ixN ds.length n with
        | none => rw [hj] at hes; exact nomatch hes
        | some j =>
          rw [hj] at hes
          cases hes
          obtain ⟨hil, a, vs, hs, ha, r⟩ := get_own o.ok hi e3
          refine ⟨O, ρ, d, o.ok, e1, fun v H1 s1 r1 => ⟨.ref a, hs, O, ρ, _, o.ok.ext s1, e2, fun w H2 s2 r2 => ?_⟩⟩
          cases r2.int
          refine ⟨a, vs, n, j, rfl, rfl, (s1.trans s2) _ _ ha, by rw [← r.length]; exact hj, ?_⟩
          obtain ⟨g1, g2⟩ := (o.ext (s1.trans s2)).mut (vs := vs) (ds := ds) hi hs ((same_rpl (s1.trans s2) r).set j (same_rp s2 r1)) hil
          exact q _ _ g1 ((keep_same (s1.trans s2)).trans g2)
      · exact nomatch ee
    | _ => exact nomatch ee
  | _ => exact nomatch ee
theorem OkS.setAll {K : PySem.W.Frag} {O : Addr → Prop} {G H : Hp} {ρ ρ' : Rho} {σ : L2.St} {is : List Nat} {ds : List D} {vs : List V} (o : OkS K O G M ρ σ H) (hM : ∀ i ∈ is, Nf M i) (r : RpL K (Av O M σ) H ds vs) (e : setAll is ds ρ = some ρ') :
    OkS K O G M ρ' (setS is vs σ) H ∧ Keep (Av O M σ) (Av O M (setS is vs σ)) H H := by
  obtain ⟨g1, g2, _⟩ := o.ok.setAll hM r e
  have key : ∀ (is : List Nat) (vs : List V) (σ : L2.St), (∀ i ∈ is, i ∉ M) → ∀ j ∈ M, (setS is vs σ)[j]? = σ[j]? := fun is => by
    induction is with
    | nil => intro vs σ _ j _; cases vs <;> rfl
    | cons i is ih =>
      intro vs σ h j hj
      cases vs with
      | nil => rfl
      | cons v vs =>
        show (setS is vs (σ.set i (some v)))[j]? = σ[j]?
        rw [ih vs _ (fun k hk => h k (List.mem_cons_of_mem _ hk)) j hj, List.getElem?_set_ne (fun z => h i List.mem_cons_self (by rw [z]; exact hj))]
  have key2 : ∀ (is : List Nat) (vs : List V) (σ : L2.St) (j : Nat), j ∉ is → (setS is vs σ)[j]? = σ[j]? := fun is => by
    induction is with
    | nil => intro vs σ j _; cases vs <;> rfl
    | cons i is ih =>
      intro vs σ j hj
      cases vs with
      | nil => rfl
      | cons v vs =>
        show (setS is vs (σ.set i (some v)))[j]? = σ[j]?
        rw [ih vs _ j (fun z => hj (List.mem_cons_of_mem _ z)), List.getElem?_set_ne (fun z => hj (by rw [← z]; exact List.mem_cons_self))]
  refine ⟨⟨g1, o.same, fun j hj a e => o.fresh j hj a (by rw [← key is vs σ (fun i hi => (hM i hi).1) j hj]; exact e), fun m hm q j g e a e1 => o.frl m hm q j g e a (by rw [← key2 is vs σ j (fun z => (fr_mem (hM j z).2 hm e).1 rfl)]; exact e1)⟩, ?_⟩
  rw [g2]
  exact Keep.refl
theorem s_unp {is : List Nat} {e' : E} (hM : ∀ i ∈ is, Nf M i) (h : PS X st (tAsg (tE c X.K M e') (fun v σ H Q => gTup X.K is.length (gsN is) v σ H Q ∨ gUnl X.K is.length (gsN is) v σ H Q))) : PS X st (tS c wf X.K M M (.unp is e')) := ps_imp h fun Dn σ H ⟨O, G, ρ, f, o, ee, q⟩ => by
  rw [xs] at ee
  obtain ⟨d, e1, ee⟩ := bind_ok ee
  refine ⟨O, ρ, d, o.ok, e1, fun v H1 s1 r1 => ?_⟩
  split at ee
  · rename_i ds hd
    split at ee
    · rename_i ρ' hρ
      cases ee
      have hl := setAll_len hρ
      cases d with
      | tup es =>
        cases hd
        rw [Rp] at r1
        obtain ⟨a, vs, rfl, t, r⟩ := r1
        obtain ⟨g1, g2⟩ := (o.ext s1).setAll hM r hρ
        exact .inl ⟨a, vs, rfl, t.sq, by rw [← r.length, hl], gsN_set is vs σ H1 _ (by rw [← r.length, hl]) (q _ H1 g1 ((keep_same s1).trans g2))⟩
      | lst es =>
        cases hd
        rw [Rp] at r1
        obtain ⟨a, vs, rfl, t, r⟩ := r1
        obtain ⟨g1, g2⟩ := (o.ext s1).setAll hM r hρ
        exact .inr ⟨a, vs, rfl, t.sq, by rw [← r.length, hl], gsN_set is vs σ H1 _ (by rw [← r.length, hl]) (q _ H1 g1 ((keep_same s1).trans g2))⟩
      | _ => exact nomatch hd
    · exact nomatch ee
  · exact nomatch ee
theorem pg_or {tg : Expr} {t t' : TG} (h : PG X tg t) (h' : PG X tg t') : PG X tg (fun v σ H Q => t v σ H Q ∨ t' v σ H Q) := ⟨fun pins s σ H v u Q I r w => by
  rcases w with w | w
  · exact h.run pins s σ H v u Q I r w
  · exact h'.run pins s σ H v u Q I r w⟩
theorem s_if {e : Expr} {e' : E} {a b : List Stmt} {a' b' : List S} {pos : Pos} (hc : PT X e (tT c X.K M e')) (ha : PSs X a (tSs c wf X.K M M' a')) (hb : PSs X b (tSs c wf X.K M M' b')) : PS X (.If e a b pos) (tS c wf X.K M M' (.ife e' a' b')) := ps_imp (ps_if hc ha hb) fun Dn σ H ⟨O, G, ρ, f, o, ee, q⟩ => by
  rw [xs] at ee
  obtain ⟨d, e1, ee⟩ := bind_ok ee
  obtain ⟨v, e2, ee⟩ := bind_ok ee
  unfold rTruth at e2
  split at e2
  · rename_i b0 ht
    cases e2
    refine ⟨O, ρ, d, v, o.ok, e1, ht, fun H1 s1 => ?_⟩
    have q1 : Fin1 X.K O G M M' σ H1 Dn f := by
      cases f with
      | nx ρ2 => exact fun σ2 H2 o2 k2 => q σ2 H2 o2 ((keep_same s1).trans k2)
      | rt d => exact q
    cases v with
    | true => exact iteT ⟨O, G, ρ, f, o.ext s1, ee, q1⟩
    | false => exact iteF ⟨O, G, ρ, f, o.ext s1, ee, q1⟩
  · exact nomatch e2
theorem keep_slot {σ σ' : L2.St} {sl : List Nat} {j : Nat} (w : ∀ own, (∀ i ∈ sl, i ∈ own) → wipe σ' own = wipe σ own) (hj : j ∉ sl) : σ'[j]? = σ[j]? := by
  have := congrArg (fun l : L2.St => l[j]?) (w sl fun _ h => h)
  rw [wipe_get, wipe_get, if_neg (fun z => hj z.1), if_neg (fun z => hj z.1)] at this
  exact this
def forF (c : Cf) (wf : Nat) (tg : Tg) (body : List S) : D → Rho → R Fl := fun d ρ => match bindT tg d ρ with
  | some ρ' => xss c wf body ρ'
  | none => .bad
theorem s_for {tg iter : Expr} {body : List Stmt} {tg' : Tg} {k : Src} {ss : List E} {body' : List S} {pos : Pos} (hp : PassesOwn (model X.prog X.w) X.A X.env X.xe) (hc : X.calm = true) (hi : PI X tg iter (tI true c X.K M k ss)) (hg : PG X tg (tG X.K M tg'))
    (hb : PSs X body (tSs c wf X.K M M body')) (hs : ∀ x, foldedSetIterable iter X.env x = pure x) (hsl : ∀ i ∈ slots tg', Nf M i) : PS X (.For tg iter body [] pos) (tS c wf X.K M M (.for_ tg' k ss body')) :=
  ps_imp (ps_for hp hc hi hg hb hs) fun Dn σ H ⟨O, G, ρ, f, o, ee, q⟩ => by
  rw [xs] at ee
  obtain ⟨ds, e1, ee⟩ := bind_ok ee
  obtain ⟨its, e2, ee⟩ := bind_ok ee
  have ee' : forGo (forF c wf tg' body') its ρ = .ok f := ee
  clear ee
  refine ⟨O, ρ, ds, its, o.ok, e1, e2, fun J H1 s1 wk => ?_⟩
  refine ⟨fun i m σ2 H2 => m = its.length - i ∧ i ≤ its.length ∧ ∃ ρ2, OkS X.K O G M ρ2 σ2 H2 ∧ Keep (Av O M σ) (Av O M σ2) H1 H2 ∧ forGo (forF c wf tg' body') (its.drop i) ρ2 = .ok f,
    ⟨its.length, rfl, Nat.zero_le _, ρ, o.ext s1, Keep.refl, ee'⟩, ?_⟩
  rintro i m σ2 H2 ⟨rfl, hi, ρ2, o2, k2, eg⟩
  by_cases hlt : i < its.length
  · have hd := List.getElem?_eq_getElem hlt
    refine .inr ⟨wk.go _ H2 i k2 hlt, fun σ3 H3 => ∃ ρ3, OkS X.K O G M ρ3 σ3 H3 ∧ Keep (Av O M σ) (Av O M σ3) H1 H3 ∧ forGo (forF c wf tg' body') (its.drop (i + 1)) ρ3 = .ok f,
      fun σ3 H3 hN => ⟨its.length - (i + 1), by omega, rfl, hlt, hN⟩, fun x H3 hy => ?_⟩
    obtain ⟨s3, rx⟩ := wk.yld _ H2 i x H3 _ k2 o2.ok.dom hd hy
    rw [List.drop_eq_getElem_cons hlt, forGo] at eg
    obtain ⟨z, f1, eg⟩ := bind_ok eg
    unfold forF at f1
    split at f1
    · rename_i ρ' hbn
      have o3 := o2.ext s3
      refine ⟨O, ρ2, its[i], ρ', o3.ok, rx, hbn, fun σ' o' av' w' => ?_⟩
      have oS : OkS X.K O G M ρ' σ' H3 := by
        refine ⟨o', o3.same, fun j hj a e => ?_, fun m hm q j g e a e1 => o2.frl m hm q j g e a (by rw [← keep_slot w' (fun z => (fr_mem (hsl j z).2 hm e).1 rfl)]; exact e1)⟩
        have ha : Av O M σ' a := .inr ⟨j, hj, e⟩
        rw [av'] at ha
        rcases ha with ha | ⟨j2, hj2, e2⟩
        · obtain ⟨d', hd'⟩ := o'.slot e
          obtain ⟨a', _, g2, _, g4, _⟩ := o'.own j d' hd' hj
          rw [e] at g2
          cases g2
          exact absurd ha g4
        · exact o2.fresh j2 hj2 a e2
      refine ⟨O, G, ρ', z, oS, f1, ?_⟩
      have k3 : Keep (Av O M σ) (Av O M σ') H1 H3 := by
        rw [av']
        exact k2.trans (keep_same s3)
      cases z with
      | nx ρ4 => exact fun σ4 H4 o4 k4 => ⟨ρ4, o4, k3.trans k4, eg⟩
      | rt d =>
        cases eg
        exact q
    · exact nomatch f1
  · have ei : i = its.length := by omega
    subst ei
    refine .inl ⟨wk.stop _ H2 k2, ?_⟩
    rw [List.drop_length, forGo] at eg
    cases eg
    exact q _ H2 o2 ((keep_same s1).trans k2)
def Oab (O : Addr → Prop) (a b : Addr) : Addr → Prop := fun x => O x ∨ x = a ∨ x = b
theorem Ok.change {K : PySem.W.Frag} {O1 O2 : Addr → Prop} {ρ : Rho} {σ : L2.St} {H H' : Hp} (h : Ok K O1 M ρ σ H) (k : Keep (Av O1 M σ) (Av O2 M σ) H H') (h0 : ∀ b, O2 b → H' b ≠ none) (hm : ∀ j ∈ M, ∀ x, σ[j]? = some (some (.ref x)) → H' x = H x ∧ ¬ O2 x) (nl : ∀ m ∈ M, lkOf m = none) : Ok K O2 M ρ σ H' := by
  refine ⟨h0, h.len, h.non, fun j d e n => ?_, fun j d e m => ?_, h.inj, .none nl⟩
  · obtain ⟨v, e2, r⟩ := h.val j d e n
    exact ⟨v, e2, k.rp _ _ r⟩
  · obtain ⟨a, u, e2, ha, _, r⟩ := h.own j d e m
    obtain ⟨g1, g2⟩ := hm j m a e2
    exact ⟨a, u, e2, by rw [g1]; exact ha, g2, Ow.keep r k⟩
theorem set_same {σ : L2.St} {i : Nat} {v : V} (e : σ[i]? = some (some v)) : σ.set i (some v) = σ := by
  apply List.ext_getElem?
  intro j
  by_cases hij : i = j
  · subst hij
    rw [List.getElem?_set_self (some_lt e), e]
  · rw [List.getElem?_set_ne hij]
theorem Ok.reslot {K : PySem.W.Frag} {O : Addr → Prop} {ρ : Rho} {σ : L2.St} {H : Hp} {i : Nat} {d : D} {v : V} (h : Ok K O M ρ σ H) (hi : Nf M i) (e : σ[i]? = some (some v)) (r : Rp K (Av O M σ) H d v) : Ok K O M (ρ.set i (some d)) σ H := by
  have := h.set hi r
  rw [set_same e] at this
  exact this
structure NI (K : PySem.W.Frag) (O : Addr → Prop) (G : Hp) (M : List Nat) (i : Nat) (ρ : Rho) (dn cu : List D) (σ : L2.St) (H : Hp) (a b : Addr) : Prop where
  ok : Ok K (Oab O a b) M ρ σ H
  sl : σ[i]? = some (some (.ref a))
  ha : ∃ vs, H a = some (.lst (vs ++ [.ref b])) ∧ RpL K (Av (Oab O a b) M σ) H dn vs
  hb : ∃ ws, H b = some (.lst ws) ∧ RpL K (Av (Oab O a b) M σ) H cu ws
  ab : a ≠ b
  ga : G a = none
  gb : G b = none
  na : ¬ O a
  nb : ¬ O b
  same : Same G H
  fresh : ∀ j ∈ M, ∀ x, σ[j]? = some (some (.ref x)) → G x = none
  nl : ∀ m ∈ M, lkOf m = none
section
variable {K : PySem.W.Frag} {O : Addr → Prop} {G : Hp} {i : Nat} {ρ : Rho} {dn cu : List D} {σ : L2.St} {H : Hp} {a b : Addr}
theorem NI.away (h : NI K O G M i ρ dn cu σ H a b) : ∀ j ∈ M, ∀ x, σ[j]? = some (some (.ref x)) → x ≠ a ∧ x ≠ b ∧ ¬ O x := fun j hj x e => by
  obtain ⟨d, hd⟩ := h.ok.slot e
  obtain ⟨a', _, e2, _, ho, _⟩ := h.ok.own j d hd hj
  rw [e] at e2
  cases e2
  exact ⟨fun z => ho (.inr (.inl z)), fun z => ho (.inr (.inr z)), fun z => ho (.inl z)⟩
theorem NI.nava (h : NI K O G M i ρ dn cu σ H a b) : ¬ Av O M σ a := fun z => by
  rcases z with z | ⟨j, hj, e⟩
  · exact h.na z
  · exact (h.away j hj a e).1 rfl
theorem NI.navb (h : NI K O G M i ρ dn cu σ H a b) : ¬ Av O M σ b := fun z => by
  rcases z with z | ⟨j, hj, e⟩
  · exact h.nb z
  · exact (h.away j hj b e).2.1 rfl
theorem NI.ext {H' : Hp} (h : NI K O G M i ρ dn cu σ H a b) (s : Same H H') : NI K O G M i ρ dn cu σ H' a b := by
  obtain ⟨vs, h1, h2⟩ := h.ha
  obtain ⟨ws, h3, h4⟩ := h.hb
  exact ⟨h.ok.ext s, h.sl, ⟨vs, s _ _ h1, same_rpl s h2⟩, ⟨ws, s _ _ h3, same_rpl s h4⟩, h.ab, h.ga, h.gb, h.na, h.nb, h.same.trans s, h.fresh, h.nl⟩
theorem NI.more {d : D} {v : V} (h : NI K O G M i ρ dn cu σ H a b) (r : Rp K (Av (Oab O a b) M σ) H d v) : ∀ ws, H b = some (.lst ws) → NI K O G M i ρ dn (cu ++ [d]) σ (upd H b (.lst (ws ++ [v]))) a b ∧ Keep (Av (Oab O a b) M σ) (Av (Oab O a b) M σ) H (upd H b (.lst (ws ++ [v]))) := fun ws hw => by
  have kp : Keep (Av (Oab O a b) M σ) (Av (Oab O a b) M σ) H (upd H b (.lst (ws ++ [v]))) := ⟨fun x o hx n => by
    rw [upd_ne (fun z => n.1 (.inl (.inr (.inr z))))]
    exact hx, fun _ _ z => z⟩
  obtain ⟨vs, h1, h2⟩ := h.ha
  obtain ⟨ws', h3, h4⟩ := h.hb
  rw [hw] at h3
  cases h3
  refine ⟨⟨h.ok.change kp (fun x hx => ?_) (fun j hj x e => ?_) h.nl, h.sl, ⟨vs, by rw [upd_ne h.ab]; exact h1, kp.rpl _ _ h2⟩, ⟨_, upd_same, (kp.rpl _ _ h4).append (RpL.cons (kp.rp _ _ r) RpL.nil)⟩, h.ab, h.ga, h.gb, h.na, h.nb, fun x o hx => ?_, h.fresh, h.nl⟩, kp⟩
  · by_cases q : x = b
    · rw [q, upd_same]
      exact fun z => nomatch z
    · rw [upd_ne q]
      exact h.ok.o0 x hx
  · obtain ⟨g1, g2, g3⟩ := h.away j hj x e
    refine ⟨upd_ne g2, fun z => ?_⟩
    rcases z with z | z | z
    · exact g3 z
    · exact g1 z
    · exact g2 z
  · rw [upd_ne (fun z => by rw [z, h.gb] at hx; exact nomatch hx)]
    exact h.same x o hx
theorem NI.next {b' : Addr} (h : NI K O G M i ρ dn cu σ H a b) (hb' : H b' = none) : ∀ vs, H a = some (.lst vs) → NI K O G M i ρ (dn ++ [.lst cu]) [] σ (upd (upd H b' (.lst [])) a (.lst (vs ++ [.ref b']))) a b' ∧ Keep (Av (Oab O a b) M σ) (Av (Oab O a b') M σ) H (upd (upd H b' (.lst [])) a (.lst (vs ++ [.ref b']))) := fun vs hv => by
  obtain ⟨us, h1, h2⟩ := h.ha
  obtain ⟨ws, h3, h4⟩ := h.hb
  rw [hv] at h1
  cases h1
  have hab' : a ≠ b' := fun z => by rw [← z, hv] at hb'; exact nomatch hb'
  have hbb' : b ≠ b' := fun z => by rw [← z, h3] at hb'; exact nomatch hb'
  have kp : Keep (Av (Oab O a b) M σ) (Av (Oab O a b') M σ) H (upd (upd H b' (.lst [])) a (.lst (us ++ [.ref b] ++ [.ref b']))) := ⟨fun x o hx n => by
    rw [upd_ne (fun z => n.1 (.inl (.inr (.inl z)))), upd_ne (fun z => by rw [z, hb'] at hx; exact nomatch hx)]
    exact hx, fun x hx z => by
    rcases z with z | z
    · rcases z with z | z | z
      · exact .inl (.inl z)
      · exact .inl (.inr (.inl z))
      · exact absurd (by rw [z]; exact hb') (liv_ne hx)
    · exact .inr z⟩
  have hbn : ¬ Av (Oab O a b') M σ b := fun z => by
    rcases z with z | ⟨j, hj, e⟩
    · rcases z with z | z | z
      · exact h.nb z
      · exact h.ab z.symm
      · exact hbb' z
    · exact (h.away j hj b e).2.1 rfl
  have hbH : upd (upd H b' (.lst [])) a (.lst (us ++ [.ref b] ++ [.ref b'])) b = some (.lst ws) := by
    rw [upd_ne (fun z => h.ab z.symm), upd_ne hbb']
    exact h3
  refine ⟨⟨h.ok.change kp (fun x hx => ?_) (fun j hj x e => ?_) h.nl, h.sl, ⟨us ++ [.ref b], upd_same, (kp.rpl _ _ h2).append (RpL.cons (rp_lst hbH hbn (kp.rpl _ _ h4)) RpL.nil)⟩, ⟨[], by rw [upd_ne (fun z => hab' z.symm), upd_same], RpL.nil⟩, hab', h.ga, Same.free h.same hb', h.na, fun z => h.ok.o0 b' (.inl z) hb', fun x o hx => ?_, h.fresh, h.nl⟩, kp⟩
  · by_cases q : x = a
    · rw [q, upd_same]
      exact fun z => nomatch z
    · rw [upd_ne q]
      by_cases q2 : x = b'
      · rw [q2, upd_same]
        exact fun z => nomatch z
      · rw [upd_ne q2]
        rcases hx with hx | hx | hx
        · exact h.ok.o0 x (.inl hx)
        · exact absurd hx q
        · exact absurd hx q2
  · obtain ⟨g1, g2, g3⟩ := h.away j hj x e
    have hne : x ≠ b' := fun z => by
      obtain ⟨d, hd⟩ := h.ok.slot e
      obtain ⟨a', _, e2, ha', _, _⟩ := h.ok.own j d hd hj
      rw [e] at e2
      cases e2
      rw [z, hb'] at ha'
      exact nomatch ha'
    refine ⟨by rw [upd_ne g1, upd_ne hne], fun z => ?_⟩
    rcases z with z | z | z
    · exact g3 z
    · exact g1 z
    · exact hne z
  · rw [upd_ne (fun z => by rw [z, h.ga] at hx; exact nomatch hx), upd_ne (fun z => by rw [z] at hx; rw [Same.free h.same hb'] at hx; exact nomatch hx)]
    exact h.same x o hx
theorem NI.close (h : NI K O G M i ρ dn cu σ H a b) (hi : Nf M i) : OkS K O G M (ρ.set i (some (.lst (dn ++ [.lst cu])))) σ H := by
  obtain ⟨vs, h1, h2⟩ := h.ha
  obtain ⟨ws, h3, h4⟩ := h.hb
  have kp : Keep (Av (Oab O a b) M σ) (Av O M σ) H H := ⟨fun _ _ z _ => z, fun x _ z => by
    rcases z with z | z
    · exact .inl (.inl z)
    · exact .inr z⟩
  have o := h.ok.change kp (fun x hx => h.ok.o0 x (.inl hx)) (fun j hj x e => ⟨rfl, (h.away j hj x e).2.2⟩) h.nl
  refine ⟨o.reslot hi h.sl ?_, h.same, h.fresh, fun m hm q i g e => by rw [h.nl m hm] at e; exact nomatch e⟩
  exact rp_lst h1 h.nava ((kp.rpl _ _ h2).append (RpL.cons (rp_lst h3 h.navb (kp.rpl _ _ h4)) RpL.nil))
theorem NI.start {ρ : Rho} {σ : L2.St} {H : Hp} (o : OkS K O G M ρ σ H) (hi : Nf M i) (nl : ∀ m ∈ M, lkOf m = none) (hb : H b = none) (ha : upd H b (.lst []) a = none) (hl : i < ρ.length) : NI K O G M i (ρ.set i (some (.ref 0))) [] [] (σ.set i (some (.ref a))) (upd (upd H b (.lst [])) a (.lst [.ref b])) a b ∧ Same H (upd (upd H b (.lst [])) a (.lst [.ref b])) := by
  have hab : a ≠ b := fun z => by rw [z, upd_same] at ha; exact nomatch ha
  have haH : H a = none := by rw [upd_ne hab] at ha; exact ha
  have s1 : Same H (upd (upd H b (.lst [])) a (.lst [.ref b])) := (same_new hb).trans (same_new ha)
  have kp : Keep (Av O M σ) (Av (Oab O a b) M σ) H (upd (upd H b (.lst [])) a (.lst [.ref b])) := ⟨fun x o' hx _ => s1 x o' hx, fun x hx z => by
    rcases z with z | z
    · rcases z with z | z | z
      · exact .inl z
      · exact absurd (by rw [z]; exact haH) (liv_ne hx)
      · exact absurd (by rw [z]; exact hb) (liv_ne hx)
    · exact .inr z⟩
  have aw : ∀ j ∈ M, ∀ x, σ[j]? = some (some (.ref x)) → x ≠ a ∧ x ≠ b ∧ ¬ O x := fun j hj x e => by
    obtain ⟨d, hd⟩ := o.ok.slot e
    obtain ⟨a', _, e2, ha', ho, _⟩ := o.ok.own j d hd hj
    rw [e] at e2
    cases e2
    refine ⟨fun z => ?_, fun z => ?_, ho⟩
    · rw [z, haH] at ha'
      exact nomatch ha'
    · rw [z, hb] at ha'
      exact nomatch ha'
  have o1 : Ok K (Oab O a b) M ρ σ (upd (upd H b (.lst [])) a (.lst [.ref b])) := o.ok.change kp (fun x hx => by
    rcases hx with hx | hx | hx
    · exact same_dom s1 (o.ok.o0 x hx)
    · rw [hx, upd_same]
      exact fun z => nomatch z
    · rw [hx, upd_ne (fun z => hab z.symm), upd_same]
      exact fun z => nomatch z) (fun j hj x e => by
    obtain ⟨g1, g2, g3⟩ := aw j hj x e
    exact ⟨by rw [upd_ne g1, upd_ne g2], fun z => by
      rcases z with z | z | z
      · exact g3 z
      · exact g1 z
      · exact g2 z⟩) nl
  have hr : Rp K (Av (Oab O a b) M σ) (upd (upd H b (.lst [])) a (.lst [.ref b])) (.ref 0) (.ref a) := by
    rw [Rp]
    exact ⟨a, rfl⟩
  refine ⟨⟨o1.set hi hr, List.getElem?_set_self (by rw [o.ok.len]; exact hl), ⟨[], upd_same, RpL.nil⟩, ⟨[], by rw [upd_ne (fun z => hab z.symm), upd_same], RpL.nil⟩, hab, Same.free o.same haH, Same.free o.same hb, fun z => o.ok.o0 a z haH, fun z => o.ok.o0 b z hb, o.same.trans s1, fun j hj x e => ?_, nl⟩, s1⟩
  rw [List.getElem?_set_ne (fun z => hi.1 (by rw [z]; exact hj))] at e
  exact o.fresh j hj x e
end
def tNA (K : PySem.W.Frag) (i : Nat) : TS := tDrop (tBM K "list" rAppend (tVar i) (tCons (tLst tNil) tNil))
def tNB (c : Cf) (K : PySem.W.Frag) (M : List Nat) (i : Nat) (e : E) : TS := tDrop (tBM K "list" rAppend (tOp (rIxL K) (tVar i) (tC (.int (-1)))) (tCons (tE c K M e) tNil))
theorem s_nst {st1 st2 : Stmt} {rest : List Stmt} {i : Nat} {tg : Tg} {k : Src} {ss : List E} {cond e : E} {ss' : List S} (hsl : i ∉ slots tg) (hslM : ∀ j ∈ slots tg, Nf (wo M i) j) (hfi : fr M i = true) (nl : ∀ m ∈ M, lkOf m = none)
    (h1 : PS X st1 (tAsg (tLst (tCons (tLst tNil) tNil)) (gName i))) (h2 : PS X st2 (tFor (tI true c X.K (wo M i) k ss) (tG X.K (wo M i) tg) (tIfS (tT c X.K (wo M i) cond) (tNA X.K i) (tNB c X.K (wo M i) i e)))) (h3 : PSs X rest (tSs c wf X.K (wo M i) M2 ss')) :
    PSs X (st1 :: st2 :: rest) (tSs c wf X.K M M2 (.nst i tg k ss cond e :: ss')) := pss_imp (pss_cons h1 (pss_cons h2 h3)) fun Dn σ H ⟨O, G, ρ, f, o0, ee, q⟩ => by
  rw [xss, xs] at ee
  obtain ⟨z0, ee0, ee1⟩ := bind_ok ee
  cases hρ : ρ[i]? with
  | none => rw [hρ] at ee0; exact nomatch ee0
  | some slot =>
  rw [hρ] at ee0
  dsimp only at ee0
  obtain ⟨ys, e1, ee0⟩ := bind_ok ee0
  obtain ⟨its, e2, ee0⟩ := bind_ok ee0
  obtain ⟨zf, e3, ee0⟩ := bind_ok ee0
  cases ee0
  dsimp only at ee1
  have o := o0.drop (M' := wo M i) wo_sub
  have hi : Nf (wo M i) i := wo_nf hfi
  have nl' : ∀ m ∈ wo M i, lkOf m = none := fun m hm => nl m (wo_sub m hm)
  refine ⟨Nat.zero_le _, fun b hb => ⟨(by show 1 ≤ sizeLine; decide), fun a ha => ?_⟩⟩
  obtain ⟨ni0, s0⟩ := NI.start (a := a) (b := b) o hi nl' hb ha (some_lt hρ)
  have haH : H a = none := by
    by_cases hab : a = b
    · rw [hab]; exact hb
    · rw [upd_ne hab] at ha; exact ha
  generalize hσ1 : σ.set i (some (.ref a)) = σ1 at ni0
  have hσM : ∀ j ∈ wo M i, σ1[j]? = σ[j]? := fun j hj => by
    rw [← hσ1, List.getElem?_set_ne (fun z => by subst z; exact hi.1 hj)]
  unfold gName
  dsimp only
  rw [hσ1]
  refine ⟨Oab O a b, _, ys, its, ni0.ok, e1, e2, fun J H2 s2 wk => ?_⟩
  refine ⟨fun idx m σ2 H3 => m = its.length - idx ∧ idx ≤ its.length ∧ ∃ ρ2 dn cu b2, NI X.K O G (wo M i) i ρ2 dn cu σ2 H3 a b2 ∧ Keep (Av (Oab O a b) (wo M i) σ1) (Av (Oab O a b2) (wo M i) σ2) H2 H3 ∧ nstGo (nstF c tg cond e) (its.drop idx) dn cu ρ2 = .ok zf,
    ⟨its.length, rfl, Nat.zero_le _, _, [], [], b, ni0.ext s2, Keep.refl, e3⟩, ?_⟩
  rintro idx m σ2 H3 ⟨rfl, hidx, ρ2, dn, cu, b2, ni, kk, eg⟩
  by_cases hlt : idx < its.length
  · have hd := List.getElem?_eq_getElem hlt
    refine .inr ⟨wk.go _ H3 idx kk hlt, fun σ3 H4 => ∃ ρ3 dn cu b3, NI X.K O G (wo M i) i ρ3 dn cu σ3 H4 a b3 ∧ Keep (Av (Oab O a b) (wo M i) σ1) (Av (Oab O a b3) (wo M i) σ3) H2 H4 ∧ nstGo (nstF c tg cond e) (its.drop (idx + 1)) dn cu ρ3 = .ok zf,
      fun σ3 H4 hN => ⟨its.length - (idx + 1), by omega, rfl, hlt, hN⟩, fun x H4 hy => ?_⟩
    obtain ⟨s3, rx⟩ := wk.yld _ H3 idx x H4 _ kk ni.ok.dom hd hy
    rw [List.drop_eq_getElem_cons hlt, nstGo] at eg
    obtain ⟨z, f1, eg⟩ := bind_ok eg
    unfold nstF at f1
    split at f1
    · rename_i ρ' hbn
      have ni3 := ni.ext s3
      refine ⟨Oab O a b2, ρ2, its[idx], ρ', ni3.ok, rx, hbn, fun σ' o' av' w' => ?_⟩
      have hsl' : σ'[i]? = some (some (.ref a)) := by
        have := congrArg (fun l : L2.St => l[i]?) (w' (slots tg) fun _ h => h)
        rw [wipe_get, wipe_get, if_neg (fun z => hsl z.1), if_neg (fun z => hsl z.1)] at this
        rw [this]
        exact ni.sl
      have ni4 : NI X.K O G (wo M i) i ρ' dn cu σ' H4 a b2 := by
        obtain ⟨vs, g1, g2⟩ := ni3.ha
        obtain ⟨ws, g3, g4⟩ := ni3.hb
        refine ⟨o', hsl', ⟨vs, g1, by rw [av']; exact g2⟩, ⟨ws, g3, by rw [av']; exact g4⟩, ni.ab, ni.ga, ni.gb, ni.na, ni.nb, ni3.same, fun j hj y ey => ?_, nl'⟩
        have hay : Av (Oab O a b2) (wo M i) σ' y := .inr ⟨j, hj, ey⟩
        rw [av'] at hay
        rcases hay with hay | ⟨j2, hj2, e2'⟩
        · obtain ⟨d', hd'⟩ := o'.slot ey
          obtain ⟨a', _, g5, _, g6, _⟩ := o'.own j d' hd' hj
          rw [ey] at g5
          cases g5
          exact absurd hay g6
        · exact ni.fresh j2 hj2 y e2'
      have k4 : Keep (Av (Oab O a b) (wo M i) σ1) (Av (Oab O a b2) (wo M i) σ') H2 H4 := by
        rw [av']
        exact kk.trans (keep_same s3)
      obtain ⟨t, t1, f1⟩ := bind_ok f1
      obtain ⟨bb, t2, f1⟩ := bind_ok f1
      unfold rTruth at t2
      split at t2
      · rename_i b0 ht
        cases t2
        refine ⟨Oab O a b2, ρ', t, bb, ni4.ok, t1, ht, fun H5 s5 => ?_⟩
        have ni5 := ni4.ext s5
        have k5 := k4.trans (keep_same (O := Av (Oab O a b2) (wo M i) σ') s5)
        cases bb with
        | true =>
          cases f1
          dsimp only at eg
          obtain ⟨hl, eg⟩ : dn.length + 1 < LIM ∧ nstGo (nstF c tg cond e) (its.drop (idx + 1)) (dn ++ [.lst cu]) [] ρ' = .ok zf := by
            by_cases hl : dn.length + 1 < LIM
            · rw [if_pos hl] at eg
              exact ⟨hl, eg⟩
            · rw [if_neg hl] at eg
              exact nomatch eg
          obtain ⟨vs, g1, g2⟩ := ni5.ha
          refine iteT ⟨.ref a, hsl', .inl ⟨rfl, _, .inl (.inl g1)⟩, Nat.zero_le _, fun b3 hb3 => ?_⟩
          have hab3 : a ≠ b3 := fun z => by rw [← z, g1] at hb3; exact nomatch hb3
          refine ⟨a, vs ++ [.ref b2], .ref b3, rfl, rfl, by rw [upd_ne hab3]; exact g1, ?_, ?_⟩
          · rw [List.length_append, List.length_cons, List.length_nil, ← g2.length]
            exact lim_lt hl
          · obtain ⟨n1, n2⟩ := ni5.next hb3 _ g1
            exact ⟨ρ', _, _, b3, n1, k5.trans n2, eg⟩
        | false =>
          obtain ⟨x', t3, f1⟩ := bind_ok f1
          cases f1
          dsimp only at eg
          obtain ⟨hl, eg⟩ : cu.length < LIM ∧ nstGo (nstF c tg cond e) (its.drop (idx + 1)) dn (cu ++ [x']) ρ' = .ok zf := by
            by_cases hl : cu.length < LIM
            · rw [if_pos hl] at eg
              exact ⟨hl, eg⟩
            · rw [if_neg hl] at eg
              exact nomatch eg
          obtain ⟨vs, g1, g2⟩ := ni5.ha
          obtain ⟨ws, g3, g4⟩ := ni5.hb
          refine iteF ⟨.ref a, hsl', a, _, -1, .ref b2, rfl, rfl, .inl (.inl g1), atI_last _ _, .inl ⟨rfl, _, .inl (.inl g3)⟩, Oab O a b2, ρ', x', ni5.ok, t3, fun v H6 s6 r6 => ?_⟩
          refine ⟨b2, ws, v, rfl, rfl, s6 _ _ g3, by rw [← g4.length]; exact lim_lt hl, ?_⟩
          obtain ⟨n1, n2⟩ := (ni5.ext s6).more r6 ws (s6 _ _ g3)
          exact ⟨ρ', _, _, b2, n1, (k5.trans (keep_same (O := Av (Oab O a b2) (wo M i) σ') s6)).trans n2, eg⟩
      · exact nomatch t2
    · exact nomatch f1
  · have ei : idx = its.length := by omega
    subst ei
    refine .inl ⟨wk.stop _ H3 kk, ?_⟩
    rw [List.drop_length, nstGo] at eg
    cases eg
    refine ⟨O, G, _, f, ni.close hi, ee1, ?_⟩
    have kf : Keep (Av O M σ) (Av O (wo M i) σ2) H H3 := by
      have sH : Same H H2 := s0.trans s2
      refine ⟨fun x o' hx n => kk.heap x o' (sH x o' hx) ⟨fun z => ?_, n.2⟩, fun x hx z => ?_⟩
      · rcases z with z | ⟨j, hj, e'⟩
        · rcases z with z | z | z
          · exact n.1 (.inl z)
          · rw [z, haH] at hx
            exact nomatch hx
          · rw [z, hb] at hx
            exact nomatch hx
        · rw [hσM j hj] at e'
          exact n.1 (.inr ⟨j, wo_sub j hj, e'⟩)
      · have z2 : Av (Oab O a b2) (wo M i) σ2 x := by
          rcases z with z | z
          · exact .inl (.inl z)
          · exact .inr z
        rcases kk.own x (liv_same sH hx) z2 with y | ⟨j, hj, e'⟩
        · rcases y with y | y | y
          · exact .inl y
          · exact absurd (by rw [y]; exact haH) (liv_ne hx)
          · exact absurd (by rw [y]; exact hb) (liv_ne hx)
        · rw [hσM j hj] at e'
          exact .inr ⟨j, wo_sub j hj, e'⟩
    cases f with
    | nx ρ3 => exact fun σ3 H4 o3 k3 => q σ3 H4 o3 (kf.trans k3)
    | rt d => exact q
theorem s_whl {e : Expr} {e' : E} {body : List Stmt} {body' : List S} {pos : Pos} (hp : PassesOwn (model X.prog X.w) X.A X.env X.xe) (hc : PT X e (tT c X.K M e')) (hb : PSs X body (tSs c wf X.K M M body')) : PS X (.While e body [] pos) (tS c wf X.K M M (.whl e' body')) :=
  ps_imp (ps_while hp hc hb) fun Dn σ H ⟨O, G, ρ, f, o, ee, q⟩ => by
  rw [xs] at ee
  refine ⟨fun m σ2 H2 => ∃ ρ2, OkS X.K O G M ρ2 σ2 H2 ∧ Keep (Av O M σ) (Av O M σ2) H H2 ∧ whlGo (fun ρ => (ev c e' ρ).bind rTruth) (fun ρ => xss c wf body' ρ) m ρ2 = .ok f, ⟨wf, ρ, o, Keep.refl, ee⟩, ?_⟩
  rintro m σ2 H2 ⟨ρ2, o2, k2, eg⟩
  cases m with
  | zero => exact nomatch eg
  | succ m =>
    rw [whlGo] at eg
    obtain ⟨b, g1, eg⟩ := bind_ok eg
    obtain ⟨d, g2, g1⟩ := bind_ok g1
    unfold rTruth at g1
    split at g1
    · rename_i b0 ht
      cases g1
      refine ⟨O, ρ2, d, b, o2.ok, g2, ht, fun H3 s3 => ?_⟩
      cases b with
      | true =>
        obtain ⟨z, h1, eg⟩ := bind_ok eg
        refine iteT ⟨fun σ4 H4 => ∃ ρ4, OkS X.K O G M ρ4 σ4 H4 ∧ Keep (Av O M σ) (Av O M σ4) H H4 ∧ whlGo (fun ρ => (ev c e' ρ).bind rTruth) (fun ρ => xss c wf body' ρ) m ρ4 = .ok f, fun σ4 H4 hN => ⟨m, Nat.lt_succ_self m, hN⟩, O, G, ρ2, z, o2.ext s3, h1, ?_⟩
        cases z with
        | nx ρ4 => exact fun σ4 H4 o4 k4 => ⟨ρ4, o4, (k2.trans (keep_same s3)).trans k4, eg⟩
        | rt d =>
          cases eg
          exact q
      | false =>
        cases eg
        exact iteF (q _ H3 (o2.ext s3) (k2.trans (keep_same s3)))
    · exact nomatch g1
def isL (q k : Nat) : Bool := (q == 0 && k == 8) || (q == 1 && k == 1)
def FR (K : PySem.W.Frag) (O : Addr → Prop) (H : Hp) (l : Bool) (d : D) (v : V) : Prop := match l with
  | true => ∃ b u, v = .ref b ∧ H b = some u ∧ O b ∧ Ow K O H d u
  | false => Rp K O H d v
def FRp (K : PySem.W.Frag) (O : Addr → Prop) (q : Nat) (H : Hp) (fs : List D) (us : List V) : Prop := fs.length = us.length ∧ ∀ k d v, fs[k]? = some d → us[k]? = some v → FR K O H (isL q k) d v
theorem FR.ext {K : PySem.W.Frag} {O : Addr → Prop} {H H' : Hp} {l : Bool} {d : D} {v : V} (h : FR K O H l d v) (s : Same H H') : FR K O H' l d v := by
  cases l with
  | true =>
    obtain ⟨b, u, e2, h1, h2, r⟩ := h
    exact ⟨b, u, e2, s _ _ h1, h2, Ow.ext r s⟩
  | false => exact same_rp s h
theorem FRp.ext {K : PySem.W.Frag} {O : Addr → Prop} {q : Nat} {H H' : Hp} {fs : List D} {us : List V} (h : FRp K O q H fs us) (s : Same H H') : FRp K O q H' fs us := ⟨h.1, fun k d v e1 e2 => (h.2 k d v e1 e2).ext s⟩
def spR (K : PySem.W.Frag) (q : Nat) (f : List D → List D → R D) : Sp := fun vs H Q _ => ∃ (O : Addr → Prop) (a C dx : Addr) (ws us : List V) (ds fs : List D) (d : D), vs = .ref a :: ws ∧ (∀ b, O b → H b ≠ none) ∧ O a ∧ H a = some (.ins C dx ((flds q).zip us)) ∧ us.length = (flds q).length ∧ ClsF K q C ∧
  RpL K O H ds ws ∧ FRp K O q H fs us ∧ f ds fs = .ok d ∧ ∀ v H', Same H H' → Rp K O H' d v → Q v H'
def gsOk (M : List Nat) (q g : Nat) (gs : List Nat) : Bool := gs == List.range' g (flds q).length && (List.range (flds q).length).all fun k => M.contains (g + k) == isL q k
theorem gets_get {ρ : Rho} : ∀ {gs : List Nat} {fs : List D}, gets ρ gs = .ok fs → fs.length = gs.length ∧ ∀ (k : Nat) (d : D), fs[k]? = some d → ∃ j : Nat, gs[k]? = some j ∧ ρ[j]? = some (some d)
  | [], fs, h => by
    cases h
    exact ⟨rfl, fun k d e => nomatch e⟩
  | j :: gs, fs, h => by
    rw [gets] at h
    obtain ⟨d, h1, h⟩ := bind_ok h
    obtain ⟨r, h2, h⟩ := bind_ok h
    cases h
    obtain ⟨g1, g2⟩ := gets_get h2
    refine ⟨by rw [List.length_cons, List.length_cons, g1], fun k d' e => ?_⟩
    cases k with
    | zero =>
      cases e
      refine ⟨j, rfl, ?_⟩
      unfold get at h1
      split at h1
      · rename_i d0 hd0
        cases h1
        exact hd0
      · exact nomatch h1
    | succ k => exact g2 k d' e
theorem ob_get {K : PySem.W.Frag} {O : Addr → Prop} {ρ : Rho} {σ : L2.St} {H : Hp} (o : Ok K O M ρ σ H) {m q i g : Nat} {gs : List Nat} {fs : List D} (hm : m ∈ M) (hl : lkOf m = some (q, i, g)) (hg : gsOk M q g gs = true) (e : gets ρ gs = .ok fs) :
    ∃ a C dx us, σ[i]? = some (some (.ref a)) ∧ O a ∧ H a = some (.ins C dx ((flds q).zip us)) ∧ us.length = (flds q).length ∧ ClsF K q C ∧ FRp K (Av O M σ) q H fs us := by
  unfold gsOk at hg
  rw [Bool.and_eq_true] at hg
  have hgs := eq_of_beq hg.1
  subst hgs
  obtain ⟨a, C, dx, us, h1, h2, h3, h4, h5, h6⟩ := o.lnk.at_ m hm q i g hl
  obtain ⟨g1, g2⟩ := gets_get e
  rw [List.length_range'] at g1
  refine ⟨a, C, dx, us, h1, h2, h3, h4, h5, by rw [g1, h4], fun k d v e1 e2 => ?_⟩
  obtain ⟨j, hj, hρ⟩ := g2 k d e1
  have hk : k < (flds q).length := by rw [← h4]; exact some_lt e2
  rw [List.getElem?_range' (by omega)] at hj
  have hj' : g + k = j := by
    have := Option.some.inj hj
    omega
  subst hj'
  have hs := h6 k v e2
  have hb := eq_of_beq (List.all_eq_true.mp hg.2 k (List.mem_range.mpr hk))
  cases hL : isL q k with
  | true =>
    rw [hL] at hb
    obtain ⟨b, u, q2, q3, q4, q5⟩ := o.own _ d hρ (List.contains_iff_mem.mp hb)
    rw [hs] at q2
    cases q2
    exact ⟨b, u, rfl, q3, .inr ⟨_, List.contains_iff_mem.mp hb, hs⟩, q5⟩
  | false =>
    rw [hL] at hb
    have hn : g + k ∉ M := fun z => by
      rw [List.contains_iff_mem.mpr z] at hb
      exact nomatch hb
    obtain ⟨v', q1, q2⟩ := o.val _ d hρ hn
    rw [hs] at q1
    cases q1
    exact q2
theorem zip_none {x : Str} : ∀ {l : List Str} {us : List V}, x ∉ l → (l.zip us).lookup x = none
  | [], _, _ => rfl
  | _ :: _, [], _ => rfl
  | y :: l, u :: us, h => by
    rw [List.zip_cons_cons, List.lookup_cons]
    have : (x == y) = false := by
      rw [beq_eq_false_iff_ne]
      exact fun z => h (by rw [z]; exact List.mem_cons_self)
    rw [this]
    exact zip_none fun z => h (List.mem_cons_of_mem _ z)
theorem meth_ev {o : Expr} {nm : Str} {apos pos : Pos} {args : List Expr} {env : Env} (hb : attributeBase o nm env (eval o env) = eval o env) (hf : methodCallForm (args.length + ([] : List Keyword).length) (backTo pos (starEach args env)) (backToKw pos (keywordEach [] env)) = true) (hl : (apos.endLine == pos.line) = true) :
    eval (.Call (.Attribute o nm apos) args [] pos) env = (do
      let ov ← eval o env
      standAt apos.atName
      let (f, first) ← holding [ov] (getMethod ov nm (do return (← importBound o env).getD true))
      callWith pos f first (backTo pos (starEach args env)) (backToKw pos (keywordEach [] env))) := by
  have hp : methodCallPos true o env apos pos = pure pos := by
    unfold methodCallPos
    rw [hl]
    rfl
  rw [arm_eval_Call, hb]
  unfold methodCall calleeOf
  rw [hf, hp]
  rfl
theorem l_mrd {m q i g : Nat} {gs : List Nat} {x mt : Str} {p apos pos : Pos} {a : Expr} {as : List Expr} {as' : List E} {k : Nat} {C f : Addr} {fd : FuncData} {ps : List Str} (F : FnOk X.prog X.w X.K X.mg X.base CX0 k f fd ps (spR X.K q (c.md mt))) (hr : Room k X.A) (hb : Binds X.K fd ps []) (hC : ClsF X.K q C) (hmt : Meth X.K C mt f) (hnf : mt ∉ flds q)
    (hN : X.N[i]? = some x) (hv : Vis X.env.scope x) (hd : (x == ("__debug__" : Str)) = false) (hcd : (x == ("__classdict__" : Str)) = false) (hm : m ∈ M) (hl : lkOf m = some (q, i, g)) (hg : gsOk M q g gs = true) (ha : PA X (a :: as) (tEs c X.K M as'))
    (hs : starEach (a :: as) X.env = (false, eval a X.env) :: starEach as X.env) (hpl : (backTo pos (starEach as X.env)).any (·.1) = false) (hfew : methodCallForm ((a :: as).length + ([] : List Keyword).length) (backTo pos (starEach (a :: as) X.env)) (backToKw pos (keywordEach [] X.env)) = true) (hline : (apos.endLine == pos.line) = true) :
    PE X (.Call (.Attribute (.Name x p) mt apos) (a :: as) [] pos) (tE c X.K M (.mrd i gs mt as')) :=
  pe_imp (pe_meth (pe_var hN hv hd hcd) hC.cl hmt F hr hb .nil pass0 ha hs hpl (meth_ev rfl hfew hline)) fun σ H Q ⟨O, ρ, d, o, ee, qq⟩ => by
  rw [ev] at ee
  obtain ⟨ds, e1, ee⟩ := bind_ok ee
  obtain ⟨fs, e2, ee⟩ := bind_ok ee
  obtain ⟨oa, C', dx, us, h1, h2, h3, h4, h5, h6⟩ := ob_get o hm hl hg e2
  have hCC : C' = C := by
    have z := h5.ns
    rw [hC.ns] at z
    cases z
    rfl
  subst hCC
  refine ⟨.ref oa, h1, oa, dx, _, rfl, h3, zip_none hnf, O, ρ, ds, o, e1, fun vs H1 s1 r1 => ?_⟩
  show spR X.K q (c.md mt) (.ref oa :: (vs ++ [])) H1 Q E0
  rw [List.append_nil]
  exact ⟨Av O M σ, oa, _, dx, vs, us, ds, fs, d, rfl, (o.ext s1).dom, .inl h2, s1 _ _ h3, h4, h5, r1, h6.ext s1, ee, fun v H2 s2 r2 => qq v H2 (s1.trans s2) r2⟩
theorem l_mrd0 {m q i g : Nat} {gs : List Nat} {x mt : Str} {p apos pos : Pos} {k : Nat} {C f : Addr} {fd : FuncData} {ps : List Str} (F : FnOk X.prog X.w X.K X.mg X.base CX0 k f fd ps (spR X.K q (c.md mt))) (hr : Room k X.A) (hb : Binds X.K fd ps []) (hC : ClsF X.K q C) (hmt : Meth X.K C mt f) (hnf : mt ∉ flds q)
    (hN : X.N[i]? = some x) (hv : Vis X.env.scope x) (hd : (x == ("__debug__" : Str)) = false) (hcd : (x == ("__classdict__" : Str)) = false) (hm : m ∈ M) (hl : lkOf m = some (q, i, g)) (hg : gsOk M q g gs = true) (hline : (apos.endLine == pos.line) = true) :
    PE X (.Call (.Attribute (.Name x p) mt apos) [] [] pos) (tE c X.K M (.mrd i gs mt [])) :=
  pe_imp (pe_meth0 (pe_var hN hv hd hcd) hC.cl hmt F hr hb .nil pass0 (meth_ev rfl rfl hline)) fun σ H Q ⟨O, ρ, d, o, ee, qq⟩ => by
  rw [ev] at ee
  obtain ⟨ds, e1, ee⟩ := bind_ok ee
  obtain ⟨fs, e2, ee⟩ := bind_ok ee
  rw [evs] at e1
  cases e1
  obtain ⟨oa, C', dx, us, h1, h2, h3, h4, h5, h6⟩ := ob_get o hm hl hg e2
  have hCC : C' = C := by
    have z := h5.ns
    rw [hC.ns] at z
    cases z
    rfl
  subst hCC
  refine ⟨.ref oa, h1, oa, dx, _, rfl, h3, zip_none hnf, ?_⟩
  exact ⟨Av O M σ, oa, _, dx, [], us, [], fs, d, rfl, o.dom, .inl h2, h3, h4, h5, RpL.nil, h6, ee, fun v H2 s2 r2 => qq v H2 s2 r2⟩
end
end LC

set_option Elab.async false
set_option linter.all false
set_option maxRecDepth 100000
set_option maxHeartbeats 2000000
namespace LC
open PySem PySem.Spec PyProof.Rows L2

def isVis (sc : Scope) (x : Str) : Bool := match sc.names.lookup x with
  | some .local => true
  | some .cell => true
  | some .free => true
  | _ => false
def isLoc (sc : Scope) (x : Str) : Bool := match sc.names.lookup x with
  | some .local => true
  | some .cell => true
  | _ => false
def isGl (sc : Scope) (x : Str) : Bool := sc.names.lookup x == some .globalImplicit
def nmOk (x : Str) : Bool := !(x == ("__debug__" : Str)) && !(x == ("__classdict__" : Str)) && !(x == ("__name__" : Str))
def wk (M : List Nat) : E → Bool
  | .var i => M.contains i
  | _ => false
def binOk : Operator → Bool
  | .Add | .Sub | .Mult | .FloorDiv | .Mod | .Pow => true
  | _ => false
def biName : Bi → Str
  | .len => "len"
  | .int => "int"
  | .str => "str"
  | .tuple => "tuple"
  | .list => "list"
  | .sum => "sum"
  | .max => "max"
  | .min => "min"
  | .abs => "abs"
  | .all => "all"
  | .sorted => "sorted"
def noSlice : Expr → Bool
  | .Slice _ _ _ _ => false
  | _ => true
def stpOk : Stp → Option Expr → Expr → Bool
  | .rev, none, .UnaryOp .USub (.Constant (.int 1) _ _) _ => true
  | .even, none, .Constant (.int 2) _ _ => true
  | .odd, some (.Constant (.int 1) _ _), .Constant (.int 2) _ _ => true
  | _, _, _ => false
def srcArgs : Src → Expr → Option (List Expr)
  | .seq, e => some [e]
  | .rng, .Call (.Name x _) args [] _ => if x == ("range" : Str) then some args else none
  | .enum, .Call (.Name x _) [a] [] _ => if x == ("enumerate" : Str) then some [a] else none
  | .zip, .Call (.Name x _) [a, b] [] _ => if x == ("zip" : Str) then some [a, b] else none
  | _, _ => none
def isTupE : Expr → Bool
  | .Tuple _ _ _ => true
  | _ => false
def srcOk (sc : Scope) (tg : Expr) : Src → Bool
  | .seq => true
  | .rng => isGl sc ("range" : Str)
  | .enum => isGl sc ("enumerate" : Str) && isTupE tg
  | .zip => isGl sc ("zip" : Str) && isTupE tg
def chkNames (N : List Str) (sc : Scope) (top : Bool) (M : List Nat) : List Expr → List Nat → Bool
  | [], [] => true
  | .Name x _ :: es, i :: is => N[i]? == some x && isLoc sc x && (top || sc.names.lookup x == some .local) && !M.contains i && fr M i && chkNames N sc top M es is
  | _, _ => false
def chkTg (N : List Str) (sc : Scope) (top : Bool) (M : List Nat) (e : Expr) : Tg → Bool
  | .one i => chkNames N sc top M [e] [i]
  | .many is => match e with
    | .Tuple es _ _ => chkNames N sc top M es is
    | _ => false
def attrOk : Expr → Bool
  | .Call (.Name _ _) [] [] _ => false
  | _ => true
def plainT : Expr → Bool
  | .Name _ _ | .Call _ _ _ _ | .Subscript _ _ _ | .Constant _ _ _ => true
  | _ => false

def isFld (N : List Str) (x f : Str) (i m : Nat) : Bool := match lkOf m with
  | some (q, j, g) => N[j]? == some x && decide (g ≤ i) && (flds q)[i - g]? == some f
  | none => false
def isOb (N : List Str) (M : List Nat) (x : Str) (i : Nat) (gs : List Nat) (q m : Nat) : Bool := match lkOf m with
  | some (q', j, g) => q' == q && j == i && N[j]? == some x && gsOk M q g gs
  | none => false
mutual
def chkE (p : Pg) (N : List Str) (M : List Nat) : Scope → E → Expr → Bool
  | sc, .var i, e => match e with
    | .Name x _ => N[i]? == some x && isVis sc x && nmOk x
    | .Attribute (.Name x _) f _ => isVis sc x && nmOk x && M.any (isFld N x f i)
    | _ => false
  | sc, .glb y, e => match e with
    | .Name x _ => x == y && isGl sc x && nmOk x && (p.glb.lookup x).isSome
    | _ => false
  | _, .cst d, e => match e, d with
    | .Constant (.int i) _ _, .int j => i == j
    | .Constant (.bool a) _ _, .bl b => a == b
    | .Constant (.str a) _ _, .str b => a == b
    | .Constant .none _ _, .non => true
    | _, _ => false
  | sc, .bin o a' b', e => match e with
    | .BinOp a op b _ => op == o && binOk o && chkE p N M sc a' a && chkE p N M sc b' b
    | _ => false
  | sc, .neg a', e => match e with
    | .UnaryOp .USub a _ => chkE p N M sc a' a
    | _ => false
  | sc, .not a', e => match e with
    | .UnaryOp .Not a _ => chkE p N M sc a' a
    | _ => false
  | sc, .cmp o a' b', e => match e with
    | .Compare a [op] [b] _ => op == o && !behindInMarks op b && chkE p N M sc a' a && chkE p N M sc b' b
    | _ => false
  | sc, .chn o o2 a' b' f', e => match e with
    | .Compare a [op, op2] [b, f] _ => op == o && op2 == o2 && !behindInMarks op2 f && chkE p N M sc a' a && chkE p N M sc b' b && chkE p N M sc f' f
    | _ => false
  | sc, .and a b, e => match e with
    | .BoolOp .And [x, y] _ => chkE p N M sc a x && chkE p N M sc b y && !wk M b
    | .BoolOp .And [x, y, z] _ => chkE p N M sc a x && (match b with
      | .and b c => chkE p N M sc b y && chkE p N M sc c z && !wk M c
      | _ => false)
    | .BoolOp .And [x, y, z, u] _ => chkE p N M sc a x && (match b with
      | .and b (.and c d) => chkE p N M sc b y && chkE p N M sc c z && chkE p N M sc d u && !wk M d
      | _ => false)
    | _ => false
  | sc, .or a b, e => match e with
    | .BoolOp .Or [x, y] _ => chkE p N M sc a x && chkE p N M sc b y && !wk M b
    | .BoolOp .Or [x, y, z] _ => chkE p N M sc a x && (match b with
      | .or b c => chkE p N M sc b y && chkE p N M sc c z && !wk M c
      | _ => false)
    | .BoolOp .Or [x, y, z, u] _ => chkE p N M sc a x && (match b with
      | .or b (.or c d) => chkE p N M sc b y && chkE p N M sc c z && chkE p N M sc d u && !wk M d
      | _ => false)
    | _ => false
  | sc, .idx a' b', e => match e with
    | .Subscript a b _ => noSlice b && chkE p N M sc a' a && chkE p N M sc b' b
    | _ => false
  | sc, .cut a' bl lo' bh hi', e => match e with
    | .Subscript a (.Slice lo hi none _) _ => chkE p N M sc a' a && (match lo with
      | none => !bl
      | some f => bl && chkE p N M sc lo' f) && (match hi with
      | none => !bh
      | some f => bh && chkE p N M sc hi' f)
    | _ => false
  | sc, .stp k a', e => match e with
    | .Subscript a (.Slice lo none (some st) _) _ => stpOk k lo st && chkE p N M sc a' a
    | _ => false
  | sc, .tup es', e => match e with
    | .Tuple es _ _ => chkEs p N M true sc es' es
    | _ => false
  | sc, .lst es', e => match e with
    | .List es _ => chkEs p N M true sc es' es
    | _ => false
  | sc, .call f es', e => match e with
    | .Call (.Name x _) (a :: as) [] _ => x == f && isGl sc x && nmOk x && (p.fns.lookup f).isSome && chkEs p N M true sc es' (a :: as)
    | _ => false
  | sc, .bi b es', e => match e with
    | .Call (.Name x _) (a :: as) [] _ => x == biName b && isGl sc x && chkEs p N M false sc es' (a :: as)
    | _ => false
  | sc, .isi a' t, e => match e with
    | .Call (.Name x _) [a, .Name y _] [] _ => x == ("isinstance" : Str) && isGl sc x && y == (tyName t : Str) && isGl sc y && chkE p N M sc a' a
    | _ => false
  | sc, .lc own tg' k ss cond elt', e => match e with
    | .ListComp elt [⟨tg, iter, ifs, ia⟩] scope _ => ia == 0 && blkC N sc scope (own.map fun i => (N.getD i ("" : Str), i)) && own.all (fun i => !M.contains i && fr M i) && (slots tg').all (fun i => own.contains i)
      && chkTg N (relS scope sc) false M tg tg' && srcOk sc tg k && (match srcArgs k iter with
        | some as => chkEs p N M false sc ss as
        | none => false)
      && (match ifs, cond with
        | [], .cst (.bl true) => true
        | [.UnaryOp .Not x _], .not a => plainT x && chkE p N M (relS scope sc) a x
        | [.Compare a [op] [b] _], .cmp o a' b' => op == o && !behindInMarks op b && chkE p N M (relS scope sc) a' a && chkE p N M (relS scope sc) b' b
        | _, _ => false)
      && chkE p N M (relS scope sc) elt' elt && !wk M elt'
    | _ => false
  | sc, .mth m o' es', e => match e with
    | .Call (.Attribute o nm apos) (a :: as) [] cpos => nm == mthName m && attrOk o && apos.endLine == cpos.line && decide (as.length < 9) && chkE p N M sc o' o && chkEs p N M false sc es' (a :: as)
    | _ => false
  | sc, .rpl o' x y, e => match e with
    | .Call (.Attribute o nm apos) [.Name x' _, .Name y' _] [] cpos => nm == ("replace" : Str) && attrOk o && apos.endLine == cpos.line && x' == x && y' == y && isGl sc x && isGl sc y && nmOk x && nmOk y && (p.rps.contains (x, y) && x != y) && chkE p N M sc o' o
    | _ => false
  | sc, .kin neg a' x, e => match e with
    | .Compare a [op] [.Name x' _] _ => op == (if neg = true then .NotIn else .In) && x' == x && isGl sc x && nmOk x && (p.dct.lookup x).isSome && chkE p N M sc a' a
    | _ => false
  | sc, .kget x a', e => match e with
    | .Subscript (.Name x' _) a _ => noSlice a && x' == x && isGl sc x && nmOk x && (p.dct.lookup x).isSome && chkE p N M sc a' a
    | _ => false
  | sc, .sst a', e => match e with
    | .Call (.Name f _) [.Call (.Name g _) [a] [] _] [] _ => f == ("sorted" : Str) && isGl sc f && g == ("set" : Str) && isGl sc g && chkE p N M sc a' a
    | _ => false
  | sc, .rpr a', e => match e with
    | .Call (.Name f _) [a] [] _ => p.rps.contains (("" : Str), ("" : Str)) && f == ("repr" : Str) && isGl sc f && chkE p N M sc a' a
    | _ => false
  | sc, .lss a', e => match e with
    | .Call (.Name f _) [.Call (.Name g _) [a] [] _] [] _ => f == ("len" : Str) && isGl sc f && g == ("set" : Str) && isGl sc g && chkE p N M sc a' a
    | _ => false
  | sc, .mrd i gs m es', e => match e with
    | .Call (.Attribute (.Name x _) mt apos) as [] cpos => mt == m && isVis sc x && nmOk x && apos.endLine == cpos.line && decide (as.length < 9) && (match p.mrs.lookup m with
      | some r => M.any (isOb N M x i gs r.q) && !(flds r.q).contains m
      | none => false) && chkEs p N M true sc es' as
    | _ => false
def chkEs (p : Pg) (N : List Str) (M : List Nat) (strong : Bool) : Scope → List E → List Expr → Bool
  | _, [], es => es.isEmpty
  | sc, e' :: es', es => match es with
    | e :: es => chkE p N M sc e' e && (!strong || !wk M e') && chkEs p N M strong sc es' es
    | [] => false
end
end LC

set_option Elab.async false
set_option linter.all false
set_option maxRecDepth 100000
set_option maxHeartbeats 4000000
namespace LC
open PySem PySem.Spec PyProof.Rows L2

def bltNames : List Str := ["len", "int", "str", "tuple", "list", "sum", "max", "min", "abs", "all", "sorted", "isinstance", "range", "enumerate", "zip", "bool", "set", "repr"]

def DctOk (K : PySem.W.Frag) (w : World) (mg : Str → Option Value) (x : Str) (kvs : List (Str × D)) : Prop := ∃ dd es m, mg x = some (.ref dd) ∧ KDict K w dd es m ∧ ∀ z, ∃ r, PySem.W.nsIn K dd z = some r ∧ DEnt K r (kvs.lookup z)
def RpsOk (p : Pg) (mg : Str → Option Value) (x y : Str) : Prop := ∃ a b t u, mg x = some (.str a t) ∧ mg y = some (.str b u) ∧ t ≠ 0 ∧ u ≠ 0 ∧ t ≠ u ∧ p.glb.lookup x = some (.str a) ∧ p.glb.lookup y = some (.str b)
def MrOk (P : Program) (w : World) (K : PySem.W.Frag) (mg : Str → Option Value) (base : Heap) (p : Pg) (n : Nat) (m : Str) (r : Rd1) : Prop := ∃ C f fd ps, ClsF K r.q C ∧ Meth K C m f ∧ Binds K fd ps [] ∧ FnOk P w K mg base CX0 n f fd ps (spR K r.q (runD p n m))
structure Cok (p : Pg) (n : Nat) (N : List Str) (sc : Scope) (X : Cx) : Prop where
  names : X.N = N
  nd : N.Nodup
  scope : X.env.scope = sc
  calm : X.calm = true
  room : Room n X.A
  glb : ∀ x d, p.glb.lookup x = some d → ∃ v u, X.mg x = some u ∧ RelV v u ∧ ∀ O H, Rp X.K O H d v
  blt : ∀ x ∈ bltNames, X.mg x = none
  fns : ∀ f fn, p.fns.lookup f = some fn → ∃ a fd ps, X.mg f = some (.ref a) ∧ PySem.W.keepIn X.K (.ref a) = true ∧ Binds X.K fd ps [] ∧ FnOk X.prog X.w X.K X.mg X.base CX0 n a fd ps (spF X.K (run p n f))
  dct : ∀ x kvs, p.dct.lookup x = some kvs → DctOk X.K X.w X.mg x kvs
  rps : ∀ x y, (x, y) ∈ p.rps → x ≠ y → RpsOk p X.mg x y
  mrs : ∀ m r, p.mrs.lookup m = some r → MrOk X.prog X.w X.K X.mg X.base p n m r
  gd : p.rps.contains (("" : Str), ("" : Str)) = true → X.A.guards = some []
theorem rps_ne {p : Pg} {mg : Str → Option Value} {x : Str} (h : RpsOk p mg x x) : False := by
  obtain ⟨a, b, t, u, g1, g2, g3, g4, g5, _⟩ := h
  rw [g1] at g2
  cases g2
  exact g5 rfl
theorem gd_of {p : Pg} {mg : Str → Option Value} {G : Prop} (rps : ∀ x y, (x, y) ∈ p.rps → RpsOk p mg x y) (h : p.rps.contains (("" : Str), ("" : Str)) = true) : G := (rps_ne (rps _ _ (List.contains_iff_mem.mp h))).elim
theorem Cok.blk {p : Pg} {n : Nat} {N : List Str} {sc : Scope} {X : Cx} (h : Cok p n N sc X) (s : Shared) (H : Hp) (scope : Scope) (C : Addr) (cl : List (Str × Addr)) (fp : List Addr) : Cok p n N (relS scope sc) (X.blk s H scope (compEnvC scope cl C X.env) fp) :=
  ⟨h.names, h.nd, by rw [← h.scope]; rfl, h.calm, h.room, h.glb, h.blt, h.fns, h.dct, h.rps, h.mrs, h.gd⟩

theorem vis_of {sc : Scope} {x : Str} (h : isVis sc x = true) : Vis sc x := by
  unfold isVis at h
  split at h
  · exact .inl (by assumption)
  · exact .inr (.inl (by assumption))
  · exact .inr (.inr (by assumption))
  · exact nomatch h
theorem loc_of {sc : Scope} {x : Str} (h : isLoc sc x = true) : Loc sc x := by
  unfold isLoc at h
  split at h
  · exact .inl (by assumption)
  · exact .inr (by assumption)
  · exact nomatch h
theorem nm_of {x : Str} (h : nmOk x = true) : (x == ("__debug__" : Str)) = false ∧ (x == ("__classdict__" : Str)) = false ∧ x ≠ ("__name__" : Str) := by
  unfold nmOk at h
  rw [Bool.and_eq_true, Bool.and_eq_true] at h
  refine ⟨by simpa using h.1.1, by simpa using h.1.2, fun e => ?_⟩
  rw [e] at h
  simp at h
section
variable {p : Pg} {n : Nat} {N : List Str} {sc : Scope} {X : Cx} {M : List Nat}
theorem Cok.gl (h : Cok p n N sc X) {x : Str} (hx : isGl sc x = true) : Gl X x := by
  show X.env.kindOf x = some .globalImplicit
  unfold Env.kindOf
  rw [h.scope]
  exact eq_of_beq hx
theorem Cok.vis (h : Cok p n N sc X) {x : Str} (hx : isVis sc x = true) : Vis X.env.scope x := by rw [h.scope]; exact vis_of hx
theorem no_star {e' : E} {e : Expr} (h : chkE p N M sc e' e = true) : ∀ v q, e ≠ .Starred v q := fun v q z => by
  subst z
  cases e' <;> simp [chkE] at h
theorem star_of {a : Expr} {as : List Expr} {env : Env} (h : ∀ v q, a ≠ .Starred v q) : starEach (a :: as) env = (false, eval a env) :: starEach as env := by
  cases a <;> first
    | rfl
    | exact absurd rfl (h _ _)
theorem stars {b : Bool} : ∀ {es' : List E} {es : List Expr} {env : Env}, chkEs p N M b sc es' es = true → ∀ x ∈ starEach es env, x.1 = false
  | [], es, env, h => by
    rw [chkEs] at h
    rw [List.isEmpty_iff.mp h]
    intro x hx
    exact nomatch hx
  | e' :: es', [], env, h => by
    intro x hx
    exact nomatch hx
  | e' :: es', e :: es, env, h => by
    rw [chkEs, Bool.and_eq_true, Bool.and_eq_true] at h
    rw [star_of (no_star h.1.1)]
    intro x hx
    rcases List.mem_cons.mp hx with rfl | hx
    · rfl
    · exact stars h.2 x hx
theorem back_of {pos : Pos} {l : List (Bool × Sem Value)} (h : ∀ x ∈ l, x.1 = false) : (backTo pos l).any (·.1) = false := by
  unfold backTo
  rw [List.any_map, List.any_eq_false]
  intro x hx
  have := h x hx
  simp [this]
theorem plainIx_of {b : Expr} (h : noSlice b = true) : PlainIx b := by
  intro o i
  cases b <;> first
    | rfl
    | exact nomatch h
theorem biName_blt (b : Bi) : biName b ∈ bltNames := by cases b <;> decide +kernel
theorem biName_ok (b : Bi) : biName b ≠ ("__name__" : Str) ∧ (biName b == ("__debug__" : Str)) = false := by cases b <;> decide +kernel
theorem ty_pe (h : Cok p n N sc X) {t : Ty} {pos : Pos} (hg : isGl sc (tyName t : Str) = true) : PE X (.Name (tyName t : Str) pos) (tC (.ty (tyName t))) := by
  have hg' := h.gl hg
  cases t with
  | int => exact pe_bltn hg' (h.blt _ (by decide +kernel)) (u := .type "int") (by decide +kernel) rfl (by decide +kernel) (by decide +kernel)
  | bool => exact pe_bltn hg' (h.blt _ (by decide +kernel)) (u := .type "bool") (by decide +kernel) rfl (by decide +kernel) (by decide +kernel)
  | str => exact pe_bltn hg' (h.blt _ (by decide +kernel)) (u := .type "str") (by decide +kernel) rfl (by decide +kernel) (by decide +kernel)
  | tuple => exact pe_bltn hg' (h.blt _ (by decide +kernel)) (u := .type "tuple") (by decide +kernel) rfl (by decide +kernel) (by decide +kernel)
  | list => exact pe_bltn hg' (h.blt _ (by decide +kernel)) (u := .type "list") (by decide +kernel) rfl (by decide +kernel) (by decide +kernel)
theorem isTrue_plain_of {e : Expr} {env : Env} (h : plainT e = true) : ∀ whole, isTrue e env whole = (do let v ← whole; standAt e.pos; holding [v] (truthy v)) := by
  intro whole
  cases e <;> first
    | rfl
    | exact nomatch h
theorem bi_pe (h : Cok p n N sc X) {b : Bi} {a : Expr} {as : List Expr} {es' : List E} {q pos : Pos} (hg : isGl sc (biName b) = true) (ha : PA X (a :: as) (tWs (cfOf p n) X.K M es')) (hs : starEach (a :: as) X.env = (false, eval a X.env) :: starEach as X.env)
    (hpl : (backTo pos (starEach as X.env)).any (·.1) = false) : PE X (.Call (.Name (biName b) q) (a :: as) [] pos) (tE (cfOf p n) X.K M (.bi b es')) := by
  have hg' := h.gl hg
  have hm := h.blt _ (biName_blt b)
  obtain ⟨n1, n2⟩ := biName_ok b
  have go : ∀ {id : String} {g : List D → R D}, Cap X (.builtin id) g → bootBuiltins (biName b) = some (.builtin id) → (∀ xs, dBi b xs = g xs) → PE X (.Call (.Name (biName b) q) (a :: as) [] pos) (tE (cfOf p n) X.K M (.bi b es')) := fun ⟨r, hc, hcs⟩ hv hd =>
    l_bi (a := a) (as := as) (as' := es') (g := _) hcs (fun ρ => by rw [ev]; congr 1; funext xs; exact hd xs) (pe_callB hc hg' hm hv ha n1 n2 hs hpl)
  have goT : ∀ {T : String} {g : List D → R D}, Cap X (.type T) g → bootBuiltins (biName b) = some (.type T) → (∀ xs, dBi b xs = g xs) → PE X (.Call (.Name (biName b) q) (a :: as) [] pos) (tE (cfOf p n) X.K M (.bi b es')) := fun ⟨r, hc, hcs⟩ hv hd =>
    l_bi (a := a) (as := as) (as' := es') (g := _) hcs (fun ρ => by rw [ev]; congr 1; funext xs; exact hd xs) (pe_callTy hc hg' hm hv ha n1 n2 hs hpl)
  have hbad : (∀ xs, dBi b xs = .bad) → PE X (.Call (.Name (biName b) q) (a :: as) [] pos) (tE (cfOf p n) X.K M (.bi b es')) := fun hb => ⟨fun pins s σ H Q I ⟨O, ρ, d, o, ee, _⟩ => by
    rw [ev] at ee
    obtain ⟨xs, _, ee⟩ := bind_ok ee
    rw [hb] at ee
    exact nomatch ee⟩
  cases b with
  | len => exact go cap_len (by decide +kernel) fun xs => by rw [dBi]
  | int => exact goT cap_int (by decide +kernel) fun xs => by rw [dBi]
  | str => exact goT cap_str (by decide +kernel) fun xs => by rw [dBi]
  | tuple => exact goT cap_tuple (by decide +kernel) fun xs => by rw [dBi]
  | list => exact goT (cap_list h.calm) (by decide +kernel) fun xs => by rw [dBi]
  | sum => exact go (cap_sum h.calm) (by decide +kernel) fun xs => by rw [dBi]
  | max => exact go (cap_max h.calm) (by decide +kernel) fun xs => by rw [dBi]
  | min => exact go (cap_min h.calm (by have := h.room.un; omega)) (by decide +kernel) fun xs => by rw [dBi]
  | abs => exact go cap_abs (by decide +kernel) fun xs => by rw [dBi]
  | all => exact go (cap_all h.calm) (by decide +kernel) fun xs => by rw [dBi]
  | sorted => exact go cap_sorted (by decide +kernel) fun xs => by rw [dBi]
end
def isFresh : E → Bool
  | .lst _ => true
  | .lc _ _ _ _ _ _ => true
  | .bin .Add _ _ => true
  | .bin .Mult _ _ => true
  | _ => false
structure PEb (p : Pg) (n : Nat) (M : List Nat) (X : Cx) (e : Expr) (e' : E) : Prop where
  we : PE X e (tW (cfOf p n) X.K M e')
  st : wk M e' = false → PE X e (tE (cfOf p n) X.K M e')
  fr : isFresh e' = true → PE X e (tF (cfOf p n) X.K M e')
theorem PEb.of {p : Pg} {n : Nat} {M : List Nat} {X : Cx} {e : Expr} {e' : E} (h : PE X e (tE (cfOf p n) X.K M e')) (hf : isFresh e' = false := by rfl) : PEb p n M X e e' := ⟨pe_weak h, fun _ => h, fun z => by rw [hf] at z; exact nomatch z⟩
section
variable {p : Pg} {n : Nat} {N : List Str} {M : List Nat}
theorem names_ok {sc : Scope} {X : Cx} {top : Bool} (h : Cok p n N sc X) (hf : ∀ x, Loc sc x → (top = true ∨ sc.names.lookup x = some .local) → X.fn x = true ∨ sc.names.lookup x = some .local) :
    ∀ {es : List Expr} {is : List Nat}, chkNames N sc top M es is = true → PGs X es (gsN is) ∧ (assignEach es X.env).length = is.length ∧ (assignEach es X.env).findIdx? (·.1) = none ∧ ∀ i ∈ is, Nf M i
  | [], [], _ => ⟨pgs_nil, rfl, rfl, fun _ z => nomatch z⟩
  | [], _ :: _, hc => nomatch hc
  | .Name x q :: es, i :: is, hc => by
    rw [chkNames] at hc
    simp only [Bool.and_eq_true] at hc
    obtain ⟨⟨⟨⟨⟨h1, h2⟩, h3⟩, h4⟩, h4f⟩, h5⟩ := hc
    obtain ⟨g1, g2, g3, g4⟩ := names_ok h hf h5
    have hl := loc_of h2
    have h3' : top = true ∨ sc.names.lookup x = some .local := by
      rw [Bool.or_eq_true] at h3
      exact h3.imp id eq_of_beq
    refine ⟨pgs_cons (pg_name (by rw [h.names]; exact h.nd) (by rw [h.names]; exact eq_of_beq h1) (by rw [h.scope]; exact hl) (by rw [h.scope]; exact hf x hl h3')) g1, ?_, ?_, ?_⟩
    · show (assignEach es X.env).length + 1 = is.length + 1
      rw [g2]
    · show List.findIdx? (·.1) ((false, assign (.Name x q) X.env) :: assignEach es X.env) = none
      rw [List.findIdx?_cons, g3]
      rfl
    · intro j hj
      rcases List.mem_cons.mp hj with rfl | hj
      · refine ⟨fun z => ?_, h4f⟩
        rw [List.contains_iff_mem.mpr z] at h4
        exact nomatch h4
      · exact g4 j hj
theorem tg_ok {sc : Scope} {X : Cx} {top : Bool} (h : Cok p n N sc X) (hf : ∀ x, Loc sc x → (top = true ∨ sc.names.lookup x = some .local) → X.fn x = true ∨ sc.names.lookup x = some .local) {e : Expr} {tg : Tg} (hc : chkTg N sc top M e tg = true) :
    PG X e (tG X.K M tg) ∧ ∀ i ∈ slots tg, Nf M i := by
  cases tg with
  | one i =>
    rw [chkTg] at hc
    cases e with
    | Name x q =>
      rw [chkNames] at hc
      simp only [Bool.and_eq_true] at hc
      obtain ⟨⟨⟨⟨⟨h1, h2⟩, h3⟩, h4⟩, h4f⟩, h5⟩ := hc
      have hl := loc_of h2
      have h3' : top = true ∨ sc.names.lookup x = some .local := by
        rw [Bool.or_eq_true] at h3
        exact h3.imp id eq_of_beq
      have hM : Nf M i := ⟨fun z => by
        rw [List.contains_iff_mem.mpr z] at h4
        exact (nomatch h4), h4f⟩
      refine ⟨g_one (by rw [h.names]; exact h.nd) (by rw [h.names]; exact eq_of_beq h1) (by rw [h.scope]; exact hl) (by rw [h.scope]; exact hf x hl h3') hM, fun j hj => ?_⟩
      rw [List.mem_singleton.mp hj]
      exact hM
    | _ => exact nomatch hc
  | many is =>
    cases e with
    | Tuple es k q =>
      obtain ⟨g1, g2, g3, g4⟩ := names_ok h hf hc
      exact ⟨g_many h.calm g1 g2 g3 g4, g4⟩
    | _ => exact nomatch hc
end
end LC

set_option Elab.async false
set_option linter.all false
set_option maxRecDepth 100000
set_option maxHeartbeats 4000000
namespace LC
open PySem PySem.Spec PyProof.Rows L2
section
variable {p : Pg} {n : Nat} {N : List Str} {M : List Nat}
theorem wk_not {e : E} (h : (!wk M e) = true) : wk M e = false := by simpa using h
theorem blkNames {own : List Nat} : (own.map fun i => (N.getD i ("" : Str), i)).map (·.2) = own := by
  rw [List.map_map]
  exact List.map_id' own
theorem noFold {k : Src} {iter : Expr} {as : List Expr} {ss : List E} {sc : Scope} {b : Bool} {env : Env} (hs : srcArgs k iter = some as) (hc : chkEs p N M b sc ss as = true) : ∀ x, foldedSetIterable iter env x = pure x := by
  intro x
  cases iter with
  | Set es k2 q =>
    cases k with
    | seq =>
      cases hs
      cases ss with
      | nil => exact nomatch hc
      | cons s r =>
        rw [chkEs, Bool.and_eq_true, Bool.and_eq_true] at hc
        have := hc.1.1
        cases s <;> simp [chkE] at this
    | rng => exact nomatch hs
    | enum => exact nomatch hs
    | zip => exact nomatch hs
  | _ => rfl
theorem rng_shape {iter : Expr} {as : List Expr} (h : srcArgs .rng iter = some as) : ∃ q pos, iter = .Call (.Name ("range" : Str) q) as [] pos := by
  cases iter with
  | Call f args kws pos =>
    cases f with
    | Name x q =>
      cases kws with
      | nil =>
        rw [srcArgs] at h
        split at h
        · rename_i hx
          cases h
          exact ⟨q, pos, by rw [eq_of_beq hx]⟩
        · exact nomatch h
      | cons _ _ => exact nomatch h
    | _ => exact nomatch h
  | _ => exact nomatch h
theorem enum_shape {iter : Expr} {as : List Expr} (h : srcArgs .enum iter = some as) : ∃ a q pos, as = [a] ∧ iter = .Call (.Name ("enumerate" : Str) q) [a] [] pos := by
  cases iter with
  | Call f args kws pos =>
    cases f with
    | Name x q =>
      cases kws with
      | nil =>
        cases args with
        | nil => exact nomatch h
        | cons a r =>
          cases r with
          | nil =>
            rw [srcArgs] at h
            split at h
            · rename_i hx
              cases h
              exact ⟨a, q, pos, rfl, by rw [eq_of_beq hx]⟩
            · exact nomatch h
          | cons _ _ => exact nomatch h
      | cons _ _ =>
        cases args with
        | nil => exact nomatch h
        | cons a r => cases r <;> exact nomatch h
    | _ => exact nomatch h
  | _ => exact nomatch h
theorem zip_shape {iter : Expr} {as : List Expr} (h : srcArgs .zip iter = some as) : ∃ a b q pos, as = [a, b] ∧ iter = .Call (.Name ("zip" : Str) q) [a, b] [] pos := by
  cases iter with
  | Call f args kws pos =>
    cases f with
    | Name x q =>
      cases kws with
      | nil =>
        cases args with
        | nil => exact nomatch h
        | cons a r =>
          cases r with
          | nil => exact nomatch h
          | cons b r =>
            cases r with
            | nil =>
              rw [srcArgs] at h
              split at h
              · rename_i hx
                cases h
                exact ⟨a, b, q, pos, rfl, by rw [eq_of_beq hx]⟩
              · exact nomatch h
            | cons _ _ => exact nomatch h
      | cons _ _ =>
        cases args with
        | nil => exact nomatch h
        | cons a r =>
          cases r with
          | nil => exact nomatch h
          | cons b r => cases r <;> exact nomatch h
    | _ => exact nomatch h
  | _ => exact nomatch h
theorem chkEs_len {b : Bool} {sc : Scope} : ∀ {es' : List E} {es : List Expr}, chkEs p N M b sc es' es = true → es'.length = es.length
  | [], es, h => by
    rw [chkEs] at h
    rw [List.isEmpty_iff.mp h]
    rfl
  | e' :: es', [], h => nomatch h
  | e' :: es', e :: es, h => by
    rw [chkEs, Bool.and_eq_true] at h
    rw [List.length_cons, List.length_cons, chkEs_len h.2]
theorem chkEs_star {b : Bool} {sc : Scope} {a' : E} {as' : List E} {a : Expr} {as : List Expr} {env : Env} (h : chkEs p N M b sc (a' :: as') (a :: as) = true) : starEach (a :: as) env = (false, eval a env) :: starEach as env := by
  rw [chkEs, Bool.and_eq_true, Bool.and_eq_true] at h
  exact star_of (no_star h.1.1)
theorem chkEs_tail {b : Bool} {sc : Scope} {a' : E} {as' : List E} {a : Expr} {as : List Expr} (h : chkEs p N M b sc (a' :: as') (a :: as) = true) : chkEs p N M b sc as' as = true := by
  rw [chkEs, Bool.and_eq_true] at h
  exact h.2
theorem src_ok {sc : Scope} {X : Cx} (h : Cok p n N sc X) {b : Bool} {tg iter : Expr} {k : Src} {as : List Expr} {ss : List E} (hk : srcOk sc tg k = true) (hs : srcArgs k iter = some as) (hc : chkEs p N M b sc ss as = true)
    (hp : PA X as (tBs b (cfOf p n) X.K M ss)) (h1 : ∀ e e', as = [e] → ss = [e'] → PE X e (tB1 b (cfOf p n) X.K M e')) : PI X tg iter (tI b (cfOf p n) X.K M k ss) := by
  cases k with
  | seq =>
    cases hs
    cases ss with
    | nil => exact nomatch hc
    | cons s r =>
      cases r with
      | nil => exact s_seq (h1 _ _ rfl rfl)
      | cons s2 r =>
        rw [chkEs, Bool.and_eq_true] at hc
        exact nomatch hc.2
  | rng =>
    obtain ⟨q, pos, rfl⟩ := rng_shape hs
    have hg := h.gl (show isGl sc ("range" : Str) = true from hk)
    have hm := h.blt ("range" : Str) (by decide +kernel)
    have hl := chkEs_len hc
    match ss, as, hl with
    | [], [], _ =>
      exact ⟨fun pins s σ H R I ⟨O, ρ, ds, its, o, ee, ei, _⟩ => by
        rw [evs] at ee
        cases ee
        exact nomatch ei⟩
    | [s1], [a1], _ =>
      have e1 : starEach [a1] X.env = [(false, eval a1 X.env)] := chkEs_star hc
      exact s_rng1 hg hm hp e1
    | [s1, s2], [a1, a2], _ =>
      have e1 : starEach [a1, a2] X.env = (false, eval a1 X.env) :: starEach [a2] X.env := chkEs_star hc
      have e2 : starEach [a2] X.env = [(false, eval a2 X.env)] := chkEs_star (chkEs_tail hc)
      exact s_rng2 hg hm hp (by rw [e1, e2]) e2
    | [s1, s2, s3], [a1, a2, a3], _ =>
      have e1 : starEach [a1, a2, a3] X.env = (false, eval a1 X.env) :: starEach [a2, a3] X.env := chkEs_star hc
      exact s_rng3 hg hm hp e1 (back_of (stars (chkEs_tail hc)))
    | _ :: _ :: _ :: _ :: _, _ :: _ :: _ :: _ :: _, _ =>
      exact ⟨fun pins s σ H R I ⟨O, ρ, ds, its, o, ee, ei, _⟩ => by
        rw [evs] at ee
        obtain ⟨d1, _, ee⟩ := bind_ok ee
        obtain ⟨r1, f1, ee⟩ := bind_ok ee
        rw [evs] at f1
        obtain ⟨d2, _, f1⟩ := bind_ok f1
        obtain ⟨r2, f2, f1⟩ := bind_ok f1
        rw [evs] at f2
        obtain ⟨d3, _, f2⟩ := bind_ok f2
        obtain ⟨r3, f3, f2⟩ := bind_ok f2
        rw [evs] at f3
        obtain ⟨d4, _, f3⟩ := bind_ok f3
        obtain ⟨r4, _, f3⟩ := bind_ok f3
        cases f3
        cases f2
        cases f1
        cases ee
        rw [items] at ei
        unfold itRng at ei
        split at ei
        · rename_i he
          cases he
        · rename_i he
          cases he
        · rename_i he
          cases he
        · exact nomatch ei⟩
  | enum =>
    obtain ⟨a, q, pos, rfl, rfl⟩ := enum_shape hs
    have hk' : (isGl sc ("enumerate" : Str) && isTupE tg) = true := hk
    rw [Bool.and_eq_true] at hk'
    have hg := h.gl hk'.1
    have hm := h.blt ("enumerate" : Str) (by decide +kernel)
    have hl := chkEs_len hc
    match ss, hl with
    | [s1], _ =>
      cases tg with
      | Tuple es k2 q2 => exact s_enum hg hm hp (chkEs_star hc)
      | _ => exact nomatch hk'.2
  | zip =>
    obtain ⟨a, b2, q, pos, rfl, rfl⟩ := zip_shape hs
    have hk' : (isGl sc ("zip" : Str) && isTupE tg) = true := hk
    rw [Bool.and_eq_true] at hk'
    have hg := h.gl hk'.1
    have hm := h.blt ("zip" : Str) (by decide +kernel)
    have hl := chkEs_len hc
    match ss, hl with
    | [s1, s2], _ =>
      cases tg with
      | Tuple es k2 q2 => exact s_zip hg hm hp (chkEs_star hc) (back_of (stars (chkEs_tail hc)))
      | _ => exact nomatch hk'.2
end
end LC

set_option Elab.async false
set_option linter.all false
set_option maxRecDepth 100000
set_option maxHeartbeats 4000000
namespace LC
open PySem PySem.Spec PyProof.Rows L2
section
variable {p : Pg} {n : Nat} {N : List Str} {M : List Nat}
theorem units_of {k : Nat} {A : Around} (r : Room k A) : A.units + 65 < cLine := by
  have := r.un
  omega
theorem binOk_of {o : Operator} (h : binOk o = true) : o = .Add ∨ o = .Sub ∨ o = .Mult ∨ o = .FloorDiv ∨ o = .Mod ∨ o = .Pow := by
  cases o <;> first
    | (cases h; done)
    | simp
theorem stp_ok {X : Cx} {k : Stp} {lo : Option Expr} {st : Expr} (h : stpOk k lo st = true) : PO X lo (fun _ H Q => Q (stpLo k) H) ∧ PO X (some st) (fun _ H Q => Q (some (stpSt k)) H) := by
  unfold stpOk at h
  split at h
  · exact ⟨po_none, po_neg1⟩
  · exact ⟨po_none, po_two⟩
  · exact ⟨po_one, po_two⟩
  · exact nomatch h
theorem Cok.fnb {sc : Scope} {X : Cx} {scope : Scope} (s : Shared) (H : Hp) (C : Addr) (cl : List (Str × Addr)) (fp : List Addr) : ∀ x, Loc (relS scope sc) x → (false = true ∨ (relS scope sc).names.lookup x = some .local) → (X.blk s H scope (compEnvC scope cl C X.env) fp).fn x = true ∨ (relS scope sc).names.lookup x = some .local :=
  fun x _ h => .inr (h.resolve_left (fun z => nomatch z))
theorem attr_ok {o : Expr} {nm : Str} {env : Env} (h : attrOk o = true) : attributeBase o nm env (eval o env) = eval o env := by
  unfold attributeBase
  split
  · exact nomatch h
  · rfl
theorem few_ok {a : Expr} {as : List Expr} {env : Env} {cpos : Pos} (h : ∀ x ∈ starEach (a :: as) env, x.1 = false) (hl : decide (as.length < 9) = true) : ((backTo cpos (starEach (a :: as) env)).all (fun x => !x.1) && (backToKw cpos (keywordEach [] env)).all (fun x => x.1.isSome) && decide ((a :: as).length + ([] : List Keyword).length + (if ([] : List Keyword).isEmpty then 0 else 1) < 30)) = true := by
  have h1 : (backTo cpos (starEach (a :: as) env)).all (fun x => !x.1) = true := by
    unfold backTo
    rw [List.all_map]
    refine List.all_eq_true.mpr fun x hx => ?_
    have := h x hx
    simp [this]
  have h2 := of_decide_eq_true hl
  rw [h1, Bool.true_and, Bool.and_eq_true]
  refine ⟨rfl, decide_eq_true ?_⟩
  show as.length + 1 + 0 + 0 < 30
  omega
mutual
theorem chkE_ok : ∀ (e' : E) (sc : Scope) (X : Cx) (e : Expr), Cok p n N sc X → chkE p N M sc e' e = true → PEb p n M X e e'
  | .var i, sc, X, e, h, hc => by
    unfold chkE at hc
    split at hc
    · simp only [Bool.and_eq_true] at hc
      obtain ⟨⟨h1, h2⟩, h3⟩ := hc
      obtain ⟨n1, n2, _⟩ := nm_of h3
      have hN := eq_of_beq h1
      refine ⟨l_varW (by rw [h.names]; exact hN) (h.vis h2) n1 n2, fun hw => l_var (by rw [h.names]; exact hN) (h.vis h2) n1 n2 fun z => ?_, fun z => nomatch z⟩
      have hw' : M.contains i = false := hw
      rw [List.contains_iff_mem.mpr z] at hw'
      exact nomatch hw'
    · simp only [Bool.and_eq_true] at hc
      obtain ⟨⟨h2, h3⟩, h1⟩ := hc
      obtain ⟨n1, n2, _⟩ := nm_of h3
      obtain ⟨m, hm, h1⟩ := List.any_eq_true.mp h1
      unfold isFld at h1
      split at h1
      · rename_i q j g hl
        simp only [Bool.and_eq_true] at h1
        obtain ⟨⟨k1, k2⟩, k3⟩ := h1
        have hN := eq_of_beq k1
        have hg := of_decide_eq_true k2
        have hf := eq_of_beq k3
        have hi : g + (i - g) = i := by omega
        refine ⟨?_, fun hw => ?_, fun z => nomatch z⟩
        · rw [show E.var i = E.var (g + (i - g)) by rw [hi]]
          exact l_fldW (by rw [h.names]; exact hN) (h.vis h2) n1 n2 hm hl hf
        · have hM : g + (i - g) ∉ M := fun z => by
            rw [hi] at z
            have hw' : M.contains i = false := hw
            rw [List.contains_iff_mem.mpr z] at hw'
            exact nomatch hw'
          rw [show E.var i = E.var (g + (i - g)) by rw [hi]]
          exact l_fld (by rw [h.names]; exact hN) (h.vis h2) n1 n2 hm hl hf hM
      · exact nomatch h1
    · exact nomatch hc
  | .glb y, sc, X, e, h, hc => by
    unfold chkE at hc
    split at hc
    · simp only [Bool.and_eq_true] at hc
      obtain ⟨⟨⟨h1, h2⟩, h3⟩, h4⟩ := hc
      have hy := eq_of_beq h1
      subst hy
      obtain ⟨n1, n2, _⟩ := nm_of h3
      obtain ⟨d, hd⟩ := Option.isSome_iff_exists.mp h4
      obtain ⟨v, u, g1, g2, g3⟩ := h.glb _ d hd
      exact PEb.of (l_glb (pe_glob (h.gl h2) g1 g2 n1) hd g3)
    · exact nomatch hc
  | .cst d, sc, X, e, h, hc => by
    unfold chkE at hc
    split at hc
    · cases eq_of_beq hc
      exact PEb.of (l_cst pe_int fun _ _ _ => rp_int)
    · cases eq_of_beq hc
      exact PEb.of (l_cst pe_bl fun _ _ _ => rp_bl)
    · cases eq_of_beq hc
      exact PEb.of (l_cst pe_str fun _ _ _ => rp_str)
    · exact PEb.of (l_cst pe_non fun _ _ _ => rp_non)
    · exact nomatch hc
  | .bin o a' b', sc, X, e, h, hc => by
    unfold chkE at hc
    split at hc
    · simp only [Bool.and_eq_true] at hc
      obtain ⟨⟨⟨h1, h2⟩, h3⟩, h4⟩ := hc
      have ho := eq_of_beq h1
      subst ho
      have ga := (chkE_ok a' sc X _ h h3).we
      have gb := (chkE_ok b' sc X _ h h4).we
      have g := l_bin (pos := ‹Pos›) (opp_bin _ (binOk_of h2)) ga gb
      refine ⟨pe_weak g, fun _ => g, fun z => ?_⟩
      have ho : ∀ o : Operator, isFresh (.bin o a' b') = true → o = .Add ∨ o = .Mult := fun o hz => by
        cases o <;> first
          | exact .inl rfl
          | exact .inr rfl
          | (cases hz; done)
      rcases ho _ z with rfl | rfl
      · exact l_addF ga gb
      · exact l_mulF ga gb
    · exact nomatch hc
  | .neg a', sc, X, e, h, hc => by
    unfold chkE at hc
    split at hc
    · exact PEb.of (l_neg (chkE_ok a' sc X _ h hc).we)
    · exact nomatch hc
  | .not a', sc, X, e, h, hc => by
    unfold chkE at hc
    split at hc
    · exact PEb.of (l_not (chkE_ok a' sc X _ h hc).we)
    · exact nomatch hc
  | .cmp o a' b', sc, X, e, h, hc => by
    unfold chkE at hc
    split at hc
    · simp only [Bool.and_eq_true] at hc
      obtain ⟨⟨⟨h1, h2⟩, h3⟩, h4⟩ := hc
      have ho := eq_of_beq h1
      subst ho
      exact PEb.of (l_cmp (opp_cmp (units_of h.room) _) (chkE_ok a' sc X _ h h3).we (chkE_ok b' sc X _ h h4).we (by simpa using h2))
    · exact nomatch hc
  | .chn o o2 a' b' f', sc, X, e, h, hc => by
    unfold chkE at hc
    split at hc
    · simp only [Bool.and_eq_true] at hc
      obtain ⟨⟨⟨⟨⟨h1, h1'⟩, h2⟩, h3⟩, h4⟩, h5⟩ := hc
      have ho := eq_of_beq h1
      have ho' := eq_of_beq h1'
      subst ho ho'
      exact PEb.of (l_chn (opp_cmp (units_of h.room) _) (opp_cmp (units_of h.room) _) (chkE_ok a' sc X _ h h3).we (chkE_ok b' sc X _ h h4).we (chkE_ok f' sc X _ h h5).we (by simpa using h2))
    · exact nomatch hc
  | .and a b, sc, X, e, h, hc => by
    unfold chkE at hc
    split at hc
    · simp only [Bool.and_eq_true] at hc
      obtain ⟨⟨h1, h2⟩, h3⟩ := hc
      exact PEb.of (l_and (chkE_ok a sc X _ h h1).we (pe_one ((chkE_ok b sc X _ h h2).st (wk_not h3))))
    · rw [Bool.and_eq_true] at hc
      obtain ⟨h1, hc⟩ := hc
      split at hc
      · rename_i b1 b2
        simp only [Bool.and_eq_true] at hc
        obtain ⟨⟨h2, h3⟩, h4⟩ := hc
        exact PEb.of (l_and (chkE_ok a sc X _ h h1).we (l_and (chkE_ok b1 sc X _ h h2).we (pe_one ((chkE_ok b2 sc X _ h h3).st (wk_not h4)))))
      · exact nomatch hc
    · rw [Bool.and_eq_true] at hc
      obtain ⟨h1, hc⟩ := hc
      split at hc
      · rename_i b1 b2 b3
        simp only [Bool.and_eq_true] at hc
        obtain ⟨⟨⟨h2, h3⟩, h4⟩, h5⟩ := hc
        exact PEb.of (l_and (chkE_ok a sc X _ h h1).we (l_and (chkE_ok b1 sc X _ h h2).we (l_and (chkE_ok b2 sc X _ h h3).we (pe_one ((chkE_ok b3 sc X _ h h4).st (wk_not h5))))))
      · exact nomatch hc
    · exact nomatch hc
  | .or a b, sc, X, e, h, hc => by
    unfold chkE at hc
    split at hc
    · simp only [Bool.and_eq_true] at hc
      obtain ⟨⟨h1, h2⟩, h3⟩ := hc
      exact PEb.of (l_or (chkE_ok a sc X _ h h1).we (pe_one ((chkE_ok b sc X _ h h2).st (wk_not h3))))
    · rw [Bool.and_eq_true] at hc
      obtain ⟨h1, hc⟩ := hc
      split at hc
      · rename_i b1 b2
        simp only [Bool.and_eq_true] at hc
        obtain ⟨⟨h2, h3⟩, h4⟩ := hc
        exact PEb.of (l_or (chkE_ok a sc X _ h h1).we (l_or (chkE_ok b1 sc X _ h h2).we (pe_one ((chkE_ok b2 sc X _ h h3).st (wk_not h4)))))
      · exact nomatch hc
    · rw [Bool.and_eq_true] at hc
      obtain ⟨h1, hc⟩ := hc
      split at hc
      · rename_i b1 b2 b3
        simp only [Bool.and_eq_true] at hc
        obtain ⟨⟨⟨h2, h3⟩, h4⟩, h5⟩ := hc
        exact PEb.of (l_or (chkE_ok a sc X _ h h1).we (l_or (chkE_ok b1 sc X _ h h2).we (l_or (chkE_ok b2 sc X _ h h3).we (pe_one ((chkE_ok b3 sc X _ h h4).st (wk_not h5))))))
      · exact nomatch hc
    · exact nomatch hc
  | .idx a' b', sc, X, e, h, hc => by
    unfold chkE at hc
    split at hc
    · simp only [Bool.and_eq_true] at hc
      obtain ⟨⟨h1, h2⟩, h3⟩ := hc
      exact PEb.of (l_idx (chkE_ok a' sc X _ h h2).we (chkE_ok b' sc X _ h h3).we (plainIx_of h1))
    · exact nomatch hc
  | .cut a' bl lo' bh hi', sc, X, e, h, hc => by
    unfold chkE at hc
    split at hc
    · rename_i a lo hi _ _
      simp only [Bool.and_eq_true] at hc
      obtain ⟨⟨h1, h2⟩, h3⟩ := hc
      have g2 : PO X lo (tO (cfOf p n) X.K M bl lo') := by
        cases lo with
        | none =>
          have hb : bl = false := by simpa using h2
          rw [hb]
          exact l_noPart
        | some f =>
          have hb : bl = true ∧ chkE p N M sc lo' f = true := by simpa using h2
          rw [hb.1]
          exact l_part (chkE_ok lo' sc X _ h hb.2).we
      have g3 : PO X hi (tO (cfOf p n) X.K M bh hi') := by
        cases hi with
        | none =>
          have hb : bh = false := by simpa using h3
          rw [hb]
          exact l_noPart
        | some f =>
          have hb : bh = true ∧ chkE p N M sc hi' f = true := by simpa using h3
          rw [hb.1]
          exact l_part (chkE_ok hi' sc X _ h hb.2).we
      exact PEb.of (l_cut (chkE_ok a' sc X _ h h1).we g2 g3)
    · exact nomatch hc
  | .stp k a', sc, X, e, h, hc => by
    unfold chkE at hc
    split at hc
    · rw [Bool.and_eq_true] at hc
      obtain ⟨g1, g2⟩ := stp_ok (X := X) hc.1
      exact PEb.of (l_stp k (chkE_ok a' sc X _ h hc.2).we g1 g2)
    · exact nomatch hc
  | .tup es', sc, X, e, h, hc => by
    unfold chkE at hc
    split at hc
    · exact PEb.of (l_tup (chkEs_ok es' true sc X _ h hc))
    · exact nomatch hc
  | .lst es', sc, X, e, h, hc => by
    unfold chkE at hc
    split at hc
    · have g := chkEs_ok es' true sc X _ h hc
      exact ⟨pe_weak (l_lst g), fun _ => l_lst g, fun _ => l_lstF g⟩
    · exact nomatch hc
  | .call f es', sc, X, e, h, hc => by
    unfold chkE at hc
    split at hc
    · simp only [Bool.and_eq_true] at hc
      obtain ⟨⟨⟨⟨h1, h2⟩, h3⟩, h4⟩, h5⟩ := hc
      have hf := eq_of_beq h1
      subst hf
      obtain ⟨n1, _, _⟩ := nm_of h3
      obtain ⟨fn, hfn⟩ := Option.isSome_iff_exists.mp h4
      obtain ⟨a, fd, ps, g1, g2, g3, g4⟩ := h.fns _ fn hfn
      have hp : PA X _ (tEs (cfOf p n) X.K M es') := chkEs_ok es' true sc X _ h h5
      cases es' with
      | nil => exact nomatch h5
      | cons s r => exact PEb.of (l_call g4 h.room (h.gl h2) g1 g2 g3 hp n1 (chkEs_star h5) (back_of (stars (chkEs_tail h5))))
    · exact nomatch hc
  | .bi b es', sc, X, e, h, hc => by
    unfold chkE at hc
    split at hc
    · simp only [Bool.and_eq_true] at hc
      obtain ⟨⟨h1, h2⟩, h3⟩ := hc
      have hx := eq_of_beq h1
      subst hx
      have hp : PA X _ (tWs (cfOf p n) X.K M es') := chkEs_ok es' false sc X _ h h3
      cases es' with
      | nil => exact nomatch h3
      | cons s r => exact PEb.of (bi_pe h h2 hp (chkEs_star h3) (back_of (stars (chkEs_tail h3))))
    · exact nomatch hc
  | .isi a' t, sc, X, e, h, hc => by
    unfold chkE at hc
    split at hc
    · simp only [Bool.and_eq_true] at hc
      obtain ⟨⟨⟨⟨h1, h2⟩, h3⟩, h4⟩, h5⟩ := hc
      have hx := eq_of_beq h1
      have hy := eq_of_beq h3
      subst hx hy
      have ha := (chkE_ok a' sc X _ h h5).we
      exact PEb.of (l_isi (pe_callB call_isi (h.gl h2) (h.blt _ (by decide +kernel)) (by decide +kernel) (pa_cons ha (pa_cons (ty_pe h h4) pa_nil) (star_of (no_star h5))) (by decide +kernel) (by decide +kernel) (star_of (no_star h5)) rfl))
    · exact nomatch hc
  | .lc own tg' k ss cond elt', sc, X, e, h, hc => by
    unfold chkE at hc
    split at hc
    · rename_i elt tg iter ifs ia scope pos
      simp only [Bool.and_eq_true] at hc
      obtain ⟨⟨⟨⟨⟨⟨⟨⟨⟨h1, h2⟩, h3⟩, h4⟩, h5⟩, h6⟩, h7⟩, h8⟩, h9⟩, h10⟩ := hc
      have hia := eq_of_beq h1
      subst hia
      split at h7
      · rename_i as hs
        have hpa : PA X as (tWs (cfOf p n) X.K M ss) := chkEs_ok ss false sc X _ h h7
        have hi : PI X tg iter (tI false (cfOf p n) X.K M k ss) := src_ok h h6 hs h7 hpa fun e0 e0' ea es0 => by
          subst ea es0
          rw [chkEs, Bool.and_eq_true, Bool.and_eq_true] at h7
          exact (chkE_ok e0' sc X _ h h7.1.1).we
        have hown : ∀ i ∈ own, Nf M i := fun i hi => by
          have := List.all_eq_true.mp h3 i hi
          rw [Bool.and_eq_true] at this
          refine ⟨fun z => ?_, this.2⟩
          rw [List.contains_iff_mem.mpr z] at this
          exact nomatch this.1
        have hsl : ∀ i ∈ slots tg', i ∈ own := fun i hi => List.contains_iff_mem.mp (List.all_eq_true.mp h4 i hi)
        have ht : ∀ (s : Shared) (H : Hp) (C : Addr) (cl : List (Str × Addr)) (fp : List Addr), PTs (X.blk s H scope (compEnvC scope cl C X.env) fp) ifs (tT (cfOf p n) X.K M cond) := fun s H C cl fp => by
          have hb := h.blk s H scope C cl fp
          split at h8
          · exact ⟨fun pins s σ H Q I ⟨O, ρ, d, b, o, ee, et, q⟩ => by
              rw [ev] at ee
              cases ee
              cases et
              exact pts_nil.run pins s σ H Q I (q H (Same.refl H))⟩
          · rw [Bool.and_eq_true] at h8
            rename_i x _ a
            exact pts_one (l_notT (l_truth (chkE_ok a _ _ _ hb h8.2).we (isTrue_plain_of h8.1)))
          · rename_i a op b _ o a' b'
            simp only [Bool.and_eq_true] at h8
            obtain ⟨⟨⟨g1, g2⟩, g3⟩, g4⟩ := h8
            have ho := eq_of_beq g1
            subst ho
            exact pts_one (l_cmpT (opp_cmp (units_of hb.room) _) (chkE_ok a' _ _ _ hb g3).we (chkE_ok b' _ _ _ hb g4).we (by simpa using g2) fun _ _ _ => dCmp_bl)
          · exact nomatch h8
        have hblk : BlkOk X.N X.env.scope scope (own.map fun i => (N.getD i ("" : Str), i)) := by
          rw [h.names, h.scope]
          exact blkOk_by h2
        have key := l_lcF (pos := pos) h.calm (by rw [h.names]; exact h.nd) hi hblk (fun s H C cl fp => (tg_ok (h.blk s H scope C cl fp) (Cok.fnb s H C cl fp) h5).1) ht (fun s H C cl fp => (chkE_ok elt' _ _ _ (h.blk s H scope C cl fp) h9).st (wk_not h10)) (noFold hs h7) (by rw [blkNames]; exact hown) (by rw [blkNames]; exact hsl)
        rw [blkNames] at key
        have g := pe_imp key fun σ H Q => tF_of lc_lst
        exact ⟨pe_weak g, fun _ => g, fun _ => key⟩
      · exact nomatch h7
    · exact nomatch hc
  | .mth m o' es', sc, X, e, h, hc => by
    unfold chkE at hc
    split at hc
    · simp only [Bool.and_eq_true] at hc
      obtain ⟨⟨⟨⟨⟨h1, h2⟩, h3⟩, h4⟩, h5⟩, h6⟩ := hc
      have hn := eq_of_beq h1
      subst hn
      have ho := (chkE_ok o' sc X _ h h5).we
      have hp : PA X _ (tWs (cfOf p n) X.K M es') := chkEs_ok es' false sc X _ h h6
      cases es' with
      | nil => exact nomatch h6
      | cons s r => exact PEb.of (l_mth ho hp (attr_ok h2) (few_ok (stars h6) h4) h3 (chkEs_star h6) (back_of (stars (chkEs_tail h6))))
    · exact nomatch hc
  | .rpl o' x y, sc, X, e, h, hc => by
    unfold chkE at hc
    split at hc
    · simp only [Bool.and_eq_true] at hc
      obtain ⟨⟨⟨⟨⟨⟨⟨⟨⟨⟨h1, h2⟩, h3⟩, h4⟩, h5⟩, h6⟩, h7⟩, h8⟩, h9⟩, ⟨h10, h12⟩⟩, h11⟩ := hc
      have hn := eq_of_beq h1
      have hx := eq_of_beq h4
      have hy := eq_of_beq h5
      subst hn hx hy
      obtain ⟨a, b, t, u, g1, g2, g3, g4, g5, g6, g7⟩ := h.rps _ _ (List.contains_iff_mem.mp h10) (by simpa using h12)
      exact PEb.of (l_rpl (chkE_ok o' sc X _ h h11).we (h.gl h6) (h.gl h7) g1 g2 g3 g4 g5 g6 g7 (nm_of h8).1 (nm_of h9).1 (attr_ok h2) h3)
    · exact nomatch hc
  | .kin neg a' x, sc, X, e, h, hc => by
    unfold chkE at hc
    split at hc
    · simp only [Bool.and_eq_true] at hc
      obtain ⟨⟨⟨⟨⟨h1, h2⟩, h3⟩, h4⟩, h5⟩, h6⟩ := hc
      have ho := eq_of_beq h1
      have hx := eq_of_beq h2
      subst ho hx
      obtain ⟨kvs, hk⟩ := Option.isSome_iff_exists.mp h5
      obtain ⟨dd, es, m, g1, g2, g3⟩ := h.dct _ kvs hk
      exact PEb.of (l_kin (chkE_ok a' sc X _ h h6).we (h.gl h3) g1 g2 hk g3 (nm_of h4).1)
    · exact nomatch hc
  | .kget x a', sc, X, e, h, hc => by
    unfold chkE at hc
    split at hc
    · simp only [Bool.and_eq_true] at hc
      obtain ⟨⟨⟨⟨⟨h1, h2⟩, h3⟩, h4⟩, h5⟩, h6⟩ := hc
      have hx := eq_of_beq h2
      subst hx
      obtain ⟨kvs, hk⟩ := Option.isSome_iff_exists.mp h5
      obtain ⟨dd, es, m, g1, g2, g3⟩ := h.dct _ kvs hk
      exact PEb.of (l_kget (chkE_ok a' sc X _ h h6).we (h.gl h3) g1 g2 hk g3 (nm_of h4).1 (plainIx_of h1))
    · exact nomatch hc
  | .sst a', sc, X, e, h, hc => by
    unfold chkE at hc
    split at hc
    · simp only [Bool.and_eq_true] at hc
      obtain ⟨⟨⟨⟨h1, h2⟩, h3⟩, h4⟩, h5⟩ := hc
      have hf := eq_of_beq h1
      have hg := eq_of_beq h3
      subst hf hg
      have hst := star_of (as := []) (env := X.env) (no_star h5)
      have hp : PA X _ (tWs (cfOf p n) X.K M [a']) := l_consW (chkE_ok a' sc X _ h h5).we l_nilW hst
      exact PEb.of (l_sst h.room h.calm (h.gl h2) (h.blt _ (by decide +kernel)) (h.gl h4) (h.blt _ (by decide +kernel)) hp hst)
    · exact nomatch hc
  | .rpr a', sc, X, e, h, hc => by
    unfold chkE at hc
    split at hc
    · simp only [Bool.and_eq_true] at hc
      obtain ⟨⟨⟨h0, h1⟩, h2⟩, h5⟩ := hc
      have hf := eq_of_beq h1
      subst hf
      have hst := star_of (as := []) (env := X.env) (no_star h5)
      have hp : PA X _ (tWs (cfOf p n) X.K M [a']) := l_consW (chkE_ok a' sc X _ h h5).we l_nilW hst
      exact PEb.of (l_rpr (h.gd h0) h.room (h.gl h2) (h.blt _ (by decide +kernel)) hp hst)
    · exact nomatch hc
  | .lss a', sc, X, e, h, hc => by
    unfold chkE at hc
    split at hc
    · simp only [Bool.and_eq_true] at hc
      obtain ⟨⟨⟨⟨h1, h2⟩, h3⟩, h4⟩, h5⟩ := hc
      have hf := eq_of_beq h1
      have hg := eq_of_beq h3
      subst hf hg
      have hst := star_of (as := []) (env := X.env) (no_star h5)
      have hp : PA X _ (tWs (cfOf p n) X.K M [a']) := l_consW (chkE_ok a' sc X _ h h5).we l_nilW hst
      exact PEb.of (l_lss h.room h.calm (h.gl h2) (h.blt _ (by decide +kernel)) (h.gl h4) (h.blt _ (by decide +kernel)) hp hst)
    · exact nomatch hc
  | .mrd i gs m es', sc, X, e, h, hc => by
    unfold chkE at hc
    split at hc
    · rename_i xx px mt apos as cpos
      simp only [Bool.and_eq_true] at hc
      obtain ⟨⟨⟨⟨⟨⟨h1, h2⟩, h3⟩, h4⟩, h5⟩, h6⟩, h7⟩ := hc
      have hn := eq_of_beq h1
      subst hn
      obtain ⟨n1, n2, _⟩ := nm_of h3
      split at h6
      · rename_i r hr
        rw [Bool.and_eq_true] at h6
        obtain ⟨h6, h8⟩ := h6
        obtain ⟨mm, hm, h6⟩ := List.any_eq_true.mp h6
        unfold isOb at h6
        split at h6
        · rename_i q j g hl
          simp only [Bool.and_eq_true] at h6
          obtain ⟨⟨⟨k1, k2⟩, k3⟩, k4⟩ := h6
          have e1 := eq_of_beq k1
          have e2 := eq_of_beq k2
          subst e1 e2
          have hnf : _ ∉ flds r.q := fun z => by
            rw [List.contains_iff_mem.mpr z] at h8
            exact nomatch h8
          obtain ⟨C, f, fd, ps, g1, g2, g3, g4⟩ := h.mrs _ r hr
          have hp : PA X _ (tEs (cfOf p n) X.K M es') := chkEs_ok es' true sc X _ h h7
          cases es' with
          | nil =>
            rw [chkEs] at h7
            have := List.isEmpty_iff.mp h7
            subst this
            exact PEb.of (l_mrd0 g4 h.room g3 g1 g2 hnf (by rw [h.names]; exact eq_of_beq k3) (h.vis h2) n1 n2 hm hl k4 h4)
          | cons s r' =>
            cases as with
            | nil => exact nomatch h7
            | cons a as => exact PEb.of (l_mrd g4 h.room g3 g1 g2 hnf (by rw [h.names]; exact eq_of_beq k3) (h.vis h2) n1 n2 hm hl k4 hp (chkEs_star h7) (back_of (stars (chkEs_tail h7))) (few_ok (stars h7) (decide_eq_true (by
                have := of_decide_eq_true h5
                rw [List.length_cons] at this
                omega))) h4)
        · exact nomatch h6
      · exact nomatch h6
    · exact nomatch hc
theorem chkEs_ok : ∀ (es' : List E) (b : Bool) (sc : Scope) (X : Cx) (es : List Expr), Cok p n N sc X → chkEs p N M b sc es' es = true → PA X es (tBs b (cfOf p n) X.K M es')
  | [], b, sc, X, es, h, hc => by
    rw [chkEs] at hc
    rw [List.isEmpty_iff.mp hc]
    cases b with
    | true => exact l_nil
    | false => exact l_nilW
  | e' :: es', b, sc, X, [], h, hc => nomatch hc
  | e' :: es', b, sc, X, e :: es, h, hc => by
    rw [chkEs, Bool.and_eq_true, Bool.and_eq_true] at hc
    obtain ⟨⟨h1, h2⟩, h3⟩ := hc
    have ih := chkEs_ok es' b sc X es h h3
    have he := chkE_ok e' sc X e h h1
    cases b with
    | true => exact l_cons (he.st (by simpa using h2)) ih (star_of (no_star h1))
    | false => exact l_consW he.we ih (star_of (no_star h1))
end
end
end LC

set_option Elab.async false
set_option linter.all false
set_option maxRecDepth 100000
set_option maxHeartbeats 4000000
namespace LC
open PySem PySem.Spec PyProof.Rows L2

def chkT (p : Pg) (N : List Str) (M : List Nat) (sc : Scope) : E → Expr → Bool
  | .not a, e => match e with
    | .UnaryOp .Not x _ => chkT p N M sc a x
    | _ => false
  | .and a b, e => match e with
    | .BoolOp .And [x, y] _ => chkT p N M sc a x && chkT p N M sc b y
    | .BoolOp .And [x, y, z] _ => chkT p N M sc a x && (match b with
      | .and b c => chkT p N M sc b y && chkT p N M sc c z
      | _ => false)
    | .BoolOp .And [x, y, z, u] _ => chkT p N M sc a x && (match b with
      | .and b (.and c d) => chkT p N M sc b y && chkT p N M sc c z && chkT p N M sc d u
      | _ => false)
    | _ => false
  | .or a b, e => match e with
    | .BoolOp .Or [x, y] _ => chkT p N M sc a x && chkT p N M sc b y
    | .BoolOp .Or [x, y, z] _ => chkT p N M sc a x && (match b with
      | .or b c => chkT p N M sc b y && chkT p N M sc c z
      | _ => false)
    | .BoolOp .Or [x, y, z, u] _ => chkT p N M sc a x && (match b with
      | .or b (.or c d) => chkT p N M sc b y && chkT p N M sc c z && chkT p N M sc d u
      | _ => false)
    | _ => false
  | .cmp o a b, e => match e with
    | .Compare x [op] [y] _ => op == o && !behindInMarks op y && chkE p N M sc a x && chkE p N M sc b y
    | _ => false
  | .kin neg a' x, e => chkE p N M sc (.kin neg a' x) e
  | e', e => plainT e && chkE p N M sc e' e
section
variable {p : Pg} {n : Nat} {N : List Str} {M : List Nat}
theorem plain_ok {sc : Scope} {X : Cx} {e : Expr} {e' : E} (h : Cok p n N sc X) (hc : (plainT e && chkE p N M sc e' e) = true) : PT X e (tT (cfOf p n) X.K M e') := by
  rw [Bool.and_eq_true] at hc
  exact l_truth (chkE_ok e' sc X e h hc.2).we (isTrue_plain_of hc.1)
theorem chkT_ok {sc : Scope} {X : Cx} (h : Cok p n N sc X) : ∀ (e' : E) (e : Expr), chkT p N M sc e' e = true → PT X e (tT (cfOf p n) X.K M e')
  | .not a, e, hc => by
    unfold chkT at hc
    split at hc
    · exact l_notT (chkT_ok h a _ hc)
    · exact nomatch hc
  | .and a b, e, hc => by
    unfold chkT at hc
    split at hc
    · rw [Bool.and_eq_true] at hc
      exact (l_andT (chkT_ok h a _ hc.1) (pw_and1 (chkT_ok h b _ hc.2))).pt
    · rw [Bool.and_eq_true] at hc
      obtain ⟨h1, hc⟩ := hc
      split at hc
      · rename_i b1 b2
        rw [Bool.and_eq_true] at hc
        exact (l_andT (chkT_ok h a _ h1) (l_andT (chkT_ok h b1 _ hc.1) (pw_and1 (chkT_ok h b2 _ hc.2)))).pt
      · exact nomatch hc
    · rw [Bool.and_eq_true] at hc
      obtain ⟨h1, hc⟩ := hc
      split at hc
      · rename_i b1 b2 b3
        rw [Bool.and_eq_true, Bool.and_eq_true] at hc
        exact (l_andT (chkT_ok h a _ h1) (l_andT (chkT_ok h b1 _ hc.1.1) (l_andT (chkT_ok h b2 _ hc.1.2) (pw_and1 (chkT_ok h b3 _ hc.2))))).pt
      · exact nomatch hc
    · exact nomatch hc
  | .or a b, e, hc => by
    unfold chkT at hc
    split at hc
    · rw [Bool.and_eq_true] at hc
      exact (l_orT (chkT_ok h a _ hc.1) (pw_or1 (chkT_ok h b _ hc.2))).pt
    · rw [Bool.and_eq_true] at hc
      obtain ⟨h1, hc⟩ := hc
      split at hc
      · rename_i b1 b2
        rw [Bool.and_eq_true] at hc
        exact (l_orT (chkT_ok h a _ h1) (l_orT (chkT_ok h b1 _ hc.1) (pw_or1 (chkT_ok h b2 _ hc.2)))).pt
      · exact nomatch hc
    · rw [Bool.and_eq_true] at hc
      obtain ⟨h1, hc⟩ := hc
      split at hc
      · rename_i b1 b2 b3
        rw [Bool.and_eq_true, Bool.and_eq_true] at hc
        exact (l_orT (chkT_ok h a _ h1) (l_orT (chkT_ok h b1 _ hc.1.1) (l_orT (chkT_ok h b2 _ hc.1.2) (pw_or1 (chkT_ok h b3 _ hc.2))))).pt
      · exact nomatch hc
    · exact nomatch hc
  | .cmp o a b, e, hc => by
    unfold chkT at hc
    split at hc
    · simp only [Bool.and_eq_true] at hc
      obtain ⟨⟨⟨g1, g2⟩, g3⟩, g4⟩ := hc
      have ho := eq_of_beq g1
      subst ho
      exact l_cmpT (opp_cmp (units_of h.room) _) (chkE_ok a sc X _ h g3).we (chkE_ok b sc X _ h g4).we (by simpa using g2) fun _ _ _ => dCmp_bl
    · exact nomatch hc
  | .kin neg a' x, e, hc => by
    unfold chkT chkE at hc
    split at hc
    · simp only [Bool.and_eq_true] at hc
      obtain ⟨⟨⟨⟨⟨h1, h2⟩, h3⟩, h4⟩, h5⟩, h6⟩ := hc
      have ho := eq_of_beq h1
      have hx := eq_of_beq h2
      subst ho hx
      obtain ⟨kvs, hk⟩ := Option.isSome_iff_exists.mp h5
      obtain ⟨dd, es, m, g1, g2, g3⟩ := h.dct _ kvs hk
      exact l_kinT (chkE_ok a' sc X _ h h6).we (h.gl h3) g1 g2 hk g3 (nm_of h4).1
    · exact nomatch hc
  | .var _, e, hc => plain_ok h hc
  | .mth _ _ _, e, hc => plain_ok h hc
  | .rpl _ _ _, e, hc => plain_ok h hc
  | .kget _ _, e, hc => plain_ok h hc
  | .sst _, e, hc => plain_ok h hc
  | .rpr _, e, hc => plain_ok h hc
  | .lss _, e, hc => plain_ok h hc
  | .mrd _ _ _ _, e, hc => plain_ok h hc
  | .cst _, e, hc => plain_ok h hc
  | .glb _, e, hc => plain_ok h hc
  | .bin _ _ _, e, hc => plain_ok h hc
  | .neg _, e, hc => plain_ok h hc
  | .chn _ _ _ _ _, e, hc => plain_ok h hc
  | .idx _ _, e, hc => plain_ok h hc
  | .cut _ _ _ _ _, e, hc => plain_ok h hc
  | .stp _ _, e, hc => plain_ok h hc
  | .tup _, e, hc => plain_ok h hc
  | .lst _, e, hc => plain_ok h hc
  | .call _ _, e, hc => plain_ok h hc
  | .bi _ _, e, hc => plain_ok h hc
  | .isi _ _, e, hc => plain_ok h hc
  | .lc _ _ _ _ _ _, e, hc => plain_ok h hc
end
def swp (sc : Scope) (x : Str) (px : Pos) : Expr → Option Bool
  | .ListComp _ _ scope pos => some (sc.names.lookup x == some .local && px.line == pos.line && !(scope.names.any fun (n, k) => n == x && (k == .local || k == .cell)))
  | .SetComp _ _ _ _ => some false
  | .DictComp _ _ _ _ _ => some false
  | _ => none
theorem sw_none {sc : Scope} {x : Str} {px : Pos} {e : Expr} {t : Option Expr} {l : Nat} {env : Env} (h : swp sc x px e = none) : swapsWith e t l env = pure false := by
  cases e <;> first
    | rfl
    | exact nomatch h
theorem sw_eq {elt : Expr} {gs : List Comprehension} {scope : Scope} {pos py : Pos} {y : Str} {l : Nat} {env : Env} (hk : env.scope.kind = .function) :
    swapsWith (.ListComp elt gs scope pos) (some (.Name y py)) l env = pure (env.kindOf y == some .local && py.line == pos.line && !(scope.names.any fun (n, k) => n == y && (k == .local || k == .cell))) := by
  have hb : env.blockKind = .function := by unfold Env.blockKind; rw [hk]; rfl
  unfold swapsWith
  simp only [hb, Expr.pos]
  rfl
theorem sole_tup {es : List Expr} {k : Nat} {q : Pos} {e : Expr} {l : Nat} {env : Env} : swapsWithSole [.Tuple es k q] e l env = pure false := by
  cases e <;> rfl
theorem stores_none {es : List Expr} {k : Nat} {q : Pos} {e : Expr} {env : Env} (h : isTupE e = false) : swappedStores [.Tuple es k q] e env = pure none := by
  cases e <;> first
    | rfl
    | exact nomatch h
theorem sole_sub {o i : Expr} {q : Pos} {e : Expr} {l : Nat} {env : Env} : swapsWithSole [.Subscript o i q] e l env = pure false := by
  cases e <;> rfl
theorem stores_sub {o i : Expr} {q : Pos} {e : Expr} {env : Env} : swappedStores [.Subscript o i q] e env = pure none := by
  cases e <;> rfl

def forOk (p : Pg) (N : List Str) (sc : Scope) (M : List Nat) (tg : Expr) (tg' : Tg) (iter : Expr) (k : Src) (ss : List E) : Bool := chkTg N sc true M tg tg' && srcOk sc tg k && (match srcArgs k iter with
  | some as => chkEs p N M true sc ss as
  | none => false)
def nstOk (p : Pg) (N : List Str) (sc : Scope) (M : List Nat) (i : Nat) (tg' : Tg) (k : Src) (ss : List E) (cond e : E) : Stmt → Stmt → Bool
  | .Assign [.Name x _] (.List [.List [] _] _) _, .For tg iter [.If ce [.Expr (.Call (.Attribute (.Name x1 _) n1 a1) [.List [] _] [] c1) _] [.Expr (.Call (.Attribute (.Subscript (.Name x2 _) (.UnaryOp .USub (.Constant (.int 1) _ _) _) _) n2 a2) [ee] [] c2) _] _] [] _ =>
    N[i]? == some x && isLoc sc x && isVis sc x && nmOk x && x1 == x && x2 == x && n1 == ("append" : Str) && n2 == ("append" : Str) && a1.endLine == c1.line && a2.endLine == c2.line && !(slots tg').contains i && forOk p N sc M tg tg' iter k ss && chkT p N M sc cond ce && chkE p N M sc e ee && !wk M e && fr M i
  | _, _ => false
def isNonD : D → Bool
  | .non => true
  | _ => false
def isNonE : Expr → Bool
  | .Constant .none _ _ => true
  | _ => false
def strd : Expr → Bool
  | .Starred _ _ => true
  | _ => false
def parOk (sc : Scope) (x y : Str) (px py : Pos) (a b : Expr) : Bool := sc.names.lookup x == some .local && sc.names.lookup y == some .local && py.line == px.line && !(x == y) && !strd a && !strd b && !([a, b].all (foldedForSure 8)) && !([a, b].all (constantsAlone 8))
def isCallX : Expr → Bool
  | .Call _ _ _ _ => true
  | _ => false
mutual
def chkS (p : Pg) (N : List Str) (sc : Scope) : List Nat → S → Stmt → Option (List Nat)
  | M, .set i e', st => match st with
    | .Assign [.Name x px] e _ => if N[i]? == some x && isLoc sc x && chkE p N M sc e' e && !wk M e' && fr M i then some (wo M i) else none
    | _ => none
  | M, .own i e', st => match st with
    | .Assign [.Name x px] e _ => if N[i]? == some x && isLoc sc x && chkE p N M sc e' e && isFresh e' && fr M i then some (i :: wo M i) else none
    | _ => none
  | M, .unp is e', st => match st with
    | .Assign [.Tuple es _ _] e _ => if chkNames N sc true M es is && chkE p N M sc e' e && !wk M e' && !isTupE e then some M else none
    | _ => none
  | M, .app i e', st => match st with
    | .Expr (.Call (.Attribute (.Name x _) at_ apos) [e] [] cpos) _ => if at_ == ("append" : Str) && N[i]? == some x && isVis sc x && nmOk x && M.contains i && apos.endLine == cpos.line && chkE p N M sc e' e && !wk M e' then some M else none
    | _ => none
  | M, .ext i e', st => match st with
    | .Expr (.Call (.Attribute (.Name x _) at_ apos) [e] [] cpos) _ => if at_ == ("extend" : Str) && N[i]? == some x && isVis sc x && nmOk x && M.contains i && apos.endLine == cpos.line && chkE p N M sc e' e && isFresh e' then some M else none
    | _ => none
  | M, .put i k' e', st => match st with
    | .Assign [.Subscript (.Name x _) k _] e _ => if noSlice k && N[i]? == some x && isVis sc x && nmOk x && M.contains i && chkE p N M sc k' k && chkE p N M sc e' e && !wk M e' then some M else none
    | _ => none
  | _, .frz _, _ => none
  | M, .ife c a b, st => match st with
    | .If e x y _ => if chkT p N M sc c e then match chkSs p N sc M a x, chkSs p N sc M b y with
      | some ma, some mb => some (ma.filter fun i => mb.contains i)
      | _, _ => none
      else none
    | _ => none
  | M, .for_ tg' k ss body', st => match st with
    | .For tg iter body [] _ => if forOk p N sc M tg tg' iter k ss then match chkSs p N sc M body' body with
      | some mb => if M.all (fun i => mb.contains i) then some M else none
      | none => none
      else none
    | _ => none
  | M, .whl c body', st => match st with
    | .While e body [] _ => if chkT p N M sc c e then match chkSs p N sc M body' body with
      | some mb => if M.all (fun i => mb.contains i) then some M else none
      | none => none
      else none
    | _ => none
  | M, .ret e', st => match st with
    | .Return (some e) _ => if chkE p N M sc e' e && !wk M e' then some M else none
    | _ => none
  | M, .pas, st => match st with
    | .Pass _ => some M
    | _ => none
  | M, .rse _, st => match st with
    | .Raise _ _ _ => some M
    | _ => none
  | _, .nst _ _ _ _ _ _, _ => none
  | _, .told _ _ _, _ => none
  | _, .tif _ _ _ _ _ _ _, _ => none
  | M, .exp e', st => match st with
    | .Expr e _ => if isCallX e && chkE p N M sc e' e then some M else none
    | _ => none
  | M, .par i j a' b', st => match st with
    | .Assign [.Tuple [.Name x px, .Name y py] _ _] (.Tuple [a, b] _ _) _ => if N[i]? == some x && N[j]? == some y && i != j && parOk sc x y px py a b && chkEs p N M true sc [a', b'] [a, b] && fr M i && fr M j then some (wo (wo M i) j) else none
    | _ => none
  | M, .pac i j a' d, st => match st with
    | .Assign [.Tuple [.Name x px, .Name y py] _ _] (.Tuple [a, b] _ _) _ => if N[i]? == some x && N[j]? == some y && i != j && parOk sc x y px py a b && chkE p N M sc a' a && isFresh a' && isNonD d && isNonE b && fr M i && fr M j then some (i :: wo (wo M i) j) else none
    | _ => none
def chkSs (p : Pg) (N : List Str) (sc : Scope) : List Nat → List S → List Stmt → Option (List Nat)
  | M, [], sts => if sts.isEmpty then some M else none
  | M, s :: ss, sts => match s with
    | .frz i => chkSs p N sc (wo M i) ss sts
    | .nst i tg' k es cond e => match sts with
      | st1 :: st2 :: sts => if M.all (fun m => (lkOf m).isNone) && nstOk p N sc (wo M i) i tg' k es cond e st1 st2 then chkSs p N sc (wo M i) ss sts else none
      | _ => none
    | _ => match sts with
      | st :: sts => match chkS p N sc M s st with
        | some M1 => chkSs p N sc M1 ss sts
        | none => none
      | [] => none
end
end LC

set_option Elab.async false
set_option linter.all false
set_option maxRecDepth 100000
set_option maxHeartbeats 4000000
namespace LC
open PySem PySem.Spec PyProof.Rows L2
section
variable {p : Pg} {n : Nat} {N : List Str}
theorem opt_if {α : Type} {c : Prop} [Decidable c] {a b : α} (h : (if c then some a else none) = some b) : c ∧ a = b := by
  by_cases hc : c
  · rw [if_pos hc] at h
    exact ⟨hc, Option.some.inj h⟩
  · rw [if_neg hc] at h
    exact nomatch h
theorem asg_name {sc : Scope} {X : Cx} (h : Cok p n N sc X) (hk : sc.kind = .function) (hf : ∀ x, X.fn x = true) {i : Nat} {x : Str} {px pos : Pos} {e : Expr} {te : TE} (h1 : N[i]? = some x) (h2 : isLoc sc x = true) (he : PE X e te)
    (hl : ∀ elt tg iter ifs scope q, e = .ListComp elt [⟨tg, iter, ifs, 0⟩] scope q → swp sc x px e = some true → PS X (.Assign [.Name x px] e pos) (tAsg te (gName i))) (hcomp : ∀ b, swp sc x px e = some b → ∃ elt tg iter ifs scope q, e = .ListComp elt [⟨tg, iter, ifs, 0⟩] scope q) :
    PS X (.Assign [.Name x px] e pos) (tAsg te (gName i)) := by
  have hN : X.N.Nodup := by rw [h.names]; exact h.nd
  have hi : X.N[i]? = some x := by rw [h.names]; exact h1
  have hx : Loc X.env.scope x := by rw [h.scope]; exact loc_of h2
  cases hs : swp sc x px e with
  | none => exact ps_set hN hi hx he (sw_none hs) (.inl (hf x))
  | some b =>
    obtain ⟨elt, tg, iter, ifs, scope, q, rfl⟩ := hcomp b hs
    cases b with
    | true => exact hl _ _ _ _ _ _ rfl hs
    | false =>
      refine ps_set hN hi hx he ?_ (.inl (hf x))
      rw [sw_eq (by rw [h.scope]; exact hk)]
      have hs' : (sc.names.lookup x == some .local && px.line == q.line && !(scope.names.any fun (n, k) => n == x && (k == .local || k == .cell))) = false := Option.some.inj hs
      unfold Env.kindOf
      rw [h.scope, hs']
theorem comp_shape {M : List Nat} {sc : Scope} {x : Str} {px : Pos} {e : Expr} {e' : E} (hc : chkE p N M sc e' e = true) : ∀ b, swp sc x px e = some b → ∃ elt tg iter ifs scope q, e = .ListComp elt [⟨tg, iter, ifs, 0⟩] scope q := fun b hb => by
  cases e with
  | ListComp elt gs scope q =>
    cases e' with
    | lc own tg' k ss cond elt' =>
      unfold chkE at hc
      split at hc
      · rename_i ia _ _ heq
        simp only [Bool.and_eq_true] at hc
        have hia := eq_of_beq hc.1.1.1.1.1.1.1.1.1
        subst hia
        cases heq
        exact ⟨_, _, _, _, _, _, rfl⟩
      · exact nomatch hc
    | _ => unfold chkE at hc; exact nomatch hc
  | SetComp elt gs scope q => cases e' <;> simp [chkE] at hc
  | DictComp k v gs scope q => cases e' <;> simp [chkE] at hc
  | _ => exact nomatch hb
theorem lc_set {sc : Scope} {X : Cx} {M : List Nat} (h : Cok p n N sc X) (hk : sc.kind = .function) {i : Nat} {x : Str} {px spos : Pos} {elt tg iter : Expr} {ifs : List Expr} {scope : Scope} {q : Pos} {e' : E} (h1 : N[i]? = some x)
    (hc : chkE p N M sc e' (.ListComp elt [⟨tg, iter, ifs, 0⟩] scope q) = true) (hs : swp sc x px (.ListComp elt [⟨tg, iter, ifs, 0⟩] scope q) = some true) :
    PS X (.Assign [.Name x px] (.ListComp elt [⟨tg, iter, ifs, 0⟩] scope q) spos) (tAsg (tF (cfOf p n) X.K M e') (gName i)) := by
  cases e' with
  | lc own tg' k ss cond elt' =>
    unfold chkE at hc
    simp only [Bool.and_eq_true] at hc
    obtain ⟨⟨⟨⟨⟨⟨⟨⟨⟨_, h2⟩, h3⟩, h4⟩, h5⟩, h6⟩, h7⟩, h8⟩, h9⟩, h10⟩ := hc
    split at h7
    · rename_i as hs7
      have hpa : PA X as (tWs (cfOf p n) X.K M ss) := chkEs_ok ss false sc X _ h h7
      have hi : PI X tg iter (tI false (cfOf p n) X.K M k ss) := src_ok h h6 hs7 h7 hpa fun e0 e0' ea es0 => by
        subst ea es0
        rw [chkEs, Bool.and_eq_true, Bool.and_eq_true] at h7
        exact (chkE_ok e0' sc X _ h h7.1.1).we
      have hown : ∀ i ∈ own, Nf M i := fun i hi => by
        have := List.all_eq_true.mp h3 i hi
        rw [Bool.and_eq_true] at this
        refine ⟨fun z => ?_, this.2⟩
        rw [List.contains_iff_mem.mpr z] at this
        exact nomatch this.1
      have hsl : ∀ i ∈ slots tg', i ∈ own := fun i hi => List.contains_iff_mem.mp (List.all_eq_true.mp h4 i hi)
      have ht : ∀ (s : Shared) (H : Hp) (C : Addr) (cl : List (Str × Addr)) (fp : List Addr), PTs (X.blk s H scope (compEnvC scope cl C X.env) fp) ifs (tT (cfOf p n) X.K M cond) := fun s H C cl fp => by
        have hb := h.blk s H scope C cl fp
        split at h8
        · exact ⟨fun pins s σ H Q I ⟨O, ρ, d, b, o, ee, et, q⟩ => by
            rw [ev] at ee
            cases ee
            cases et
            exact pts_nil.run pins s σ H Q I (q H (Same.refl H))⟩
        · rw [Bool.and_eq_true] at h8
          rename_i x _ a
          exact pts_one (l_notT (l_truth (chkE_ok a _ _ _ hb h8.2).we (isTrue_plain_of h8.1)))
        · rename_i a op b _ o a' b'
          simp only [Bool.and_eq_true] at h8
          obtain ⟨⟨⟨g1, g2⟩, g3⟩, g4⟩ := h8
          have ho := eq_of_beq g1
          subst ho
          exact pts_one (l_cmpT (opp_cmp (units_of hb.room) _) (chkE_ok a' _ _ _ hb g3).we (chkE_ok b' _ _ _ hb g4).we (by simpa using g2) fun _ _ _ => dCmp_bl)
        · exact nomatch h8
      have hblk : BlkOk X.N X.env.scope scope (own.map fun i => (N.getD i ("" : Str), i)) := by
        rw [h.names, h.scope]
        exact blkOk_by h2
      have hs' : (sc.names.lookup x == some .local && px.line == q.line && !(scope.names.any fun (n, k) => n == x && (k == .local || k == .cell))) = true := Option.some.inj hs
      have hlx : sc.names.lookup x = some .local := by
        rw [Bool.and_eq_true, Bool.and_eq_true] at hs'
        exact eq_of_beq hs'.1.1
      have hsw : swapsWith (.ListComp elt [⟨tg, iter, ifs, 0⟩] scope q) (some (.Name x px)) spos.line X.env = pure true := by
        rw [sw_eq (by rw [h.scope]; exact hk)]
        unfold Env.kindOf
        rw [h.scope, hs']
      have key := ps_setLc (i := i) (spos := spos) (g := tG X.K M tg') (tt := tT (cfOf p n) X.K M cond) (te := tE (cfOf p n) X.K M elt') h.calm (by rw [h.names]; exact h.nd) (by rw [h.names]; exact h1) (by rw [h.scope]; exact hlx) hsw hi hblk (fun s H C cl fp => (tg_ok (h.blk s H scope C cl fp) (Cok.fnb s H C cl fp) h5).1) ht (fun s H C cl fp => (chkE_ok elt' _ _ _ (h.blk s H scope C cl fp) h9).st (wk_not h10)) (noFold hs7 h7)
      rw [blkNames] at key
      exact ps_imp key fun Dn σ H hh => lc_read hown hsl hh
    · exact nomatch h7
  | _ => unfold chkE at hc; exact nomatch hc
theorem set_asg {sc : Scope} {X : Cx} {M : List Nat} (h : Cok p n N sc X) (hk : sc.kind = .function) (hf : ∀ x, X.fn x = true) {i : Nat} {x : Str} {px pos : Pos} {e : Expr} {e' : E} (h1 : N[i]? = some x) (h2 : isLoc sc x = true) (hc : chkE p N M sc e' e = true) (hw : wk M e' = false) :
    PS X (.Assign [.Name x px] e pos) (tAsg (tE (cfOf p n) X.K M e') (gName i)) :=
  asg_name h hk hf h1 h2 ((chkE_ok e' sc X e h hc).st hw) (fun elt tg iter ifs scope q heq hs => by
    subst heq
    have hlst : ∀ ρ d, ev (cfOf p n) e' ρ = .ok d → ∃ ds, d = .lst ds := by
      cases e' with
      | lc own tg' k ss cond elt' => exact lc_lst
      | _ => unfold chkE at hc; exact nomatch hc
    exact ps_imp (lc_set h hk h1 hc hs) fun Dn σ H hh => tF_of hlst hh) (comp_shape hc)
theorem own_asg {sc : Scope} {X : Cx} {M : List Nat} (h : Cok p n N sc X) (hk : sc.kind = .function) (hf : ∀ x, X.fn x = true) {i : Nat} {x : Str} {px pos : Pos} {e : Expr} {e' : E} (h1 : N[i]? = some x) (h2 : isLoc sc x = true) (hc : chkE p N M sc e' e = true) (hw : isFresh e' = true) :
    PS X (.Assign [.Name x px] e pos) (tAsg (tF (cfOf p n) X.K M e') (gName i)) :=
  asg_name h hk hf h1 h2 ((chkE_ok e' sc X e h hc).fr hw) (fun elt tg iter ifs scope q heq hs => by
    subst heq
    exact lc_set h hk h1 hc hs) (comp_shape hc)
theorem contains_mem {M : List Nat} {i : Nat} (h : M.contains i = true) : i ∈ M := List.contains_iff_mem.mp h
theorem meth_pe {sc : Scope} {X : Cx} (h : Cok p n N sc X) {x name : Str} {i : Nat} {q apos cpos : Pos} {e : Expr} {te : TE} {id : String} {r : V → List V → Hp → VK → Prop} (slot : Slot "list" name id) (hty : typeOf (.builtin id) = pure (.type "method_descriptor")) (hm : MtR X id r)
    (h1 : N[i]? = some x) (h2 : isVis sc x = true) (h3 : nmOk x = true) (hl : (apos.endLine == cpos.line) = true) (he : PE X e te) (hst : starEach [e] X.env = [(false, eval e X.env)]) :
    PE X (.Call (.Attribute (.Name x q) name apos) [e] [] cpos) (tBM X.K "list" r (tVar i) (tCons te tNil)) := by
  obtain ⟨n1, n2, _⟩ := nm_of h3
  exact pe_bm PySem.F.plainAttrs_list slot hty hm (pe_var (by rw [h.names]; exact h1) (h.vis h2) n1 n2) (pa_cons he pa_nil hst) rfl (by rw [hst]; rfl) hl hst rfl
theorem asg_sub {o k : Expr} {q : Pos} {env : Env} (h : noSlice k = true) : ∀ v, assign (.Subscript o k q) env v = (do
      let ov ← holding [v] (eval o env)
      let iv ← holding [v, ov] (eval k env)
      standAt q
      holding [v, ov, iv] (setItem ov iv v)
      release [v, ov, iv] []) := by
  intro v
  cases k <;> first
    | rfl
    | exact nomatch h
theorem drop_call {f : Expr} {as : List Expr} {ks : List Keyword} {q : Pos} {l : Nat} {env : Env} : swapsWith (.Call f as ks q) none l env = pure false := rfl
theorem nst_ok {sc : Scope} {X : Cx} {M : List Nat} (h : Cok p n N sc X) (hk : sc.kind = .function) (hf : ∀ x, X.fn x = true) (hp : PassesOwn (model X.prog X.w) X.A X.env X.xe) {i : Nat} {tg' : Tg} {k : Src} {es : List E} {cond e : E} {st1 st2 : Stmt} (hc : nstOk p N sc M i tg' k es cond e st1 st2 = true) :
    (i ∉ slots tg') ∧ (∀ j ∈ slots tg', Nf M j) ∧ fr M i = true ∧ PS X st1 (tAsg (tLst (tCons (tLst tNil) tNil)) (gName i)) ∧ PS X st2 (tFor (tI true (cfOf p n) X.K M k es) (tG X.K M tg') (tIfS (tT (cfOf p n) X.K M cond) (tNA X.K i) (tNB (cfOf p n) X.K M i e))) := by
  unfold nstOk at hc
  split at hc
  · simp only [Bool.and_eq_true] at hc
    obtain ⟨⟨⟨⟨⟨⟨⟨⟨⟨⟨⟨⟨⟨⟨⟨h1, h2⟩, h3⟩, h4⟩, h5⟩, h6⟩, h7⟩, h8⟩, h9⟩, h10⟩, h11⟩, h12⟩, h13⟩, h14⟩, h15⟩, h16⟩ := hc
    have q5 := eq_of_beq h5
    have q6 := eq_of_beq h6
    have q7 := eq_of_beq h7
    have q8 := eq_of_beq h8
    subst q5 q6 q7 q8
    obtain ⟨n1, n2, _⟩ := nm_of h4
    have hN' := eq_of_beq h1
    have hN := (congrArg (fun l : List Str => l[i]?) h.names).trans hN'
    have hv := h.vis h3
    unfold forOk at h12
    simp only [Bool.and_eq_true] at h12
    obtain ⟨⟨w1, w2⟩, w3⟩ := h12
    split at w3
    · rename_i as hs
      obtain ⟨g1, g2⟩ := tg_ok (top := true) h (fun x _ _ => .inl (hf x)) w1
      have hpa := chkEs_ok es true sc X _ h w3
      have hi := src_ok (b := true) h w2 hs w3 hpa fun e0 e0' ea es0 => by
        subst ea es0
        rw [chkEs, Bool.and_eq_true, Bool.and_eq_true] at w3
        exact (chkE_ok e0' sc X _ h w3.1.1).st (by simpa using w3.1.2)
      refine ⟨fun z => ?_, g2, h16, ps_set (by rw [h.names]; exact h.nd) hN (by rw [h.scope]; exact loc_of h2) (pe_lst (pa_cons (pe_lst pa_nil) pa_nil rfl)) rfl (.inl (hf _)), ?_⟩
      · rw [List.contains_iff_mem.mpr z] at h11
        exact nomatch h11
      · have hst := star_of (as := []) (env := X.env) (no_star h14)
        refine ps_for hp h.calm hi g1 (pss_one (ps_if (chkT_ok h cond _ h13) (pss_one ?_) (pss_one ?_))) (noFold hs w3)
        · exact ps_expr (meth_pe h PySem.F.slot_list_append PySem.F.type_list_append mt_append (eq_of_beq h1) h3 h4 h9 (pe_lst pa_nil) rfl) drop_call
        · exact ps_expr (pe_bm PySem.F.plainAttrs_list PySem.F.slot_list_append PySem.F.type_list_append mt_append (pe_ix ix_list (pe_var hN hv n1 n2) (pe_imp (pe_un un_neg pe_int) fun σ H Q q => ⟨1, rfl, q⟩) (plainIx_of rfl)) (pa_cons ((chkE_ok e sc X _ h h14).st (wk_not h15)) pa_nil hst) rfl (by rw [hst]; rfl) h10 hst rfl) drop_call
    · exact nomatch w3
  · exact nomatch hc
theorem par_stores {sc : Scope} {x y : Str} {px py pt pt2 : Pos} {kt k2 : Nat} {a b : Expr} {env : Env} (hs : env.scope = sc) (hk : sc.kind = .function) (h : parOk sc x y px py a b = true) : swappedStores [.Tuple [.Name x px, .Name y py] kt pt] (.Tuple [a, b] k2 pt2) env = pure (some [x, y]) := by
  unfold parOk at h
  simp only [Bool.and_eq_true] at h
  obtain ⟨⟨⟨⟨⟨⟨⟨h1, h2⟩, h3⟩, h4⟩, h5⟩, h6⟩, h7⟩, h8⟩ := h
  have hb : env.blockKind = .function := by unfold Env.blockKind; rw [hs, hk]; rfl
  have kx : env.kindOf x = some .local := by unfold Env.kindOf; rw [hs]; exact eq_of_beq h1
  have ky : env.kindOf y = some .local := by unfold Env.kindOf; rw [hs]; exact eq_of_beq h2
  have h7' : [a, b].all (foldedForSure 8) = false := by cases hh : [a, b].all (foldedForSure 8) with | false => rfl | true => rw [hh] at h7; exact nomatch h7
  have h8' : [a, b].all (constantsAlone 8) = false := by cases hh : [a, b].all (constantsAlone 8) with | false => rfl | true => rw [hh] at h8; exact nomatch h8
  have hyx : (y == x) = false := by
    rw [beq_eq_false_iff_ne]
    intro z
    rw [z] at h4
    simp at h4
  have hdup : [x, y].eraseDups = [x, y] := by
    rw [List.eraseDups_cons, List.filter_cons]
    simp only [hyx, Bool.not_false, if_true, List.filter_nil]
    rw [List.eraseDups_cons, List.filter_nil, List.eraseDups_nil]
  unfold swappedStores
  dsimp only
  rw [hb]
  rw [if_neg ?c1, if_neg ?c2]
  case c1 => exact fun z => Bool.false_ne_true z
  case c2 =>
    simp only [List.any_cons, List.any_nil, Bool.or_false]
    intro z
    rw [Bool.or_eq_true] at z
    rcases z with z | z
    · split at z
      · exact nomatch h5
      · exact nomatch z
    · split at z
      · exact nomatch h6
      · exact nomatch z
  · simp only [List.head?_cons, Option.map_some, Option.getD_some, Expr.pos, List.filterMap_cons, List.filterMap_nil, kx, ky, h3, beq_self_eq_true, Bool.and_self, if_true]
    rw [if_neg ?_, h7', if_neg (by decide), h8', if_neg (by decide)]
    rw [hdup]
    exact Bool.false_ne_true
theorem fr_wo {M : List Nat} {i : Nat} (h : fr (wo M i) i = true) : fr M i = true := by
  have hs := fr_small h
  unfold fr at h ⊢
  rw [Bool.and_eq_true] at h ⊢
  refine ⟨h.1, List.all_eq_true.mpr fun m hm => ?_⟩
  by_cases hmi : m = i
  · subst hmi
    unfold frM
    rw [lk_small hs]
  · exact List.all_eq_true.mp h.2 m (List.mem_filter.mpr ⟨hm, by simpa using hmi⟩)
mutual
theorem chkS_ok {sc : Scope} {X : Cx} (h : Cok p n N sc X) (hk : sc.kind = .function) (hf : ∀ x, X.fn x = true) (hp : PassesOwn (model X.prog X.w) X.A X.env X.xe) :
    ∀ (s : S) (M M' : List Nat) (st : Stmt), chkS p N sc M s st = some M' → PS X st (tS (cfOf p n) p.wf X.K M M' s)
  | .set i e', M, M', st, hc => by
    unfold chkS at hc
    split at hc
    · obtain ⟨hh, rfl⟩ := opt_if hc
      simp only [Bool.and_eq_true] at hh
      obtain ⟨⟨⟨⟨h1, h2⟩, h3⟩, h4⟩, h5⟩ := hh
      exact s_set_of h5 (set_asg h hk hf (eq_of_beq h1) h2 h3 (wk_not h4))
    · exact nomatch hc
  | .own i e', M, M', st, hc => by
    unfold chkS at hc
    split at hc
    · obtain ⟨hh, rfl⟩ := opt_if hc
      simp only [Bool.and_eq_true] at hh
      obtain ⟨⟨⟨⟨h1, h2⟩, h3⟩, h4⟩, h5⟩ := hh
      exact s_own h5 (own_asg h hk hf (eq_of_beq h1) h2 h3 h4)
    · exact nomatch hc
  | .unp is e', M, M', st, hc => by
    unfold chkS at hc
    split at hc
    · obtain ⟨hh, rfl⟩ := opt_if hc
      simp only [Bool.and_eq_true] at hh
      obtain ⟨⟨⟨h1, h2⟩, h3⟩, h4⟩ := hh
      obtain ⟨g1, g2, g3, g4⟩ := names_ok (top := true) h (fun x _ _ => .inl (hf x)) h1
      exact s_unp g4 (ps_asg ((chkE_ok e' sc X _ h h2).st (wk_not h3)) (pg_or (pg_tup h.calm g1 g2 g3) (pg_unl h.calm g1 g2 g3)) sole_tup (stores_none (by simpa using h4)) rfl)
    · exact nomatch hc
  | .app i e', M, M', st, hc => by
    unfold chkS at hc
    split at hc
    · obtain ⟨hh, rfl⟩ := opt_if hc
      simp only [Bool.and_eq_true] at hh
      obtain ⟨⟨⟨⟨⟨⟨⟨h1, h2⟩, h3⟩, h4⟩, h5⟩, h6⟩, h7⟩, h8⟩ := hh
      have ha := eq_of_beq h1
      subst ha
      have hst := star_of (as := []) (env := X.env) (no_star h7)
      exact s_app (contains_mem h5) (ps_expr (meth_pe h PySem.F.slot_list_append PySem.F.type_list_append mt_append (eq_of_beq h2) h3 h4 h6 ((chkE_ok e' sc X _ h h7).st (wk_not h8)) hst) drop_call)
    · exact nomatch hc
  | .ext i e', M, M', st, hc => by
    unfold chkS at hc
    split at hc
    · obtain ⟨hh, rfl⟩ := opt_if hc
      simp only [Bool.and_eq_true] at hh
      obtain ⟨⟨⟨⟨⟨⟨⟨h1, h2⟩, h3⟩, h4⟩, h5⟩, h6⟩, h7⟩, h8⟩ := hh
      have ha := eq_of_beq h1
      subst ha
      have hst := star_of (as := []) (env := X.env) (no_star h7)
      exact s_ext (contains_mem h5) (ps_expr (meth_pe h PySem.F.slot_list_extend PySem.F.type_list_extend mt_extend (eq_of_beq h2) h3 h4 h6 ((chkE_ok e' sc X _ h h7).fr h8) hst) drop_call)
    · exact nomatch hc
  | .put i k' e', M, M', st, hc => by
    unfold chkS at hc
    split at hc
    · obtain ⟨hh, rfl⟩ := opt_if hc
      simp only [Bool.and_eq_true] at hh
      obtain ⟨⟨⟨⟨⟨⟨⟨h1, h2⟩, h3⟩, h4⟩, h5⟩, h6⟩, h7⟩, h8⟩ := hh
      obtain ⟨n1, n2, _⟩ := nm_of h4
      exact s_put (contains_mem h5) (ps_asg ((chkE_ok e' sc X _ h h7).st (wk_not h8)) (pg_sub (pe_var (by rw [h.names]; exact eq_of_beq h2) (h.vis h3) n1 n2) (chkE_ok k' sc X _ h h6).we set_list (asg_sub h1)) sole_sub stores_sub rfl)
    · exact nomatch hc
  | .frz i, M, M', st, hc => by
    unfold chkS at hc
    exact nomatch hc
  | .ife c a b, M, M', st, hc => by
    unfold chkS at hc
    split at hc
    · split at hc
      · rename_i ht
        split at hc
        · rename_i ma mb ha hb
          cases hc
          refine s_if (chkT_ok h c _ ht) (ss_weak ?_ (chkSs_ok h hk hf hp a M ma _ ha)) (ss_weak ?_ (chkSs_ok h hk hf hp b M mb _ hb))
          · intro j hj
            exact (List.mem_filter.mp hj).1
          · intro j hj
            exact contains_mem (List.mem_filter.mp hj).2
        · exact nomatch hc
      · exact nomatch hc
    · exact nomatch hc
  | .for_ tg' k ss body', M, M', st, hc => by
    unfold chkS at hc
    split at hc
    · split at hc
      · rename_i hh
        unfold forOk at hh
        simp only [Bool.and_eq_true] at hh
        obtain ⟨⟨h1, h2⟩, h3⟩ := hh
        split at hc
        · rename_i mb hb
          obtain ⟨hall, rfl⟩ := opt_if hc
          split at h3
          · rename_i as hs
            obtain ⟨g1, g2⟩ := tg_ok (top := true) h (fun x _ _ => .inl (hf x)) h1
            have hpa := chkEs_ok ss true sc X _ h h3
            have hi := src_ok (b := true) h h2 hs h3 hpa fun e0 e0' ea es0 => by
              subst ea es0
              rw [chkEs, Bool.and_eq_true, Bool.and_eq_true] at h3
              exact (chkE_ok e0' sc X _ h h3.1.1).st (by simpa using h3.1.2)
            exact s_for hp h.calm hi g1 (ss_weak (fun j hj => contains_mem (List.all_eq_true.mp hall j hj)) (chkSs_ok h hk hf hp body' M mb _ hb)) (noFold hs h3) g2
          · exact nomatch h3
        · exact nomatch hc
      · exact nomatch hc
    · exact nomatch hc
  | .whl c body', M, M', st, hc => by
    unfold chkS at hc
    split at hc
    · split at hc
      · rename_i ht
        split at hc
        · rename_i mb hb
          obtain ⟨hall, rfl⟩ := opt_if hc
          exact s_whl hp (chkT_ok h c _ ht) (ss_weak (fun j hj => contains_mem (List.all_eq_true.mp hall j hj)) (chkSs_ok h hk hf hp body' M mb _ hb))
        · exact nomatch hc
      · exact nomatch hc
    · exact nomatch hc
  | .ret e', M, M', st, hc => by
    unfold chkS at hc
    split at hc
    · obtain ⟨hh, rfl⟩ := opt_if hc
      rw [Bool.and_eq_true] at hh
      exact s_ret ((chkE_ok e' sc X _ h hh.1).st (wk_not hh.2))
    · exact nomatch hc
  | .pas, M, M', st, hc => by
    unfold chkS at hc
    split at hc
    · cases hc
      exact s_pas
    · exact nomatch hc
  | .exp e', M, M', st, hc => by
    unfold chkS at hc
    split at hc
    · obtain ⟨hh, rfl⟩ := opt_if hc
      rw [Bool.and_eq_true] at hh
      obtain ⟨h1, h2⟩ := hh
      rename_i e pos
      cases e with
      | Call a b c d => exact s_exp (e := .Call a b c d) (ps_expr (chkE_ok e' sc X _ h h2).we drop_call)
      | _ => exact nomatch h1
    · exact nomatch hc
  | .nst _ _ _ _ _ _, M, M', st, hc => by
    unfold chkS at hc
    exact nomatch hc
  | .told _ _ _, M, M', st, hc => by
    unfold chkS at hc
    exact nomatch hc
  | .tif _ _ _ _ _ _ _, M, M', st, hc => by
    unfold chkS at hc
    exact nomatch hc
  | .par i j a' b', M, M', st, hc => by
    unfold chkS at hc
    split at hc
    · obtain ⟨hh, rfl⟩ := opt_if hc
      simp only [Bool.and_eq_true] at hh
      obtain ⟨⟨⟨⟨⟨⟨h1, h2⟩, h3⟩, h4⟩, h5⟩, h6⟩, h7⟩ := hh
      have hij : i ≠ j := by simpa using h3
      have h4p := h4
      unfold parOk at h4
      simp only [Bool.and_eq_true] at h4
      exact s_par h6 h7 hij (ps_par h.calm (by rw [h.names]; exact h.nd) (by rw [h.names]; exact eq_of_beq h1) (by rw [h.names]; exact eq_of_beq h2) hij (by rw [h.scope]; exact eq_of_beq h4.1.1.1.1.1.1.1) (by rw [h.scope]; exact eq_of_beq h4.1.1.1.1.1.1.2) (chkEs_ok [a', b'] true sc X _ h h5) (par_stores h.scope hk h4p))
    · exact nomatch hc
  | .pac i j a' d, M, M', st, hc => by
    unfold chkS at hc
    split at hc
    · obtain ⟨hh, rfl⟩ := opt_if hc
      simp only [Bool.and_eq_true] at hh
      obtain ⟨⟨⟨⟨⟨⟨⟨⟨⟨h1, h2⟩, h3⟩, h4⟩, h5⟩, h6⟩, h7⟩, h8⟩, h9⟩, h10⟩ := hh
      have hij : i ≠ j := by simpa using h3
      have h4p := h4
      unfold parOk at h4
      simp only [Bool.and_eq_true] at h4
      rename_i x px y py k1 p1 a b k2 p2 p3
      cases d with
      | non =>
        cases b with
        | Constant cc kk pp =>
          cases cc with
          | none =>
            have hst := star_of (as := [.Constant .none kk pp]) (env := X.env) (no_star h5)
            exact s_pac (w := .non) h9 h10 hij (fun _ _ => rp_non) (ps_par h.calm (by rw [h.names]; exact h.nd) (by rw [h.names]; exact eq_of_beq h1) (by rw [h.names]; exact eq_of_beq h2) hij (by rw [h.scope]; exact eq_of_beq h4.1.1.1.1.1.1.1) (by rw [h.scope]; exact eq_of_beq h4.1.1.1.1.1.1.2) (pa_cons ((chkE_ok a' sc X _ h h5).fr h6) (pa_cons pe_non pa_nil) hst) (par_stores h.scope hk h4p))
          | _ => exact nomatch h8
        | _ => exact nomatch h8
      | _ => exact nomatch h7
    · exact nomatch hc
  | .rse _, M, M', st, hc => ⟨fun pins s σ H Dn I ⟨O, G, ρ, f, o, ee, q⟩ => by
    rw [xs] at ee
    exact nomatch ee⟩
theorem chkSs_ok {sc : Scope} {X : Cx} (h : Cok p n N sc X) (hk : sc.kind = .function) (hf : ∀ x, X.fn x = true) (hp : PassesOwn (model X.prog X.w) X.A X.env X.xe) :
    ∀ (ss : List S) (M M' : List Nat) (sts : List Stmt), chkSs p N sc M ss sts = some M' → PSs X sts (tSs (cfOf p n) p.wf X.K M M' ss)
  | [], M, M', sts, hc => by
    unfold chkSs at hc
    obtain ⟨hh, rfl⟩ := opt_if hc
    rw [List.isEmpty_iff.mp hh]
    exact ss_nil
  | s :: ss, M, M', sts, hc => by
    unfold chkSs at hc
    split at hc
    · exact ss_frz wo_sub (chkSs_ok h hk hf hp ss _ M' sts hc)
    · split at hc
      · split at hc
        · rename_i hn
          rw [Bool.and_eq_true] at hn
          obtain ⟨g1, g2, gf, g3, g4⟩ := nst_ok h hk hf hp hn.2
          have nl : ∀ m ∈ M, lkOf m = none := fun m hm => Option.isNone_iff_eq_none.mp (List.all_eq_true.mp hn.1 m hm)
          have hfi : fr M _ = true := fr_wo gf
          exact s_nst g1 g2 hfi nl g3 g4 (chkSs_ok h hk hf hp ss _ M' _ hc)
        · exact nomatch hc
      · exact nomatch hc
    · split at hc
      · split at hc
        · rename_i M1 h1
          exact ss_cons (chkS_ok h hk hf hp s M M1 _ h1) (chkSs_ok h hk hf hp ss M1 M' _ hc)
        · exact nomatch hc
      · exact nomatch hc
end
end
end LC

set_option Elab.async false
set_option linter.all false
set_option maxRecDepth 100000
set_option maxHeartbeats 4000000
namespace LC
open PySem PySem.Spec PyProof.Rows L2
theorem run_len {p : Pg} {n : Nat} {f : Str} {fn : Fn} {ds : List D} {d : D} (hf : p.fns.lookup f = some fn) (ht : fn.tb = none) (h : run p (n + 1) f ds = .ok d) : ds.length = fn.np ∧ finish (xss (cfOf p n) p.wf fn.body (startR fn ds)) = .ok d := by
  rw [run_succ, hf] at h
  dsimp only at h
  rw [ht] at h
  by_cases hl : ds.length = fn.np
  · rw [if_pos hl] at h
    exact ⟨hl, h⟩
  · rw [if_neg hl] at h
    exact nomatch h
theorem ok_start {K : PySem.W.Frag} {O : Addr → Prop} {H : Hp} {fn : Fn} {ds : List D} {vs : List V} {N : List Str} (hO : ∀ b, O b → H b ≠ none) (r : RpL K O H ds vs) (hn : fn.ns = N.length) : OkS K O H [] (startR fn ds) (start N vs) H := by
  have hl := r.length
  have hav : Av O [] (start N vs) = O := by
    funext b
    apply propext
    constructor
    · rintro (z | ⟨i, hi, _⟩)
      · exact z
      · exact nomatch hi
    · exact .inl
  refine ⟨⟨hO, ?_, fun i e => ?_, fun i d e _ => ?_, (fun i d e m => nomatch m), (fun i j a hi => nomatch hi), .none (fun m hm => nomatch hm)⟩, Same.refl H, (fun i hi => nomatch hi), (fun m hm => nomatch hm)⟩
  · unfold L2.start startR
    rw [List.length_append, List.length_append, List.length_map, List.length_map, List.length_replicate, List.length_replicate, hl, hn]
  · unfold startR at e
    unfold L2.start
    by_cases hi : i < ds.length
    · rw [List.getElem?_append_left (by rw [List.length_map]; exact hi), List.getElem?_map, List.getElem?_eq_getElem hi] at e
      exact nomatch e
    · rw [List.getElem?_append_right (by rw [List.length_map]; omega), List.length_map] at e ⊢
      rw [← hl, ← hn]
      rw [List.getElem?_replicate] at e ⊢
      split at e
      · rename_i hlt
        rw [if_pos hlt]
      · exact nomatch e
  · unfold startR at e
    rw [hav]
    unfold L2.start
    by_cases hi : i < ds.length
    · rw [List.getElem?_append_left (by rw [List.length_map]; exact hi), List.getElem?_map] at e
      cases hd : ds[i]? with
      | none => rw [hd] at e; exact nomatch e
      | some d' =>
        rw [hd] at e
        cases e
        obtain ⟨v, hv, rv⟩ := r.get hd
        refine ⟨v, ?_, rv⟩
        rw [List.getElem?_append_left (by rw [List.length_map, ← hl]; exact hi), List.getElem?_map, hv]
        rfl
    · rw [List.getElem?_append_right (by rw [List.length_map]; omega), List.getElem?_replicate] at e
      split at e
      · exact nomatch e
      · exact nomatch e
section
variable {P : Program} {w : World} {K : PySem.W.Frag} {mg : Str → Option Value} {base : Heap} {p : Pg}
theorem fn_ok {n : Nat} {x qual : Str} {st : Stmt} {f : Addr} {fd : FuncData} {N ps : List Str} {fn : Fn} {M' : List Nat} (F : Fun K x qual st f fd) (S : FnScope N ps (defScope st)) (hfn : p.fns.lookup x = some fn) (htb : fn.tb = none) (hnp : fn.np = ps.length) (hns : fn.ns = N.length)
    (hc : chkSs p N (defScope st) [] fn.body (defBody st) = some M') (glb : ∀ x d, p.glb.lookup x = some d → ∃ v u, mg x = some u ∧ RelV v u ∧ ∀ O H, Rp K O H d v) (blt : ∀ x ∈ bltNames, mg x = none)
    (dct : ∀ x kvs, p.dct.lookup x = some kvs → DctOk K w mg x kvs) (rps : ∀ x y, (x, y) ∈ p.rps → RpsOk p mg x y)
    (fns : ∀ f fn, p.fns.lookup f = some fn → ∃ a fd ps, mg f = some (.ref a) ∧ PySem.W.keepIn K (.ref a) = true ∧ Binds K fd ps [] ∧ FnOk P w K mg base CX0 n a fd ps (spF K (run p n f)))
    (mrs : ∀ m r, p.mrs.lookup m = some r → MrOk P w K mg base p n m r) : FnOk P w K mg base CX0 (n + 1) f fd ps (spF K (run p (n + 1) x)) := by
  refine F.ok S (fun vs H Q E hsp => ?_) (fun cdv A outer s H vs Q E hr hsp => ?_)
  · obtain ⟨O, ds, d, _, r, hrun, _⟩ := hsp
    rw [← r.length, (run_len hfn htb hrun).1, hnp]
  · obtain ⟨O, ds, d, hO, r, hrun, q⟩ := hsp
    obtain ⟨hl, hfin⟩ := run_len hfn htb hrun
    have ck : Cok p n N (defScope st) (cxOf CX0 P w K mg base N qual (defScope st) f cdv A outer s H E).nox := ⟨rfl, S.nd, rfl, rfl, hr, glb, blt, fns, dct, fun x y z _ => rps x y z, mrs, gd_of rps⟩
    refine ⟨_, chkSs_ok ck S.kind (fun _ => rfl) PassesOwn.never fn.body [] M' (defBody st) hc, ?_⟩
    cases hx : xss (cfOf p n) p.wf fn.body (startR fn ds) with
    | ok fl =>
      rw [hx] at hfin
      refine ⟨O, H, startR fn ds, fl, ok_start hO r hns, hx, ?_⟩
      cases fl with
      | nx ρ' =>
        cases hfin
        intro σ' H' o' _
        exact q .non H' o'.same rp_non
      | rt d' =>
        cases hfin
        exact fun v H' s' r' => q v H' s' r'
    | exc c =>
      rw [hx] at hfin
      exact nomatch hfin
    | bad =>
      rw [hx] at hfin
      exact nomatch hfin
structure Ent (K : PySem.W.Frag) (mg : Str → Option Value) (p : Pg) (f : Str) (fn : Fn) : Prop where
  ex : ∃ (st : Stmt) (a : Addr) (fd : FuncData) (ps N : List Str) (M' : List Nat), mg f = some (.ref a) ∧ Fun K f f st a fd ∧ FnScope N ps (defScope st) ∧ Binds K fd ps [] ∧ fn.tb = none ∧ fn.np = ps.length ∧ fn.ns = N.length ∧ chkSs p N (defScope st) [] fn.body (defBody st) = some M'
theorem all_ok (ent : ∀ f fn, p.fns.lookup f = some fn → Ent K mg p f fn) (glb : ∀ x d, p.glb.lookup x = some d → ∃ v u, mg x = some u ∧ RelV v u ∧ ∀ O H, Rp K O H d v) (blt : ∀ x ∈ bltNames, mg x = none)
    (dct : ∀ x kvs, p.dct.lookup x = some kvs → DctOk K w mg x kvs) (rps : ∀ x y, (x, y) ∈ p.rps → RpsOk p mg x y) (nmr : p.mrs = []) :
    ∀ (n : Nat) (f : Str) (fn : Fn), p.fns.lookup f = some fn → ∃ a fd ps, mg f = some (.ref a) ∧ PySem.W.keepIn K (.ref a) = true ∧ Binds K fd ps [] ∧ FnOk P w K mg base CX0 n a fd ps (spF K (run p n f))
  | 0, f, fn, hf => by
    obtain ⟨st, a, fd, ps, N, M', h1, h2, h3, h4, h0, h5, h6, h7⟩ := (ent f fn hf).ex
    have no : ∀ vs H Q E, ¬ spF K (run p 0 f) vs H Q E := fun vs H Q E ⟨O, ds, d, _, _, hrun, _⟩ => by
      rw [run_zero] at hrun
      exact nomatch hrun
    exact ⟨a, fd, ps, h1, h2.kp, h4, ⟨fun vs H Q E z => absurd z (no vs H Q E), fun A outer s H args us vs Q E _ _ _ _ z => absurd z (no vs H Q E)⟩⟩
  | n + 1, f, fn, hf => by
    obtain ⟨st, a, fd, ps, N, M', h1, h2, h3, h4, h0, h5, h6, h7⟩ := (ent f fn hf).ex
    exact ⟨a, fd, ps, h1, h2.kp, h4, fn_ok h2 h3 hf h0 h5 h6 h7 glb blt dct rps (all_ok ent glb blt dct rps nmr n) (fun m r e => by rw [nmr] at e; exact nomatch e)⟩
end
end LC

set_option Elab.async false
set_option linter.all false
set_option maxRecDepth 100000
set_option maxHeartbeats 4000000
namespace LC
open PySem PySem.Spec PyProof.Rows L2
def isLstO (o : Obj) : Bool := match o.cls with
  | .type n => n == ("list" : Str)
  | _ => false
def noLst : PySem.W.Frag → Bool
  | [] => true
  | (_, o) :: r => !isLstO o && noLst r
theorem lookup_mem {α β : Type} [BEq α] [LawfulBEq α] {x : α} {d : β} : ∀ {l : List (α × β)}, l.lookup x = some d → (x, d) ∈ l
  | [], h => nomatch h
  | (y, e) :: r, h => by
    rw [List.lookup_cons] at h
    cases hxy : x == y with
    | true =>
      rw [hxy] at h
      cases eq_of_beq hxy
      cases h
      exact List.mem_cons_self
    | false =>
      rw [hxy] at h
      exact List.mem_cons_of_mem _ (lookup_mem h)
theorem noLst_mem : ∀ {K : PySem.W.Frag} {a : Addr} {o : Obj}, noLst K = true → (a, o) ∈ K → isLstO o = false
  | [], _, _, _, m => nomatch m
  | (b, u) :: r, a, o, h, m => by
    rw [noLst, Bool.and_eq_true] at h
    rcases List.mem_cons.mp m with e | m
    · cases e
      simpa using h.1
    · exact noLst_mem h.2 m
theorem rd_of_noLst {K : PySem.W.Frag} {H : Hp} {a : Addr} {vs : List V} (hk : noLst K = true) (h : SqL K H a vs) : Rd H a (.lst vs) := by
  rcases h with h | ⟨o, its, n, h1, h2, _⟩
  · exact h
  · have h3 := noLst_mem hk (lookup_mem h1)
    unfold isLstO at h3
    rw [h2] at h3
    exact absurd h3 (by decide +kernel)
def spL (K : PySem.W.Frag) (p : Pg) (n : Nat) : Sp := fun vs H Q _ => ∃ (a : Addr) (ns : List Int), vs = [.ref a] ∧ SqL K H a (ns.map V.int) ∧ Only H ∧ run p n "law" [.lst (ns.map D.int)] = .ok (.bl true) ∧ ∀ H', Q (.bl true) H'
theorem rpl_ofInts {K : PySem.W.Frag} {O : Addr → Prop} {H : Hp} : ∀ ns : List Int, RpL K O H (ns.map D.int) (ns.map V.int)
  | [] => RpL.nil
  | n :: ns => RpL.cons (by rw [Rp]) (rpl_ofInts ns)
theorem fnok_law {P : Program} {w : World} {K : PySem.W.Frag} {mg : Str → Option Value} {base : Heap} {n : Nat} {f : Addr} {fd : FuncData} {ps : List Str} {p : Pg} (nl : noLst K = true) (F : FnOk P w K mg base CX0 n f fd ps (spF K (run p n "law"))) :
    FnOk P w K mg base CX0 n f fd ps (spL K p n) := by
  refine F.imp fun vs H Q E h => ?_
  obtain ⟨a, ns, rfl, hS, hO, hr, q⟩ := h
  refine ⟨fun _ => False, [.lst (ns.map D.int)], .bl true, fun _ z => z.elim, RpL.cons ?_ RpL.nil, hr, fun v H' _ r => ?_⟩
  · rw [Rp]
    exact ⟨a, _, rfl, ⟨rd_of_noLst nl hS, fun z => z⟩, rpl_ofInts ns⟩
  · rw [Rp] at r
    subst r
    exact q H'
theorem chk_get {p : Pg} {N : List Str} {sc : Scope} {b : List S} {sts : List Stmt} (h : (chkSs p N sc [] b sts).isSome = true) : chkSs p N sc [] b sts = some ((chkSs p N sc [] b sts).get h) := by
  rw [Option.some_get]
theorem ent_mk {K : PySem.W.Frag} {mg : Str → Option Value} {p : Pg} {f : Str} {fn : Fn} {st : Stmt} {a : Addr} {fd : FuncData} {ps N : List Str} (F : Fun K f f st a fd) (h1 : mg f = some (.ref a)) (h2 : FnScope N ps (defScope st)) (h3 : Binds K fd ps []) (h0 : fn.tb = none) (h4 : fn.np = ps.length) (h5 : fn.ns = N.length)
    (h6 : (chkSs p N (defScope st) [] fn.body (defBody st)).isSome = true) : Ent K mg p f fn := ⟨st, a, fd, ps, N, _, h1, F, h2, h3, h0, h4, h5, chk_get h6⟩
end LC

set_option Elab.async false
set_option linter.all false
set_option maxRecDepth 100000
set_option maxHeartbeats 4000000
namespace LC
open PySem L2

def b1 (f : D → R D) : R D → R D
  | .ok x => f x
  | .exc c => .exc c
  | .bad => .bad
def b2 (f : D → D → R D) : R D → R D → R D
  | .ok x, .ok y => f x y
  | .ok _, .exc c => .exc c
  | .ok _, .bad => .bad
  | .exc c, _ => .exc c
  | .bad, _ => .bad
def bs (f : List D → R D) : R (List D) → R D
  | .ok x => f x
  | .exc c => .exc c
  | .bad => .bad
def bcons : R D → R (List D) → R (List D)
  | .ok x, .ok y => .ok (x :: y)
  | .ok _, .exc c => .exc c
  | .ok _, .bad => .bad
  | .exc c, _ => .exc c
  | .bad, _ => .bad
def band : R D → R D → R D
  | .ok (.bl true), z => z
  | .ok (.bl false), _ => .ok (.bl false)
  | .ok _, _ => .bad
  | .exc c, _ => .exc c
  | .bad, _ => .bad
def bor : R D → R D → R D
  | .ok (.bl true), _ => .ok (.bl true)
  | .ok (.bl false), z => z
  | .ok _, _ => .bad
  | .exc c, _ => .exc c
  | .bad, _ => .bad
def dNot : D → R D
  | .bl b => .ok (.bl (!b))
  | _ => .bad
def dNeg : D → R D
  | .int i => .ok (.int (-i))
  | _ => .bad
def b3 : R D → R (Option Int) → R (Option Int) → R D
  | .ok x, .ok l, .ok h => dCut x l h
  | .ok _, .ok _, .exc c => .exc c
  | .ok _, .ok _, .bad => .bad
  | .ok _, .exc c, _ => .exc c
  | .ok _, .bad, _ => .bad
  | .exc c, _, _ => .exc c
  | .bad, _, _ => .bad
def bchn (o o' : CmpOp) : R D → R D → R D → R D
  | .ok x, .ok y, w => match dCmp o x y with
    | .ok (.bl true) => b1 (dCmp o' y) w
    | .ok (.bl false) => .ok (.bl false)
    | .ok _ => .bad
    | .exc c => .exc c
    | .bad => .bad
  | .ok _, .exc c, _ => .exc c
  | .ok _, .bad, _ => .bad
  | .exc c, _, _ => .exc c
  | .bad, _, _ => .bad
def dTup (xs : List D) : R D := if xs.length ≤ LIM then .ok (.tup xs) else .bad
def dLst (xs : List D) : R D := if xs.length ≤ LIM then .ok (.lst xs) else .bad
def lcFn (c : Cf) (own : List Nat) (tg : Tg) (cond elt : E) (ρ : Rho) (d : D) : R (Option D) := match bindT tg d (wipeR ρ own) with
  | some ρ' => (ev c cond ρ').bind fun t => (rTruth t).bind fun b => match b with
    | true => (ev c elt ρ').bind fun x => .ok (some x)
    | false => .ok none
  | none => .bad
def lcS (f : D → R (Option D)) (its : List D) : R D := if its.length ≤ LIM then (lcGo f its).bind fun r => .ok (.lst r) else .bad
def blc (f : D → R (Option D)) : R (List D) → R D
  | .ok its => lcS f its
  | .exc c => .exc c
  | .bad => .bad
def bit (k : Src) : R (List D) → R (List D)
  | .ok ys => items k ys
  | .exc c => .exc c
  | .bad => .bad
def oR : Option D → R D
  | some d => .ok d
  | none => .bad
section
variable (c : Cf) (ρ : Rho)
theorem ev_var (i : Nat) : ev c (.var i) ρ = get ρ i := by rw [ev]
theorem ev_cst (d : D) : ev c (.cst d) ρ = .ok d := by rw [ev]
theorem ev_glb (x : Str) : ev c (.glb x) ρ = oR (c.glb.lookup x) := by
  rw [ev]; cases c.glb.lookup x <;> rfl
theorem ev_bin (o : Operator) (a b : E) : ev c (.bin o a b) ρ = b2 (dBin o) (ev c a ρ) (ev c b ρ) := by
  rw [ev]; cases ev c a ρ <;> cases ev c b ρ <;> rfl
theorem ev_cmp (o : CmpOp) (a b : E) : ev c (.cmp o a b) ρ = b2 (dCmp o) (ev c a ρ) (ev c b ρ) := by
  rw [ev]; cases ev c a ρ <;> cases ev c b ρ <;> rfl
theorem ev_neg (a : E) : ev c (.neg a) ρ = b1 dNeg (ev c a ρ) := by
  rw [ev]; cases h : ev c a ρ with
  | ok d => cases d <;> rfl
  | exc => rfl
  | bad => rfl
theorem ev_not (a : E) : ev c (.not a) ρ = b1 dNot (ev c a ρ) := by
  rw [ev]; cases h : ev c a ρ with
  | ok d => cases d <;> rfl
  | exc => rfl
  | bad => rfl
theorem ev_chn (o o' : CmpOp) (a b e : E) : ev c (.chn o o' a b e) ρ = bchn o o' (ev c a ρ) (ev c b ρ) (ev c e ρ) := by
  rw [ev]
  cases ev c a ρ <;> try rfl
  cases ev c b ρ <;> try rfl
  rename_i x y
  show (dCmp o x y).bind _ = match dCmp o x y with | .ok (.bl true) => b1 (dCmp o' y) (ev c e ρ) | .ok (.bl false) => .ok (.bl false) | .ok _ => .bad | .exc c => .exc c | .bad => .bad
  cases hd : dCmp o x y with
  | exc => rfl
  | bad => rfl
  | ok d =>
    cases d with
    | bl t =>
      cases t
      · rfl
      · show (ev c e ρ).bind _ = b1 (dCmp o' y) (ev c e ρ)
        cases ev c e ρ <;> rfl
    | _ => rfl
theorem ev_and (a b : E) : ev c (.and a b) ρ = band (ev c a ρ) (ev c b ρ) := by
  rw [ev]; cases ev c a ρ with
  | ok d => cases d with
    | bl t => cases t <;> rfl
    | _ => rfl
  | exc => rfl
  | bad => rfl
theorem ev_or (a b : E) : ev c (.or a b) ρ = bor (ev c a ρ) (ev c b ρ) := by
  rw [ev]; cases ev c a ρ with
  | ok d => cases d with
    | bl t => cases t <;> rfl
    | _ => rfl
  | exc => rfl
  | bad => rfl
theorem ev_idx (a b : E) : ev c (.idx a b) ρ = b2 dIdx (ev c a ρ) (ev c b ρ) := by
  rw [ev]; cases ev c a ρ <;> cases ev c b ρ <;> rfl
theorem ev_cut (a : E) (bl : Bool) (lo : E) (bh : Bool) (hi : E) : ev c (.cut a bl lo bh hi) ρ = b3 (ev c a ρ) (prt bl (ev c lo ρ)) (prt bh (ev c hi ρ)) := by
  rw [ev]; cases ev c a ρ <;> try rfl
  cases prt bl (ev c lo ρ) <;> try rfl
  cases prt bh (ev c hi ρ) <;> rfl
theorem ev_stp (k : Stp) (a : E) : ev c (.stp k a) ρ = b1 (dStp k) (ev c a ρ) := by
  rw [ev]; cases ev c a ρ <;> rfl
theorem ev_tup (es : List E) : ev c (.tup es) ρ = bs dTup (evs c es ρ) := by
  rw [ev]; cases evs c es ρ <;> rfl
theorem ev_lst (es : List E) : ev c (.lst es) ρ = bs dLst (evs c es ρ) := by
  rw [ev]; cases evs c es ρ <;> rfl
theorem ev_call (f : Str) (es : List E) : ev c (.call f es) ρ = bs (c.call f) (evs c es ρ) := by
  rw [ev]; cases evs c es ρ <;> rfl
theorem ev_bi (b : Bi) (es : List E) : ev c (.bi b es) ρ = bs (dBi b) (evs c es ρ) := by
  rw [ev]; cases evs c es ρ <;> rfl
theorem ev_isi (a : E) (t : Ty) : ev c (.isi a t) ρ = b1 (fun x => rB (dIsi x t)) (ev c a ρ) := by
  rw [ev]; cases ev c a ρ <;> rfl
theorem ev_lc (own : List Nat) (tg : Tg) (k : Src) (ss : List E) (cond elt : E) : ev c (.lc own tg k ss cond elt) ρ = blc (lcFn c own tg cond elt ρ) (bit k (evs c ss ρ)) := by
  rw [ev]; cases evs c ss ρ with
  | ok ys =>
    show (items k ys).bind _ = blc _ (items k ys)
    cases items k ys <;> rfl
  | exc => rfl
  | bad => rfl
theorem evs_nil : evs c [] ρ = .ok [] := by rw [evs]
theorem evs_cons (e : E) (es : List E) : evs c (e :: es) ρ = bcons (ev c e ρ) (evs c es ρ) := by
  rw [evs]; cases ev c e ρ <;> cases evs c es ρ <;> rfl
end
section
variable {f : D → R D} {g : D → D → R D} {h : List D → R D} {x y z : D} {xs ys : List D} {r : R D}
theorem b1_ok : b1 f (.ok x) = f x := rfl
theorem b2_ok : b2 g (.ok x) (.ok y) = g x y := rfl
theorem bs_ok : bs h (.ok xs) = h xs := rfl
theorem bcons_ok : bcons (.ok x) (.ok xs) = .ok (x :: xs) := rfl
theorem band_t : band (.ok (.bl true)) r = r := rfl
theorem band_f : band (.ok (.bl false)) r = .ok (.bl false) := rfl
theorem band_b {a b : Bool} : band (.ok (.bl a)) (.ok (.bl b)) = .ok (.bl (a && b)) := by cases a <;> rfl
theorem bor_t : bor (.ok (.bl true)) r = .ok (.bl true) := rfl
theorem bor_f : bor (.ok (.bl false)) r = r := rfl
theorem bor_b {a b : Bool} : bor (.ok (.bl a)) (.ok (.bl b)) = .ok (.bl (a || b)) := by cases a <;> rfl
theorem b3_ok {l h : Option Int} : b3 (.ok x) (.ok l) (.ok h) = dCut x l h := rfl
theorem dNot_b {a : Bool} : dNot (.bl a) = .ok (.bl (!a)) := rfl
theorem dNeg_i {i : Int} : dNeg (.int i) = .ok (.int (-i)) := rfl
theorem prt_f : prt false r = .ok none := by cases r <;> rfl
theorem prt_t {i : Int} : prt true (.ok (.int i)) = .ok (some i) := rfl
theorem blc_ok {F : D → R (Option D)} : blc F (.ok xs) = lcS F xs := rfl
theorem bit_ok {k : Src} : bit k (.ok xs) = items k xs := rfl
theorem dTup_ok (hl : xs.length ≤ 1000000) : dTup xs = .ok (.tup xs) := if_pos hl
theorem dLst_ok (hl : xs.length ≤ 1000000) : dLst xs = .ok (.lst xs) := if_pos hl
end
section
variable {i j k : Int} {xs ys : List D} {s t : Str} {x y : D}
theorem add_ii : dBin .Add (.int i) (.int j) = .ok (.int (i + j)) := rfl
theorem sub_ii : dBin .Sub (.int i) (.int j) = .ok (.int (i - j)) := rfl
theorem small_of (h1 : -18446744073709551616 < i) (h2 : i < 18446744073709551616) : small64 i = true := by
  unfold small64
  rw [decide_eq_true (show -(2 ^ 64) < i by omega), decide_eq_true (show i < 2 ^ 64 by omega)]
  rfl
theorem mul_l (h1 : -18446744073709551616 < i) (h2 : i < 18446744073709551616) : dBin .Mult (.int i) (.int j) = .ok (.int (i * j)) := by
  show (if small64 i || small64 j then _ else _) = _
  rw [small_of h1 h2]; rfl
theorem mul_r (h1 : -18446744073709551616 < j) (h2 : j < 18446744073709551616) : dBin .Mult (.int i) (.int j) = .ok (.int (i * j)) := by
  show (if small64 i || small64 j then _ else _) = _
  rw [small_of h1 h2, Bool.or_true]; rfl
theorem div_ii (h1 : 0 < j) (h2 : j < 1073741824) : dBin .FloorDiv (.int i) (.int j) = .ok (.int (i / j)) := if_pos ⟨h1, h2⟩
theorem mod_ii (h1 : 0 < j) : dBin .Mod (.int i) (.int j) = .ok (.int (i % j)) := if_pos h1
theorem add_tt (h : xs.length + ys.length ≤ 1000000) : dBin .Add (.tup xs) (.tup ys) = .ok (.tup (xs ++ ys)) := if_pos h
theorem add_ll (h : xs.length + ys.length ≤ 1000000) : dBin .Add (.lst xs) (.lst ys) = .ok (.lst (xs ++ ys)) := if_pos h
theorem rep_one (x : D) (k : Int) : rep [x] k = List.replicate k.toNat x := by
  unfold rep
  induction k.toNat with
  | zero => rfl
  | succ n ih => rw [List.replicate_succ, List.flatten_cons, ih]; rfl
theorem mul_t1 (h1 : 0 ≤ k) (h2 : k ≤ 1000) : dBin .Mult (.tup [x]) (.int k) = .ok (.tup (List.replicate k.toNat x)) := by
  rw [← rep_one]
  exact if_pos ⟨List.cons_ne_nil _ _, h2, (by show 1 ≤ 1000; decide), h1⟩
theorem mul_l1 (h1 : 0 ≤ k) (h2 : k ≤ 1000) : dBin .Mult (.lst [x]) (.int k) = .ok (.lst (List.replicate k.toNat x)) := by
  rw [← rep_one]
  exact if_pos ⟨h2, (by show 1 ≤ 1000; decide), h1⟩
theorem lt_ii : dCmp .Lt (.int i) (.int j) = .ok (.bl (decide (i < j))) := rfl
theorem le_ii : dCmp .LtE (.int i) (.int j) = .ok (.bl (decide (i ≤ j))) := rfl
theorem gt_ii : dCmp .Gt (.int i) (.int j) = .ok (.bl (decide (j < i))) := rfl
theorem ge_ii : dCmp .GtE (.int i) (.int j) = .ok (.bl (decide (j ≤ i))) := rfl
theorem bchn_ok {o o' : CmpOp} {x y z : D} {a b : Bool} (h1 : dCmp o x y = .ok (.bl a)) (h2 : dCmp o' y z = .ok (.bl b)) : bchn o o' (.ok x) (.ok y) (.ok z) = .ok (.bl (a && b)) := by
  unfold bchn
  dsimp only
  rw [h1]
  cases a
  · rfl
  · exact h2
theorem chn_le : bchn .LtE .LtE (.ok (.int i)) (.ok (.int j)) (.ok (.int k)) = .ok (.bl (decide (i ≤ j) && decide (j ≤ k))) := bchn_ok rfl rfl
theorem is_bb {a b : Bool} : dCmp .Is (.bl a) (.bl b) = .ok (.bl (decide (a = b))) := rfl
theorem isn_bb {a b : Bool} : dCmp .IsNot (.bl a) (.bl b) = .ok (.bl (!decide (a = b))) := rfl
end
def deq (a b : D) : Bool := PyData.eqv (toPy a) (toPy b)
def deqL (a b : List D) : Bool := PyData.eqvAll (toPys a) (toPys b)
def shD : Nat → D → Bool
  | _, .non | _, .bl _ | _, .int _ => true
  | _, .str s => PyData.strOk s
  | _, .ref _ => false
  | 0, .tup _ | 0, .lst _ => false
  | n + 1, .tup xs => xs.all (shD n)
  | n + 1, .lst xs => xs.all (shD n)
theorem shD_all {n : Nat} (ih : ∀ d, shD n d = true → (toPy d).canLay0 = true ∧ (toPy d).depth ≤ n) : ∀ xs : List D, xs.all (shD n) = true → PyData.canLayAll0 (toPys xs) = true ∧ PyData.depthAll (toPys xs) ≤ n
  | [], _ => by rw [toPys, PyData.canLayAll0, PyData.depthAll]; exact ⟨rfl, Nat.zero_le _⟩
  | x :: xs, h => by
    rw [List.all_cons, Bool.and_eq_true] at h
    have h1 := ih x h.1
    have h2 := shD_all ih xs h.2
    rw [toPys, PyData.canLayAll0, PyData.depthAll, h1.1, h2.1]
    exact ⟨rfl, Nat.max_le.mpr ⟨h1.2, h2.2⟩⟩
theorem shD_ok : ∀ (n : Nat) (d : D), shD n d = true → (toPy d).canLay0 = true ∧ (toPy d).depth ≤ n := by
  intro n
  induction n with
  | zero =>
    intro d h
    cases d <;> first
      | (rw [toPy, PyData.canLay0, PyData.depth]; exact ⟨rfl, Nat.le_refl _⟩)
      | (rw [toPy, PyData.canLay0, PyData.depth]; rw [shD] at h; exact ⟨h, Nat.le_refl _⟩)
      | (rw [shD] at h; cases h)
  | succ n ih =>
    intro d h
    cases d <;> first
      | (rw [toPy, PyData.canLay0, PyData.depth]; exact ⟨rfl, Nat.zero_le _⟩)
      | (rw [toPy, PyData.canLay0, PyData.depth]; rw [shD] at h; exact ⟨h, Nat.zero_le _⟩)
      | (rw [shD] at h; have := shD_all ih _ h; rw [toPy, PyData.canLay0, PyData.depth]; exact ⟨this.1, Nat.succ_le_succ this.2⟩)
      | (rw [shD] at h; cases h)
theorem shaped_of {d : D} (h : shD 9 d = true) : SeqAt.shaped (toPy d) = true := by
  have := shD_ok 9 d h
  unfold SeqAt.shaped
  rw [this.1, decide_eq_true (show (toPy d).depth ≤ 64 by omega)]
  rfl
theorem dEq_ok {a b : D} (h1 : shD 9 a = true) (h2 : shD 9 b = true) : dEq a b = .ok (deq a b) := by
  unfold dEq
  rw [shaped_of h1, shaped_of h2]
  rfl
theorem eq_ok {a b : D} (h1 : shD 9 a = true) (h2 : shD 9 b = true) : dCmp .Eq a b = .ok (.bl (deq a b)) := by
  show rB (dEq a b) = _
  rw [dEq_ok h1 h2]; rfl
theorem ne_ok {a b : D} (h1 : shD 9 a = true) (h2 : shD 9 b = true) : dCmp .NotEq a b = .ok (.bl (!deq a b)) := by
  show rN (dEq a b) = _
  rw [dEq_ok h1 h2]; rfl
theorem in_tup {a : D} {ys : List D} (h1 : shD 9 a = true) (h2 : shD 9 (.tup ys) = true) : dCmp .In a (.tup ys) = .ok (.bl (ys.any fun z => deq z a)) := by
  show rB (if (SeqAt.shaped (toPy a) && SeqAt.shaped (toPy (.tup ys))) = true then .ok (ys.any fun z => PyData.eqv (toPy z) (toPy a)) else .bad) = _
  rw [shaped_of h1, shaped_of h2]; rfl
theorem nin_tup {a : D} {ys : List D} (h1 : shD 9 a = true) (h2 : shD 9 (.tup ys) = true) : dCmp .NotIn a (.tup ys) = .ok (.bl (!ys.any fun z => deq z a)) := by
  show rN (if (SeqAt.shaped (toPy a) && SeqAt.shaped (toPy (.tup ys))) = true then .ok (ys.any fun z => PyData.eqv (toPy z) (toPy a)) else .bad) = _
  rw [shaped_of h1, shaped_of h2]; rfl
theorem in_lst {a : D} {ys : List D} (h1 : shD 9 a = true) (h2 : shD 9 (.lst ys) = true) : dCmp .In a (.lst ys) = .ok (.bl (ys.any fun z => deq z a)) := by
  show rB (if (SeqAt.shaped (toPy a) && SeqAt.shaped (toPy (.lst ys))) = true then .ok (ys.any fun z => PyData.eqv (toPy z) (toPy a)) else .bad) = _
  rw [shaped_of h1, shaped_of h2]; rfl
theorem nin_lst {a : D} {ys : List D} (h1 : shD 9 a = true) (h2 : shD 9 (.lst ys) = true) : dCmp .NotIn a (.lst ys) = .ok (.bl (!ys.any fun z => deq z a)) := by
  show rN (if (SeqAt.shaped (toPy a) && SeqAt.shaped (toPy (.lst ys))) = true then .ok (ys.any fun z => PyData.eqv (toPy z) (toPy a)) else .bad) = _
  rw [shaped_of h1, shaped_of h2]; rfl
section
variable {i j : Int} {a b : Bool} {s t : Str} {xs ys : List D} {n : Nat}
theorem sh_int : shD n (.int i) = true := by cases n <;> rfl
theorem sh_bl : shD n (.bl a) = true := by cases n <;> rfl
theorem sh_non : shD n .non = true := by cases n <;> rfl
theorem sh_str : shD n (.str s) = PyData.strOk s := by cases n <;> rfl
theorem sh_tup : shD (n + 1) (.tup xs) = xs.all (shD n) := rfl
theorem sh9t : shD 9 (.tup xs) = xs.all (shD 8) := rfl
theorem sh9l : shD 9 (.lst xs) = xs.all (shD 8) := rfl
theorem sh8t : shD 8 (.tup xs) = xs.all (shD 7) := rfl
theorem sh8l : shD 8 (.lst xs) = xs.all (shD 7) := rfl
theorem sh7t : shD 7 (.tup xs) = xs.all (shD 6) := rfl
theorem sh7l : shD 7 (.lst xs) = xs.all (shD 6) := rfl
theorem sh6t : shD 6 (.tup xs) = xs.all (shD 5) := rfl
theorem sh6l : shD 6 (.lst xs) = xs.all (shD 5) := rfl
theorem sh5t : shD 5 (.tup xs) = xs.all (shD 4) := rfl
theorem sh5l : shD 5 (.lst xs) = xs.all (shD 4) := rfl
theorem sh4t : shD 4 (.tup xs) = xs.all (shD 3) := rfl
theorem sh4l : shD 4 (.lst xs) = xs.all (shD 3) := rfl
theorem sh_ints : ∀ ns : List Int, (ns.map D.int).all (shD n) = true
  | [] => rfl
  | x :: r => by rw [List.map_cons, List.all_cons, sh_int, sh_ints r]; rfl
theorem deq_ii : deq (.int i) (.int j) = decide (i = j) := by
  unfold deq
  rw [toPy, toPy, PyData.eqv]; exact (Bool.eq_iff_iff.mpr (by simp))
theorem deq_bb : deq (.bl a) (.bl b) = decide (a = b) := by
  unfold deq
  rw [toPy, toPy, PyData.eqv]; cases a <;> cases b <;> rfl
theorem deq_ss : deq (.str s) (.str t) = (s == t) := by
  unfold deq
  rw [toPy, toPy, PyData.eqv]
theorem deq_tt : deq (.tup xs) (.tup ys) = deqL xs ys := by
  unfold deq deqL
  rw [toPy, toPy, PyData.eqv]
theorem deq_ll : deq (.lst xs) (.lst ys) = deqL xs ys := by
  unfold deq deqL
  rw [toPy, toPy, PyData.eqv]
theorem deqL_nil : deqL [] [] = true := by
  unfold deqL
  rw [toPys, PyData.eqvAll]
theorem deqL_cons {x y : D} : deqL (x :: xs) (y :: ys) = (deq x y && deqL xs ys) := by
  unfold deqL deq
  rw [toPys, toPys, PyData.eqvAll]
theorem deqL_nc {y : D} : deqL [] (y :: ys) = false := by
  unfold deqL
  rw [toPys, toPys, PyData.eqvAll]
theorem deqL_cn {y : D} : deqL (y :: ys) [] = false := by
  unfold deqL
  rw [toPys, toPys, PyData.eqvAll]
theorem deqL_ints : ∀ ns ms : List Int, deqL (ns.map D.int) (ms.map D.int) = decide (ns = ms)
  | [], [] => deqL_nil
  | [], _ :: _ => deqL_nc
  | _ :: _, [] => deqL_cn
  | x :: r, y :: q => by
    rw [List.map_cons, List.map_cons, deqL_cons, deq_ii, deqL_ints r q]
    rw [← Bool.decide_and]
    exact decide_eq_decide.mpr (by simp)
end
mutual
theorem deq_refl : ∀ (d : D), (∀ n, shD n d = true → deq d d = true)
  | .non, n, h => by unfold deq; rw [toPy, PyData.eqv]
  | .bl b, n, h => by rw [deq_bb]; exact decide_eq_true rfl
  | .int b, n, h => by rw [deq_ii]; exact decide_eq_true rfl
  | .str b, n, h => by rw [deq_ss]; exact beq_self_eq_true b
  | .ref _, n, h => by cases n <;> cases h
  | .tup xs, n, h => by
    cases n with
    | zero => cases h
    | succ n => rw [deq_tt]; exact deqL_refl xs n h
  | .lst xs, n, h => by
    cases n with
    | zero => cases h
    | succ n => rw [deq_ll]; exact deqL_refl xs n h
theorem deqL_refl : ∀ (d : List D), (∀ n, d.all (shD n) = true → deqL d d = true)
  | [], n, h => deqL_nil
  | x :: xs, n, h => by
    rw [List.all_cons, Bool.and_eq_true] at h
    rw [deqL_cons, deq_refl x n h.1, deqL_refl xs n h.2]
    rfl
end
end LC

set_option Elab.async false
set_option linter.all false
set_option maxRecDepth 100000
set_option maxHeartbeats 4000000
namespace LC
open PySem L2
section
variable {a b d e f g h x y : D} {r ρ : Rho} {n : Nat} {q : List D} {i j : Int} {ns : List Int}
theorem getD_ix {α : Type} {xs : List α} {n : Nat} {z : α} (h : n < xs.length) : xs.getD n z = xs[n] := by
  rw [List.getD_eq_getElem?_getD, List.getElem?_eq_getElem h]
  rfl
theorem mul_t1i {k : Int} (h1 : 0 ≤ k) (h2 : k ≤ 1000) : dBin .Mult (.tup [.int i]) (.int k) = .ok (.tup ((List.replicate k.toNat i).map D.int)) := by
  rw [mul_t1 h1 h2, List.map_replicate]
theorem mul_l1i {k : Int} (h1 : 0 ≤ k) (h2 : k ≤ 1000) : dBin .Mult (.lst [.int i]) (.int k) = .ok (.lst ((List.replicate k.toNat i).map D.int)) := by
  rw [mul_l1 h1 h2, List.map_replicate]
theorem get_0 {o : Rho} : get (some d :: o) 0 = .ok d := rfl
theorem get_s {o : Rho} {z : Option D} : get (z :: o) (n + 1) = get o n := rfl
theorem atI_pos {α : Type} {xs : List α} {i : Int} (h0 : 0 ≤ i) (h1 : i < xs.length) : atI xs i = xs[i.toNat]? := by
  unfold atI ixN
  rw [if_pos h0, if_pos h1]
  rfl
theorem ix_t {xs : List D} (h0 : 0 ≤ i) (h1 : i < xs.length) : dIdx (.tup xs) (.int i) = .ok (xs.getD i.toNat .non) := by
  unfold dIdx
  dsimp only
  rw [atI_pos h0 h1, List.getElem?_eq_getElem (by omega)]
  dsimp only
  rw [getD_ix (by omega)]
theorem ix_l {xs : List D} (h0 : 0 ≤ i) (h1 : i < xs.length) : dIdx (.lst xs) (.int i) = .ok (xs.getD i.toNat .non) := by
  unfold dIdx
  dsimp only
  rw [atI_pos h0 h1, List.getElem?_eq_getElem (by omega)]
  dsimp only
  rw [getD_ix (by omega)]
theorem ix_li (h0 : 0 ≤ i) (h1 : i < ns.length) : dIdx (.lst (ns.map D.int)) (.int i) = .ok (.int (ns.getD i.toNat 0)) := by
  rw [ix_l h0 (by rw [List.length_map]; exact h1), getD_ix (by rw [List.length_map]; omega), getD_ix (by omega), List.getElem_map]
theorem ix_t0 : dIdx (.tup (a :: q)) (.int 0) = .ok a := by rw [ix_t (by omega) (by rw [List.length_cons]; omega)]; rfl
theorem ix_t1 : dIdx (.tup (a :: b :: q)) (.int 1) = .ok b := by rw [ix_t (by omega) (by simp only [List.length_cons]; omega)]; rfl
theorem ix_t2 : dIdx (.tup (a :: b :: d :: q)) (.int 2) = .ok d := by rw [ix_t (by omega) (by simp only [List.length_cons]; omega)]; rfl
theorem ix_t3 : dIdx (.tup (a :: b :: d :: e :: q)) (.int 3) = .ok e := by rw [ix_t (by omega) (by simp only [List.length_cons]; omega)]; rfl
theorem ix_t4 : dIdx (.tup (a :: b :: d :: e :: f :: q)) (.int 4) = .ok f := by rw [ix_t (by omega) (by simp only [List.length_cons]; omega)]; rfl
theorem ix_t5 : dIdx (.tup (a :: b :: d :: e :: f :: g :: q)) (.int 5) = .ok g := by rw [ix_t (by omega) (by simp only [List.length_cons]; omega)]; rfl
theorem ix_t6 : dIdx (.tup (a :: b :: d :: e :: f :: g :: h :: q)) (.int 6) = .ok h := by rw [ix_t (by omega) (by simp only [List.length_cons]; omega)]; rfl
theorem ix_l0 : dIdx (.lst (a :: q)) (.int 0) = .ok a := by rw [ix_l (by omega) (by rw [List.length_cons]; omega)]; rfl
theorem ix_l1 : dIdx (.lst (a :: b :: q)) (.int 1) = .ok b := by rw [ix_l (by omega) (by simp only [List.length_cons]; omega)]; rfl
theorem ix_l2 : dIdx (.lst (a :: b :: d :: q)) (.int 2) = .ok d := by rw [ix_l (by omega) (by simp only [List.length_cons]; omega)]; rfl
theorem ix_l3 : dIdx (.lst (a :: b :: d :: e :: q)) (.int 3) = .ok e := by rw [ix_l (by omega) (by simp only [List.length_cons]; omega)]; rfl
theorem ix_l4 : dIdx (.lst (a :: b :: d :: e :: f :: q)) (.int 4) = .ok f := by rw [ix_l (by omega) (by simp only [List.length_cons]; omega)]; rfl
theorem ix_l5 : dIdx (.lst (a :: b :: d :: e :: f :: g :: q)) (.int 5) = .ok g := by rw [ix_l (by omega) (by simp only [List.length_cons]; omega)]; rfl
theorem ix_lb {t : Bool} : dIdx (.lst [a, b]) (.int (if t = true then 1 else 0)) = .ok (if t = true then b else a) := by cases t <;> rfl
theorem ix_tb {t : Bool} : dIdx (.tup [a, b]) (.int (if t = true then 1 else 0)) = .ok (if t = true then b else a) := by cases t <;> rfl
theorem atI_lastD {α : Type} {xs : List α} {z : α} : atI (xs ++ [z]) (-1) = some z := atI_last _ _
theorem ix_lm {xs : List D} : dIdx (.lst (xs ++ [a])) (.int (-1)) = .ok a := by
  unfold dIdx
  dsimp only
  rw [atI_lastD]
theorem cut_lo {α : Type} {xs : List α} (h0 : 0 ≤ i) : cutL xs (some i) none = xs.drop i.toNat := by
  unfold cutL HT.sIx
  dsimp only
  rw [if_neg (by omega)]
  by_cases hl : i.toNat ≤ xs.length
  · rw [Nat.min_eq_left hl, List.take_of_length_le (by rw [List.length_drop]; omega)]
  · rw [Nat.min_eq_right (by omega), List.drop_of_length_le (Nat.le_refl _), List.drop_of_length_le (by omega), List.take_nil]
theorem cut_m {α : Type} {xs : List α} : cutL xs none (some (-1)) = xs.dropLast := by
  unfold cutL HT.sIx
  dsimp only
  rw [if_pos (by omega), List.drop_zero, Nat.sub_zero, List.dropLast_eq_take]
  congr 1
  omega
theorem dCut_t {xs : List D} {l u : Option Int} : dCut (.tup xs) l u = .ok (.tup (cutL xs l u)) := rfl
theorem dCut_l {xs : List D} {l u : Option Int} : dCut (.lst xs) l u = .ok (.lst (cutL xs l u)) := rfl
theorem rev_t {xs : List D} (hl : xs.length ≤ 1000000) : dStp .rev (.tup xs) = .ok (.tup xs.reverse) := if_pos hl
theorem rev_l {xs : List D} (hl : xs.length ≤ 1000000) : dStp .rev (.lst xs) = .ok (.lst xs.reverse) := if_pos hl
theorem even_t {xs : List D} (hl : xs.length ≤ 1000000) : dStp .even (.tup xs) = .ok (.tup (evens xs)) := if_pos hl
theorem odd_t {xs : List D} (hl : xs.length ≤ 1000000) : dStp .odd (.tup xs) = .ok (.tup (evens xs.tail)) := if_pos hl
theorem even_l {xs : List D} (hl : xs.length ≤ 1000000) : dStp .even (.lst xs) = .ok (.lst (evens xs)) := if_pos hl
theorem odd_l {xs : List D} (hl : xs.length ≤ 1000000) : dStp .odd (.lst xs) = .ok (.lst (evens xs.tail)) := if_pos hl
theorem len_t {xs : List D} : dBi .len [.tup xs] = .ok (.int xs.length) := rfl
theorem len_l {xs : List D} : dBi .len [.lst xs] = .ok (.int xs.length) := rfl
theorem int_b {t : Bool} : dBi .int [.bl t] = .ok (.int (if t = true then 1 else 0)) := rfl
theorem int_i : dBi .int [.int i] = .ok (.int i) := rfl
theorem tuple_t {xs : List D} : dBi .tuple [.tup xs] = .ok (.tup xs) := rfl
theorem tuple_l {xs : List D} : dBi .tuple [.lst xs] = .ok (.tup xs) := rfl
theorem list_t {xs : List D} : dBi .list [.tup xs] = .ok (.lst xs) := rfl
theorem list_l {xs : List D} : dBi .list [.lst xs] = .ok (.lst xs) := rfl
theorem abs_i : dBi .abs [.int i] = .ok (.int (if i < 0 then -i else i)) := rfl
theorem intsOf_map : ∀ ns : List Int, intsOf (ns.map D.int) = some ns
  | [] => rfl
  | n :: ns => by
    show (intsOf (ns.map D.int)).map (n :: ·) = some (n :: ns)
    rw [intsOf_map ns]
    rfl
theorem boolsOf_map : ∀ ns : List Bool, boolsOf (ns.map D.bl) = some ns
  | [] => rfl
  | n :: ns => by
    show (boolsOf (ns.map D.bl)).map (n :: ·) = some (n :: ns)
    rw [boolsOf_map ns]
    rfl
theorem sum_t : dBi .sum [.tup (ns.map D.int)] = .ok (.int ns.sum) := by
  show (match intsOf (ns.map D.int) with | some ns => R.ok (D.int ns.sum) | none => R.bad) = _
  rw [intsOf_map]
theorem sum_l : dBi .sum [.lst (ns.map D.int)] = .ok (.int ns.sum) := by
  show (match intsOf (ns.map D.int) with | some ns => R.ok (D.int ns.sum) | none => R.bad) = _
  rw [intsOf_map]
theorem max_l : dBi .max [.lst ((i :: ns).map D.int)] = .ok (.int (maxL i ns)) := by
  show (match intsOf ((i :: ns).map D.int) with | some (n :: ns) => R.ok (D.int (maxL n ns)) | _ => R.bad) = _
  rw [intsOf_map]
theorem max_2 : dBi .max [.int i, .int j] = .ok (.int (max i j)) := by
  show R.ok (D.int (if j > i then j else i)) = _
  congr 2
  omega
theorem min_2 : dBi .min [.int i, .int j] = .ok (.int (min i j)) := by
  show R.ok (D.int (if j < i then j else i)) = _
  congr 2
  omega
theorem max_3 {k : Int} : dBi .max [.int i, .int j, .int k] = .ok (.int (max i (max j k))) := by
  show R.ok (D.int (if k > (if j > i then j else i) then k else (if j > i then j else i))) = _
  congr 2
  omega
theorem min_3 {k : Int} : dBi .min [.int i, .int j, .int k] = .ok (.int (min i (min j k))) := by
  show R.ok (D.int (if k < (if j < i then j else i) then k else (if j < i then j else i))) = _
  congr 2
  omega
theorem all_l {ts : List Bool} : dBi .all [.lst (ts.map D.bl)] = .ok (.bl (ts.all id)) := by
  show (match boolsOf (ts.map D.bl) with | some bs => R.ok (D.bl (bs.all id)) | none => R.bad) = _
  rw [boolsOf_map]
theorem maxL_le : ∀ (ns : List Int) (m : Int), m ≤ maxL m ns ∧ ∀ x ∈ ns, x ≤ maxL m ns
  | [], m => ⟨Int.le_refl _, fun _ h => nomatch h⟩
  | x :: r, m => by
    have ih := maxL_le r (if x > m then x else m)
    rw [maxL]
    refine ⟨by have := ih.1; split at this <;> omega, fun y hy => ?_⟩
    rcases List.mem_cons.mp hy with rfl | hy
    · have := ih.1; split at this <;> omega
    · exact ih.2 y hy
theorem maxL_mem : ∀ (ns : List Int) (m : Int), maxL m ns = m ∨ maxL m ns ∈ ns
  | [], m => .inl rfl
  | x :: r, m => by
    rw [maxL]
    rcases maxL_mem r (if x > m then x else m) with h | h
    · rw [h]
      split
      · exact .inr List.mem_cons_self
      · exact .inl rfl
    · exact .inr (List.mem_cons_of_mem _ h)
theorem isi_ii : rB (dIsi (.int i) .int) = .ok (.bl true) := rfl
theorem isi_ib : rB (dIsi (.int i) .bool) = .ok (.bl false) := rfl
theorem isi_is : rB (dIsi (.int i) .str) = .ok (.bl false) := rfl
theorem isi_it : rB (dIsi (.int i) .tuple) = .ok (.bl false) := rfl
theorem isi_il : rB (dIsi (.int i) .list) = .ok (.bl false) := rfl
theorem isi_bi {t : Bool} : rB (dIsi (.bl t) .int) = .ok (.bl true) := rfl
theorem isi_bb {t : Bool} : rB (dIsi (.bl t) .bool) = .ok (.bl true) := rfl
theorem isi_bt {t : Bool} : rB (dIsi (.bl t) .tuple) = .ok (.bl false) := rfl
theorem isi_bs {t : Bool} : rB (dIsi (.bl t) .str) = .ok (.bl false) := rfl
theorem isi_tt {xs : List D} : rB (dIsi (.tup xs) .tuple) = .ok (.bl true) := rfl
theorem isi_tl {xs : List D} : rB (dIsi (.tup xs) .list) = .ok (.bl false) := rfl
theorem isi_ti {xs : List D} : rB (dIsi (.tup xs) .int) = .ok (.bl false) := rfl
theorem isi_ts {xs : List D} : rB (dIsi (.tup xs) .str) = .ok (.bl false) := rfl
theorem isi_ll {xs : List D} : rB (dIsi (.lst xs) .list) = .ok (.bl true) := rfl
theorem isi_lt {xs : List D} : rB (dIsi (.lst xs) .tuple) = .ok (.bl false) := rfl
theorem isi_li {xs : List D} : rB (dIsi (.lst xs) .int) = .ok (.bl false) := rfl
theorem isi_ls {xs : List D} : rB (dIsi (.lst xs) .str) = .ok (.bl false) := rfl
theorem isi_ss {s : Str} : rB (dIsi (.str s) .str) = .ok (.bl true) := rfl
theorem isi_si {s : Str} : rB (dIsi (.str s) .int) = .ok (.bl false) := rfl
theorem isi_st {s : Str} : rB (dIsi (.str s) .tuple) = .ok (.bl false) := rfl
theorem isi_sb {s : Str} : rB (dIsi (.str s) .bool) = .ok (.bl false) := rfl
theorem it_t {xs : List D} : items .seq [.tup xs] = .ok xs := rfl
theorem it_l {xs : List D} : items .seq [.lst xs] = .ok xs := rfl
theorem small62_of (h0 : -1073741824 ≤ i) (h1 : i < 1073741824) : small62 i = true := by
  unfold small62
  rw [decide_eq_true (show -(2 ^ 30) ≤ i by omega), decide_eq_true (show i < 2 ^ 30 by omega)]
  rfl
theorem it_r1 (h0 : -1073741824 ≤ i) (h1 : i < 1073741824) : items .rng [.int i] = .ok (rgL 0 i.toNat) := if_pos (small62_of h0 h1)
theorem it_r2 (h0 : -1073741824 ≤ i) (h1 : i < 1073741824) (h2 : -1073741824 ≤ j) (h3 : j < 1073741824) : items .rng [.int i, .int j] = .ok (rgL i (j - i).toNat) := if_pos (by rw [small62_of h0 h1, small62_of h2 h3]; rfl)
theorem it_et {xs : List D} : items .enum [.tup xs] = .ok (enumL 0 xs) := rfl
theorem it_el {xs : List D} : items .enum [.lst xs] = .ok (enumL 0 xs) := rfl
theorem it_ztt {xs ys : List D} : items .zip [.tup xs, .tup ys] = .ok (zipL xs ys) := rfl
theorem it_zll {xs ys : List D} : items .zip [.lst xs, .lst ys] = .ok (zipL xs ys) := rfl
theorem it_ztl {xs ys : List D} : items .zip [.tup xs, .lst ys] = .ok (zipL xs ys) := rfl
theorem it_zlt {xs ys : List D} : items .zip [.lst xs, .tup ys] = .ok (zipL xs ys) := rfl
end
def cdR : R D → R D → R (Option D)
  | .ok t, v => match truth t with
    | some true => match v with
      | .ok x => .ok (some x)
      | .exc c => .exc c
      | .bad => .bad
    | some false => .ok none
    | none => .bad
  | .exc c, _ => .exc c
  | .bad, _ => .bad
section
variable {c : Cf} {own : List Nat} {cond elt : E} {ρ : Rho} {d x y : D} {i j : Nat} {wf : Nat} {r body : List S}
theorem cd_eq {a b : R D} : (a.bind fun t => (rTruth t).bind fun v => match v with | true => b.bind fun x => .ok (some x) | false => R.ok (@none D)) = cdR a b := by
  cases a with
  | ok t =>
    show (rTruth t).bind _ = match truth t with | some true => (match b with | .ok x => .ok (some x) | .exc c => .exc c | .bad => .bad) | some false => .ok none | none => .bad
    unfold rTruth
    cases truth t with
    | none => rfl
    | some v => cases v <;> cases b <;> rfl
  | exc => rfl
  | bad => rfl
theorem lcFn_1 : lcFn c own (.one i) cond elt ρ d = cdR (ev c cond ((wipeR ρ own).set i (some d))) (ev c elt ((wipeR ρ own).set i (some d))) := cd_eq
theorem lcFn_2 : lcFn c own (.many [i, j]) cond elt ρ (.tup [x, y]) = cdR (ev c cond (((wipeR ρ own).set i (some x)).set j (some y))) (ev c elt (((wipeR ρ own).set i (some x)).set j (some y))) := cd_eq
theorem cdR_t : cdR (.ok (.bl true)) (.ok x) = .ok (some x) := rfl
theorem cdR_f {z : R D} : cdR (.ok (.bl false)) z = .ok none := rfl
theorem fm_none {α β : Type} : ∀ (l : List α), l.filterMap (fun _ => (none : Option β)) = []
  | [] => rfl
  | _ :: r => fm_none r
theorem cdR_b {t : Bool} : cdR (.ok (.bl t)) (.ok x) = .ok (if t = true then some x else none) := by cases t <;> rfl
theorem lcGo_fm {f : D → R (Option D)} {g : D → Option D} : ∀ {its : List D}, (∀ x ∈ its, f x = .ok (g x)) → lcGo f its = .ok (its.filterMap g)
  | [], _ => rfl
  | d :: ds, h => by
    rw [lcGo, h d List.mem_cons_self, lcGo_fm fun x hx => h x (List.mem_cons_of_mem _ hx), List.filterMap_cons]
    show R.ok _ = _
    cases g d <;> rfl
theorem lcS_fm {f : D → R (Option D)} {its : List D} (g : D → Option D) (hl : its.length ≤ 1000000) (h : ∀ x ∈ its, f x = .ok (g x)) : lcS f its = .ok (.lst (its.filterMap g)) := by
  unfold lcS
  rw [if_pos (show its.length ≤ LIM from hl), lcGo_fm h]
  rfl
theorem lcS_map {f : D → R (Option D)} {its : List D} (g : D → D) (hl : its.length ≤ 1000000) (h : ∀ x ∈ its, f x = .ok (some (g x))) : lcS f its = .ok (.lst (its.map g)) := by
  rw [lcS_fm (fun x => some (g x)) hl h]
  show R.ok (D.lst (its.filterMap (some ∘ g))) = _
  rw [List.filterMap_eq_map]
def kSet : R D → Nat → Cf → Nat → List S → Rho → R Fl
  | .ok d, i, c, wf, r, ρ => xss c wf r (ρ.set i (some d))
  | .exc x, _, _, _, _, _ => .exc x
  | .bad, _, _, _, _, _ => .bad
def kOwn : R D → Nat → Cf → Nat → List S → Rho → R Fl
  | .ok (.lst ds), i, c, wf, r, ρ => match ρ[i]? with
    | some _ => xss c wf r (ρ.set i (some (.lst ds)))
    | none => .bad
  | .ok _, _, _, _, _, _ => .bad
  | .exc x, _, _, _, _, _ => .exc x
  | .bad, _, _, _, _, _ => .bad
def kUnp : R D → List Nat → Cf → Nat → List S → Rho → R Fl
  | .ok d, is, c, wf, r, ρ => match seqOf d with
    | some ds => match setAll is ds ρ with
      | some ρ' => xss c wf r ρ'
      | none => .bad
    | none => .bad
  | .exc x, _, _, _, _, _ => .exc x
  | .bad, _, _, _, _, _ => .bad
def kApp : R D → R D → Nat → Cf → Nat → List S → Rho → R Fl
  | .ok d, .ok (.lst ds), i, c, wf, r, ρ => if ds.length < LIM then xss c wf r (ρ.set i (some (.lst (ds ++ [d])))) else .bad
  | .ok _, .ok _, _, _, _, _, _ => .bad
  | .ok _, .exc x, _, _, _, _, _ => .exc x
  | .ok _, .bad, _, _, _, _, _ => .bad
  | .exc x, _, _, _, _, _, _ => .exc x
  | .bad, _, _, _, _, _, _ => .bad
def kRet : R D → R Fl
  | .ok d => .ok (.rt d)
  | .exc x => .exc x
  | .bad => .bad
def kIf : R D → Cf → Nat → List S → List S → Rho → R Fl
  | .ok (.bl true), c, wf, a, _, ρ => xss c wf a ρ
  | .ok (.bl false), c, wf, _, b, ρ => xss c wf b ρ
  | .ok d, c, wf, a, b, ρ => match truth d with
    | some true => xss c wf a ρ
    | some false => xss c wf b ρ
    | none => .bad
  | .exc x, _, _, _, _, _ => .exc x
  | .bad, _, _, _, _, _ => .bad
def kSeq : R Fl → Cf → Nat → List S → R Fl
  | .ok (.nx ρ), c, wf, r => xss c wf r ρ
  | .ok (.rt d), _, _, _ => .ok (.rt d)
  | .exc x, _, _, _ => .exc x
  | .bad, _, _, _ => .bad
def forFn (c : Cf) (wf : Nat) (tg : Tg) (body : List S) (d : D) (ρ : Rho) : R Fl := match bindT tg d ρ with
  | some ρ' => xss c wf body ρ'
  | none => .bad
def kFor : R (List D) → Cf → Nat → Tg → List S → List S → Rho → R Fl
  | .ok its, c, wf, tg, body, r, ρ => kSeq (forGo (forFn c wf tg body) its ρ) c wf r
  | .exc x, _, _, _, _, _, _ => .exc x
  | .bad, _, _, _, _, _, _ => .bad
theorem xs_nil : xss c wf [] ρ = .ok (.nx ρ) := by rw [xss]
theorem xs_set {e : E} : xss c wf (.set i e :: r) ρ = kSet (ev c e ρ) i c wf r ρ := by
  rw [xss, xs]; cases ev c e ρ <;> rfl
theorem xs_own {e : E} : xss c wf (.own i e :: r) ρ = kOwn (ev c e ρ) i c wf r ρ := by
  rw [xss, xs]; cases ev c e ρ with
  | ok d => cases d with
    | lst ds =>
      show (match ρ[i]? with | some _ => R.ok (Fl.nx (ρ.set i (some (.lst ds)))) | none => .bad).bind _ = match ρ[i]? with | some _ => xss c wf r (ρ.set i (some (.lst ds))) | none => .bad
      cases ρ[i]? <;> rfl
    | _ => rfl
  | exc => rfl
  | bad => rfl
theorem xs_unp {e : E} {is : List Nat} : xss c wf (.unp is e :: r) ρ = kUnp (ev c e ρ) is c wf r ρ := by
  rw [xss, xs]; cases ev c e ρ with
  | ok d =>
    show R.bind (match seqOf d with | some ds => (match setAll is ds ρ with | some ρ' => R.ok (Fl.nx ρ') | none => .bad) | none => .bad) _ = match seqOf d with | some ds => (match setAll is ds ρ with | some ρ' => xss c wf r ρ' | none => .bad) | none => .bad
    cases seqOf d with
    | none => rfl
    | some ds =>
      show R.bind (match setAll is ds ρ with | some ρ' => R.ok (Fl.nx ρ') | none => .bad) _ = (match setAll is ds ρ with | some ρ' => xss c wf r ρ' | none => .bad)
      cases setAll is ds ρ <;> rfl
  | exc => rfl
  | bad => rfl
theorem xs_app {e : E} : xss c wf (.app i e :: r) ρ = kApp (ev c e ρ) (get ρ i) i c wf r ρ := by
  rw [xss, xs]; cases ev c e ρ with
  | ok d => cases get ρ i with
    | ok l => cases l with
      | lst ds =>
        show R.bind (if ds.length < LIM then R.ok (Fl.nx (ρ.set i (some (.lst (ds ++ [d]))))) else .bad) _ = if ds.length < LIM then xss c wf r (ρ.set i (some (.lst (ds ++ [d])))) else .bad
        by_cases h : ds.length < LIM
        · rw [if_pos h, if_pos h]; rfl
        · rw [if_neg h, if_neg h]; rfl
      | _ => rfl
    | exc => rfl
    | bad => rfl
  | exc => rfl
  | bad => rfl
theorem xs_frz : xss c wf (.frz i :: r) ρ = xss c wf r ρ := by rw [xss, xs]; rfl
theorem xs_pas : xss c wf (.pas :: r) ρ = xss c wf r ρ := by rw [xss, xs]; rfl
theorem xs_ret {e : E} : xss c wf (.ret e :: r) ρ = kRet (ev c e ρ) := by
  rw [xss, xs]; cases ev c e ρ <;> rfl
theorem xs_app_list : ∀ (a : List S) (ρ : Rho), xss c wf (a ++ r) ρ = kSeq (xss c wf a ρ) c wf r
  | [], ρ => by rw [xss]; rfl
  | s :: a, ρ => by
    rw [List.cons_append, xss, xss]
    cases xs c wf s ρ with
    | ok z => cases z with
      | nx ρ' => exact xs_app_list a ρ'
      | rt d => rfl
    | exc => rfl
    | bad => rfl
theorem xs_ife {e : E} {a b : List S} : xss c wf (.ife e a b :: r) ρ = kIf (ev c e ρ) c wf (a ++ r) (b ++ r) ρ := by
  rw [xss, xs]; cases ev c e ρ with
  | ok d =>
    have hs : ∀ a : List S, (xss c wf a ρ).bind (fun z => match z with | .nx ρ' => xss c wf r ρ' | .rt x => .ok (.rt x)) = xss c wf (a ++ r) ρ := fun a => by
      rw [xs_app_list]
      cases xss c wf a ρ with
      | ok z => cases z <;> rfl
      | exc => rfl
      | bad => rfl
    show R.bind (R.bind (rTruth d) fun v => match v with | true => xss c wf a ρ | false => xss c wf b ρ) _ = _
    unfold rTruth
    cases d with
    | bl t => cases t
              · exact hs b
              · exact hs a
    | non => exact hs b
    | ref _ => rfl
    | int i =>
      show R.bind (R.bind (match some (i != 0) with | some b => R.ok b | none => R.bad) fun v => match v with | true => xss c wf a ρ | false => xss c wf b ρ) _ = match some (i != 0) with | some true => xss c wf (a ++ r) ρ | some false => xss c wf (b ++ r) ρ | none => .bad
      cases (i != 0)
      · exact hs b
      · exact hs a
    | str s =>
      unfold kIf
      dsimp only
      cases truth (.str s) with
      | none => rfl
      | some t => cases t
                  · exact hs b
                  · exact hs a
    | tup s =>
      unfold kIf
      dsimp only
      cases truth (.tup s) with
      | none => rfl
      | some t => cases t
                  · exact hs b
                  · exact hs a
    | lst s =>
      unfold kIf
      dsimp only
      cases truth (.lst s) with
      | none => rfl
      | some t => cases t
                  · exact hs b
                  · exact hs a
  | exc => rfl
  | bad => rfl
theorem xs_for {tg : Tg} {k : Src} {ss : List E} : xss c wf (.for_ tg k ss body :: r) ρ = kFor (bit k (evs c ss ρ)) c wf tg body r ρ := by
  rw [xss, xs]; cases evs c ss ρ with
  | ok ys =>
    show R.bind (R.bind (items k ys) _) _ = kFor (items k ys) c wf tg body r ρ
    cases items k ys with
    | ok its =>
      show R.bind (forGo (forFn c wf tg body) its ρ) _ = kSeq (forGo (forFn c wf tg body) its ρ) c wf r
      cases forGo (forFn c wf tg body) its ρ with
      | ok z => cases z <;> rfl
      | exc => rfl
      | bad => rfl
    | exc => rfl
    | bad => rfl
  | exc => rfl
  | bad => rfl
theorem kSet_ok : kSet (.ok d) i c wf r ρ = xss c wf r (ρ.set i (some d)) := rfl
theorem kOwn_ok {ds : List D} (h : i < ρ.length) : kOwn (.ok (.lst ds)) i c wf r ρ = xss c wf r (ρ.set i (some (.lst ds))) := by
  unfold kOwn
  dsimp only
  rw [List.getElem?_eq_getElem h]
theorem kUnp_t {ds : List D} {is : List Nat} : kUnp (.ok (.tup ds)) is c wf r ρ = match setAll is ds ρ with | some ρ' => xss c wf r ρ' | none => .bad := rfl
theorem kUnp_l {ds : List D} {is : List Nat} : kUnp (.ok (.lst ds)) is c wf r ρ = match setAll is ds ρ with | some ρ' => xss c wf r ρ' | none => .bad := rfl
theorem kApp_ok {ds : List D} (h : ds.length < 1000000) : kApp (.ok d) (.ok (.lst ds)) i c wf r ρ = xss c wf r (ρ.set i (some (.lst (ds ++ [d])))) := if_pos h
theorem kRet_ok : kRet (.ok d) = .ok (.rt d) := rfl
theorem kIf_t {a b : List S} : kIf (.ok (.bl true)) c wf a b ρ = xss c wf a ρ := rfl
theorem kIf_f {a b : List S} : kIf (.ok (.bl false)) c wf a b ρ = xss c wf b ρ := rfl
theorem kSeq_n : kSeq (.ok (.nx ρ)) c wf r = xss c wf r ρ := rfl
theorem kSeq_r : kSeq (.ok (.rt d)) c wf r = .ok (.rt d) := rfl
theorem kFor_ok {its : List D} {tg : Tg} : kFor (.ok its) c wf tg body r ρ = kSeq (forGo (forFn c wf tg body) its ρ) c wf r := rfl
theorem forFn_1 : forFn c wf (.one i) body d ρ = xss c wf body (ρ.set i (some d)) := rfl
theorem forFn_2 : forFn c wf (.many [i, j]) body (.tup [x, y]) ρ = xss c wf body ((ρ.set i (some x)).set j (some y)) := rfl
theorem setAll_n : setAll [] [] ρ = some ρ := rfl
theorem setAll_c {is : List Nat} {ds : List D} : setAll (i :: is) (d :: ds) ρ = setAll is ds (ρ.set i (some d)) := rfl
theorem fin_r : finish (.ok (.rt d)) = .ok d := rfl
theorem fin_n : finish (.ok (.nx ρ)) = .ok .non := rfl
theorem wipe_n : wipeR ρ [] = ρ := rfl
theorem wipe_c {is : List Nat} : wipeR ρ (i :: is) = (wipeR ρ is).set i none := rfl
theorem go_nil {f : D → Rho → R Fl} : forGo f [] ρ = .ok (.nx ρ) := rfl
def kGo (f : D → Rho → R Fl) (ds : List D) : R Fl → R Fl
  | .ok (.nx ρ) => forGo f ds ρ
  | .ok (.rt d) => .ok (.rt d)
  | .exc x => .exc x
  | .bad => .bad
theorem go_cons {f : D → Rho → R Fl} {ds : List D} : forGo f (d :: ds) ρ = kGo f ds (f d ρ) := by
  rw [forGo]
  cases f d ρ with
  | ok z => cases z <;> rfl
  | exc => rfl
  | bad => rfl
theorem kGo_n {f : D → Rho → R Fl} {ds : List D} : kGo f ds (.ok (.nx ρ)) = forGo f ds ρ := rfl
theorem kGo_r {f : D → Rho → R Fl} {ds : List D} : kGo f ds (.ok (.rt d)) = .ok (.rt d) := rfl
theorem for_inv {α J : Type} {f : D → Rho → R Fl} (st : α → J → Rho) (I : List D → α → Prop) : ∀ {its : List D} {a : α} {j : J}, I its a → (∀ a j x r, I (x :: r) a → ∃ a' j', f x (st a j) = .ok (.nx (st a' j')) ∧ I r a') → ∃ a' j', forGo f its (st a j) = .ok (.nx (st a' j')) ∧ I [] a'
  | [], a, j, h0, _ => ⟨a, j, rfl, h0⟩
  | d :: ds, a, j, h0, h => by
    obtain ⟨a1, j1, e1, h1⟩ := h a j d ds h0
    obtain ⟨a2, j2, e2, h2⟩ := for_inv st I (its := ds) (a := a1) (j := j1) h1 h
    exact ⟨a2, j2, by rw [go_cons, e1]; exact e2, h2⟩
section
variable {its : List D} {tg : Tg} {α J : Type} (st : α → J → Rho) (I : List D → α → Prop) (a : α) (j : J) (hρ : ρ = st a j) (h0 : I its a)
  (h1 : ∀ a j x q, I (x :: q) a → ∃ a' j', forFn c wf tg body x (st a j) = .ok (.nx (st a' j')) ∧ I q a')
include hρ h0 h1
theorem loop_fin {z : R D} (h2 : ∀ a' j', I [] a' → finish (xss c wf r (st a' j')) = z) : finish (kSeq (forGo (forFn c wf tg body) its ρ) c wf r) = z := by
  subst hρ
  obtain ⟨a', j', e, hi⟩ := for_inv st I (j := j) h0 h1
  rw [e]
  exact h2 a' j' hi
end
end
end LC

set_option Elab.async false
set_option linter.all false
set_option maxRecDepth 100000
set_option maxHeartbeats 4000000
namespace LC
open PySem L2
def mkD (way : Str) (head gap unit bits : Int) (low : Bool) (slip : Int) : D := .tup [.str way, .int head, .int gap, .int unit, .int bits, .bl low, .int slip]
section
variable {way : Str} {head gap unit b slip : Int} {low : Bool}
theorem mk_fold : D.tup [.str way, .int head, .int gap, .int unit, .int b, .bl low, .int slip] = mkD way head gap unit b low slip := rfl
theorem mk_0 : dIdx (mkD way head gap unit b low slip) (.int 0) = .ok (.str way) := ix_t0
theorem mk_4 : dIdx (mkD way head gap unit b low slip) (.int 4) = .ok (.int b) := ix_t4
theorem mk_5 : dIdx (mkD way head gap unit b low slip) (.int 5) = .ok (.bl low) := ix_t5
theorem mk_6 : dIdx (mkD way head gap unit b low slip) (.int 6) = .ok (.int slip) := ix_t6
theorem mk_c4 : dCut (mkD way head gap unit b low slip) none (some 4) = .ok (.tup [.str way, .int head, .int gap, .int unit]) := rfl
theorem mk_c5 : dCut (mkD way head gap unit b low slip) none (some 5) = .ok (.tup [.str way, .int head, .int gap, .int unit, .int b]) := rfl
theorem mk_d6 : dCut (mkD way head gap unit b low slip) (some 6) none = .ok (.tup [.int slip]) := rfl
theorem mk_u {is : List Nat} {c : Cf} {wf : Nat} {r : List S} {ρ : Rho} : kUnp (.ok (mkD way head gap unit b low slip)) is c wf r ρ = match setAll is [.str way, .int head, .int gap, .int unit, .int b, .bl low, .int slip] ρ with | some ρ' => xss c wf r ρ' | none => .bad := rfl
end
def WayOk (way : Str) : Prop := way = "far" ∨ way = "wide" ∨ way = "turn"
structure MkOk (most : Int) (way : Str) (head gap unit bits slip : Int) : Prop where
  way : WayOk way
  head1 : 1 ≤ head
  head2 : head ≤ 9999
  gap1 : 1 ≤ gap
  gap2 : gap ≤ 9999
  unit1 : 2 ≤ unit
  unit2 : unit ≤ 901
  bits1 : 1 ≤ bits
  bits2 : bits ≤ most
  slip0 : 0 ≤ slip
  slipu : 2 * slip < unit
  sliph : slip < head
  slipg : slip < gap
def bitsL : Nat → Int → List Int
  | 0, _ => []
  | k + 1, x => x % 2 :: bitsL k (x / 2)
def numL : List Int → Int
  | [] => 0
  | b :: r => b + 2 * numL r
theorem bitsL_len : ∀ (k : Nat) (x : Int), (bitsL k x).length = k
  | 0, _ => rfl
  | k + 1, x => by rw [bitsL, List.length_cons, bitsL_len k]
theorem bitsL_01 : ∀ (k : Nat) (x : Int), ∀ b ∈ bitsL k x, b = 0 ∨ b = 1
  | 0, _, b, h => nomatch h
  | k + 1, x, b, h => by
    rw [bitsL] at h
    rcases List.mem_cons.mp h with rfl | h
    · omega
    · exact bitsL_01 k _ b h
theorem numL_bitsL : ∀ (k : Nat) (x : Int), 0 ≤ x → x < 2 ^ k → numL (bitsL k x) = x
  | 0, x, h1, h2 => by
    have h3 : (2 : Int) ^ 0 = 1 := rfl
    rw [h3] at h2
    show (0 : Int) = x
    omega
  | k + 1, x, h1, h2 => by
    rw [bitsL, numL, numL_bitsL k (x / 2) (by omega) (by rw [Int.pow_succ] at h2; omega)]
    omega
theorem bitsL_numL : ∀ (bs : List Int), (∀ b ∈ bs, b = 0 ∨ b = 1) → bitsL bs.length (numL bs) = bs
  | [], _ => rfl
  | b :: r, h => by
    have h1 := h b List.mem_cons_self
    have ih := bitsL_numL r fun x hx => h x (List.mem_cons_of_mem _ hx)
    rw [List.length_cons, numL, bitsL]
    rw [show (b + 2 * numL r) % 2 = b by omega, show (b + 2 * numL r) / 2 = numL r by omega, ih]
theorem numL_lt : ∀ (bs : List Int), (∀ b ∈ bs, b = 0 ∨ b = 1) → 0 ≤ numL bs ∧ numL bs < 2 ^ bs.length
  | [], _ => ⟨Int.le_refl _, by decide⟩
  | b :: r, h => by
    have h1 := h b List.mem_cons_self
    have ih := numL_lt r fun x hx => h x (List.mem_cons_of_mem _ hx)
    rw [List.length_cons, numL, Int.pow_succ]
    omega
theorem horner : ∀ (bs : List Int) (a : Int), (bs.reverse).foldl (fun t b => 2 * t + b) 0 = numL bs
  | [], _ => rfl
  | b :: r, a => by
    rw [List.reverse_cons, List.foldl_append, horner r a, numL]
    show 2 * numL r + b = _
    omega
theorem bitsL_ones : ∀ k : Nat, bitsL k (2 ^ k - 1) = List.replicate k 1
  | 0 => rfl
  | k + 1 => by
    rw [bitsL, List.replicate_succ, Int.pow_succ, show ((2 : Int) ^ k * 2 - 1) % 2 = 1 by omega, show ((2 : Int) ^ k * 2 - 1) / 2 = 2 ^ k - 1 by omega, bitsL_ones k]
def bitsM (low : Bool) (k : Nat) (x : Int) : List Int := if low = true then bitsL k x else (bitsL k x).reverse
theorem bitsM_len (low : Bool) (k : Nat) (x : Int) : (bitsM low k x).length = k := by
  unfold bitsM
  split
  · exact bitsL_len k x
  · rw [List.length_reverse, bitsL_len]
theorem bitsM_01 (low : Bool) (k : Nat) (x : Int) : ∀ b ∈ bitsM low k x, b = 0 ∨ b = 1 := by
  unfold bitsM
  intro b hb
  split at hb
  · exact bitsL_01 k x b hb
  · exact bitsL_01 k x b (List.mem_reverse.mp hb)
def numM (low : Bool) (bs : List Int) : Int := if low = true then numL bs else numL bs.reverse
theorem numM_bitsM (low : Bool) (k : Nat) (x : Int) (h1 : 0 ≤ x) (h2 : x < 2 ^ k) : numM low (bitsM low k x) = x := by
  unfold numM bitsM
  cases low
  · rw [if_neg (by decide), if_neg (by decide), List.reverse_reverse, numL_bitsL k x h1 h2]
  · rw [if_pos rfl, if_pos rfl, numL_bitsL k x h1 h2]
theorem bitsM_inj (low : Bool) {k : Nat} {x y : Int} (hx : 0 ≤ x) (hx2 : x < 2 ^ k) (hy : 0 ≤ y) (hy2 : y < 2 ^ k) (h : bitsM low k x = bitsM low k y) : x = y := by
  rw [← numM_bitsM low k x hx hx2, h, numM_bitsM low k y hy hy2]
theorem bitsM_ones (low : Bool) (k : Nat) : bitsM low k (2 ^ k - 1) = List.replicate k 1 := by
  unfold bitsM
  rw [bitsL_ones, List.reverse_replicate]
  cases low <;> rfl
theorem rgL_len (lo : Int) (k : Nat) : (rgL lo k).length = k := by
  unfold rgL
  rw [List.length_map, List.length_range]
theorem rgL_mem {lo : Int} {k : Nat} {d : D} (h : d ∈ rgL lo k) : ∃ i : Nat, i < k ∧ d = .int (lo + i) := by
  unfold rgL at h
  obtain ⟨i, hi, rfl⟩ := List.mem_map.mp h
  exact ⟨i, List.mem_range.mp hi, rfl⟩
theorem pow_bits {b : Int} (h1 : 1 ≤ b) (h2 : b ≤ 12) : 2 ≤ (2 : Int) ^ b.toNat ∧ (2 : Int) ^ b.toNat ≤ 4096 := by
  obtain ⟨n, rfl⟩ : ∃ n : Nat, b = n := ⟨b.toNat, by omega⟩
  rw [Int.toNat_natCast]
  have h3 : n ≤ 12 := by omega
  have h4 : 1 ≤ n := by omega
  rcases n with _ | _ | _ | _ | _ | _ | _ | _ | _ | _ | _ | _ | _ | n <;> first | omega | exact ⟨by decide, by decide⟩
theorem pow_list {b : Int} (h1 : 0 ≤ b) (h2 : b ≤ 12) : dIdx (.tup [.int 1, .int 2, .int 4, .int 8, .int 16, .int 32, .int 64, .int 128, .int 256, .int 512, .int 1024, .int 2048, .int 4096]) (.int b) = .ok (.int (2 ^ b.toNat)) := by
  obtain ⟨n, rfl⟩ : ∃ n : Nat, b = n := ⟨b.toNat, by omega⟩
  have h3 : n ≤ 12 := by omega
  rcases n with _ | _ | _ | _ | _ | _ | _ | _ | _ | _ | _ | _ | _ | n <;> first | omega | rfl
end LC

set_option Elab.async false
set_option linter.all false
set_option maxRecDepth 100000
set_option maxHeartbeats 4000000
namespace LC
open PySem L2
def dI (f : Int → Int) : D → D
  | .int i => .int (f i)
  | d => d
def farL (u : Int) : List Int → List Int
  | [] => [u]
  | b :: r => u :: (u + 2 * u * b) :: farL u r
def wideL (u : Int) : List Int → List Int
  | [] => []
  | [b] => [u + u * b]
  | b :: c :: r => (u + u * b) :: u :: wideL u (c :: r)
def turnL (u last : Int) : List Int → List Int
  | [] => [u]
  | b :: r => if b = last then u :: u :: turnL u b r else (2 * u) :: turnL u b r
def timesL (way : Str) (u : Int) (bs : List Int) : List Int :=
  if (way == "far") = true then farL u bs else if (way == "wide") = true then wideL u bs else u :: turnL u 0 (bs ++ [1])
def flashL (way : Str) (head gap u : Int) (bs : List Int) : List Int := head :: gap :: timesL way u bs
def ones : List Int → Int
  | [] => 0
  | b :: r => b + ones r
theorem ones_le : ∀ bs : List Int, (∀ b ∈ bs, b = 0 ∨ b = 1) → 0 ≤ ones bs ∧ ones bs ≤ bs.length
  | [], _ => ⟨Int.le_refl _, Int.le_refl _⟩
  | b :: r, h => by
    have h1 := h b List.mem_cons_self
    have h2 := ones_le r fun x hx => h x (List.mem_cons_of_mem _ hx)
    rw [ones, List.length_cons]
    omega
theorem ones_rep : ∀ k : Nat, ones (List.replicate k 1) = k
  | 0 => rfl
  | k + 1 => by
    rw [List.replicate_succ, ones, ones_rep k]
    omega
theorem sum_far (u : Int) : ∀ bs : List Int, (farL u bs).sum = (2 * bs.length + 1) * u + 2 * u * ones bs
  | [] => by
    show u + 0 = (2 * 0 + 1) * u + 2 * u * 0
    simp
  | b :: r => by
    rw [farL, List.sum_cons, List.sum_cons, sum_far u r, List.length_cons, ones]
    simp only [Int.natCast_add, Int.add_mul, Int.mul_add, Int.mul_assoc]
    simp only [Int.natCast_one]
    omega
theorem sum_wide (u : Int) : ∀ bs : List Int, bs ≠ [] → (wideL u bs).sum = (2 * bs.length - 1) * u + u * ones bs
  | [], h => absurd rfl h
  | [b], _ => by
    show u + u * b + 0 = (2 * 1 - 1) * u + u * (b + 0)
    simp
  | b :: c :: r, _ => by
    rw [wideL, List.sum_cons, List.sum_cons, sum_wide u (c :: r) (List.cons_ne_nil _ _)]
    simp only [List.length_cons, ones, Int.natCast_add, Int.add_mul, Int.mul_add, Int.sub_mul, Int.mul_assoc]
    simp only [Int.natCast_one]
    omega
theorem sum_turn (u : Int) : ∀ (bs : List Int) (last : Int), (turnL u last bs).sum = (2 * bs.length + 1) * u
  | [], _ => by
    show u + 0 = (2 * 0 + 1) * u
    simp
  | b :: r, last => by
    rw [turnL]
    split
    · rw [List.sum_cons, List.sum_cons, sum_turn u r b, List.length_cons]
      simp only [Int.natCast_add, Int.add_mul, Int.mul_add, Int.mul_assoc]
      simp only [Int.natCast_one]
      omega
    · rw [List.sum_cons, sum_turn u r b, List.length_cons]
      simp only [Int.natCast_add, Int.add_mul, Int.mul_add, Int.mul_assoc]
      simp only [Int.natCast_one]
      omega
theorem far_len (u : Int) : ∀ bs : List Int, (farL u bs).length = 2 * bs.length + 1
  | [] => rfl
  | b :: r => by rw [farL, List.length_cons, List.length_cons, far_len u r, List.length_cons]; omega
theorem wide_len (u : Int) : ∀ bs : List Int, bs ≠ [] → (wideL u bs).length = 2 * bs.length - 1
  | [], h => absurd rfl h
  | [b], _ => rfl
  | b :: c :: r, _ => by rw [wideL, List.length_cons, List.length_cons, wide_len u (c :: r) (List.cons_ne_nil _ _)]; simp only [List.length_cons]; omega
theorem turn_len (u : Int) : ∀ (bs : List Int) (last : Int), (turnL u last bs).length ≤ 2 * bs.length + 1 ∧ 1 ≤ (turnL u last bs).length
  | [], _ => ⟨Nat.le_refl _, Nat.le_refl _⟩
  | b :: r, last => by
    have := turn_len u r b
    rw [turnL]
    split <;> simp only [List.length_cons] <;> omega
theorem times_len (way : Str) (u : Int) (bs : List Int) : (timesL way u bs).length ≤ 2 * bs.length + 4 := by
  unfold timesL
  split
  · rw [far_len]; omega
  · split
    · cases bs with
      | nil => exact Nat.zero_le _
      | cons b r => rw [wide_len u _ (List.cons_ne_nil _ _)]; omega
    · have := (turn_len u (bs ++ [1]) 0).1
      rw [List.length_append] at this
      rw [List.length_cons]
      show _ ≤ _
      simp only [List.length_cons, List.length_nil] at this
      omega
theorem flash_len (way : Str) (head gap u : Int) (bs : List Int) : (flashL way head gap u bs).length ≤ 2 * bs.length + 6 := by
  unfold flashL
  have := times_len way u bs
  simp only [List.length_cons]
  omega
theorem WayOk.str {way : Str} (h : WayOk way) : shD 9 (.str way) = true := by
  rcases h with rfl | rfl | rfl <;> decide +kernel
def wideP (u : Int) : List Int → List Int
  | [] => []
  | b :: r => (u + u * b) :: u :: wideP u r
theorem wide_drop (u : Int) : ∀ bs : List Int, bs ≠ [] → (wideP u bs).dropLast = wideL u bs
  | [], h => absurd rfl h
  | [b], _ => rfl
  | b :: c :: r, _ => by
    rw [wideL, ← wide_drop u (c :: r) (List.cons_ne_nil _ _)]
    show ((u + u * b) :: u :: (u + u * c) :: u :: wideP u r).dropLast = (u + u * b) :: u :: ((u + u * c) :: u :: wideP u r).dropLast
    rw [List.dropLast_cons_cons, List.dropLast_cons_cons]
def longL (way : Str) (head gap u : Int) (k : Nat) : Int :=
  if (way == "far") = true then head + gap + (4 * (k : Int) + 1) * u else if (way == "wide") = true then head + gap + (3 * (k : Int) - 1) * u else head + gap + (2 * (k : Int) + 4) * u
theorem flash_sum_le (way : Str) (head gap u : Int) (bs : List Int) (hu : 0 ≤ u) (hb : ∀ b ∈ bs, b = 0 ∨ b = 1) (hn : bs ≠ []) : (flashL way head gap u bs).sum ≤ longL way head gap u bs.length := by
  have ho := ones_le bs hb
  have hm : u * ones bs ≤ u * bs.length := Int.mul_le_mul_of_nonneg_left ho.2 hu
  unfold flashL timesL longL
  rw [List.sum_cons, List.sum_cons]
  split
  · rw [sum_far]
    simp only [Int.add_mul, Int.mul_add, Int.mul_assoc, Int.one_mul]
    rw [Int.mul_comm (bs.length : Int) u]
    omega
  · split
    · rw [sum_wide _ _ hn]
      simp only [Int.add_mul, Int.mul_add, Int.sub_mul, Int.mul_assoc, Int.one_mul]
      rw [Int.mul_comm (bs.length : Int) u]
      omega
    · rw [List.sum_cons, sum_turn, List.length_append]
      simp only [Int.natCast_add, Int.add_mul, Int.mul_add, Int.mul_assoc, Int.one_mul, List.length_cons, List.length_nil]
      omega
theorem flash_sum_ones (way : Str) (head gap u : Int) (k : Nat) (hk : 1 ≤ k) : (flashL way head gap u (List.replicate k 1)).sum = longL way head gap u k := by
  unfold flashL timesL longL
  rw [List.sum_cons, List.sum_cons]
  split
  · rw [sum_far, ones_rep, List.length_replicate]
    simp only [Int.add_mul, Int.mul_add, Int.mul_assoc, Int.one_mul]
    rw [Int.mul_comm (k : Int) u]
    omega
  · split
    · rw [sum_wide _ _ (by intro z; have := congrArg List.length z; rw [List.length_replicate] at this; simp only [List.length_nil] at this; omega), ones_rep, List.length_replicate]
      simp only [Int.add_mul, Int.mul_add, Int.sub_mul, Int.mul_assoc, Int.one_mul]
      rw [Int.mul_comm (k : Int) u]
      omega
    · rw [List.sum_cons, sum_turn, List.length_append, List.length_replicate]
      simp only [Int.natCast_add, Int.add_mul, Int.mul_add, Int.mul_assoc, Int.one_mul, List.length_cons, List.length_nil]
      omega
end LC

set_option Elab.async false
set_option linter.all false
set_option maxRecDepth 100000
set_option maxHeartbeats 4000000
namespace LC
open PySem L2
def kExt : R D → R D → Nat → Cf → Nat → List S → Rho → R Fl
  | .ok (.lst es), .ok (.lst ds), i, c, wf, r, ρ => if ds.length + es.length < LIM then xss c wf r (ρ.set i (some (.lst (ds ++ es)))) else .bad
  | .ok _, .ok _, _, _, _, _, _ => .bad
  | .ok _, .exc x, _, _, _, _, _ => .exc x
  | .ok _, .bad, _, _, _, _, _ => .bad
  | .exc x, _, _, _, _, _, _ => .exc x
  | .bad, _, _, _, _, _, _ => .bad
def kPut : R D → R D → R D → Nat → Cf → Nat → List S → Rho → R Fl
  | .ok d, .ok z, .ok l, i, c, wf, r, ρ => match l, z with
    | .lst ds, .int n => match setAt ds n d with
      | some es => xss c wf r (ρ.set i (some (.lst es)))
      | none => .bad
    | _, _ => .bad
  | .ok _, .ok _, .exc x, _, _, _, _, _ => .exc x
  | .ok _, .ok _, .bad, _, _, _, _, _ => .bad
  | .ok _, .exc x, _, _, _, _, _, _ => .exc x
  | .ok _, .bad, _, _, _, _, _, _ => .bad
  | .exc x, _, _, _, _, _, _, _ => .exc x
  | .bad, _, _, _, _, _, _, _ => .bad
section
variable {c : Cf} {ρ : Rho} {d x y : D} {i j : Nat} {wf : Nat} {r body : List S}
theorem xs_ext {e : E} : xss c wf (.ext i e :: r) ρ = kExt (ev c e ρ) (get ρ i) i c wf r ρ := by
  rw [xss, xs]; cases ev c e ρ with
  | ok d => cases get ρ i with
    | ok l => cases l with
      | lst ds => cases d with
        | lst es =>
          show R.bind (if ds.length + es.length < LIM then R.ok (Fl.nx (ρ.set i (some (.lst (ds ++ es))))) else .bad) _ = if ds.length + es.length < LIM then xss c wf r (ρ.set i (some (.lst (ds ++ es)))) else .bad
          by_cases h : ds.length + es.length < LIM
          · rw [if_pos h, if_pos h]; rfl
          · rw [if_neg h, if_neg h]; rfl
        | _ => rfl
      | _ => cases d <;> rfl
    | exc => cases d <;> rfl
    | bad => cases d <;> rfl
  | exc => rfl
  | bad => rfl
theorem xs_put {e k : E} : xss c wf (.put i k e :: r) ρ = kPut (ev c e ρ) (ev c k ρ) (get ρ i) i c wf r ρ := by
  rw [xss, xs]; cases ev c e ρ with
  | ok d => cases ev c k ρ with
    | ok z => cases get ρ i with
      | ok l =>
        show R.bind (match l, z with | .lst ds, .int n => (match setAt ds n d with | some es => R.ok (Fl.nx (ρ.set i (some (.lst es)))) | none => .bad) | _, _ => .bad) _ = match l, z with | .lst ds, .int n => (match setAt ds n d with | some es => xss c wf r (ρ.set i (some (.lst es))) | none => .bad) | _, _ => .bad
        cases l with
        | lst ds => cases z with
          | int n =>
            show R.bind (match setAt ds n d with | some es => R.ok (Fl.nx (ρ.set i (some (.lst es)))) | none => .bad) _ = match setAt ds n d with | some es => xss c wf r (ρ.set i (some (.lst es))) | none => .bad
            cases setAt ds n d <;> rfl
          | _ => rfl
        | _ => rfl
      | exc => rfl
      | bad => rfl
    | exc => rfl
    | bad => rfl
  | exc => rfl
  | bad => rfl
theorem kExt_ok {ds es : List D} (h : ds.length + es.length < 1000000) : kExt (.ok (.lst es)) (.ok (.lst ds)) i c wf r ρ = xss c wf r (ρ.set i (some (.lst (ds ++ es)))) := if_pos h
theorem setAt_last {xs : List D} : setAt (xs ++ [x]) (-1) d = some (xs ++ [d]) := by
  unfold setAt ixN
  rw [if_neg (by decide), if_pos (by rw [List.length_append]; simp only [List.length_cons, List.length_nil]; omega)]
  show some _ = _
  rw [show ((-1 : Int) + ((xs ++ [x]).length : Nat)).toNat = xs.length by rw [List.length_append]; simp only [List.length_cons, List.length_nil]; omega]
  dsimp only
  rw [List.set_append_right _ _ (Nat.le_refl _), Nat.sub_self]
  rfl
theorem kPut_last {xs : List D} : kPut (.ok d) (.ok (.int (-1))) (.ok (.lst (xs ++ [x]))) i c wf r ρ = xss c wf r (ρ.set i (some (.lst (xs ++ [d])))) := by
  unfold kPut
  dsimp only
  rw [setAt_last]
end
def halvesL : List Int → List Int
  | [] => []
  | b :: r => (1 - b) :: b :: halvesL r
theorem halves_len : ∀ bs : List Int, (halvesL bs).length = 2 * bs.length
  | [] => rfl
  | b :: r => by rw [halvesL, List.length_cons, List.length_cons, halves_len r, List.length_cons]; omega
theorem enumL_cons {i : Nat} {x : D} {r : List D} : enumL i (x :: r) = .tup [.int i, x] :: enumL (i + 1) r := rfl
def rl (u : Int) : Int → Int → List Int → List Int
  | _, t, [] => [t]
  | prev, t, h :: r => if prev = h then rl u h (t + u) r else t :: rl u h u r
theorem rl_turn (u : Int) : ∀ (q : List Int) (last : Int), (last = 0 ∨ last = 1) → (∀ b ∈ q, b = 0 ∨ b = 1) → rl u last u (halvesL q) = turnL u last q
  | [], _, _, _ => rfl
  | b :: r, last, hl, hb => by
    have h1 := hb b List.mem_cons_self
    have ih := rl_turn u r b h1 fun x hx => hb x (List.mem_cons_of_mem _ hx)
    rw [halvesL, turnL, rl, rl]
    by_cases h : b = last
    · rw [if_neg (by omega), if_pos h, rl, if_neg (by omega), ih]
    · rw [if_pos (by omega), if_neg h, if_neg (by omega), ih]
      congr 1
      omega
theorem turn_par (u : Int) : ∀ (q : List Int) (last : Int), (last = 0 ∨ last = 1) → (∀ b ∈ q, b = 0 ∨ b = 1) → (turnL u last (q ++ [1])).length % 2 = last.toNat
  | [], last, hl, _ => by
    rw [List.nil_append, turnL, turnL]
    rcases hl with rfl | rfl
    · rw [if_neg (by decide), List.length_cons, List.length_cons, List.length_nil]
      rfl
    · rw [if_pos rfl, List.length_cons, List.length_cons, List.length_cons, List.length_nil]
      rfl
  | b :: r, last, hl, hb => by
    have h1 := hb b List.mem_cons_self
    have ih := turn_par u r b h1 fun x hx => hb x (List.mem_cons_of_mem _ hx)
    rw [List.cons_append, turnL]
    by_cases h : b = last
    · rw [if_pos h, List.length_cons, List.length_cons]
      subst h
      omega
    · rw [if_neg h, List.length_cons]
      omega
theorem flash_par (way : Str) (head gap u : Int) (bs : List Int) (hb : ∀ b ∈ bs, b = 0 ∨ b = 1) (hn : bs ≠ []) : (flashL way head gap u bs).length % 2 = 1 := by
  unfold flashL timesL
  rw [List.length_cons, List.length_cons]
  split
  · rw [far_len]; omega
  · split
    · rw [wide_len u bs hn]
      have : 1 ≤ bs.length := by
        cases bs with
        | nil => exact absurd rfl hn
        | cons => exact Nat.succ_le_succ (Nat.zero_le _)
      omega
    · have := turn_par u bs 0 (.inl rfl) hb
      rw [List.length_cons]
      have h0 : (0 : Int).toNat = 0 := rfl
      omega
end LC

set_option Elab.async false
set_option linter.all false
set_option maxRecDepth 100000
set_option maxHeartbeats 4000000
namespace LC
open PySem L2
def ab (i : Int) : Int := if i < 0 then -i else i
theorem ab_le {i s : Int} : ab i ≤ s ↔ -s ≤ i ∧ i ≤ s := by
  unfold ab
  split <;> omega
def maxD : List Int → Int
  | [] => 0
  | x :: r => maxL x r
theorem maxD_le {l : List Int} {s : Int} (hs : 0 ≤ s) : maxD l ≤ s ↔ ∀ x ∈ l, x ≤ s := by
  cases l with
  | nil => exact ⟨(fun _ _ h => nomatch h), fun _ => hs⟩
  | cons y r =>
    show maxL y r ≤ s ↔ _
    constructor
    · intro h x hx
      have h1 := maxL_le r y
      rcases List.mem_cons.mp hx with rfl | hx
      · omega
      · have := h1.2 x hx
        omega
    · intro h
      rcases maxL_mem r y with e | e
      · rw [e]
        exact h y List.mem_cons_self
      · exact h _ (List.mem_cons_of_mem _ e)
def diffs (a b : List Int) : List Int := List.zipWith (fun x y => ab (x - y)) a b
def offL (a b : List Int) : Option Int := if a.length = b.length then some (maxD (diffs a b)) else none
def near (s : Int) : List Int → List Int → Prop
  | [], [] => True
  | x :: a, y :: b => (-s ≤ x - y ∧ x - y ≤ s) ∧ near s a b
  | _, _ => False
theorem near_len {s : Int} : ∀ {a b : List Int}, near s a b → a.length = b.length
  | [], [], _ => rfl
  | _ :: a, _ :: b, h => by rw [List.length_cons, List.length_cons, near_len h.2]
  | [], _ :: _, h => h.elim
  | _ :: _, [], h => h.elim
theorem near_iff {s : Int} : ∀ {a b : List Int}, near s a b ↔ a.length = b.length ∧ ∀ x ∈ diffs a b, x ≤ s
  | [], [] => ⟨fun _ => ⟨rfl, fun _ h => nomatch h⟩, fun _ => trivial⟩
  | x :: a, y :: b => by
    have ih := near_iff (s := s) (a := a) (b := b)
    constructor
    · intro h
      refine ⟨near_len h, fun z hz => ?_⟩
      have hz' : z ∈ ab (x - y) :: diffs a b := hz
      rcases List.mem_cons.mp hz' with rfl | hz'
      · exact ab_le.mpr h.1
      · exact (ih.mp h.2).2 z hz'
    · rintro ⟨h1, h2⟩
      have h3 : ∀ z ∈ ab (x - y) :: diffs a b, z ≤ s := h2
      exact ⟨ab_le.mp (h3 _ List.mem_cons_self), ih.mpr ⟨by simpa using h1, fun z hz => h3 z (List.mem_cons_of_mem _ hz)⟩⟩
  | [], _ :: _ => ⟨fun h => h.elim, fun h => by simp at h⟩
  | _ :: _, [] => ⟨fun h => h.elim, fun h => by simp at h⟩
theorem off_near {s : Int} (hs : 0 ≤ s) {a b : List Int} : (∃ m, offL a b = some m ∧ m ≤ s) ↔ near s a b := by
  unfold offL
  rw [near_iff]
  by_cases h : a.length = b.length
  · rw [if_pos h]
    constructor
    · rintro ⟨m, e, hm⟩
      cases e
      exact ⟨h, (maxD_le hs).mp hm⟩
    · rintro ⟨_, h2⟩
      exact ⟨_, rfl, (maxD_le hs).mpr h2⟩
  · rw [if_neg h]
    exact ⟨fun ⟨_, e, _⟩ => (nomatch e), fun e => absurd e.1 h⟩
theorem near_self {s : Int} (hs : 0 ≤ s) : ∀ a : List Int, near s a a
  | [] => trivial
  | x :: a => ⟨by omega, near_self hs a⟩
def byL (c : Int) (ts : List Int) : List Int := ts.map fun t => if c < 2 * t then 1 else 0
def expL (u : Int) : Int → List Int → List Int
  | _, [] => []
  | v, t :: r => (if 3 * u < 2 * t then [v, v] else [v]) ++ expL u (1 - v) r
def someL (way : Str) (u : Int) (row : List Int) : List Int :=
  if (way == "far") = true then byL (4 * u) (evens (row.drop 2).tail) else if (way == "wide") = true then byL (3 * u) (evens (row.drop 2)) else ((evens (expL u 1 (row.drop 2)).tail).drop 1).dropLast
def nearL (way : Str) (u : Int) (k : Nat) (low : Bool) (row : List Int) : Option Int := if (someL way u row).length = k then some (numM low (someL way u row)) else none
def heardL (way : Str) (head gap u : Int) (k : Nat) (low : Bool) (slip : Int) (row : List Int) : Option Int := match nearL way u k low row with
  | none => none
  | some x => match offL (flashL way head gap u (bitsM low k x)) row with
    | none => none
    | some m => if slip < m then none else some x
theorem byL_01 {c : Int} {ts : List Int} : ∀ b ∈ byL c ts, b = 0 ∨ b = 1 := by
  intro b hb
  unfold byL at hb
  obtain ⟨t, _, rfl⟩ := List.mem_map.mp hb
  split
  · exact .inr rfl
  · exact .inl rfl
theorem expL_01 {u : Int} : ∀ (ts : List Int) (v : Int), (v = 0 ∨ v = 1) → ∀ b ∈ expL u v ts, b = 0 ∨ b = 1
  | [], _, _, b, hb => nomatch hb
  | t :: r, v, hv, b, hb => by
    rw [expL] at hb
    rcases List.mem_append.mp hb with hb | hb
    · have : b = v := by
        split at hb
        · simpa using hb
        · simpa using hb
      rw [this]
      exact hv
    · exact expL_01 r (1 - v) (by omega) b hb
theorem someL_01 {way : Str} {u : Int} {row : List Int} : ∀ b ∈ someL way u row, b = 0 ∨ b = 1 := by
  intro b hb
  unfold someL at hb
  split at hb
  · exact byL_01 b hb
  · split at hb
    · exact byL_01 b hb
    · have h1 := List.mem_of_mem_drop (List.dropLast_subset _ hb)
      exact expL_01 _ 1 (.inr rfl) b (List.mem_of_mem_tail (mem_evens _ _ h1))
theorem far_near {u s : Int} (hs : 2 * s < u) (hs0 : 0 ≤ s) : ∀ (bs ts : List Int), (∀ b ∈ bs, b = 0 ∨ b = 1) → near s (farL u bs) ts → byL (4 * u) (evens ts.tail) = bs
  | [], ts, _, h => by
    have := near_len h
    cases ts with
    | nil => rfl
    | cons t r =>
      cases r with
      | nil => rfl
      | cons => simp [farL] at this
  | b :: bs, ts, hb, h => by
    have h1 := hb b List.mem_cons_self
    rw [farL] at h
    cases ts with
    | nil => exact h.elim
    | cons t1 ts =>
      cases ts with
      | nil => exact h.2.elim
      | cons t2 ts =>
        have ih := far_near hs hs0 bs ts (fun x hx => hb x (List.mem_cons_of_mem _ hx)) h.2.2
        have h2 := h.2.1
        have hne : ts ≠ [] := fun z => by
          have := near_len h.2.2
          rw [z, far_len] at this
          simp at this
        obtain ⟨t3, ts', rfl⟩ : ∃ t3 ts', ts = t3 :: ts' := by
          cases ts with
          | nil => exact absurd rfl hne
          | cons a b => exact ⟨a, b, rfl⟩
        show byL (4 * u) (evens (t2 :: t3 :: ts')) = b :: bs
        show (if 4 * u < 2 * t2 then 1 else 0) :: byL (4 * u) (evens ts') = b :: bs
        rw [show byL (4 * u) (evens ts') = bs from ih]
        congr 1
        rcases h1 with rfl | rfl
        · rw [if_neg (by omega)]
        · rw [if_pos (by omega)]
theorem wide_near {u s : Int} (hs : 2 * s < u) (hs0 : 0 ≤ s) : ∀ (bs ts : List Int), (∀ b ∈ bs, b = 0 ∨ b = 1) → near s (wideL u bs) ts → byL (3 * u) (evens ts) = bs
  | [], ts, _, h => by
    have := near_len h
    cases ts with
    | nil => rfl
    | cons t r => simp [wideL] at this
  | [b], ts, hb, h => by
    have h1 := hb b List.mem_cons_self
    rw [wideL] at h
    cases ts with
    | nil => exact h.elim
    | cons t1 ts =>
      cases ts with
      | cons => exact h.2.elim
      | nil =>
        have h2 := h.1
        show [if 3 * u < 2 * t1 then (1 : Int) else 0] = [b]
        congr 1
        rcases h1 with rfl | rfl
        · rw [if_neg (by omega)]
        · rw [if_pos (by omega)]
  | b :: c :: bs, ts, hb, h => by
    have h1 := hb b List.mem_cons_self
    rw [wideL] at h
    cases ts with
    | nil => exact h.elim
    | cons t1 ts =>
      cases ts with
      | nil => exact h.2.elim
      | cons t2 ts =>
        have ih := wide_near hs hs0 (c :: bs) ts (fun x hx => hb x (List.mem_cons_of_mem _ hx)) h.2.2
        have h2 := h.1
        show (if 3 * u < 2 * t1 then 1 else 0) :: byL (3 * u) (evens ts) = b :: c :: bs
        rw [ih]
        congr 1
        rcases h1 with rfl | rfl
        · rw [if_neg (by omega)]
        · rw [if_pos (by omega)]
theorem turn_near {u s : Int} (hs : 2 * s < u) (hs0 : 0 ≤ s) : ∀ (q ts : List Int) (last : Int), (last = 0 ∨ last = 1) → (∀ b ∈ q, b = 0 ∨ b = 1) → near s (turnL u last q) ts → expL u last ts = last :: halvesL q
  | [], ts, last, hl, _, h => by
    rw [turnL] at h
    cases ts with
    | nil => exact h.elim
    | cons t ts =>
      cases ts with
      | cons => exact h.2.elim
      | nil =>
        have h1 := h.1
        rw [expL, if_neg (by omega)]
        rfl
  | b :: q, ts, last, hl, hb, h => by
    have h1 := hb b List.mem_cons_self
    rw [turnL] at h
    by_cases hbl : b = last
    · rw [if_pos hbl] at h
      cases ts with
      | nil => exact h.elim
      | cons t1 ts =>
        cases ts with
        | nil => exact h.2.elim
        | cons t2 ts =>
          have ih := turn_near hs hs0 q ts b h1 (fun x hx => hb x (List.mem_cons_of_mem _ hx)) h.2.2
          have g1 := h.1
          have g2 := h.2.1
          rw [expL, if_neg (by omega), expL, if_neg (by omega), show 1 - (1 - last) = b by omega, ih, halvesL, hbl]
          rfl
    · rw [if_neg hbl] at h
      cases ts with
      | nil => exact h.elim
      | cons t1 ts =>
        have ih := turn_near hs hs0 q ts b h1 (fun x hx => hb x (List.mem_cons_of_mem _ hx)) h.2
        have g1 := h.1
        rw [expL, if_pos (by omega), show 1 - last = b by omega, ih, halvesL, show 1 - b = last by omega]
        rfl
theorem evens_halves : ∀ q : List Int, evens (halvesL q).tail = q
  | [] => rfl
  | [b] => rfl
  | b :: c :: q => by
    have ih := evens_halves (c :: q)
    show b :: evens (c :: halvesL q) = b :: c :: q
    rw [show evens (c :: halvesL q) = c :: q from ih]
theorem some_near {way : Str} {head gap u s : Int} (hs : 2 * s < u) (hs0 : 0 ≤ s) {bs row : List Int} (hb : ∀ b ∈ bs, b = 0 ∨ b = 1) (h : near s (flashL way head gap u bs) row) : someL way u row = bs := by
  unfold flashL at h
  cases row with
  | nil => exact h.elim
  | cons t1 row =>
    cases row with
    | nil => exact h.2.elim
    | cons t2 ts =>
      have h2 := h.2.2
      unfold timesL at h2
      unfold someL
      show (if (way == "far") = true then byL (4 * u) (evens ts.tail) else if (way == "wide") = true then byL (3 * u) (evens ts) else ((evens (expL u 1 ts).tail).drop 1).dropLast) = bs
      by_cases hf : (way == "far") = true
      · rw [if_pos hf] at h2 ⊢
        exact far_near hs hs0 bs ts hb h2
      · rw [if_neg hf] at h2 ⊢
        by_cases hw : (way == "wide") = true
        · rw [if_pos hw] at h2 ⊢
          exact wide_near hs hs0 bs ts hb h2
        · rw [if_neg hw] at h2 ⊢
          cases ts with
          | nil => exact h2.elim
          | cons t ts =>
            have g1 := h2.1
            have hq : ∀ b ∈ bs ++ [1], b = 0 ∨ b = 1 := fun b hb2 => by
              rcases List.mem_append.mp hb2 with z | z
              · exact hb b z
              · exact .inr (by simpa using z)
            have e := turn_near hs hs0 (bs ++ [1]) ts 0 (.inl rfl) hq h2.2
            rw [expL, if_neg (by omega), show (1 : Int) - 1 = 0 from rfl, e]
            show (List.drop 1 (evens (halvesL (0 :: (bs ++ [1]))).tail)).dropLast = bs
            rw [evens_halves]
            show (bs ++ [1]).dropLast = bs
            rw [List.dropLast_concat]
theorem heard_iff {way : Str} {head gap u s : Int} {k : Nat} {low : Bool} (hs : 2 * s < u) (hs0 : 0 ≤ s) {row : List Int} {x : Int} : heardL way head gap u k low s row = some x ↔ (0 ≤ x ∧ x < 2 ^ k) ∧ near s (flashL way head gap u (bitsM low k x)) row := by
  constructor
  · intro h
    unfold heardL nearL at h
    by_cases hl : (someL way u row).length = k
    · rw [if_pos hl] at h
      dsimp only at h
      have h01 := someL_01 (way := way) (u := u) (row := row)
      have hx : 0 ≤ numM low (someL way u row) ∧ numM low (someL way u row) < 2 ^ k := by
        unfold numM
        split
        · rw [← hl]; exact numL_lt _ h01
        · rw [← hl, ← List.length_reverse]; exact numL_lt _ fun b hb => h01 b (List.mem_reverse.mp hb)
      cases hof : offL (flashL way head gap u (bitsM low k (numM low (someL way u row)))) row with
      | none => rw [hof] at h; exact nomatch h
      | some m =>
        rw [hof] at h
        dsimp only at h
        by_cases hm : s < m
        · rw [if_pos hm] at h; exact nomatch h
        · rw [if_neg hm] at h
          cases h
          exact ⟨hx, (off_near hs0).mp ⟨m, hof, by omega⟩⟩
    · rw [if_neg hl] at h
      exact nomatch h
  · rintro ⟨⟨h1, h2⟩, h3⟩
    have e := some_near hs hs0 (bitsM_01 low k x) h3
    unfold heardL nearL
    rw [e, if_pos (bitsM_len low k x)]
    dsimp only
    rw [numM_bitsM low k x h1 h2]
    obtain ⟨m, hm, hms⟩ := (off_near hs0).mpr h3
    rw [hm]
    dsimp only
    rw [if_neg (by omega)]
def oI : Option Int → D
  | none => .non
  | some x => .int x
theorem flash_inj {way : Str} {head gap u : Int} {k : Nat} {low : Bool} {x y : Int} (hu : 0 < u) (hx : 0 ≤ x) (hx2 : x < 2 ^ k) (hy : 0 ≤ y) (hy2 : y < 2 ^ k) (h : flashL way head gap u (bitsM low k x) = flashL way head gap u (bitsM low k y)) : x = y := by
  have e1 := some_near (way := way) (head := head) (gap := gap) (u := u) (s := 0) (by omega) (by omega) (bitsM_01 low k x) (near_self (by omega) _)
  have e2 := some_near (way := way) (head := head) (gap := gap) (u := u) (s := 0) (by omega) (by omega) (bitsM_01 low k y) (near_self (by omega) _)
  rw [h, e2] at e1
  exact bitsM_inj low hx hx2 hy hy2 e1.symm
theorem cut_lm {α : Type} {xs : List α} : cutL xs (some 1) (some (-1)) = (xs.drop 1).dropLast := by
  unfold cutL HT.sIx
  dsimp only
  rw [if_pos (show (-1 : Int) < 0 by decide), if_neg (show ¬ (1 : Int) < 0 by decide), List.dropLast_eq_take, List.length_drop]
  rw [show (1 : Int).toNat = 1 from rfl]
  cases xs with
  | nil => rfl
  | cons x r =>
    rw [show min 1 (x :: r).length = 1 by rw [List.length_cons]; omega]
    congr 1
    rw [List.length_cons]
    omega
section
variable {i j : Int} {a : Bool} {s : Str} {xs : List D} {o : Option Int}
theorem is_nn : dCmp .Is .non .non = .ok (.bl true) := rfl
theorem is_in : dCmp .Is (.int i) .non = .ok (.bl false) := rfl
theorem isn_nn : dCmp .IsNot .non .non = .ok (.bl false) := rfl
theorem isn_in : dCmp .IsNot (.int i) .non = .ok (.bl true) := rfl
theorem is_on : dCmp .Is (oI o) .non = .ok (.bl o.isNone) := by cases o <;> rfl
theorem isn_on : dCmp .IsNot (oI o) .non = .ok (.bl o.isSome) := by cases o <;> rfl
theorem sh_oI {n : Nat} : shD n (oI o) = true := by cases o <;> cases n <;> rfl
theorem deq_nn : deq .non .non = true := by unfold deq; rw [toPy, PyData.eqv]
theorem deq_ni : deq .non (.int i) = false := by unfold deq; rw [toPy, toPy, PyData.eqv]
theorem deq_in : deq (.int i) .non = false := by unfold deq; rw [toPy, toPy, PyData.eqv]
theorem deq_oi : deq (oI o) (.int i) = decide (o = some i) := by
  cases o with
  | none =>
    show deq .non (.int i) = _
    rw [deq_ni]
    exact (decide_eq_false fun z => nomatch z).symm
  | some x =>
    show deq (.int x) (.int i) = _
    rw [deq_ii]
    exact decide_eq_decide.mpr ⟨fun z => by rw [z], fun z => Option.some.inj z⟩
theorem deq_oo {p : Option Int} : deq (oI o) (oI p) = decide (o = p) := by
  cases p with
  | some x => exact deq_oi
  | none =>
    cases o with
    | none => exact deq_nn.trans (decide_eq_true rfl).symm
    | some y => exact deq_in.trans (decide_eq_false fun z => nomatch z).symm
theorem oI_s : oI (some i) = .int i := rfl
theorem oI_n : oI none = .non := rfl
end
theorem zipL_ints : ∀ a b : List Int, zipL (a.map D.int) (b.map D.int) = (a.zip b).map fun p => D.tup [.int p.1, .int p.2]
  | [], _ => by simp [zipL]
  | _ :: _, [] => by simp [zipL]
  | x :: a, y :: b => by
    show .tup [.int x, .int y] :: zipL (a.map D.int) (b.map D.int) = _
    rw [zipL_ints a b]
    rfl
theorem zipL_le : ∀ a b : List D, (zipL a b).length ≤ a.length
  | [], _ => Nat.zero_le _
  | _ :: _, [] => Nat.zero_le _
  | _ :: a, _ :: b => Nat.succ_le_succ (zipL_le a b)
def d2 (f : Int → Int → Int) : D → D
  | .tup [.int x, .int y] => .int (f x y)
  | d => d
theorem zip_map (f : Int → Int → Int) (a b : List Int) : (zipL (a.map D.int) (b.map D.int)).map (d2 f) = (List.zipWith f a b).map D.int := by
  rw [zipL_ints, List.map_map]
  induction a generalizing b with
  | nil => rfl
  | cons x a ih =>
    cases b with
    | nil => rfl
    | cons y b =>
      exact congrArg (List.cons _) (ih b)
theorem zipL_mem {a b : List Int} {d : D} (h : d ∈ zipL (a.map D.int) (b.map D.int)) : ∃ x y, x ∈ a ∧ y ∈ b ∧ d = .tup [.int x, .int y] := by
  rw [zipL_ints] at h
  obtain ⟨p, hp, rfl⟩ := List.mem_map.mp h
  obtain ⟨x, y⟩ := p
  have := List.of_mem_zip hp
  exact ⟨x, y, this.1, this.2, rfl⟩
theorem dI_ints (f : Int → Int) (a : List Int) : (a.map D.int).map (dI f) = (a.map f).map D.int := by
  rw [List.map_map, List.map_map]
  rfl
theorem maxD_bi {l : List Int} (h : l ≠ []) : dBi .max [.lst (l.map D.int)] = .ok (.int (maxD l)) := by
  cases l with
  | nil => exact absurd rfl h
  | cons x r => exact max_l
theorem evens_le {α : Type} : ∀ l : List α, (evens l).length ≤ l.length
  | [] => Nat.le_refl _
  | [_] => Nat.le_refl _
  | _ :: _ :: r => by
    have := evens_le r
    show (evens r).length + 1 ≤ r.length + 2
    omega
theorem exp_len (u : Int) : ∀ (ts : List Int) (v : Int), (expL u v ts).length ≤ 2 * ts.length
  | [], _ => Nat.le_refl _
  | t :: r, v => by
    have := exp_len u r (1 - v)
    rw [expL, List.length_append, List.length_cons]
    split
    · simp only [List.length_cons, List.length_nil]
      omega
    · simp only [List.length_cons, List.length_nil]
      omega
end LC

set_option Elab.async false
set_option linter.all false
set_option maxRecDepth 100000
set_option maxHeartbeats 4000000
namespace LC
open PySem L2
structure Mk where
  way : Str
  head : Int
  gap : Int
  unit : Int
  bits : Int
  low : Bool
  slip : Int
def Mk.d (m : Mk) : D := mkD m.way m.head m.gap m.unit m.bits m.low m.slip
structure Mk.Ok (m : Mk) : Prop where
  way : WayOk m.way
  bits1 : 1 ≤ m.bits
  bits2 : m.bits ≤ 1000
  unit1 : 2 ≤ m.unit
  unit2 : m.unit < 1000000
  slip0 : 0 ≤ m.slip
  slipu : 2 * m.slip < m.unit
def Mk.flash (m : Mk) (x : Int) : List Int := flashL m.way m.head m.gap m.unit (bitsM m.low m.bits.toNat x)
def Mk.heard (m : Mk) (row : List Int) : Option Int := heardL m.way m.head m.gap m.unit m.bits.toNat m.low m.slip row
theorem Mk.heard_iff {m : Mk} (h : m.Ok) {row : List Int} {x : Int} : m.heard row = some x ↔ (0 ≤ x ∧ x < 2 ^ m.bits.toNat) ∧ near m.slip (m.flash x) row := LC.heard_iff h.slipu h.slip0
def drawnV (a k : Int) : Int := (((a + 104729 * k + 17) * 69621 % 2147483647) * ((a + 104729 * k + 17) * 69621 % 2147483647) + 3 * ((a + 104729 * k + 17) * 69621 % 2147483647) + k) % 2147483629
end LC

set_option Elab.async false
set_option linter.all false
set_option maxRecDepth 100000
set_option maxHeartbeats 4000000
namespace LC
open PySem L2
section
variable {c : Cf} {wf : Nat} {r body : List S} {its : List D} {tg : Tg} {ρ : Rho} (P : List D → Rho → Prop) (h0 : P its ρ) (h1 : ∀ x q ρ, P (x :: q) ρ → ∃ ρ', forFn c wf tg body x ρ = .ok (.nx ρ') ∧ P q ρ')
include h0 h1
end
end LC

set_option Elab.async false
set_option linter.all false
set_option maxRecDepth 100000
set_option maxHeartbeats 4000000
namespace LC
open PySem L2
theorem s_far_wide : (("far" : Str) == ("wide" : Str)) = false := by decide +kernel
theorem s_far_turn : (("far" : Str) == ("turn" : Str)) = false := by decide +kernel
theorem s_wide_far : (("wide" : Str) == ("far" : Str)) = false := by decide +kernel
theorem s_wide_turn : (("wide" : Str) == ("turn" : Str)) = false := by decide +kernel
theorem s_turn_far : (("turn" : Str) == ("far" : Str)) = false := by decide +kernel
theorem s_turn_wide : (("turn" : Str) == ("wide" : Str)) = false := by decide +kernel
end LC

set_option Elab.async false
set_option linter.all false
set_option maxRecDepth 100000
set_option maxHeartbeats 4000000
namespace LC
open PySem L2
def Mk.L (most : Int) (m : Mk) : Prop := MkOk most m.way m.head m.gap m.unit m.bits m.slip
theorem Mk.L.ok {most : Int} {m : Mk} (h : m.L most) (hm : most ≤ 1000) : m.Ok := by
  obtain ⟨h1, h2, h3, h4, h5, h6, h7, h8, h9, h10, h11, h12, h13⟩ := h
  exact ⟨h1, h8, by omega, h6, by omega, h10, h11⟩
def pD (p : Int × Int) : D := .tup [.int p.1, .int p.2]
theorem sh_pairs {n : Nat} : ∀ l : List (Int × Int), (l.map pD).all (shD (n + 1)) = true
  | [] => rfl
  | p :: r => by
    rw [List.map_cons, List.all_cons, sh_pairs r]
    unfold pD
    rw [sh_tup, List.all_cons, List.all_cons, sh_int, sh_int]
    rfl
theorem sh8_pairs (l : List (Int × Int)) : (l.map pD).all (shD 8) = true := sh_pairs l
theorem deq_pp {p q : Int × Int} : deq (pD p) (pD q) = decide (p = q) := by
  unfold pD
  rw [deq_tt, deqL_cons, deqL_cons, deqL_nil, deq_ii, deq_ii, Bool.and_true, ← Bool.decide_and]
  exact decide_eq_decide.mpr ⟨fun h => Prod.ext h.1 h.2, fun h => by rw [h]; exact ⟨rfl, rfl⟩⟩
theorem deqL_pairs : ∀ l m : List (Int × Int), deqL (l.map pD) (m.map pD) = decide (l = m)
  | [], [] => deqL_nil
  | [], _ :: _ => deqL_nc
  | _ :: _, [] => deqL_cn
  | x :: r, y :: q => by
    rw [List.map_cons, List.map_cons, deqL_cons, deq_pp, deqL_pairs r q, ← Bool.decide_and]
    exact decide_eq_decide.mpr (by simp)
end LC

set_option Elab.async false
set_option linter.all false
set_option maxRecDepth 100000
set_option maxHeartbeats 4000000
namespace LC
open PySem L2
def rowD (r : List Int) : D := .tup (r.map D.int)
theorem sh_rows {n : Nat} : ∀ l : List (List Int), (l.map rowD).all (shD (n + 1)) = true
  | [] => rfl
  | p :: r => by
    rw [List.map_cons, List.all_cons, sh_rows r]
    unfold rowD
    rw [sh_tup, sh_ints]
    rfl
theorem sh8_rows (l : List (List Int)) : (l.map rowD).all (shD 8) = true := sh_rows l
theorem sh8_row (l : List Int) : shD 8 (rowD l) = true := sh_ints l
theorem sh9_row (l : List Int) : shD 9 (rowD l) = true := sh_ints l
theorem deq_rr {p q : List Int} : deq (rowD p) (rowD q) = decide (p = q) := by
  unfold rowD
  rw [deq_tt, deqL_ints]
theorem deqL_rows : ∀ l m : List (List Int), deqL (l.map rowD) (m.map rowD) = decide (l = m)
  | [], [] => deqL_nil
  | [], _ :: _ => deqL_nc
  | _ :: _, [] => deqL_cn
  | x :: r, y :: q => by
    rw [List.map_cons, List.map_cons, deqL_cons, deq_rr, deqL_rows r q, ← Bool.decide_and]
    exact decide_eq_decide.mpr (by simp)
end LC

set_option Elab.async false
set_option linter.all false
set_option maxRecDepth 100000
set_option maxHeartbeats 4000000
namespace LC
open PySem L2
def dN (F : Nat → D) : D → D
  | .int i => F i.toNat
  | d => d
theorem rg_mapN (F : Nat → D) (k : Nat) : (rgL 0 k).map (dN F) = (List.range k).map F := by
  unfold rgL
  rw [List.map_map]
  apply List.map_congr_left
  intro i _
  show F ((0 : Int) + i).toNat = F i
  rw [show ((0 : Int) + i).toNat = i by omega]
theorem sh9_p (p : Int × Int) : shD 9 (pD p) = true := by
  unfold pD
  rw [sh9t, List.all_cons, List.all_cons, sh_int, sh_int]
  rfl
theorem len_r (s : List Int) : dBi .len [rowD s] = .ok (.int s.length) := by
  show R.ok (D.int ((s.map D.int).length : Nat)) = _
  rw [List.length_map]
end LC

set_option Elab.async false
set_option linter.all false
set_option maxRecDepth 100000
set_option maxHeartbeats 4000000
namespace LC
open PySem L2
end LC

set_option Elab.async false
set_option linter.all false
set_option maxRecDepth 100000
set_option maxHeartbeats 4000000
namespace LC
open PySem L2
def Mk.wide (m : Mk) : Mk := { m with slip := min m.head (min m.gap ((m.unit + 1) / 2)) - 1 }
end LC

set_option Elab.async false
set_option linter.all false
set_option maxRecDepth 100000
set_option maxHeartbeats 4000000
namespace LC
open PySem L2
def cov (l : List (Int × Int)) (t : Int) : Prop := ∃ p ∈ l, p.1 ≤ t ∧ t < p.2
end LC

set_option Elab.async false
set_option linter.all false
set_option maxRecDepth 100000
set_option maxHeartbeats 4000000
namespace LC
open PySem L2
def lc (f : Int → Bool) : Nat → Int
  | 0 => 0
  | n + 1 => lc f n + (if f n = true then 1 else 0)
end LC

set_option Elab.async false
set_option linter.all false
set_option maxRecDepth 100000
set_option maxHeartbeats 4000000
namespace LC
open PySem L2
end LC

set_option Elab.async false
set_option linter.all false
set_option maxRecDepth 100000
set_option maxHeartbeats 4000000
namespace LC
open PySem L2
end LC

set_option Elab.async false
set_option linter.all false
set_option maxRecDepth 100000
set_option maxHeartbeats 4000000
namespace LC
open PySem L2
end LC

set_option Elab.async false
set_option linter.all false
set_option maxRecDepth 100000
set_option maxHeartbeats 4000000
namespace LC
open PySem L2
section
variable (c : Cf) (ρ : Rho)
theorem ev_mth (m : Mth) (o : E) (es : List E) : ev c (.mth m o es) ρ = b1 (fun x => bs (dMth m x) (evs c es ρ)) (ev c o ρ) := by
  rw [ev]
  cases ev c o ρ with
  | ok x => cases evs c es ρ <;> rfl
  | exc => rfl
  | bad => rfl
theorem ev_rpl (o : E) (x y : Str) : ev c (.rpl o x y) ρ = b1 (fun v => dRpl v (c.glb.lookup x) (c.glb.lookup y)) (ev c o ρ) := by
  rw [ev]; cases ev c o ρ <;> rfl
theorem ev_kin (neg : Bool) (a : E) (x : Str) : ev c (.kin neg a x) ρ = b1 (fun v => dKin neg v (c.dct.lookup x)) (ev c a ρ) := by
  rw [ev]; cases ev c a ρ <;> rfl
theorem ev_kget (x : Str) (a : E) : ev c (.kget x a) ρ = b1 (fun v => dKget v (c.dct.lookup x)) (ev c a ρ) := by
  rw [ev]; cases ev c a ρ <;> rfl
theorem ev_sst (a : E) : ev c (.sst a) ρ = b1 dSst (ev c a ρ) := by
  rw [ev]; cases ev c a ρ <;> rfl
theorem ev_lss (a : E) : ev c (.lss a) ρ = b1 dLss (ev c a ρ) := by
  rw [ev]; cases ev c a ρ <;> rfl
end
structure Tms (s : Int) (row T : List Int) : Prop where
  gap : T.Pairwise fun a b => a + 2 * s < b
  beg : ∀ x ∈ T, x - s ∈ row
  cov : ∀ t ∈ row, ∃ x ∈ T, x - t ≤ s ∧ t - x ≤ s
section
variable {s : Int} {row T : List Int}
theorem Tms.lt (h : Tms s row T) (hs : 0 ≤ s) : T.Pairwise (· < ·) := h.gap.imp fun {a b} z => by omega
theorem Tms.nd (h : Tms s row T) (hs : 0 ≤ s) : T.Nodup := lt_nodup (h.lt hs)
end
theorem few_times {s : Int} (hs : 0 ≤ s) : ∀ {T : List Int} {lo hi : Int}, T.Pairwise (fun a b => a + 2 * s < b) → (∀ x ∈ T, lo ≤ x - s ∧ x - s ≤ hi) → lo ≤ hi → lo + (2 * s + 1) * ((T.length : Int) - 1) ≤ hi
  | [], lo, hi, _, _, h => by
    show lo + (2 * s + 1) * (0 - 1) ≤ hi
    omega
  | x :: r, lo, hi, hp, hb, h => by
    have hp' := List.pairwise_cons.mp hp
    have hx := hb x List.mem_cons_self
    by_cases hr : r = []
    · subst hr
      show lo + (2 * s + 1) * (1 - 1) ≤ hi
      omega
    · obtain ⟨z, hz⟩ := List.exists_mem_of_ne_nil r hr
      have hz1 := hp'.1 z hz
      have hz2 := hb z (List.mem_cons_of_mem _ hz)
      have := few_times hs (T := r) (lo := x - s + (2 * s + 1)) (hi := hi) hp'.2 (fun y hy => by
        have h1 := hp'.1 y hy
        have h2 := hb y (List.mem_cons_of_mem _ hy)
        omega) (by omega)
      rw [List.length_cons]
      have e : (((r.length + 1 : Nat) : Int) - 1) = ((r.length : Int) - 1) + 1 := by omega
      rw [e, Int.mul_add]
      omega
theorem maxD_bil {l : List Int} (h : l ≠ []) : dBi .max [.lst (l.map D.int)] = .ok (.int (maxD l)) := by
  cases l with
  | nil => exact absurd rfl h
  | cons x r => exact max_l
end LC

set_option Elab.async false
set_option linter.all false
set_option maxRecDepth 100000
set_option maxHeartbeats 4000000
namespace LC
open PySem L2
def nN (t : Int) : List Nat := TL.numL t.toNat
theorem nN_dig (t : Int) : ∀ c ∈ nN t, 48 ≤ c ∧ c ≤ 57 := TL.numL_digits t.toNat
theorem nN_ne (t : Int) : nN t ≠ [] := TL.numL_ne _
section
variable {way : Str} {head gap unit bits slip : Int} {low : Bool}
end
end LC

set_option Elab.async false
set_option linter.all false
set_option maxRecDepth 100000
set_option maxHeartbeats 4000000
namespace LC
open PySem L2
section
variable {c : Cf} {wf : Nat} {i : Nat} {tg : Tg} {k : Src} {ss : List E} {cond e : E} {r : List S} {ρ ρ2 : Rho}
end
end LC

set_option Elab.async false
set_option linter.all false
set_option maxRecDepth 100000
set_option maxHeartbeats 4000000
namespace LC
open PySem PySem.Spec PyProof.Rows L2
section
variable {X : Cx} {W : WX} {pins : List (Addr × Obj)} {σ : L2.St} {H3 H1 H2 : Hp} {s3 t s' : Shared} {fp : List Addr} {C a : Addr} {B hh : Heap} {cls : Value} {d : Option Addr}
end
section
variable {M : Model} {A : Around} {E : Value → Shared → Prop} {s : Shared} {env : Env}
end
section
variable {X : Cx}
end
section
variable {c : Cf} {K : PySem.W.Frag} {M : List Nat}
end
section
variable {p : Pg} {n : Nat} {N : List Str} {xl cl : List Str} {W : WX}
end
section
variable {P : Program} {w : World} {K : PySem.W.Frag} {mg : Str → Option Value} {base : Heap} {p : Pg} {xl cl : List Str}
end
end LC

set_option Elab.async false
set_option linter.all false
set_option maxRecDepth 100000
set_option maxHeartbeats 4000000
namespace LC
open PySem PySem.Spec PyProof.Rows L2 LamX
section
variable {X : Cx}
end
end LC

set_option Elab.async false
set_option linter.all false
set_option maxRecDepth 100000
set_option maxHeartbeats 4000000
namespace LC
open PySem PySem.Spec PyProof.Rows L2 LamX
section
variable {X : Cx} {T : List (Addr × Str)} {c : Cf} {wf : Nat} {st : Stmt} {sts : List Stmt}
end
section
variable {p : Pg} {n : Nat} {N : List Str} {xl : List Str}
end
end LC

set_option Elab.async false
set_option linter.all false
set_option maxRecDepth 100000
set_option maxHeartbeats 4000000
namespace LC
open PySem PySem.Spec PyProof.Rows L2 LamX
section
variable {p : Pg} {n : Nat} {N : List Str} {xl : List Str} {sc : Scope} {X : Cx}
variable {P : Addr}
end
section
variable {P : Program} {w : World} {K : PySem.W.Frag} {mg : Str → Option Value} {base : Heap} {p : Pg} {xl : List Str}
end
end LC

set_option Elab.async false
set_option linter.all false
set_option maxRecDepth 100000
set_option maxHeartbeats 4000000
namespace LC
open PySem L2
section
variable {c : Cf} {wf : Nat} {ρ : Rho} {i : Nat} {r : List S} {d : D}
end
end LC

set_option Elab.async false
set_option linter.all false
set_option maxRecDepth 100000
set_option maxHeartbeats 4000000
namespace LC
open PySem L2
end LC
namespace LC
end LC
namespace LC
open PySem L2
end LC
namespace LC
end LC

set_option Elab.async false
set_option linter.all false
set_option maxRecDepth 100000
set_option maxHeartbeats 4000000
namespace LC
open PySem PySem.Spec PyProof.Rows L2
def Gh (X : Cx) (σ σ' : L2.St) : Prop := σ'.length = σ.length ∧ ∀ (i : Nat) (x : Str), X.N[i]? = some x → Vis X.env.scope x → σ'[i]? = σ[i]?
section
variable {X : Cx} {e : Expr} {es : List Expr} {st : Stmt} {sts : List Stmt} {σ σ' σ2 : L2.St} {H : Hp}
theorem Gh.refl : Gh X σ σ := ⟨rfl, fun _ _ _ _ => rfl⟩
theorem Gh.symm (h : Gh X σ σ') : Gh X σ' σ := ⟨h.1.symm, fun i x e1 e2 => (h.2 i x e1 e2).symm⟩
theorem Gh.trans (h : Gh X σ σ') (h2 : Gh X σ' σ2) : Gh X σ σ2 := ⟨h2.1.trans h.1, fun i x e1 e2 => (h2.2 i x e1 e2).trans (h.2 i x e1 e2)⟩
theorem Gh.set {i : Nat} {o : Option V} (h : Gh X σ σ') : Gh X (σ.set i o) (σ'.set i o) := by
  refine ⟨by rw [List.length_set, List.length_set, h.1], fun j x e1 e2 => ?_⟩
  rw [List.getElem?_set, List.getElem?_set, h.2 j x e1 e2, h.1]
end
def Oh (u : HO) : Prop := (∃ ws, u = .lst ws) ∨ ∃ kvs, u = .dT kvs
def OwnU (q : Nat) (us : List V) (x : Addr) : Prop := ∃ k, isL q k = true ∧ us[k]? = some (.ref x)
section
variable {K : PySem.W.Frag} {O : Addr → Prop} {G H H' : Hp} {M : List Nat} {ρ ρ' : Rho} {σ : L2.St} {m q i g : Nat} {gs : List Nat} {us us' : List V} {fs' : List D} {a C dx dx' : Addr}
end
end LC

set_option Elab.async false
set_option linter.all false
set_option maxRecDepth 100000
set_option maxHeartbeats 4000000
namespace LC
open PySem PySem.Spec PyProof.Rows L2
section
variable {X : Cx} {E : XK} {c : Cf} {M : List Nat}
end
end LC

set_option Elab.async false
set_option linter.all false
set_option maxRecDepth 100000
set_option maxHeartbeats 4000000
namespace LC
open PySem PySem.Spec PyProof.Rows L2
def Oe (nw : Bool) (O O' : Addr → Prop) : Prop := (∀ b, O b → O' b) ∧ (nw = false → O' = O)
theorem Oe.refl {nw : Bool} {O : Addr → Prop} : Oe nw O O := ⟨fun _ z => z, fun _ => rfl⟩
theorem Oe.trans {nw : Bool} {O O' O2 : Addr → Prop} (h : Oe nw O O') (h2 : Oe nw O' O2) : Oe nw O O2 := ⟨fun b z => h2.1 b (h.1 b z), fun e => (h2.2 e).trans (h.2 e)⟩
section
variable {X : Cx} {E : XK} {nw : Bool} {Mr : List Nat} {c : Cf} {wf : Nat} {M M1 M2 M' : List Nat} {st : Stmt} {sts : List Stmt}
end
end LC

set_option Elab.async false
set_option linter.all false
set_option maxRecDepth 100000
set_option maxHeartbeats 4000000
namespace LC
open PySem PySem.Spec PyProof.Rows L2
theorem FRp.keep {K : PySem.W.Frag} {A A' : Addr → Prop} {q : Nat} {H H' : Hp} {fs : List D} {us : List V} (h : FRp K A q H fs us) (k : Keep A A' H H') (hl : ∀ x u, OwnU q us x → H x = some u → H' x = some u) (ho : ∀ x, OwnU q us x → A' x) : FRp K A' q H' fs us := by
  refine ⟨h.1, fun j d v e1 e2 => ?_⟩
  have := h.2 j d v e1 e2
  cases hL : isL q j with
  | true =>
    rw [hL] at this
    obtain ⟨b, u, q2, q3, q4, q5⟩ := this
    have hb : OwnU q us b := ⟨j, hL, by rw [e2, q2]⟩
    exact ⟨b, u, q2, hl b u hb q3, ho b hb, Ow.keep q5 k⟩
  | false =>
    rw [hL] at this
    exact k.rp _ _ this
section
variable {X : Cx} {E : XK} {nw : Bool} {Mr : List Nat} {c : Cf} {wf : Nat} {M M1 M2 M' : List Nat} {st : Stmt} {sts : List Stmt} {m q i g k : Nat} {f : Str}
end
end LC

set_option Elab.async false
set_option linter.all false
set_option maxRecDepth 100000
set_option maxHeartbeats 4000000
namespace LC
open PySem PySem.Spec PyProof.Rows L2
section
variable {K : PySem.W.Frag} {O O' : Addr → Prop} {H : Hp}
end
section
variable {K : PySem.W.Frag} {O : Addr → Prop} {G H H' : Hp} {M : List Nat} {ρ ρ' : Rho} {σ : L2.St} {m q i g : Nat} {us' : List V} {fs' : List D} {x C dx : Addr}
end
section
variable {X : Cx} {E E' : XK} {nw : Bool} {Mr : List Nat} {c : Cf} {wf : Nat} {M M' : List Nat} {st : Stmt} {m q i g : Nat} {mt : Str} {C : Addr}
end
end LC
namespace LC
open PySem PySem.Spec PyProof.Rows L2
theorem valV_some {kvs : List (List Key × V)} {k : List Key} {v : V} (h : valV kvs k = some v) : (k, v) ∈ kvs := by
  unfold valV at h
  cases e : kvs.find? fun kv => decide (kv.1 = k) with
  | none =>
    rw [e] at h
    exact nomatch h
  | some p =>
    rw [e] at h
    have h1 := List.find?_some e
    have h2 := List.mem_of_find?_eq_some e
    have h3 : p.1 = k := of_decide_eq_true h1
    have h4 : p.2 = v := Option.some.inj h
    rw [← h3, ← h4]
    exact h2
theorem valV_none {kvs : List (List Key × V)} {k : List Key} (h : valV kvs k = none) : k ∉ kvs.map (·.1) := fun z => by
  obtain ⟨p, hp, rfl⟩ := List.mem_map.mp z
  unfold valV at h
  cases e : kvs.find? fun kv => decide (kv.1 = p.1) with
  | none =>
    have := List.find?_eq_none.mp e p hp
    simp at this
  | some q =>
    rw [e] at h
    exact nomatch h
theorem MemoE.get {s : Str} {kvs : List (List Key × V)} {i j : Nat} {v : V} (h : MemoE s kvs) (hv : valV kvs [.inl (i : Int), .inl (j : Int)] = some v) : v = .str (memG s i j) := by
  obtain ⟨i', j', _, _, e, e2⟩ := h.1 _ _ (valV_some hv)
  injection e with e1 e3
  injection e3 with e3 _
  injection e1 with e1
  injection e3 with e3
  rw [e2, e1, e3]
theorem MemoE.put {s : Str} {kvs : List (List Key × V)} {i j : Nat} (h : MemoE s kvs) (hn : valV kvs [.inl (i : Int), .inl (j : Int)] = none) (hi : i ≤ s.length) (hj : j ≤ s.length) : MemoE s (putK kvs [.inl (i : Int), .inl (j : Int)] (.str (memG s i j))) ∧ valV (putK kvs [.inl (i : Int), .inl (j : Int)] (.str (memG s i j))) [.inl (i : Int), .inl (j : Int)] = some (.str (memG s i j)) := by
  have hk := valV_none hn
  have e : putK kvs [.inl (i : Int), .inl (j : Int)] (.str (memG s i j)) = kvs ++ [([.inl (i : Int), .inl (j : Int)], .str (memG s i j))] := by
    unfold putK
    rw [if_neg]
    intro z
    obtain ⟨p, hp, hq⟩ := List.any_eq_true.mp z
    exact hk (by rw [← of_decide_eq_true hq]; exact List.mem_map_of_mem hp)
  rw [e]
  refine ⟨⟨fun k v hm => ?_, ?_, h.2.2⟩, ?_⟩
  · rcases List.mem_append.mp hm with z | z
    · exact h.1 k v z
    · rw [List.mem_singleton] at z
      cases z
      exact ⟨i, j, hi, hj, rfl, rfl⟩
  · rw [List.map_append, List.map_cons, List.map_nil, List.nodup_append]
    refine ⟨h.2.1, by simp, fun a ha b hb => ?_⟩
    rw [List.mem_singleton] at hb
    intro z
    rw [z, hb] at ha
    exact hk ha
  · unfold valV at hn ⊢
    rw [List.find?_append]
    cases e : kvs.find? fun kv => decide (kv.1 = [.inl (i : Int), .inl (j : Int)]) with
    | none => simp [List.find?_cons]
    | some q =>
      rw [e] at hn
      exact nomatch hn
end LC
namespace LC
open PySem PySem.Spec PyProof.Rows L2
theorem get_is {ρ : Rho} {i : Nat} {d : D} (h : get ρ i = .ok d) : ρ[i]? = some (some d) := by
  unfold get at h
  split at h
  · rename_i d' hd
    cases h
    exact hd
  · exact nomatch h
section
variable {K : PySem.W.Frag} {O : Addr → Prop} {G H : Hp} {M : List Nat} {ρ : Rho} {σ : L2.St}
end
section
variable {X : Cx} {E : XK} {nw : Bool} {Mr : List Nat} {c : Cf} {wf : Nat} {M M' M2 : List Nat}
end
end LC
namespace LC
open PySem PySem.Spec PyProof.Rows L2
section
variable {K : PySem.W.Frag} {O : Addr → Prop} {G H : Hp} {M : List Nat} {ρ : Rho} {σ : L2.St}
end
section
variable {X : Cx} {E : XK} {nw : Bool} {Mr : List Nat} {c : Cf} {wf : Nat} {M : List Nat}
end
end LC

set_option Elab.async false
set_option linter.all false
set_option maxRecDepth 100000
set_option maxHeartbeats 4000000
namespace LC
open PySem PySem.Spec PyProof.Rows L2
section
variable {p : Pg} {n : Nat} {N : List Str} {M : List Nat} {sc : Scope} {X : Cx} {E : XK} {cl : List Str} {nw : Bool} {Mr : List Nat}
end
end LC

set_option Elab.async false
set_option linter.all false
set_option maxRecDepth 100000
set_option maxHeartbeats 4000000
namespace LC
open PySem PySem.Spec PyProof.Rows L2
section
variable {K : PySem.W.Frag} {O : Addr → Prop} {G H H' : Hp} {a C dx : Addr} {ws us : List V} {ds fs : List D} {q np ns : Nat} {N : List Str}
open Classical in
end
end LC

set_option Elab.async false
set_option linter.all false
set_option maxRecDepth 100000
set_option maxHeartbeats 4000000
namespace LC
open PySem PySem.Spec PyProof.Rows L2
section
variable {P : Program} {w : World} {K : PySem.W.Frag} {mg : Str → Option Value} {base : Heap} {p : Pg} {cl : List Str}
end
end LC

set_option Elab.async false
set_option linter.all false
set_option maxRecDepth 100000
set_option maxHeartbeats 4000000
namespace LC
open PySem PySem.Spec PyProof.Rows L2
theorem putF_new {f : Str} {v : V} : ∀ {l : List Str} {us : List V}, us.length ≤ l.length → f ∉ l.take us.length → putF f v ((l.take us.length).zip us) = (l.take us.length ++ [f]).zip (us ++ [v])
  | l, [], _, _ => by
    rw [List.length_nil, List.take_zero]
    rfl
  | [], u :: us, h, _ => by
    rw [List.length_cons, List.length_nil] at h
    omega
  | x :: l, u :: us, h, hn => by
    rw [List.length_cons] at h hn ⊢
    rw [List.take_succ_cons] at hn ⊢
    rw [List.length_cons] at h
    have hx : x ≠ f := fun z => hn (by rw [z]; exact List.mem_cons_self)
    rw [List.zip_cons_cons, putF, if_neg hx, putF_new (Nat.le_of_succ_le_succ h) (fun z => hn (List.mem_cons_of_mem _ z))]
    rfl
theorem take_succ' {l : List Str} {k : Nat} {f : Str} (h : l[k]? = some f) : l.take (k + 1) = l.take k ++ [f] := by
  rw [List.take_succ, h]
  rfl
section
variable {K : PySem.W.Frag} {O : Addr → Prop} {H H' : Hp} {a : Addr}
end
def OU (O : Addr → Prop) (q : Nat) (us : List V) : Addr → Prop := fun x => O x ∨ OwnU q us x
structure InS (K : PySem.W.Frag) (q np ns : Nat) (O : Addr → Prop) (H0 : Hp) (a C : Addr) (ρ0 : Rho) (k : Nat) (fs : List D) (us : List V) (ρ : Rho) (σ : L2.St) (H : Hp) : Prop where
  ok : Ok K (OU O q us) [] ρ0 σ H
  s0 : σ[0]? = some (some (.ref a))
  ul : us.length = k
  fl : fs.length = k
  kl : k ≤ (flds q).length
  na : ¬ O a
  fr : ∀ x o, H0 x = some o → x ≠ a → H x = some o
  lo : ∀ i, 0 < i → i ≤ np → ρ[i]? = ρ0[i]?
  len : ns + (flds q).length ≤ ρ.length
  gs : ∀ (j : Nat) (d : D), fs[j]? = some d → ρ[ns + j]? = some (some d)
  val : ∀ (j : Nat) (d : D) (v : V), fs[j]? = some d → us[j]? = some v → FR K (OU O q us) H (isL q j) d v
  own : ∀ x, OwnU q us x → H0 x = none ∧ x ≠ a ∧ ∃ u, H x = some u ∧ Oh u
section
variable {K : PySem.W.Frag} {q np ns : Nat} {O : Addr → Prop} {H0 H H' : Hp} {a C : Addr} {ρ0 : Rho} {k : Nat} {fs : List D} {us : List V} {ρ : Rho} {σ : L2.St} {f : Str} {d : D} {v : V} {dx : Addr}
theorem InS.ext (h : InS K q np ns O H0 a C ρ0 k fs us ρ σ H) (s : Same H H') : InS K q np ns O H0 a C ρ0 k fs us ρ σ H' := by
  refine ⟨h.ok.ext s, h.s0, h.ul, h.fl, h.kl, h.na, fun x o hx hn => s _ _ (h.fr x o hx hn), h.lo, h.len, h.gs, fun j d v e1 e2 => (h.val j d v e1 e2).ext s, fun x hx => ?_⟩
  obtain ⟨o1, o2, ws, o3, o4⟩ := h.own x hx
  exact ⟨o1, o2, ws, s _ _ o3, o4⟩
theorem InS.put (h : InS K q np ns O H0 a C ρ0 k fs us ρ σ H) (hd : H a = some (.ins C dx (((flds q).take k).zip us))) (hf : (flds q)[k]? = some f) : putF f v (((flds q).take k).zip us) = ((flds q).take (k + 1)).zip (us ++ [v]) := by
  have hk : k < (flds q).length := some_lt hf
  have hnf : f ∉ (flds q).take us.length := fun z => by
    rw [h.ul] at z
    obtain ⟨j, hj⟩ := List.getElem?_of_mem z
    have hjk : j < k := by
      have := some_lt hj
      rw [List.length_take] at this
      omega
    rw [List.getElem?_take_of_lt hjk] at hj
    have := (List.getElem?_inj (some_lt hj) (flds_nd q)).mp (hj.trans hf.symm)
    omega
  have := putF_new (v := v) (l := flds q) (us := us) (by rw [h.ul]; omega) hnf
  rw [h.ul] at this
  rw [this, take_succ' hf]
end
section
variable {X : Cx} {c : Cf} {wf q np ns : Nat} {ρ0 : Rho}
end
section
variable {P : Program} {w : World} {K : PySem.W.Frag} {mg : Str → Option Value} {base : Heap} {p : Pg} {cl : List Str}
end
end LC

set_option Elab.async false
set_option linter.all false
set_option maxRecDepth 100000
set_option maxHeartbeats 4000000
namespace LC
open PySem PySem.Spec PyProof.Rows L2
section
variable {P : Program} {w : World} {K : PySem.W.Frag} {mg : Str → Option Value} {base : Heap} {p : Pg} {cl xl : List Str}
end
end LC

set_option Elab.async false
set_option linter.all false
set_option maxRecDepth 100000
set_option maxHeartbeats 4000000
namespace LC
open PySem PySem.Spec PyProof.Rows L2
section
variable {K : PySem.W.Frag} {mg : Str → Option Value} {p : Pg} {cl : List Str} {st : Stmt} {a C f : Addr} {fd : FuncData} {ps N : List Str}
end
end LC
namespace LC
open PySem
end LC

set_option Elab.async false
set_option linter.all false
set_option maxRecDepth 100000
set_option maxHeartbeats 4000000
namespace LC
open PySem PySem.Spec PyProof.Rows L2
section
variable {c : Cf} {wf i g : Nat} {gs : List Nat} {r a b : List T} {ρ ρ' : Rho} {d x y : D} {m : Str} {es : List E}
end
section
variable {c : Cf} {wf i j : Nat} {r : List S} {ρ : Rho} {a b : E} {d x y : D}
end
end LC

set_option Elab.async false
set_option linter.all false
set_option maxRecDepth 100000
set_option maxHeartbeats 4000000
namespace LC
open PySem PySem.Spec PyProof.Rows L2
inductive Wo where
  | up | down | again
def Wo.s : Wo → Str
  | .up => "up"
  | .down => "down"
  | .again => "again"
abbrev Ev := Int × Wo × (Int × Int)
def evD (e : Ev) : D := .tup [.int e.1, .str e.2.1.s, pD e.2.2]
def keyD : Option (Int × Int) → D
  | none => .non
  | some p => pD p
structure Hr where
  ticks : Int
  row : List Int
  dk : Int
  key : Option (Int × Int)
  ke : Int
  log : List Ev
def Hr.fs (h : Hr) (ms rest hold : D) : List D := [ms, rest, hold, .int h.ticks, rowD h.row, .int h.dk, keyD h.key, .int h.ke, .lst (h.log.map evD)]
def Hr.goOn (h : Hr) (hold t : Int) : Hr := match h.key with
  | none => { h with ticks := t }
  | some p => if h.ke + hold ≤ t then { h with ticks := t, key := none, log := h.log ++ [((h.ke + hold, Wo.up, p) : Ev)] } else { h with ticks := t }
def Hr.due (h : Hr) (hold t : Int) : Hr := match h.key with
  | none => h
  | some _ => if h.ke + hold < t then h.goOn hold t else h
end LC

set_option Elab.async false
set_option linter.all false
set_option maxRecDepth 100000
set_option maxHeartbeats 4000000
namespace LC
open PySem PySem.Spec PyProof.Rows L2
abbrev Pr := Int × Int
section
variable {T dk0 : Int} {key : Option Pr} {ke hold rest t : Int} {log : List Ev} {pre : List Int} {ms : List Mk}
end
theorem eq_same {d : D} (h : shD 9 d = true) : dCmp .Eq d d = .ok (.bl true) := by rw [eq_ok h h, deq_refl d 9 h]
theorem ne_same {d : D} (h : shD 9 d = true) : dCmp .NotEq d d = .ok (.bl false) := by rw [ne_ok h h, deq_refl d 9 h]; rfl
theorem lcGo_mapF {α : Type} {F : D → R (Option D)} {f g : α → D} : ∀ {l : List α}, (∀ a ∈ l, F (f a) = .ok (some (g a))) → lcGo F (l.map f) = .ok (l.map g)
  | [], _ => rfl
  | a :: r, h => by
    rw [List.map_cons, List.map_cons, lcGo, h a List.mem_cons_self]
    dsimp only [R.bind]
    rw [lcGo_mapF fun b hb => h b (List.mem_cons_of_mem _ hb)]
theorem lcS_mapF {α : Type} {F : D → R (Option D)} {f : α → D} {l : List α} (g : α → D) (hl : l.length ≤ 1000000) (h : ∀ a ∈ l, F (f a) = .ok (some (g a))) : lcS F (l.map f) = .ok (.lst (l.map g)) := by
  unfold lcS
  rw [if_pos (show (l.map f).length ≤ LIM by rw [List.length_map]; exact hl), lcGo_mapF h]
  rfl
section
variable {c : Cf} {own : List Nat} {i j k : Nat} {cond elt : E} {ρ : Rho} {x y z : D}
end
end LC

set_option Elab.async false
set_option linter.all false
set_option maxRecDepth 100000
set_option maxHeartbeats 4000000
namespace LC
open PySem PySem.Spec PyProof.Rows L2
end LC

set_option Elab.async false
set_option linter.all false
set_option maxRecDepth 100000
set_option maxHeartbeats 4000000
namespace LC
open PySem PySem.Spec PyProof.Rows L2
section
variable {c : Cf} {wf : Nat} {ρ : Rho} {d x y : D} {r : List T} {m rd : Str} {es : List E} {o : CmpOp} {p q : F} {ds fs : List D}
end

def Hr.w (h : Hr) (r : List Int) (d : Int) : Hr := { h with row := r, dk := d }
end LC

set_option Elab.async false
set_option linter.all false
set_option maxRecDepth 100000
set_option maxHeartbeats 4000000
namespace LC
open PySem PySem.Spec PyProof.Rows L2
section
variable {P : Program} {w : World} {K : PySem.W.Frag} {mg : Str → Option Value}
end
def Pg.rp (p : Pg) : Pg := { p with rps := (("" : Str), ("" : Str)) :: p.rps }
section
variable {P : Program} {w : World} {K : PySem.W.Frag} {mg : Str → Option Value} {p : Pg}
end
end LC

set_option Elab.async false
set_option linter.all false
set_option maxRecDepth 100000
set_option maxHeartbeats 4000000
namespace LC
open PySem PySem.Spec PyProof.Rows L2
section
variable {c : Cf} {wf : Nat} {r : List S} {ρ : Rho} {d : D} {i : Nat}
end
section
variable {c : Cf} {wf : Nat} {r a b : List S} {ρ : Rho} {d : D} {i : Nat} {e : E} {v : Bool}
end
end LC

set_option Elab.async false
set_option linter.all false
set_option maxRecDepth 100000
set_option maxHeartbeats 4000000
namespace LC
open PySem PySem.Spec PyProof.Rows L2
def isLw (c : Nat) : Bool := decide (97 ≤ c ∧ c ≤ 122)
def okF (f : List Nat) : Bool := !f.isEmpty && f != [49] && f.head? != some 48 && decide (f.length ≤ 3)
def repL (f : List Nat) (n : Nat) : List Nat := (List.replicate n f).flatten
theorem repL_mem {f : List Nat} {n c : Nat} (h : c ∈ repL f n) : c ∈ f := by
  unfold repL at h
  obtain ⟨l, h1, h2⟩ := List.mem_flatten.mp h
  rw [(List.mem_replicate.mp h1).2] at h2
  exact h2
theorem okF_of {s : List Nat} (h1 : s ≠ []) (h2 : s ≠ [49]) (h3 : s.head? ≠ some 48) (h4 : s.length ≤ 3) : okF s = true := by
  unfold okF
  simp only [Bool.and_eq_true, bne_iff_ne, Bool.not_eq_true', decide_eq_true_eq]
  refine ⟨⟨⟨?_, h2⟩, h3⟩, h4⟩
  cases s with
  | nil => exact absurd rfl h1
  | cons => rfl
section
variable {k d : Nat} {s w q f rest q2 : List Nat}
end
end LC

set_option Elab.async false
set_option linter.all false
set_option maxRecDepth 100000
set_option maxHeartbeats 4000000
namespace LC
open PySem PySem.Spec PyProof.Rows L2
section
variable {c : Cf} {wf i : Nat} {r a b : List T} {ρ ρ' : Rho} {d : D} {x : Str} {gs : List Nat}
end
section
variable {c : Cf} {wf i : Nat} {r : List S} {ρ ρ' : Rho} {d : D}
end
end LC

set_option Elab.async false
set_option linter.all false
set_option maxRecDepth 100000
set_option maxHeartbeats 4000000
namespace LC
open PySem PySem.Spec PyProof.Rows L2
inductive Br : List Nat → List Nat → Prop
  | nil : Br [] []
  | one {c : Nat} {s F : List Nat} : isLw c = true → Br s F → Br (c :: s) (c :: F)
  | part {w b G s F : List Nat} : okF w = true → (∀ c ∈ w, 48 ≤ c ∧ c ≤ 57) → Br b G → G ≠ [] → Br s F → Br (w ++ 40 :: (b ++ 41 :: s)) (repL G (NumText.digitsVal w) ++ F)
theorem Br.app {s F t G : List Nat} (h : Br s F) (h2 : Br t G) : Br (s ++ t) (F ++ G) := by
  induction h with
  | nil => exact h2
  | one hc _ ih => exact .one hc ih
  | @part w b G' s F ho hd hb hG hs ihb ihs =>
    have e1 : w ++ 40 :: (b ++ 41 :: s) ++ t = w ++ 40 :: (b ++ 41 :: (s ++ t)) := by simp
    rw [e1, List.append_assoc]
    exact .part ho hd hb hG ihs
theorem numL_hd (n : Nat) (h : 0 < n) : (TL.numL n).head? ≠ some 48 := by
  by_cases h10 : n < 10
  · rw [TL.numL_lt h10]
    intro z
    have := Option.some.inj z
    omega
  · rw [TL.numL_step (by omega)]
    have := numL_hd (n / 10) (by omega)
    cases e : TL.numL (n / 10) with
    | nil => exact absurd e (TL.numL_ne _)
    | cons c r =>
      rw [e] at this
      exact this
  termination_by n
  decreasing_by omega
theorem nN_okF {t : Int} (h0 : 2 ≤ t) (h1 : t < 1000) : okF (nN t) = true ∧ NumText.digitsVal (nN t) = t.toNat := by
  have hv : NumText.digitsVal (nN t) = t.toNat := TL.numL_val _
  refine ⟨okF_of (nN_ne t) (fun z => ?_) (fun z => ?_) (TL.numL_len (by decide) (by omega)), hv⟩
  · rw [z] at hv
    have : NumText.digitsVal [49] = 1 := rfl
    omega
  · exact numL_hd t.toNat (by omega) z
theorem Br.times {s F : List Nat} {t : Int} (h : Br s F) (hF : F ≠ []) (h0 : 2 ≤ t) (h1 : t < 1000) : Br (nN t ++ 40 :: (s ++ [41])) (repL F t.toNat) := by
  obtain ⟨e1, e2⟩ := nN_okF h0 h1
  have := Br.part e1 (nN_dig t) h hF .nil
  rw [e2, List.append_nil] at this
  exact this
theorem Br.low {s F : List Nat} (h : Br s F) : ∀ c ∈ F, isLw c = true := by
  induction h with
  | nil => exact fun c hc => nomatch hc
  | one hc _ ih =>
    intro x hx
    rcases List.mem_cons.mp hx with z | z
    · rw [z]; exact hc
    · exact ih x z
  | part _ _ _ _ _ ihb ihs =>
    intro x hx
    rcases List.mem_append.mp hx with z | z
    · exact ihb x (repL_mem z)
    · exact ihs x z
end LC

set_option Elab.async false
set_option linter.all false
set_option maxRecDepth 100000
set_option maxHeartbeats 4000000
namespace LC
open PySem PySem.Spec PyProof.Rows L2
def runC (l : List Nat) (n : Nat) : Prop := l.length % n = 0 ∧ (List.replicate (l.length / n) (l.take n)).flatten = l
instance (l : List Nat) : DecidablePred (runC l) := fun n => inferInstanceAs (Decidable (_ ∧ _))
end LC

set_option Elab.async false
set_option linter.all false
set_option maxRecDepth 100000
set_option maxHeartbeats 4000000
namespace LC
open PySem PySem.Spec PyProof.Rows L2
section
variable {c : Cf} {wf : Nat} {r : List T} {ρ ρ1 : Rho} {d x : D}
end
end LC

set_option Elab.async false
set_option linter.all false
set_option maxRecDepth 100000
set_option maxHeartbeats 4000000
namespace LC
open PySem PySem.Spec PyProof.Rows L2
section
variable {c : Cf} {wf i : Nat} {r : List T} {ρ : Rho} {x y l d v : D}
end
end LC

set_option Elab.async false
set_option linter.all false
set_option maxRecDepth 100000
set_option maxHeartbeats 4000000
namespace LC
open PySem PySem.Spec PyProof.Rows L2
section
variable {X : Cx} {pins : List (Addr × Obj)} {σ : L2.St} {H : Hp} {s : Shared} {A : Addr → Prop}
end
abbrev Ent3 := NestedKey × Addr × V
def e3R (p : Ent3) (q : NestedKey × Addr × Value) : Prop := p.1 = q.1 ∧ p.2.1 = q.2.1 ∧ RelV p.2.2 q.2.2
def gdP (P : Program) (w : World) (d : Addr) (ks : List Ent3) (h : Heap) : Prop := ks.length ≤ sizeLine ∧ (d == sysModules) = false ∧ ∃ xs : List (NestedKey × Addr × Value), Paired e3R ks xs ∧
  ∃ o es ep, h.get? d = some o ∧ o.ExactDict ∧ o.data = .dict es ep ∧ es.toList = xs.map (entryOfKey (nestedKind P w)) ∧ (xs.map (·.1)).Nodup
def GDO (P : Program) (w : World) (d : Addr) (ks : List Ent3) : HO := .ext (gdP P w d ks)
def KysOk (K : PySem.W.Frag) (A : Addr → Prop) (H : Hp) (ks : List Ent3) : Prop := ∀ p ∈ ks, Rp K A H (nkD p.1) (.ref p.2.1) ∧ isTk p.1 = true
theorem KysOk.keep {K : PySem.W.Frag} {A A' : Addr → Prop} {H H' : Hp} {ks : List Ent3} (h : KysOk K A H ks) (k : Keep A A' H H') : KysOk K A' H' ks := fun p hp => ⟨k.rp _ _ (h p hp).1, (h p hp).2⟩
section
variable {X : Cx} {pins : List (Addr × Obj)} {σ : L2.St} {H : Hp} {s : Shared} {A : Addr → Prop} {d a : Addr} {ks : List Ent3} {k : NestedKey}
end
section
variable {X : Cx}
end
end LC

set_option Elab.async false
set_option linter.all false
set_option maxRecDepth 100000
set_option maxHeartbeats 4000000
namespace LC
open PySem PySem.Spec PyProof.Rows L2
end LC

set_option Elab.async false
set_option linter.all false
set_option maxRecDepth 100000
set_option maxHeartbeats 4000000
namespace LC
open PySem PySem.Spec PyProof.Rows L2
def svV : Sv → V
  | .bl b => .bl b
  | .int i => .int i
def KvR (kvs : List (NestedKey × Sv)) (ks : List Ent3) : Prop := ks.map (fun p => (p.1, p.2.2)) = kvs.map fun q => (q.1, svV q.2)
def DAt (X : Cx) (A : Addr → Prop) (H : Hp) (a : Addr) : Rf → Prop
  | .gd kvs => ∃ ks, H a = some (GDO X.prog X.w a ks) ∧ KysOk X.K A H ks ∧ KvR kvs ks
  | .kd kvs => H a = some (.dK (kvs.map fun p => (Sum.inr p.1, V.int p.2)))
  | _ => False
theorem DAt.keep {X : Cx} {A A' : Addr → Prop} {H H' : Hp} {a : Addr} {r : Rf} (h : DAt X A H a r) (k : Keep A A' H H') (ha : ∀ u, H a = some u → H' a = some u) : DAt X A' H' a r := by
  cases r with
  | gd kvs =>
    obtain ⟨ks, h1, h2, h3⟩ := h
    exact ⟨ks, ha _ h1, h2.keep k, h3⟩
  | kd kvs => exact ha _ h
  | txt _ => exact h.elim
  | dic _ => exact h.elim
def DO (O : Addr → Prop) (N : List Nat) (σ : L2.St) : Addr → Prop := fun b => O b ∨ ∃ i ∈ N, σ[i]? = some (some (.ref b))
abbrev AU (O : Addr → Prop) (M N : List Nat) (σ : L2.St) : Addr → Prop := Av (DO O N σ) M σ
structure UOk (X : Cx) (O : Addr → Prop) (G : Hp) (M N : List Nat) (ρ : Rho) (σ : L2.St) (H : Hp) : Prop where
  ok : OkS X.K (DO O N σ) G M ρ σ H
  dw : ∀ i ∈ N, ∃ r a, ρ[i]? = some (some (.ref r)) ∧ σ[i]? = some (some (.ref a)) ∧ G a = none ∧ DAt X (AU O M N σ) H a r
  inj : ∀ i ∈ N, ∀ j ∈ N, ∀ a, σ[i]? = some (some (.ref a)) → σ[j]? = some (some (.ref a)) → i = j
  og : ∀ b, O b → G b ≠ none
  nl : ∀ m ∈ M, lkOf m = none
section
variable {X : Cx} {O O' : Addr → Prop} {G H H' : Hp} {M N : List Nat} {ρ : Rho} {σ : L2.St}
theorem UOk.ext (h : UOk X O G M N ρ σ H) (s : Same H H') : UOk X O G M N ρ σ H' :=
  ⟨h.ok.ext s, fun i hi => by
    obtain ⟨r, a, h1, h2, h3, h4⟩ := h.dw i hi
    exact ⟨r, a, h1, h2, h3, h4.keep (keep_same s) fun u e => s _ _ e⟩, h.inj, h.og, h.nl⟩
theorem OkS.chO {K : PySem.W.Frag} (h : OkS K O G M ρ σ H) (hM : ∀ m ∈ M, lkOf m = none) (k : Keep (Av O M σ) (Av O' M σ) H H') (h0 : ∀ b, O' b → H' b ≠ none) (hs : Same G H') (hw : ∀ i ∈ M, ∀ a, σ[i]? = some (some (.ref a)) → ¬ O' a ∧ ∀ u, H a = some u → H' a = some u) : OkS K O' G M ρ σ H' := by
  refine ⟨⟨h0, h.ok.len, h.ok.non, fun i d e n => ?_, fun i d e n => ?_, h.ok.inj, XL.none hM⟩, hs, h.fresh, h.frl⟩
  · obtain ⟨v, q1, q2⟩ := h.ok.val i d e n
    exact ⟨v, q1, k.rp _ _ q2⟩
  · obtain ⟨a, u, q1, q2, q3, q4⟩ := h.ok.own i d e n
    obtain ⟨w1, w2⟩ := hw i n a q1
    exact ⟨a, u, q1, w2 _ q2, w1, q4.keep k⟩
theorem OkS.less {K : PySem.W.Frag} (h : OkS K O G M ρ σ H) (hM : ∀ m ∈ M, lkOf m = none) (hs : ∀ b, O' b → O b) : OkS K O' G M ρ σ H :=
  h.chO hM ⟨fun _ _ e _ => e, fun b _ z => z.imp (hs b) id⟩ (fun b z => h.ok.o0 b (hs b z)) h.same fun i hi a e => by
    obtain ⟨d, hd⟩ := h.ok.slot e
    obtain ⟨a', u, q1, q2, q3, _⟩ := h.ok.own i d hd hi
    rw [e] at q1
    cases q1
    exact ⟨fun z => q3 (hs a z), fun u e => e⟩
theorem UOk.at (h : UOk X O G M N ρ σ H) {i : Nat} {r : Rf} (hi : i ∈ N) (e : get ρ i = .ok (.ref r)) : ∃ a, σ[i]? = some (some (.ref a)) ∧ G a = none ∧ DAt X (AU O M N σ) H a r := by
  obtain ⟨r', a, h1, h2, h3, h4⟩ := h.dw i hi
  rw [get_is e] at h1
  cases h1
  exact ⟨a, h2, h3, h4⟩
end
section
variable {X : Cx} {c : Cf} {M N : List Nat}
end
end LC

set_option Elab.async false
set_option linter.all false
set_option maxRecDepth 100000
set_option maxHeartbeats 4000000
namespace LC
open PySem PySem.Spec PyProof.Rows L2
section
variable {K : PySem.W.Frag} {O O' : Addr → Prop} {H : Hp}
end
theorem mem_wo {M : List Nat} {i j : Nat} : j ∈ wo M i ↔ j ∈ M ∧ j ≠ i := by
  unfold wo
  rw [List.mem_filter]
  simp
section
variable {X : Cx} {O : Addr → Prop} {G H H' : Hp} {M M' N N' : List Nat} {ρ ρ' : Rho} {σ σ' : L2.St} {i : Nat} {d : D} {v : V}
theorem do_cong (h : ∀ j ∈ N, σ'[j]? = σ[j]?) : DO O N σ' = DO O N σ := by
  funext b
  refine propext ⟨fun z => z.imp id fun ⟨j, hj, e⟩ => ⟨j, hj, by rw [← h j hj]; exact e⟩, fun z => z.imp id fun ⟨j, hj, e⟩ => ⟨j, hj, by rw [h j hj]; exact e⟩⟩
theorem do_sub (h : ∀ j ∈ N', j ∈ N) : ∀ b, DO O N' σ b → DO O N σ b := fun b z => z.imp id fun ⟨j, hj, e⟩ => ⟨j, h j hj, e⟩
theorem UOk.drop (h : UOk X O G M N ρ σ H) (hM : ∀ j ∈ M', j ∈ M) (hN : ∀ j ∈ N', j ∈ N) : UOk X O G M' N' ρ σ H ∧ Keep (AU O M N σ) (AU O M' N' σ) H H := by
  have hs : ∀ b, AU O M' N' σ b → AU O M N σ b := fun b z => (av_sub hM b z).imp (do_sub hN b) id
  have k : Keep (AU O M N σ) (AU O M' N' σ) H H := ⟨fun _ _ e _ => e, fun b _ z => hs b z⟩
  refine ⟨⟨(h.ok.drop hM).less (fun m hm => h.nl m (hM m hm)) (do_sub hN), fun i hi => ?_, fun i hi j hj => h.inj i (hN i hi) j (hN j hj), h.og, fun m hm => h.nl m (hM m hm)⟩, k⟩
  obtain ⟨r, a, h1, h2, h3, h4⟩ := h.dw i (hN i hi)
  exact ⟨r, a, h1, h2, h3, h4.keep k fun u e => e⟩
theorem UOk.set (h : UOk X O G M N ρ σ H) (hf : fr M i = true) (r : Rp X.K (AU O M N σ) H d v) : UOk X O G (wo M i) (wo N i) (ρ.set i (some d)) (σ.set i (some v)) H ∧ Keep (AU O M N σ) (AU O (wo M i) (wo N i) (σ.set i (some v))) H H := by
  obtain ⟨h1, k1⟩ := h.drop (M' := wo M i) (N' := wo N i) wo_sub wo_sub
  have hne : ∀ j ∈ wo N i, (σ.set i (some v))[j]? = σ[j]? := fun j hj => List.getElem?_set_ne (fun z => (mem_wo.mp hj).2 z.symm)
  have e1 : DO O (wo N i) (σ.set i (some v)) = DO O (wo N i) σ := do_cong hne
  have e2 : AU O (wo M i) (wo N i) (σ.set i (some v)) = AU O (wo M i) (wo N i) σ := by
    show Av (DO O (wo N i) (σ.set i (some v))) (wo M i) (σ.set i (some v)) = _
    rw [e1, av_set wo_not]
  refine ⟨⟨?_, fun j hj => ?_, fun j hj l hl a p q => ?_, h.og, h1.nl⟩, by rw [e2]; exact k1⟩
  · rw [e1]
    exact h1.ok.set (wo_nf hf) (k1.rp _ _ r)
  · obtain ⟨r', a, g1, g2, g3, g4⟩ := h1.dw j hj
    refine ⟨r', a, ?_, by rw [hne j hj]; exact g2, g3, by rw [e2]; exact g4⟩
    rw [List.getElem?_set_ne (fun z => (mem_wo.mp hj).2 z.symm)]
    exact g1
  · rw [hne j hj] at p
    rw [hne l hl] at q
    exact h1.inj j hj l hl a p q
end
end LC

set_option Elab.async false
set_option linter.all false
set_option maxRecDepth 100000
set_option maxHeartbeats 4000000
namespace LC
open PySem PySem.Spec PyProof.Rows L2
section
variable {X : Cx} {c : Cf} {wf : Nat} {M M1 M2 M' N N1 N2 N' : List Nat} {st : Stmt} {sts : List Stmt}
end
end LC

set_option Elab.async false
set_option linter.all false
set_option maxRecDepth 100000
set_option maxHeartbeats 4000000
namespace LC
open PySem PySem.Spec PyProof.Rows L2
section
variable {X : Cx} {c : Cf} {wf : Nat} {M N : List Nat} {st : Stmt} {i : Nat}
end
end LC

set_option Elab.async false
set_option linter.all false
set_option maxRecDepth 100000
set_option maxHeartbeats 4000000
namespace LC
open PySem PySem.Spec PyProof.Rows L2
section
variable {X : Cx} {c : Cf} {wf : Nat} {M N : List Nat} {st : Stmt} {i : Nat}
end
end LC

set_option Elab.async false
set_option linter.all false
set_option maxRecDepth 100000
set_option maxHeartbeats 4000000
namespace LC
open PySem PySem.Spec PyProof.Rows L2
section
variable {p : Pg} {n : Nat} {N : List Str} {sc : Scope} {X : Cx} {M Q : List Nat}
variable (h : Cok p n N sc X) (hk : sc.kind = .function) (hf : ∀ x, X.fn x = true) (hp : PassesOwn (model X.prog X.w) X.A X.env X.xe)
include h hk hf hp
end
end LC

set_option Elab.async false
set_option linter.all false
set_option maxRecDepth 100000
set_option maxHeartbeats 4000000
namespace LC
open PySem PySem.Spec PyProof.Rows L2
section
variable {P : Program} {w : World} {K : PySem.W.Frag} {mg : Str → Option Value} {base : Heap} {p : Pg} {cl xl : List Str}
end
end LC

set_option Elab.async false
set_option linter.all false
set_option maxRecDepth 100000
set_option maxHeartbeats 4000000
namespace LC
open PySem L2
section
variable {c : Cf} {wf i j : Nat} {r a b : List U} {ρ ρ' : Rho} {d x y l v : D} {e k : E} {f g : UE} {is : List Nat} {n : Int} {neg : Bool}
end
end LC

set_option Elab.async false
set_option linter.all false
set_option maxRecDepth 100000
set_option maxHeartbeats 4000000
namespace LC
open PySem L2
section
variable {α β : Type}
end
inductive MS where
  | hd | gp | bd (n : Nat)
  deriving DecidableEq
def MS.rk : MS → Nat
  | .hd => 0
  | .gp => 1
  | .bd n => n + 2
def Mk.k (m : Mk) : Nat := m.bits.toNat
def Mk.endN (m : Mk) : Nat := if (m.way == "far") = true then 2 * m.k + 1 else if (m.way == "wide") = true then 2 * m.k - 1 else 2 * m.k + 4
def Mk.isEnd (m : Mk) : MS → Bool
  | .bd n => n == m.endN
  | _ => false
def Mk.stpB (m : Mk) (n : Nat) : List (Int × MS) := if (m.way == "far") = true then (if n = 2 * m.k + 1 then [] else if n % 2 = 0 then [(m.unit, .bd (n + 1))] else [(m.unit, .bd (n + 1)), (3 * m.unit, .bd (n + 1))])
    else if (m.way == "wide") = true then (if n = 2 * m.k - 1 then [] else if n % 2 = 1 then [(m.unit, .bd (n + 1))] else [(m.unit, .bd (n + 1)), (2 * m.unit, .bd (n + 1))])
    else (if n < 2 * m.k + 4 then [(m.unit, .bd (n + 1))] else []) ++ (if n % 2 = 1 ∧ n < 2 * m.k + 3 then [(2 * m.unit, .bd (n + 2))] else [])
def Mk.stp (m : Mk) : MS → List (Int × MS)
  | .hd => [(m.head, .gp)]
  | .gp => [(m.gap, .bd 0)]
  | .bd n => m.stpB n
def Mk.rows (m : Mk) : Nat → MS → List (List Int)
  | 0, _ => []
  | f + 1, s => if m.isEnd s = true then [[]] else (m.stp s).flatMap fun p => (m.rows f p.2).map (p.1 :: ·)
def cmpt (s : Int) (a b : Int) : Bool := decide (-s ≤ a - b) && decide (a - b ≤ s)
def nrB (s : Int) : List Int → List Int → Bool
  | [], [] => true
  | x :: a, y :: b => cmpt s x y && nrB s a b
  | _, _ => false
theorem map_nodup {α β : Type} {f : α → β} {l : List α} (h : l.Nodup) (hf : ∀ x ∈ l, ∀ y ∈ l, f x = f y → x = y) : (l.map f).Nodup := by
  unfold List.Nodup at h ⊢
  rw [List.pairwise_map]
  exact h.imp_of_mem fun {a b} ha hb hne e => hne (hf a ha b hb e)
end LC

set_option Elab.async false
set_option linter.all false
set_option maxRecDepth 100000
set_option maxHeartbeats 4000000
namespace LC
open PySem L2
section
variable {m : Mk}
section
variable (hw : (m.way == "far") = true)
include hw
end
section
variable (hf0 : (m.way == "far") = false) (hw : (m.way == "wide") = true)
include hf0 hw
end
section
variable (hf0 : (m.way == "far") = false) (hw0 : (m.way == "wide") = false)
include hf0 hw0
end
end
end LC

set_option Elab.async false
set_option linter.all false
set_option maxRecDepth 100000
set_option maxHeartbeats 4000000
namespace LC
open PySem L2
abbrev P2 := MS × MS
def shL (m m' : Mk) (q : P2) : List (Int × P2) := (m.stp q.1).flatMap fun p => (m'.stp q.2).flatMap fun p' => if cmpt (m.slip + m'.slip) p.1 p'.1 = true then [(max (p.1 - m.slip) (p'.1 - m'.slip), (p.2, p'.2))] else []
def endL (m m' : Mk) (q : P2) : Bool := m.isEnd q.1 && m'.isEnd q.2
section
variable {m m' : Mk}
theorem mem_sh {q : P2} {x : Int × P2} : x ∈ shL m m' q ↔ ∃ p ∈ m.stp q.1, ∃ p' ∈ m'.stp q.2, cmpt (m.slip + m'.slip) p.1 p'.1 = true ∧ x = (max (p.1 - m.slip) (p'.1 - m'.slip), (p.2, p'.2)) := by
  unfold shL
  rw [List.mem_flatMap]
  constructor
  · rintro ⟨p, hp, h⟩
    obtain ⟨p', hp', h⟩ := List.mem_flatMap.mp h
    split at h
    · rename_i hc
      exact ⟨p, hp, p', hp', hc, List.mem_singleton.mp h⟩
    · exact nomatch h
  · rintro ⟨p, hp, p', hp', hc, rfl⟩
    refine ⟨p, hp, List.mem_flatMap.mpr ⟨p', hp', ?_⟩⟩
    rw [if_pos hc]
    exact List.mem_singleton.mpr rfl
def MS.ok (m : Mk) (s : MS) : Prop := s.rk ≤ m.endN + 2
theorem stp_rk {s : MS} (h : s.ok m) {p : Int × MS} (hp : p ∈ m.stp s) : s.rk < p.2.rk ∧ p.2.ok m := by
  unfold MS.ok at h ⊢
  cases s with
  | hd =>
    rw [List.mem_singleton.mp hp]
    exact ⟨Nat.zero_lt_one, by show 1 ≤ _; omega⟩
  | gp =>
    rw [List.mem_singleton.mp hp]
    exact ⟨Nat.lt_succ_self 1, by show 2 ≤ _; omega⟩
  | bd n =>
    have h : n + 2 ≤ m.endN + 2 := h
    have hp : p ∈ m.stpB n := hp
    unfold Mk.stpB at hp
    unfold Mk.endN at h ⊢
    split at hp
    · rename_i hw
      rw [if_pos hw] at h ⊢
      split at hp
      · exact nomatch hp
      · split at hp
        · rw [List.mem_singleton.mp hp]
          show n + 2 < n + 1 + 2 ∧ n + 1 + 2 ≤ _
          omega
        · rcases List.mem_cons.mp hp with rfl | hp
          · show n + 2 < n + 1 + 2 ∧ n + 1 + 2 ≤ _
            omega
          · rw [List.mem_singleton.mp hp]
            show n + 2 < n + 1 + 2 ∧ n + 1 + 2 ≤ _
            omega
    · rename_i hw
      rw [if_neg hw] at h ⊢
      split at hp
      · rename_i hw
        rw [if_pos hw] at h ⊢
        split at hp
        · exact nomatch hp
        · split at hp
          · rw [List.mem_singleton.mp hp]
            show n + 2 < n + 1 + 2 ∧ n + 1 + 2 ≤ _
            omega
          · rcases List.mem_cons.mp hp with rfl | hp
            · show n + 2 < n + 1 + 2 ∧ n + 1 + 2 ≤ _
              omega
            · rw [List.mem_singleton.mp hp]
              show n + 2 < n + 1 + 2 ∧ n + 1 + 2 ≤ _
              omega
      · rename_i hw
        rw [if_neg hw] at h ⊢
        rcases List.mem_append.mp hp with hp | hp
        · split at hp
          · rw [List.mem_singleton.mp hp]
            show n + 2 < n + 1 + 2 ∧ n + 1 + 2 ≤ _
            omega
          · exact nomatch hp
        · split at hp
          · rw [List.mem_singleton.mp hp]
            show n + 2 < n + 2 + 2 ∧ n + 2 + 2 ≤ _
            omega
          · exact nomatch hp
def P2.ok (m m' : Mk) (q : P2) : Prop := q.1.ok m ∧ q.2.ok m'
theorem sh_ok {q : P2} (h : P2.ok m m' q) {x : Int × P2} (hx : x ∈ shL m m' q) : P2.ok m m' x.2 ∧ q.1.rk < x.2.1.rk := by
  obtain ⟨p, hp, p', hp', _, rfl⟩ := mem_sh.mp hx
  exact ⟨⟨(stp_rk h.1 hp).2, (stp_rk h.2 hp').2⟩, (stp_rk h.1 hp).1⟩
theorem beg_ok : P2.ok m m' (.hd, .hd) := ⟨Nat.zero_le _, Nat.zero_le _⟩
theorem endN_le (h : m.bits ≤ 12) : m.endN ≤ 28 := by
  unfold Mk.endN Mk.k
  split
  · omega
  · split <;> omega
theorem rk_inj : ∀ {a b : MS}, a.rk = b.rk → a = b
  | .hd, .hd, _ => rfl
  | .gp, .gp, _ => rfl
  | .bd n, .bd n', h => by
    have h : n + 2 = n' + 2 := h
    rw [show n = n' by omega]
  | .hd, .gp, h => nomatch h
  | .gp, .hd, h => nomatch h
  | .hd, .bd n, h => by
    have h : 0 = n + 2 := h
    omega
  | .bd n, .hd, h => by
    have h : n + 2 = 0 := h
    omega
  | .gp, .bd n, h => by
    have h : 1 = n + 2 := h
    omega
  | .bd n, .gp, h => by
    have h : n + 2 = 1 := h
    omega
def P2.cd (q : P2) : Nat := 31 * q.1.rk + q.2.rk
theorem cd_lt {q : P2} (h : P2.ok m m' q) (hb : m.bits ≤ 12) (hb' : m'.bits ≤ 12) : q.1.rk ≤ 30 ∧ q.2.rk ≤ 30 := by
  have h1 := h.1
  have h2 := h.2
  unfold MS.ok at h1 h2
  have := endN_le hb
  have := endN_le hb'
  omega
theorem nd_len : ∀ (l D : List Nat), l.Nodup → (∀ x ∈ l, x ∈ D) → l.length ≤ D.length
  | [], _, _, _ => Nat.zero_le _
  | x :: l, D, hn, hs => by
    have hn := List.nodup_cons.mp hn
    have hx := hs x List.mem_cons_self
    have hle := nd_len l (D.erase x) hn.2 fun y hy => (List.mem_erase_of_ne (show y ≠ x from fun e => hn.1 (e ▸ hy))).mpr (hs y (List.mem_cons_of_mem _ hy))
    rw [List.length_erase_of_mem hx] at hle
    have := List.length_pos_of_mem hx
    rw [List.length_cons]
    omega
theorem len_le {α : Type} {l : List α} (hn : l.Nodup) (c : α → Nat) (n : Nat) (hc : ∀ x ∈ l, c x < n) (hi : ∀ x ∈ l, ∀ y ∈ l, c x = c y → x = y) : l.length ≤ n := by
  have := nd_len (l.map c) (List.range n) (map_nodup hn hi) fun x hx => by
    obtain ⟨y, hy, rfl⟩ := List.mem_map.mp hx
    exact List.mem_range.mpr (hc y hy)
  rw [List.length_map, List.length_range] at this
  exact this
abbrev Lay := List (P2 × Nat)
structure LayOk (m m' : Mk) (n : Nat) (l : Lay) : Prop where
  nd : (l.map (·.1)).Nodup
  ok : ∀ p ∈ l, P2.ok m m' p.1 ∧ n ≤ p.1.1.rk
theorem LayOk.len {n : Nat} {l : Lay} (h : LayOk m m' n l) (hb : m.bits ≤ 12) (hb' : m'.bits ≤ 12) : l.length ≤ 961 := by
  rw [← List.length_map (f := (·.1)) (as := l)]
  refine len_le h.nd P2.cd 961 (fun q hq => ?_) fun a ha b hb2 e => ?_
  · obtain ⟨p, hp, rfl⟩ := List.mem_map.mp hq
    have := cd_lt (h.ok p hp).1 hb hb'
    unfold P2.cd
    omega
  · obtain ⟨p, hp, rfl⟩ := List.mem_map.mp ha
    obtain ⟨p2, hp2, rfl⟩ := List.mem_map.mp hb2
    have h1 := cd_lt (h.ok p hp).1 hb hb'
    have h2 := cd_lt (h.ok p2 hp2).1 hb hb'
    unfold P2.cd at e
    exact Prod.ext (rk_inj (by omega)) (rk_inj (by omega))
theorem LayOk.far {n : Nat} {l : Lay} (h : LayOk m m' n l) (hb : m.bits ≤ 12) (hb' : m'.bits ≤ 12) (hn : 30 < n) : l = [] := by
  cases l with
  | nil => rfl
  | cons p l =>
    have h1 := h.ok p List.mem_cons_self
    have := cd_lt h1.1 hb hb'
    omega
inductive JP (m m' : Mk) : List Int → P2 → Prop
  | nil : JP m m' [] (.hd, .hd)
  | snoc {r : List Int} {q : P2} {x : Int × P2} : JP m m' r q → x ∈ shL m m' q → JP m m' (r ++ [x.1]) x.2
def JW (m m' : Mk) : P2 → List Int → Prop
  | q, [] => endL m m' q = true
  | q, c :: r => ∃ x ∈ shL m m' q, x.1 = c ∧ JW m m' x.2 r
theorem JP.ok {r : List Int} {q : P2} (h : JP m m' r q) : P2.ok m m' q ∧ r.length ≤ q.1.rk := by
  induction h with
  | nil => exact ⟨beg_ok, Nat.zero_le _⟩
  | snoc h hx ih =>
    have := sh_ok ih.1 hx
    refine ⟨this.1, ?_⟩
    rw [List.length_append, List.length_cons, List.length_nil]
    omega
theorem JW.rk : ∀ {r : List Int} {q : P2}, P2.ok m m' q → JW m m' q r → q.1.rk + r.length ≤ m.endN + 2
  | [], q, h, _ => h.1
  | c :: r, q, h, ⟨x, hx, _, hw⟩ => by
    have h2 := sh_ok h hx
    have := JW.rk h2.1 hw
    rw [List.length_cons]
    omega
end
end LC

set_option Elab.async false
set_option linter.all false
set_option maxRecDepth 100000
set_option maxHeartbeats 4000000
namespace LC
open PySem L2
abbrev Sn := List (P2 × Nat)
abbrev Td := List (P2 × List Int)
structure BI (m m' : Mk) (L : Nat) (sn : Sn) (td : Td) : Prop where
  jp : ∀ t ∈ td, JP m m' t.2 t.1
  srt : td.Pairwise fun a b => a.2.length ≤ b.2.length
  lo : ∀ t ∈ td, L ≤ t.2.length ∧ t.2.length ≤ L + 1
  nd : sn.Nodup
  wit : ∀ x ∈ sn, x.2 < 2 ∧ ∃ row, JP m m' row x.1 ∧ (row.length + 1) % 2 = x.2 ∧ ((x.1, row) ∈ td ∨ row.length ≤ L)
section
variable {m m' : Mk} {L : Nat} {sn : Sn} {td : Td}
theorem BI.len (h : BI m m' L sn td) (hb : m.bits ≤ 12) (hb' : m'.bits ≤ 12) : sn.length ≤ 1922 := by
  have hc : ∀ x ∈ sn, x.1.1.rk ≤ 30 ∧ x.1.2.rk ≤ 30 ∧ x.2 < 2 := fun x hx => by
    obtain ⟨h0, row, h1, _⟩ := h.wit x hx
    have := cd_lt h1.ok.1 hb hb'
    exact ⟨this.1, this.2, h0⟩
  refine len_le h.nd (fun x => 2 * P2.cd x.1 + x.2) 1922 (fun x hx => ?_) fun a ha b hb2 e => ?_
  · have := hc x hx
    unfold P2.cd
    omega
  · have h1 := hc a ha
    have h2 := hc b hb2
    unfold P2.cd at e
    exact Prod.ext (Prod.ext (rk_inj (by omega)) (rk_inj (by omega))) (by omega)
end
section
variable {m m' : Mk}
end
end LC

set_option Elab.async false
set_option linter.all false
set_option maxRecDepth 100000
set_option maxHeartbeats 4000000
namespace LC
open PySem L2
def MS.d : MS → D
  | .hd => .tup [.str "head", .int 0]
  | .gp => .tup [.str "gap", .int 0]
  | .bd n => .tup [.str "body", .int (n : Int)]
def P2.d (q : P2) : D := .tup [q.1.d, q.2.d]
end LC

set_option Elab.async false
set_option linter.all false
set_option maxRecDepth 100000
set_option maxHeartbeats 4000000
namespace LC
open PySem L2
section
variable {c : Cf} {wf i : Nat} {r : List U} {ρ ρ' : Rho} {d : D}
end
end LC

set_option Elab.async false
set_option linter.all false
set_option maxRecDepth 100000
set_option maxHeartbeats 4000000
namespace LC
open PySem L2
section
variable {m m' : Mk}
def nrX (m m' : Mk) (x y : Nat) : Bool := nrB (m.slip + m'.slip) (m.flash (x : Int)) (m'.flash (y : Int))
end
end LC

set_option Elab.async false
set_option linter.all false
set_option maxRecDepth 100000
set_option maxHeartbeats 4000000
namespace LC
open PySem L2
def Mul (u : Int) (l : List Int) : Prop := ∀ t ∈ l, ∃ c : Int, t = u * c
theorem Mul.cons {u t : Int} {l : List Int} (c : Int) (h : t = u * c) (hl : Mul u l) : Mul u (t :: l) := fun x hx => by
  rcases List.mem_cons.mp hx with rfl | hx
  · exact ⟨c, h⟩
  · exact hl x hx
theorem Mul.nil {u : Int} : Mul u [] := fun t ht => nomatch ht
section
variable {m m' : Mk}
def LenS (m m' : Mk) (n : Nat) : Prop := ∃ x y : Nat, x < 2 ^ m.k ∧ y < 2 ^ m'.k ∧ nrX m m' x y = true ∧ (m.flash (x : Int)).length = n
structure Bth (m m' : Mk) (row : List Int) : Prop where
  here : ∃ x, m.heard row = some x
  there : ∃ y, m'.heard row = some y
  mem : LenS m m' row.length
  min : ∀ n, LenS m m' n → row.length ≤ n
theorem Bth.len (hb : m.bits ≤ 12) {row : List Int} (h : Bth m m' row) : row.length ≤ 100 := by
  obtain ⟨x, y, hx, hy, hn, hl⟩ := h.mem
  have g := flash_len m.way m.head m.gap m.unit (bitsM m.low m.bits.toNat (x : Int))
  rw [bitsM_len] at g
  have hl : (flashL m.way m.head m.gap m.unit (bitsM m.low m.bits.toNat (x : Int))).length = row.length := hl
  omega
end
end LC

set_option Elab.async false
set_option linter.all false
set_option maxRecDepth 100000
set_option maxHeartbeats 4000000
namespace LC
open PySem PySem.Spec PyProof.Rows L2 LamX
section
variable {P : Program} {w : World} {K : PySem.W.Frag} {mg : Str → Option Value} {a PT : Addr} {vs : List Value} {ns : List Int}
end
end LC

set_option Elab.async false
set_option linter.all false
set_option maxRecDepth 100000
set_option maxHeartbeats 4000000
namespace LC
open PySem PySem.Spec PyProof.Rows L2 LamX
section
variable {p : Pg} {n : Nat} {N : List Str} {xl : List Str} {sc : Scope} {X : Cx} {P : Addr}
end
section
variable {P : Program} {w : World} {K : PySem.W.Frag} {mg : Str → Option Value} {p : Pg} {xl : List Str}
end
end LC

set_option Elab.async false
set_option linter.all false
set_option maxRecDepth 100000
set_option maxHeartbeats 4000000
namespace LC
open PySem L2
end LC

set_option Elab.async false
set_option linter.all false
set_option maxRecDepth 100000
set_option maxHeartbeats 4000000
namespace LC
open PySem L2
section
variable {m m' : Mk} {most : Int}
end
end LC

set_option Elab.async false
set_option linter.all false
set_option maxRecDepth 100000
set_option maxHeartbeats 4000000
namespace LC
open PySem L2
end LC

set_option Elab.async false
set_option linter.all false
set_option maxRecDepth 100000
set_option maxHeartbeats 4000000
namespace LC
open PySem L2
theorem rowsOf_map : ∀ rs : List (List Int), rowsOf (rs.map rowD) = some rs
  | [] => rfl
  | r :: rs => by
    rw [List.map_cons]
    show (match intsOf (r.map D.int), rowsOf (rs.map rowD) with
      | some ns, some rs => some (ns :: rs)
      | _, _ => none) = _
    rw [intsOf_map, rowsOf_map rs]
theorem lss_rows {rs : List (List Int)} (h : rs.length ≤ 200) (hn : rs.Nodup) : dLss (.lst (rs.map rowD)) = .ok (.int rs.length) := by
  show (match rowsOf (rs.map rowD) with | some rs => if rs.length ≤ 200 ∧ rs.Nodup then R.ok (D.int rs.length) else .bad | none => .bad) = _
  rw [rowsOf_map]
  exact if_pos ⟨h, hn⟩
theorem sst_l {ns : List Int} (h : ns.length < 4000) (h2 : (srtU ns).length < 64) : dSst (.lst (ns.map D.int)) = .ok (.lst ((srtU ns).map D.int)) := by
  show (match intsOf (ns.map D.int) with | some ns => if ns.length < 4000 ∧ (srtU ns).length < 64 then R.ok (D.lst ((srtU ns).map D.int)) else .bad | none => .bad) = _
  rw [intsOf_map]
  exact if_pos ⟨h, h2⟩
theorem srtU_one {ns : List Int} {c : Int} (hne : ns ≠ []) (h : ∀ x ∈ ns, x = c) : srtU ns = [c] := by
  refine (srtU_eq (List.pairwise_singleton _ _) fun k => ?_).symm
  rw [decide_eq_true_eq, List.mem_singleton]
  constructor
  · rintro rfl
    cases ns with
    | nil => exact absurd rfl hne
    | cons x r =>
      rw [← h x List.mem_cons_self]
      exact List.mem_cons_self
  · exact h k
theorem srtU_few {ns : List Int} {lo hi : Int} (h : ∀ x ∈ ns, lo ≤ x ∧ x ≤ hi) (hl : lo ≤ hi) : ((srtU ns).length : Int) ≤ hi - lo + 1 := by
  have := few_times (s := 0) (Int.le_refl 0) (T := srtU ns) (lo := lo) (hi := hi) ((srtU_lt ns).imp fun {a b} z => by omega) (fun x hx => by
    have := h x ((srtU_mem ns).mp hx)
    omega) hl
  omega
def allR (way : Str) (head gap u : Int) (low : Bool) (k : Nat) : List (List Int) := (List.range (2 ^ k)).map fun i : Nat => flashL way head gap u (bitsM low k (i : Int))
theorem allR_len {way : Str} {head gap u : Int} {low : Bool} {k : Nat} : (allR way head gap u low k).length = 2 ^ k := by
  unfold allR
  rw [List.length_map, List.length_range]
theorem allR_nd {way : Str} {head gap u : Int} {low : Bool} {k : Nat} (hu : 0 < u) : (allR way head gap u low k).Nodup := by
  unfold allR
  refine List.pairwise_map.mpr (List.Pairwise.imp_of_mem (fun {i j} hi hj hij e => ?_) (List.pairwise_lt_range (n := 2 ^ k)))
  have hi := List.mem_range.mp hi
  have hj := List.mem_range.mp hj
  have hp : ((2 ^ k : Nat) : Int) = 2 ^ k := by rw [Int.natCast_pow]; rfl
  have := flash_inj hu (Int.natCast_nonneg i) (by omega) (Int.natCast_nonneg j) (by omega) e
  omega
theorem allR_mem {way : Str} {head gap u : Int} {low : Bool} {k : Nat} {r : List Int} (h : r ∈ allR way head gap u low k) : ∃ bs : List Int, r = flashL way head gap u bs ∧ bs.length = k ∧ ∀ b ∈ bs, b = 0 ∨ b = 1 := by
  obtain ⟨i, _, rfl⟩ := List.mem_map.mp h
  exact ⟨_, rfl, bitsM_len _ _ _, bitsM_01 _ _ _⟩
theorem allR_max {way : Str} {head gap u : Int} {low : Bool} {k : Nat} (hu : 0 ≤ u) (hk : 1 ≤ k) : maxD ((allR way head gap u low k).map List.sum) = longL way head gap u k := by
  have hp : ((2 ^ k : Nat) : Int) = 2 ^ k := by rw [Int.natCast_pow]; rfl
  have h1 : ∀ x ∈ (allR way head gap u low k).map List.sum, x ≤ longL way head gap u k := fun x hx => by
    obtain ⟨r, hr, rfl⟩ := List.mem_map.mp hx
    obtain ⟨bs, rfl, hl, h01⟩ := allR_mem hr
    have := flash_sum_le way head gap u bs hu h01 (fun z => by rw [z, List.length_nil] at hl; omega)
    rw [hl] at this
    exact this
  have h2 : longL way head gap u k ∈ (allR way head gap u low k).map List.sum := by
    refine List.mem_map.mpr ⟨flashL way head gap u (bitsM low k (2 ^ k - 1)), List.mem_map.mpr ⟨2 ^ k - 1, List.mem_range.mpr (by have := Nat.two_pow_pos k; omega), ?_⟩, ?_⟩
    · rw [show ((2 ^ k - 1 : Nat) : Int) = 2 ^ k - 1 by have := Nat.two_pow_pos k; omega]
    · rw [bitsM_ones]
      exact flash_sum_ones way head gap u k hk
  cases hq : (allR way head gap u low k).map List.sum with
  | nil =>
    rw [hq] at h2
    exact nomatch h2
  | cons x r =>
    rw [hq] at h1 h2
    have g := maxL_le r x
    have m := maxL_mem r x
    show maxL x r = _
    have a1 : maxL x r ≤ longL way head gap u k := by
      rcases m with m | m
      · rw [m]
        exact h1 x List.mem_cons_self
      · exact h1 _ (List.mem_cons_of_mem _ m)
    have a2 : longL way head gap u k ≤ maxL x r := by
      rcases List.mem_cons.mp h2 with e | e
      · rw [e]
        exact g.1
      · exact g.2 _ e
    omega
theorem cut2_row {a b : Int} {r : List Int} : dCut (rowD (a :: b :: r)) none (some 2) = .ok (.tup [.int a, .int b]) := by
  show R.ok (D.tup (cutL ((a :: b :: r).map D.int) none (some 2))) = _
  have : cutL ((a :: b :: r).map D.int) none (some 2) = [.int a, .int b] := by
    unfold cutL HT.sIx
    simp
  rw [this]
theorem mk_c13 {way : Str} {head gap unit b slip : Int} {low : Bool} : dCut (mkD way head gap unit b low slip) (some 1) (some 3) = .ok (.tup [.int head, .int gap]) := rfl
theorem it_rows {rs : List (List Int)} : items .seq [.lst (rs.map rowD)] = .ok (rs.map rowD) := rfl
theorem sum_row {r : List Int} : dBi .sum [rowD r] = .ok (.int r.sum) := by
  show (match intsOf (r.map D.int) with | some ns => R.ok (D.int ns.sum) | none => .bad) = _
  rw [intsOf_map]
theorem bitsM_numM (lw : Bool) (bs : List Int) (h : ∀ b ∈ bs, b = 0 ∨ b = 1) : bitsM lw bs.length (numM lw bs) = bs ∧ 0 ≤ numM lw bs ∧ numM lw bs < 2 ^ bs.length := by
  unfold bitsM numM
  cases lw
  · have hr : ∀ b ∈ bs.reverse, b = 0 ∨ b = 1 := fun b hb => h b (List.mem_reverse.mp hb)
    have e := bitsL_numL bs.reverse hr
    have q := numL_lt bs.reverse hr
    rw [List.length_reverse] at e q
    rw [if_neg (by decide), if_neg (by decide), e, List.reverse_reverse]
    exact ⟨rfl, q⟩
  · rw [if_pos rfl, if_pos rfl]
    exact ⟨bitsL_numL bs h, numL_lt bs h⟩
end LC

set_option Elab.async false
set_option linter.all false
set_option maxRecDepth 100000
set_option maxHeartbeats 4000000
namespace K14
open PySem PySem.Spec PyProof.Rows L2 LC
def topS (i : Nat) : Stmt := PySem.Challenge.pw_lampcodes_k14_whole_from_the_other_end.main.body.getD i (.Pass ⟨0, 0, 0, 0⟩)
def f_bits_of : Fn := ⟨2, 4, [.set 2 (.tup []),
    .for_ (.one 3) .rng [.idx (.var 0) (.cst (.int 4))] [.set 2 (.bin .Add (.var 2) (.tup [.bin .Mod (.var 1) (.cst (.int 2))])),
      .set 1 (.bin .FloorDiv (.var 1) (.cst (.int 2)))],
    .ife (.idx (.var 0) (.cst (.int 5))) [.ret (.var 2)] [],
    .ret (.stp .rev (.var 2))], none⟩
def f_number_of : Fn := ⟨2, 4, [.ife (.idx (.var 0) (.cst (.int 5))) [.set 1 (.stp .rev (.var 1))] [],
    .set 2 (.cst (.int 0)),
    .for_ (.one 3) .seq [.var 1] [.set 2 (.bin .Add (.bin .Mult (.cst (.int 2)) (.var 2)) (.var 3))],
    .ret (.var 2)], none⟩
def f_longest : Fn := ⟨1, 8, [.unp [1, 2, 3, 4, 5, 6, 7] (.var 0),
    .ife (.cmp .Eq (.var 1) (.glb "FAR")) [.ret (.bin .Add (.bin .Add (.var 2) (.var 3)) (.bin .Mult (.bin .Add (.bin .Mult (.cst (.int 4)) (.var 5)) (.cst (.int 1))) (.var 4)))] [],
    .ife (.cmp .Eq (.var 1) (.glb "WIDE")) [.ret (.bin .Add (.bin .Add (.var 2) (.var 3)) (.bin .Mult (.bin .Sub (.bin .Mult (.cst (.int 3)) (.var 5)) (.cst (.int 1))) (.var 4)))] [],
    .ret (.bin .Add (.bin .Add (.var 2) (.var 3)) (.bin .Mult (.bin .Add (.bin .Mult (.cst (.int 2)) (.var 5)) (.cst (.int 4))) (.var 4)))], none⟩
def f_far_times : Fn := ⟨2, 4, [.set 2 (.tup []),
    .for_ (.one 3) .seq [.var 0] [.set 2 (.bin .Add (.var 2) (.tup [.var 1, .bin .Add (.var 1) (.bin .Mult (.bin .Mult (.cst (.int 2)) (.var 1)) (.var 3))]))],
    .ret (.bin .Add (.var 2) (.tup [.var 1]))], none⟩
def f_wide_times : Fn := ⟨2, 4, [.set 2 (.tup []),
    .for_ (.one 3) .seq [.var 0] [.set 2 (.bin .Add (.var 2) (.tup [.bin .Add (.var 1) (.bin .Mult (.var 1) (.var 3)), .var 1]))],
    .ret (.cut (.var 2) false (.cst .non) true (.neg (.cst (.int 1))))], none⟩
def f_turn_times : Fn := ⟨2, 7, [.own 2 (.lst []),
    .for_ (.one 3) .seq [.bin .Add (.bin .Add (.tup [.cst (.int 0)]) (.var 0)) (.tup [.cst (.int 1)])] [.ext 2 (.lst [.bin .Sub (.cst (.int 1)) (.var 3), .var 3])],
    .own 4 (.lst []),
    .frz 2,
    .for_ (.many [5, 6]) .enum [.var 2] [.ife (.and (.cmp .Gt (.var 5) (.cst (.int 0))) (.cmp .Eq (.idx (.var 2) (.bin .Sub (.var 5) (.cst (.int 1)))) (.var 6))) [.put 4 (.neg (.cst (.int 1))) (.bin .Add (.idx (.var 4) (.neg (.cst (.int 1)))) (.var 1))] [.app 4 (.var 1)]],
    .ret (.bi .tuple [.var 4])], none⟩
def f_flashes : Fn := ⟨2, 7, [.unp [2, 3, 4, 5] (.cut (.var 0) false (.cst .non) true (.cst (.int 4))),
    .set 6 (.call "bits_of" [.var 0, .var 1]),
    .ife (.cmp .Eq (.var 2) (.glb "FAR")) [.ret (.bin .Add (.tup [.var 3, .var 4]) (.call "far_times" [.var 6, .var 5]))] [],
    .ife (.cmp .Eq (.var 2) (.glb "WIDE")) [.ret (.bin .Add (.tup [.var 3, .var 4]) (.call "wide_times" [.var 6, .var 5]))] [],
    .ret (.bin .Add (.tup [.var 3, .var 4]) (.call "turn_times" [.var 6, .var 5]))], none⟩
def f_bits_by : Fn := ⟨3, 4, [.ret (.bi .tuple [.lc [3] (.one 3) .seq [.var 0] (.cst (.bl true)) (.bi .int [.cmp .Gt (.bin .Mult (.cst (.int 2)) (.var 3)) (.bin .Add (.var 1) (.var 2))])])], none⟩
def f_halves_of : Fn := ⟨2, 5, [.own 2 (.lst []),
    .for_ (.many [3, 4]) .enum [.var 0] [.ext 2 (.bin .Mult (.lst [.bin .Sub (.cst (.int 1)) (.bin .Mod (.var 3) (.cst (.int 2)))]) (.bin .Add (.cst (.int 1)) (.bi .int [.cmp .Gt (.bin .Mult (.cst (.int 2)) (.var 4)) (.bin .Mult (.cst (.int 3)) (.var 1))])))],
    .frz 2,
    .ret (.var 2)], none⟩
def f_nearest : Fn := ⟨2, 12, [.unp [2, 3, 4, 5, 6, 7, 8] (.var 0),
    .set 9 (.cut (.var 1) true (.cst (.int 2)) false (.cst .non)),
    .ife (.cmp .Eq (.var 2) (.glb "FAR")) [.set 10 (.call "bits_by" [.stp .odd (.var 9), .var 5, .bin .Mult (.cst (.int 3)) (.var 5)])] [.ife (.cmp .Eq (.var 2) (.glb "WIDE")) [.set 10 (.call "bits_by" [.stp .even (.var 9), .var 5, .bin .Mult (.cst (.int 2)) (.var 5)])] [.set 11 (.call "halves_of" [.var 9, .var 5]),
        .set 10 (.cut (.bi .tuple [.stp .odd (.var 11)]) true (.cst (.int 1)) true (.neg (.cst (.int 1))))]],
    .ife (.cmp .NotEq (.bi .len [.var 10]) (.var 6)) [.ret (.cst .non)] [],
    .ret (.call "number_of" [.var 0, .var 10])], none⟩
def f_off : Fn := ⟨3, 6, [.set 3 (.call "flashes" [.var 0, .var 1]),
    .ife (.cmp .NotEq (.bi .len [.var 3]) (.bi .len [.var 2])) [.ret (.cst .non)] [],
    .ret (.bi .max [.lc [4, 5] (.many [4, 5]) .zip [.var 3, .var 2] (.cst (.bl true)) (.bi .abs [.bin .Sub (.var 4) (.var 5)])])], none⟩
def f_heard : Fn := ⟨2, 4, [.set 2 (.call "nearest" [.var 0, .var 1]),
    .ife (.cmp .Is (.var 2) (.cst .non)) [.ret (.cst .non)] [],
    .set 3 (.call "off" [.var 0, .var 2, .var 1]),
    .ife (.or (.cmp .Is (.var 3) (.cst .non)) (.cmp .Gt (.var 3) (.idx (.var 0) (.cst (.int 6))))) [.ret (.cst .non)] [],
    .ret (.var 2)], none⟩
def f__law_cell_at : Fn := ⟨2, 2, [.ife (.cmp .Lt (.var 1) (.bi .len [.var 0])) [.ret (.idx (.var 0) (.var 1))] [],
    .ret (.cst (.int 0))], none⟩
def f__law_mixed : Fn := ⟨2, 3, [.set 2 (.bin .Mod (.bin .Mult (.bin .Add (.bin .Add (.call "_law_cell_at" [.var 0, .var 1]) (.bin .Mult (.cst (.int 7919)) (.var 1))) (.cst (.int 1))) (.cst (.int 48271))) (.cst (.int 2147483647))),
    .ret (.bin .Mod (.bin .Add (.bin .Add (.bin .Mult (.var 2) (.var 2)) (.bin .Mult (.cst (.int 7)) (.var 2))) (.var 1)) (.cst (.int 2147483629)))], none⟩
def f__law_drawn : Fn := ⟨2, 3, [.set 2 (.bin .Mod (.bin .Mult (.bin .Add (.bin .Add (.var 0) (.bin .Mult (.cst (.int 104729)) (.var 1))) (.cst (.int 17))) (.cst (.int 69621))) (.cst (.int 2147483647))),
    .ret (.bin .Mod (.bin .Add (.bin .Add (.bin .Mult (.var 2) (.var 2)) (.bin .Mult (.cst (.int 3)) (.var 2))) (.var 1)) (.cst (.int 2147483629)))], none⟩
def f__law_maker : Fn := ⟨2, 8, [.set 2 (.idx (.tup [.cst (.str "far"), .cst (.str "wide"), .cst (.str "turn")]) (.bin .Mod (.var 0) (.cst (.int 3)))),
    .set 3 (.bin .Add (.cst (.int 2)) (.bin .Mod (.bin .FloorDiv (.var 0) (.cst (.int 4))) (.idx (.tup [.cst (.int 9), .cst (.int 60), .cst (.int 900)]) (.bin .Mod (.bin .FloorDiv (.var 0) (.cst (.int 4096))) (.cst (.int 3)))))),
    .set 4 (.bin .FloorDiv (.call "_law_drawn" [.var 0, .cst (.int 1)]) (.cst (.int 4))),
    .set 5 (.bin .Add (.cst (.int 1)) (.bin .Mod (.var 4) (.idx (.tup [.bin .Mult (.var 3) (.cst (.int 9)), .var 3, .cst (.int 9999)]) (.bin .Mod (.bin .FloorDiv (.var 4) (.cst (.int 65536))) (.cst (.int 3)))))),
    .set 4 (.bin .FloorDiv (.call "_law_drawn" [.var 0, .cst (.int 2)]) (.cst (.int 4))),
    .set 6 (.bin .Add (.cst (.int 1)) (.bin .Mod (.var 4) (.idx (.tup [.bin .Mult (.var 3) (.cst (.int 5)), .var 3, .cst (.int 9999)]) (.bin .Mod (.bin .FloorDiv (.var 4) (.cst (.int 65536))) (.cst (.int 3)))))),
    .set 4 (.bin .FloorDiv (.call "_law_drawn" [.var 0, .cst (.int 3)]) (.cst (.int 4))),
    .set 7 (.bin .Mod (.bin .FloorDiv (.var 4) (.cst (.int 64))) (.bi .min [.bin .FloorDiv (.bin .Add (.var 3) (.cst (.int 1))) (.cst (.int 2)), .var 5, .var 6])),
    .ret (.tup [.var 2, .var 5, .var 6, .var 3, .bin .Add (.cst (.int 1)) (.bin .Mod (.var 4) (.var 1)), .cmp .Eq (.bin .Mod (.bin .FloorDiv (.var 4) (.cst (.int 16))) (.cst (.int 2))) (.cst (.int 0)), .var 7])], none⟩
def f__law_count : Fn := ⟨1, 1, [.ret (.idx (.tup [.cst (.int 1), .cst (.int 2), .cst (.int 4), .cst (.int 8), .cst (.int 16), .cst (.int 32), .cst (.int 64), .cst (.int 128), .cst (.int 256), .cst (.int 512), .cst (.int 1024), .cst (.int 2048), .cst (.int 4096)]) (.idx (.var 0) (.cst (.int 4))))], none⟩
def f_law : Fn := ⟨1, 9, [.set 1 (.call "_law_maker" [.call "_law_mixed" [.var 0, .cst (.int 0)], .cst (.int 7)]),
    .set 2 (.bin .Add (.bin .Add (.cut (.var 1) false (.cst .non) true (.cst (.int 5))) (.tup [.not (.idx (.var 1) (.cst (.int 5)))])) (.cut (.var 1) true (.cst (.int 6)) false (.cst .non))),
    .set 3 (.bin .Mod (.call "_law_mixed" [.var 0, .cst (.int 1)]) (.call "_law_count" [.var 1])),
    .set 4 (.call "number_of" [.var 2, .call "bits_of" [.var 1, .var 3]]),
    .set 5 (.call "flashes" [.var 1, .var 3]),
    .ife (.or (.cmp .NotEq (.call "flashes" [.var 2, .var 4]) (.var 5)) (.or (.cmp .NotEq (.call "heard" [.var 2, .var 5]) (.var 4)) (.cmp .NotEq (.call "heard" [.var 1, .var 5]) (.var 3)))) [.ret (.cst (.bl false))] [],
    .set 6 (.lc [7] (.one 7) .rng [.call "_law_count" [.var 1]] (.cst (.bl true)) (.call "flashes" [.var 1, .var 7])),
    .ife (.or (.cmp .NotEq (.call "longest" [.var 1]) (.bi .max [.lc [7] (.one 7) .seq [.var 6] (.cst (.bl true)) (.bi .sum [.var 7])])) (.cmp .NotEq (.call "longest" [.var 2]) (.call "longest" [.var 1]))) [.ret (.cst (.bl false))] [],
    .set 8 (.sst (.lc [7] (.one 7) .seq [.var 6] (.cst (.bl true)) (.bi .len [.var 7]))),
    .ife (.and (.cmp .Eq (.idx (.var 1) (.cst (.int 0))) (.cst (.str "far"))) (.cmp .NotEq (.var 8) (.lst [.bin .Add (.cst (.int 3)) (.bin .Mult (.cst (.int 2)) (.idx (.var 1) (.cst (.int 4))))]))) [.ret (.cst (.bl false))] [],
    .ife (.and (.cmp .Eq (.idx (.var 1) (.cst (.int 0))) (.cst (.str "wide"))) (.cmp .NotEq (.var 8) (.lst [.bin .Add (.cst (.int 1)) (.bin .Mult (.cst (.int 2)) (.idx (.var 1) (.cst (.int 4))))]))) [.ret (.cst (.bl false))] [],
    .ife (.or (.cmp .NotEq (.lc [7] (.one 7) .seq [.var 6] (.cmp .NotEq (.cut (.var 7) false (.cst .non) true (.cst (.int 2))) (.cut (.idx (.var 6) (.cst (.int 0))) false (.cst .non) true (.cst (.int 2)))) (.var 7)) (.lst [])) (.cmp .NotEq (.lss (.var 6)) (.bi .len [.var 6]))) [.ret (.cst (.bl false))] [],
    .ret (.and (.cmp .Eq (.cut (.idx (.var 6) (.cst (.int 0))) false (.cst .non) true (.cst (.int 2))) (.cut (.var 1) true (.cst (.int 1)) true (.cst (.int 3)))) (.cmp .Eq (.lc [7] (.one 7) .seq [.var 6] (.cmp .Eq (.bin .Mod (.bi .len [.var 7]) (.cst (.int 2))) (.cst (.int 0))) (.var 7)) (.lst [])))], none⟩
def pg : Pg := ⟨[("FAR", .str "far"), ("WIDE", .str "wide")], [("bits_of", f_bits_of), ("number_of", f_number_of), ("longest", f_longest), ("far_times", f_far_times), ("wide_times", f_wide_times), ("turn_times", f_turn_times), ("flashes", f_flashes), ("bits_by", f_bits_by), ("halves_of", f_halves_of), ("nearest", f_nearest), ("off", f_off), ("heard", f_heard), ("_law_cell_at", f__law_cell_at), ("_law_mixed", f__law_mixed), ("_law_drawn", f__law_drawn), ("_law_maker", f__law_maker), ("_law_count", f__law_count), ("law", f_law)], 100000, [], [], [], []⟩
def cf (n : Nat) : Cf := cfOf pg n
theorem call_cf {n : Nat} {f : Str} {xs : List D} : (cf n).call f xs = run pg n f xs := rfl
theorem glb_FAR {n : Nat} : oR ((cf n).glb.lookup ("FAR" : Str)) = .ok (.str "far") := rfl
theorem glb_WIDE {n : Nat} : oR ((cf n).glb.lookup ("WIDE" : Str)) = .ok (.str "wide") := rfl
theorem run_bits_of {n : Nat} {a0 a1 : D} : run pg (n + 1) "bits_of" [a0, a1] = finish (xss (cf n) 100000 f_bits_of.body [some a0, some a1, none, none]) := rfl
theorem run_number_of {n : Nat} {a0 a1 : D} : run pg (n + 1) "number_of" [a0, a1] = finish (xss (cf n) 100000 f_number_of.body [some a0, some a1, none, none]) := rfl
theorem run_longest {n : Nat} {a0 : D} : run pg (n + 1) "longest" [a0] = finish (xss (cf n) 100000 f_longest.body [some a0, none, none, none, none, none, none, none]) := rfl
theorem run_far_times {n : Nat} {a0 a1 : D} : run pg (n + 1) "far_times" [a0, a1] = finish (xss (cf n) 100000 f_far_times.body [some a0, some a1, none, none]) := rfl
theorem run_wide_times {n : Nat} {a0 a1 : D} : run pg (n + 1) "wide_times" [a0, a1] = finish (xss (cf n) 100000 f_wide_times.body [some a0, some a1, none, none]) := rfl
theorem run_turn_times {n : Nat} {a0 a1 : D} : run pg (n + 1) "turn_times" [a0, a1] = finish (xss (cf n) 100000 f_turn_times.body [some a0, some a1, none, none, none, none, none]) := rfl
theorem run_flashes {n : Nat} {a0 a1 : D} : run pg (n + 1) "flashes" [a0, a1] = finish (xss (cf n) 100000 f_flashes.body [some a0, some a1, none, none, none, none, none]) := rfl
theorem run_bits_by {n : Nat} {a0 a1 a2 : D} : run pg (n + 1) "bits_by" [a0, a1, a2] = finish (xss (cf n) 100000 f_bits_by.body [some a0, some a1, some a2, none]) := rfl
theorem run_halves_of {n : Nat} {a0 a1 : D} : run pg (n + 1) "halves_of" [a0, a1] = finish (xss (cf n) 100000 f_halves_of.body [some a0, some a1, none, none, none]) := rfl
theorem run_nearest {n : Nat} {a0 a1 : D} : run pg (n + 1) "nearest" [a0, a1] = finish (xss (cf n) 100000 f_nearest.body [some a0, some a1, none, none, none, none, none, none, none, none, none, none]) := rfl
theorem run_off {n : Nat} {a0 a1 a2 : D} : run pg (n + 1) "off" [a0, a1, a2] = finish (xss (cf n) 100000 f_off.body [some a0, some a1, some a2, none, none, none]) := rfl
theorem run_heard {n : Nat} {a0 a1 : D} : run pg (n + 1) "heard" [a0, a1] = finish (xss (cf n) 100000 f_heard.body [some a0, some a1, none, none]) := rfl
theorem run__law_cell_at {n : Nat} {a0 a1 : D} : run pg (n + 1) "_law_cell_at" [a0, a1] = finish (xss (cf n) 100000 f__law_cell_at.body [some a0, some a1]) := rfl
theorem run__law_mixed {n : Nat} {a0 a1 : D} : run pg (n + 1) "_law_mixed" [a0, a1] = finish (xss (cf n) 100000 f__law_mixed.body [some a0, some a1, none]) := rfl
theorem run__law_drawn {n : Nat} {a0 a1 : D} : run pg (n + 1) "_law_drawn" [a0, a1] = finish (xss (cf n) 100000 f__law_drawn.body [some a0, some a1, none]) := rfl
theorem run__law_maker {n : Nat} {a0 a1 : D} : run pg (n + 1) "_law_maker" [a0, a1] = finish (xss (cf n) 100000 f__law_maker.body [some a0, some a1, none, none, none, none, none, none]) := rfl
theorem run__law_count {n : Nat} {a0 : D} : run pg (n + 1) "_law_count" [a0] = finish (xss (cf n) 100000 f__law_count.body [some a0]) := rfl
theorem run_law {n : Nat} {a0 : D} : run pg (n + 1) "law" [a0] = finish (xss (cf n) 100000 f_law.body [some a0, none, none, none, none, none, none, none, none]) := rfl
theorem r_cell {n : Nat} (ns : List Int) (k : Int) (hk : 0 ≤ k) : ∃ v, run pg (n + 1) "_law_cell_at" [.lst (ns.map D.int), .int k] = .ok (.int v) := by
  rw [run__law_cell_at]
  by_cases h : k < ns.length
  · refine ⟨ns.getD k.toNat 0, ?_⟩
    have h2 : decide (k < (ns.length : Int)) = true := decide_eq_true h
    simp -implicitDefEqProofs (disch := first | exact sh_int | assumption | omega | (simp -implicitDefEqProofs only [List.length_cons, List.length_nil, List.length_map, List.length_append, List.length_reverse, List.length_take, List.length_drop, List.length_set, List.length_replicate, bitsM_len, bitsL_len]; omega) | (simp -implicitDefEqProofs only [sh_int, sh_oI, sh8_pairs, sh8_rows, sh8_row, sh9_row, sh9_p, sh_bl, sh_non, sh9t, sh9l, sh8t, sh8l, sh7t, sh7l, sh6t, sh6l, sh5t, sh5l, sh4t, sh4l, sh_ints, sh_str, List.all_cons, List.all_nil, List.all_append, List.all_reverse, Bool.and_true, Bool.and_self]; done) | (simp -implicitDefEqProofs only [sh_int, sh_oI, sh8_pairs, sh8_rows, sh8_row, sh9_row, sh9_p, sh_bl, sh_non, sh9t, sh9l, sh8t, sh8l, sh7t, sh7l, sh6t, sh6l, sh5t, sh5l, sh4t, sh4l, sh_ints, sh_str, List.all_cons, List.all_nil, List.all_append, List.all_reverse, Bool.and_true, Bool.and_self]; decide +kernel)) only [ev_var, ev_cst, ev_glb, ev_bin, ev_cmp, ev_neg, ev_not, ev_chn, ev_and, ev_or, ev_idx, ev_cut, ev_stp, ev_tup, ev_lst, ev_call, ev_bi, ev_isi, ev_lc, ev_mth, ev_rpl, ev_kin, ev_kget, ev_sst, ev_lss, evs_nil, evs_cons, b1_ok, b2_ok, bs_ok, bcons_ok, band_t, band_f, band_b, bor_t, bor_f, bor_b, b3_ok, dNot_b, dNeg_i, prt_f, prt_t, blc_ok, bit_ok, dTup_ok, dLst_ok, add_ii, sub_ii, mul_l, mul_r, div_ii, mod_ii, add_tt, add_ll, mul_t1i, mul_l1i, lt_ii, le_ii, gt_ii, ge_ii, chn_le, is_bb, isn_bb, is_nn, is_in, isn_nn, isn_in, is_on, isn_on, deq_nn, deq_ni, deq_in, deq_oi, deq_oo, sh_oI, oI_s, oI_n, eq_ok, ne_ok, in_tup, nin_tup, in_lst, nin_lst, sh_int, sh_bl, sh_non, sh_str, sh_ints, deq_ii, deq_bb, deq_ss, deq_tt, deq_ll, deqL_nil, deqL_cons, deqL_nc, deqL_cn, deqL_ints, deqL_pairs, deqL_rows, deq_rr, deq_pp, get_0, get_s, ix_t0, ix_t1, ix_t2, ix_t3, ix_t4, ix_t5, ix_t6, ix_l0, ix_l1, ix_l2, ix_l3, ix_l4, ix_l5, ix_lb, ix_tb, dCut_t, dCut_l, rev_t, rev_l, even_t, odd_t, even_l, odd_l, len_t, len_l, int_b, int_i, tuple_t, tuple_l, list_t, list_l, abs_i, sum_t, sum_l, max_2, min_2, max_3, min_3, all_l, isi_ii, isi_ib, isi_is, isi_it, isi_il, isi_bi, isi_bb, isi_bt, isi_bs, isi_tt, isi_tl, isi_ti, isi_ts, isi_ll, isi_lt, isi_li, isi_ls, isi_ss, isi_si, isi_st, isi_sb, it_t, it_l, it_r1, it_r2, it_et, it_el, it_ztt, it_zll, it_ztl, it_zlt, lcFn_1, lcFn_2, cdR_t, cdR_f, cdR_b, xs_nil, xs_set, xs_own, xs_unp, xs_app, xs_ext, xs_put, kExt_ok, kPut_last, xs_frz, xs_pas, xs_ret, xs_ife, xs_for, kSet_ok, kOwn_ok, kUnp_t, kUnp_l, kApp_ok, kRet_ok, kIf_t, kIf_f, kSeq_n, kSeq_r, kFor_ok, forFn_1, forFn_2, setAll_n, setAll_c, fin_r, fin_n, wipe_n, wipe_c, go_nil, go_cons, kGo_n, kGo_r, List.set_cons_zero, List.set_cons_succ, List.cons_append, List.nil_append, List.length_cons, List.length_nil, List.all_cons, List.all_nil, Bool.and_true, Bool.true_and, Bool.and_false, Bool.false_and, Bool.or_true, Bool.true_or, Bool.or_false, Bool.false_or, Bool.not_true, Bool.not_false, decide_true, decide_false, eq_self, Int.cast_ofNat_Int, beq_self_eq_true, s_far_wide, s_far_turn, s_wide_far, s_wide_turn, s_turn_far, s_turn_wide, List.any_cons, List.any_nil, Int.reduceEq, Int.reduceLT, Int.reduceLE, Int.reduceAdd, Int.reduceSub, Int.reduceMul, Int.reduceNeg, Int.reduceToNat, Bool.decide_eq_true, Bool.false_eq_true, ↓reduceIte, List.length_map, bitsM_len, Nat.zero_add, Nat.reduceAdd, call_cf, f__law_cell_at, h2, ix_li]
  · refine ⟨0, ?_⟩
    have h2 : decide (k < (ns.length : Int)) = false := decide_eq_false h
    simp -implicitDefEqProofs (disch := first | exact sh_int | assumption | omega | (simp -implicitDefEqProofs only [List.length_cons, List.length_nil, List.length_map, List.length_append, List.length_reverse, List.length_take, List.length_drop, List.length_set, List.length_replicate, bitsM_len, bitsL_len]; omega) | (simp -implicitDefEqProofs only [sh_int, sh_oI, sh8_pairs, sh8_rows, sh8_row, sh9_row, sh9_p, sh_bl, sh_non, sh9t, sh9l, sh8t, sh8l, sh7t, sh7l, sh6t, sh6l, sh5t, sh5l, sh4t, sh4l, sh_ints, sh_str, List.all_cons, List.all_nil, List.all_append, List.all_reverse, Bool.and_true, Bool.and_self]; done) | (simp -implicitDefEqProofs only [sh_int, sh_oI, sh8_pairs, sh8_rows, sh8_row, sh9_row, sh9_p, sh_bl, sh_non, sh9t, sh9l, sh8t, sh8l, sh7t, sh7l, sh6t, sh6l, sh5t, sh5l, sh4t, sh4l, sh_ints, sh_str, List.all_cons, List.all_nil, List.all_append, List.all_reverse, Bool.and_true, Bool.and_self]; decide +kernel)) only [ev_var, ev_cst, ev_glb, ev_bin, ev_cmp, ev_neg, ev_not, ev_chn, ev_and, ev_or, ev_idx, ev_cut, ev_stp, ev_tup, ev_lst, ev_call, ev_bi, ev_isi, ev_lc, ev_mth, ev_rpl, ev_kin, ev_kget, ev_sst, ev_lss, evs_nil, evs_cons, b1_ok, b2_ok, bs_ok, bcons_ok, band_t, band_f, band_b, bor_t, bor_f, bor_b, b3_ok, dNot_b, dNeg_i, prt_f, prt_t, blc_ok, bit_ok, dTup_ok, dLst_ok, add_ii, sub_ii, mul_l, mul_r, div_ii, mod_ii, add_tt, add_ll, mul_t1i, mul_l1i, lt_ii, le_ii, gt_ii, ge_ii, chn_le, is_bb, isn_bb, is_nn, is_in, isn_nn, isn_in, is_on, isn_on, deq_nn, deq_ni, deq_in, deq_oi, deq_oo, sh_oI, oI_s, oI_n, eq_ok, ne_ok, in_tup, nin_tup, in_lst, nin_lst, sh_int, sh_bl, sh_non, sh_str, sh_ints, deq_ii, deq_bb, deq_ss, deq_tt, deq_ll, deqL_nil, deqL_cons, deqL_nc, deqL_cn, deqL_ints, deqL_pairs, deqL_rows, deq_rr, deq_pp, get_0, get_s, ix_t0, ix_t1, ix_t2, ix_t3, ix_t4, ix_t5, ix_t6, ix_l0, ix_l1, ix_l2, ix_l3, ix_l4, ix_l5, ix_lb, ix_tb, dCut_t, dCut_l, rev_t, rev_l, even_t, odd_t, even_l, odd_l, len_t, len_l, int_b, int_i, tuple_t, tuple_l, list_t, list_l, abs_i, sum_t, sum_l, max_2, min_2, max_3, min_3, all_l, isi_ii, isi_ib, isi_is, isi_it, isi_il, isi_bi, isi_bb, isi_bt, isi_bs, isi_tt, isi_tl, isi_ti, isi_ts, isi_ll, isi_lt, isi_li, isi_ls, isi_ss, isi_si, isi_st, isi_sb, it_t, it_l, it_r1, it_r2, it_et, it_el, it_ztt, it_zll, it_ztl, it_zlt, lcFn_1, lcFn_2, cdR_t, cdR_f, cdR_b, xs_nil, xs_set, xs_own, xs_unp, xs_app, xs_ext, xs_put, kExt_ok, kPut_last, xs_frz, xs_pas, xs_ret, xs_ife, xs_for, kSet_ok, kOwn_ok, kUnp_t, kUnp_l, kApp_ok, kRet_ok, kIf_t, kIf_f, kSeq_n, kSeq_r, kFor_ok, forFn_1, forFn_2, setAll_n, setAll_c, fin_r, fin_n, wipe_n, wipe_c, go_nil, go_cons, kGo_n, kGo_r, List.set_cons_zero, List.set_cons_succ, List.cons_append, List.nil_append, List.length_cons, List.length_nil, List.all_cons, List.all_nil, Bool.and_true, Bool.true_and, Bool.and_false, Bool.false_and, Bool.or_true, Bool.true_or, Bool.or_false, Bool.false_or, Bool.not_true, Bool.not_false, decide_true, decide_false, eq_self, Int.cast_ofNat_Int, beq_self_eq_true, s_far_wide, s_far_turn, s_wide_far, s_wide_turn, s_turn_far, s_turn_wide, List.any_cons, List.any_nil, Int.reduceEq, Int.reduceLT, Int.reduceLE, Int.reduceAdd, Int.reduceSub, Int.reduceMul, Int.reduceNeg, Int.reduceToNat, Bool.decide_eq_true, Bool.false_eq_true, ↓reduceIte, List.length_map, bitsM_len, Nat.zero_add, Nat.reduceAdd, call_cf, f__law_cell_at, h2]
theorem r_mixed {n : Nat} (ns : List Int) (k : Int) (hk : 0 ≤ k) (hk2 : k < 1000000) : ∃ v, run pg (n + 2) "_law_mixed" [.lst (ns.map D.int), .int k] = .ok (.int v) ∧ 0 ≤ v ∧ v < 2147483629 := by
  obtain ⟨v, e⟩ := r_cell (n := n) ns k hk
  have h1 := Int.emod_nonneg ((v + 7919 * k + 1) * 48271) (show (2147483647 : Int) ≠ 0 by decide)
  have h2 := Int.emod_lt_of_pos ((v + 7919 * k + 1) * 48271) (show (0 : Int) < 2147483647 by decide)
  refine ⟨_, (show _ = R.ok (D.int ((((v + 7919 * k + 1) * 48271 % 2147483647) * ((v + 7919 * k + 1) * 48271 % 2147483647) + 7 * ((v + 7919 * k + 1) * 48271 % 2147483647) + k) % 2147483629)) from ?_), Int.emod_nonneg _ (by decide), Int.emod_lt_of_pos _ (by decide)⟩
  rw [run__law_mixed]
  generalize hm : (v + 7919 * k + 1) * 48271 % 2147483647 = m at h1 h2
  simp -implicitDefEqProofs (disch := first | exact sh_int | assumption | omega | (simp -implicitDefEqProofs only [List.length_cons, List.length_nil, List.length_map, List.length_append, List.length_reverse, List.length_take, List.length_drop, List.length_set, List.length_replicate, bitsM_len, bitsL_len]; omega) | (simp -implicitDefEqProofs only [sh_int, sh_oI, sh8_pairs, sh8_rows, sh8_row, sh9_row, sh9_p, sh_bl, sh_non, sh9t, sh9l, sh8t, sh8l, sh7t, sh7l, sh6t, sh6l, sh5t, sh5l, sh4t, sh4l, sh_ints, sh_str, List.all_cons, List.all_nil, List.all_append, List.all_reverse, Bool.and_true, Bool.and_self]; done) | (simp -implicitDefEqProofs only [sh_int, sh_oI, sh8_pairs, sh8_rows, sh8_row, sh9_row, sh9_p, sh_bl, sh_non, sh9t, sh9l, sh8t, sh8l, sh7t, sh7l, sh6t, sh6l, sh5t, sh5l, sh4t, sh4l, sh_ints, sh_str, List.all_cons, List.all_nil, List.all_append, List.all_reverse, Bool.and_true, Bool.and_self]; decide +kernel)) only [ev_var, ev_cst, ev_glb, ev_bin, ev_cmp, ev_neg, ev_not, ev_chn, ev_and, ev_or, ev_idx, ev_cut, ev_stp, ev_tup, ev_lst, ev_call, ev_bi, ev_isi, ev_lc, ev_mth, ev_rpl, ev_kin, ev_kget, ev_sst, ev_lss, evs_nil, evs_cons, b1_ok, b2_ok, bs_ok, bcons_ok, band_t, band_f, band_b, bor_t, bor_f, bor_b, b3_ok, dNot_b, dNeg_i, prt_f, prt_t, blc_ok, bit_ok, dTup_ok, dLst_ok, add_ii, sub_ii, mul_l, mul_r, div_ii, mod_ii, add_tt, add_ll, mul_t1i, mul_l1i, lt_ii, le_ii, gt_ii, ge_ii, chn_le, is_bb, isn_bb, is_nn, is_in, isn_nn, isn_in, is_on, isn_on, deq_nn, deq_ni, deq_in, deq_oi, deq_oo, sh_oI, oI_s, oI_n, eq_ok, ne_ok, in_tup, nin_tup, in_lst, nin_lst, sh_int, sh_bl, sh_non, sh_str, sh_ints, deq_ii, deq_bb, deq_ss, deq_tt, deq_ll, deqL_nil, deqL_cons, deqL_nc, deqL_cn, deqL_ints, deqL_pairs, deqL_rows, deq_rr, deq_pp, get_0, get_s, ix_t0, ix_t1, ix_t2, ix_t3, ix_t4, ix_t5, ix_t6, ix_l0, ix_l1, ix_l2, ix_l3, ix_l4, ix_l5, ix_lb, ix_tb, dCut_t, dCut_l, rev_t, rev_l, even_t, odd_t, even_l, odd_l, len_t, len_l, int_b, int_i, tuple_t, tuple_l, list_t, list_l, abs_i, sum_t, sum_l, max_2, min_2, max_3, min_3, all_l, isi_ii, isi_ib, isi_is, isi_it, isi_il, isi_bi, isi_bb, isi_bt, isi_bs, isi_tt, isi_tl, isi_ti, isi_ts, isi_ll, isi_lt, isi_li, isi_ls, isi_ss, isi_si, isi_st, isi_sb, it_t, it_l, it_r1, it_r2, it_et, it_el, it_ztt, it_zll, it_ztl, it_zlt, lcFn_1, lcFn_2, cdR_t, cdR_f, cdR_b, xs_nil, xs_set, xs_own, xs_unp, xs_app, xs_ext, xs_put, kExt_ok, kPut_last, xs_frz, xs_pas, xs_ret, xs_ife, xs_for, kSet_ok, kOwn_ok, kUnp_t, kUnp_l, kApp_ok, kRet_ok, kIf_t, kIf_f, kSeq_n, kSeq_r, kFor_ok, forFn_1, forFn_2, setAll_n, setAll_c, fin_r, fin_n, wipe_n, wipe_c, go_nil, go_cons, kGo_n, kGo_r, List.set_cons_zero, List.set_cons_succ, List.cons_append, List.nil_append, List.length_cons, List.length_nil, List.all_cons, List.all_nil, Bool.and_true, Bool.true_and, Bool.and_false, Bool.false_and, Bool.or_true, Bool.true_or, Bool.or_false, Bool.false_or, Bool.not_true, Bool.not_false, decide_true, decide_false, eq_self, Int.cast_ofNat_Int, beq_self_eq_true, s_far_wide, s_far_turn, s_wide_far, s_wide_turn, s_turn_far, s_turn_wide, List.any_cons, List.any_nil, Int.reduceEq, Int.reduceLT, Int.reduceLE, Int.reduceAdd, Int.reduceSub, Int.reduceMul, Int.reduceNeg, Int.reduceToNat, Bool.decide_eq_true, Bool.false_eq_true, ↓reduceIte, List.length_map, bitsM_len, Nat.zero_add, Nat.reduceAdd, call_cf, f__law_mixed, e, hm]
theorem r_drawn {n : Nat} (a k : Int) (hk : 0 ≤ k) (hk2 : k < 1000000) : ∃ v, run pg (n + 1) "_law_drawn" [.int a, .int k] = .ok (.int v) ∧ 0 ≤ v ∧ v < 2147483629 := by
  have h1 := Int.emod_nonneg ((a + 104729 * k + 17) * 69621) (show (2147483647 : Int) ≠ 0 by decide)
  have h2 := Int.emod_lt_of_pos ((a + 104729 * k + 17) * 69621) (show (0 : Int) < 2147483647 by decide)
  refine ⟨_, (show _ = R.ok (D.int ((((a + 104729 * k + 17) * 69621 % 2147483647) * ((a + 104729 * k + 17) * 69621 % 2147483647) + 3 * ((a + 104729 * k + 17) * 69621 % 2147483647) + k) % 2147483629)) from ?_), Int.emod_nonneg _ (by decide), Int.emod_lt_of_pos _ (by decide)⟩
  rw [run__law_drawn]
  generalize hm : (a + 104729 * k + 17) * 69621 % 2147483647 = m at h1 h2
  simp -implicitDefEqProofs (disch := first | exact sh_int | assumption | omega | (simp -implicitDefEqProofs only [List.length_cons, List.length_nil, List.length_map, List.length_append, List.length_reverse, List.length_take, List.length_drop, List.length_set, List.length_replicate, bitsM_len, bitsL_len]; omega) | (simp -implicitDefEqProofs only [sh_int, sh_oI, sh8_pairs, sh8_rows, sh8_row, sh9_row, sh9_p, sh_bl, sh_non, sh9t, sh9l, sh8t, sh8l, sh7t, sh7l, sh6t, sh6l, sh5t, sh5l, sh4t, sh4l, sh_ints, sh_str, List.all_cons, List.all_nil, List.all_append, List.all_reverse, Bool.and_true, Bool.and_self]; done) | (simp -implicitDefEqProofs only [sh_int, sh_oI, sh8_pairs, sh8_rows, sh8_row, sh9_row, sh9_p, sh_bl, sh_non, sh9t, sh9l, sh8t, sh8l, sh7t, sh7l, sh6t, sh6l, sh5t, sh5l, sh4t, sh4l, sh_ints, sh_str, List.all_cons, List.all_nil, List.all_append, List.all_reverse, Bool.and_true, Bool.and_self]; decide +kernel)) only [ev_var, ev_cst, ev_glb, ev_bin, ev_cmp, ev_neg, ev_not, ev_chn, ev_and, ev_or, ev_idx, ev_cut, ev_stp, ev_tup, ev_lst, ev_call, ev_bi, ev_isi, ev_lc, ev_mth, ev_rpl, ev_kin, ev_kget, ev_sst, ev_lss, evs_nil, evs_cons, b1_ok, b2_ok, bs_ok, bcons_ok, band_t, band_f, band_b, bor_t, bor_f, bor_b, b3_ok, dNot_b, dNeg_i, prt_f, prt_t, blc_ok, bit_ok, dTup_ok, dLst_ok, add_ii, sub_ii, mul_l, mul_r, div_ii, mod_ii, add_tt, add_ll, mul_t1i, mul_l1i, lt_ii, le_ii, gt_ii, ge_ii, chn_le, is_bb, isn_bb, is_nn, is_in, isn_nn, isn_in, is_on, isn_on, deq_nn, deq_ni, deq_in, deq_oi, deq_oo, sh_oI, oI_s, oI_n, eq_ok, ne_ok, in_tup, nin_tup, in_lst, nin_lst, sh_int, sh_bl, sh_non, sh_str, sh_ints, deq_ii, deq_bb, deq_ss, deq_tt, deq_ll, deqL_nil, deqL_cons, deqL_nc, deqL_cn, deqL_ints, deqL_pairs, deqL_rows, deq_rr, deq_pp, get_0, get_s, ix_t0, ix_t1, ix_t2, ix_t3, ix_t4, ix_t5, ix_t6, ix_l0, ix_l1, ix_l2, ix_l3, ix_l4, ix_l5, ix_lb, ix_tb, dCut_t, dCut_l, rev_t, rev_l, even_t, odd_t, even_l, odd_l, len_t, len_l, int_b, int_i, tuple_t, tuple_l, list_t, list_l, abs_i, sum_t, sum_l, max_2, min_2, max_3, min_3, all_l, isi_ii, isi_ib, isi_is, isi_it, isi_il, isi_bi, isi_bb, isi_bt, isi_bs, isi_tt, isi_tl, isi_ti, isi_ts, isi_ll, isi_lt, isi_li, isi_ls, isi_ss, isi_si, isi_st, isi_sb, it_t, it_l, it_r1, it_r2, it_et, it_el, it_ztt, it_zll, it_ztl, it_zlt, lcFn_1, lcFn_2, cdR_t, cdR_f, cdR_b, xs_nil, xs_set, xs_own, xs_unp, xs_app, xs_ext, xs_put, kExt_ok, kPut_last, xs_frz, xs_pas, xs_ret, xs_ife, xs_for, kSet_ok, kOwn_ok, kUnp_t, kUnp_l, kApp_ok, kRet_ok, kIf_t, kIf_f, kSeq_n, kSeq_r, kFor_ok, forFn_1, forFn_2, setAll_n, setAll_c, fin_r, fin_n, wipe_n, wipe_c, go_nil, go_cons, kGo_n, kGo_r, List.set_cons_zero, List.set_cons_succ, List.cons_append, List.nil_append, List.length_cons, List.length_nil, List.all_cons, List.all_nil, Bool.and_true, Bool.true_and, Bool.and_false, Bool.false_and, Bool.or_true, Bool.true_or, Bool.or_false, Bool.false_or, Bool.not_true, Bool.not_false, decide_true, decide_false, eq_self, Int.cast_ofNat_Int, beq_self_eq_true, s_far_wide, s_far_turn, s_wide_far, s_wide_turn, s_turn_far, s_turn_wide, List.any_cons, List.any_nil, Int.reduceEq, Int.reduceLT, Int.reduceLE, Int.reduceAdd, Int.reduceSub, Int.reduceMul, Int.reduceNeg, Int.reduceToNat, Bool.decide_eq_true, Bool.false_eq_true, ↓reduceIte, List.length_map, bitsM_len, Nat.zero_add, Nat.reduceAdd, call_cf, f__law_drawn, hm]
theorem r_drawnV {n : Nat} (a k : Int) (hk : 0 ≤ k) (hk2 : k < 1000000) : run pg (n + 1) "_law_drawn" [.int a, .int k] = .ok (.int (drawnV a k)) := by
  have h1 := Int.emod_nonneg ((a + 104729 * k + 17) * 69621) (show (2147483647 : Int) ≠ 0 by decide)
  have h2 := Int.emod_lt_of_pos ((a + 104729 * k + 17) * 69621) (show (0 : Int) < 2147483647 by decide)
  rw [run__law_drawn]
  unfold drawnV
  generalize hm : (a + 104729 * k + 17) * 69621 % 2147483647 = m at h1 h2
  simp -implicitDefEqProofs (disch := first | exact sh_int | assumption | omega | (simp -implicitDefEqProofs only [List.length_cons, List.length_nil, List.length_map, List.length_append, List.length_reverse, List.length_take, List.length_drop, List.length_set, List.length_replicate, bitsM_len, bitsL_len]; omega) | (simp -implicitDefEqProofs only [sh_int, sh_oI, sh8_pairs, sh8_rows, sh8_row, sh9_row, sh9_p, sh_bl, sh_non, sh9t, sh9l, sh8t, sh8l, sh7t, sh7l, sh6t, sh6l, sh5t, sh5l, sh4t, sh4l, sh_ints, sh_str, List.all_cons, List.all_nil, List.all_append, List.all_reverse, Bool.and_true, Bool.and_self]; done) | (simp -implicitDefEqProofs only [sh_int, sh_oI, sh8_pairs, sh8_rows, sh8_row, sh9_row, sh9_p, sh_bl, sh_non, sh9t, sh9l, sh8t, sh8l, sh7t, sh7l, sh6t, sh6l, sh5t, sh5l, sh4t, sh4l, sh_ints, sh_str, List.all_cons, List.all_nil, List.all_append, List.all_reverse, Bool.and_true, Bool.and_self]; decide +kernel)) only [ev_var, ev_cst, ev_glb, ev_bin, ev_cmp, ev_neg, ev_not, ev_chn, ev_and, ev_or, ev_idx, ev_cut, ev_stp, ev_tup, ev_lst, ev_call, ev_bi, ev_isi, ev_lc, ev_mth, ev_rpl, ev_kin, ev_kget, ev_sst, ev_lss, evs_nil, evs_cons, b1_ok, b2_ok, bs_ok, bcons_ok, band_t, band_f, band_b, bor_t, bor_f, bor_b, b3_ok, dNot_b, dNeg_i, prt_f, prt_t, blc_ok, bit_ok, dTup_ok, dLst_ok, add_ii, sub_ii, mul_l, mul_r, div_ii, mod_ii, add_tt, add_ll, mul_t1i, mul_l1i, lt_ii, le_ii, gt_ii, ge_ii, chn_le, is_bb, isn_bb, is_nn, is_in, isn_nn, isn_in, is_on, isn_on, deq_nn, deq_ni, deq_in, deq_oi, deq_oo, sh_oI, oI_s, oI_n, eq_ok, ne_ok, in_tup, nin_tup, in_lst, nin_lst, sh_int, sh_bl, sh_non, sh_str, sh_ints, deq_ii, deq_bb, deq_ss, deq_tt, deq_ll, deqL_nil, deqL_cons, deqL_nc, deqL_cn, deqL_ints, deqL_pairs, deqL_rows, deq_rr, deq_pp, get_0, get_s, ix_t0, ix_t1, ix_t2, ix_t3, ix_t4, ix_t5, ix_t6, ix_l0, ix_l1, ix_l2, ix_l3, ix_l4, ix_l5, ix_lb, ix_tb, dCut_t, dCut_l, rev_t, rev_l, even_t, odd_t, even_l, odd_l, len_t, len_l, int_b, int_i, tuple_t, tuple_l, list_t, list_l, abs_i, sum_t, sum_l, max_2, min_2, max_3, min_3, all_l, isi_ii, isi_ib, isi_is, isi_it, isi_il, isi_bi, isi_bb, isi_bt, isi_bs, isi_tt, isi_tl, isi_ti, isi_ts, isi_ll, isi_lt, isi_li, isi_ls, isi_ss, isi_si, isi_st, isi_sb, it_t, it_l, it_r1, it_r2, it_et, it_el, it_ztt, it_zll, it_ztl, it_zlt, lcFn_1, lcFn_2, cdR_t, cdR_f, cdR_b, xs_nil, xs_set, xs_own, xs_unp, xs_app, xs_ext, xs_put, kExt_ok, kPut_last, xs_frz, xs_pas, xs_ret, xs_ife, xs_for, kSet_ok, kOwn_ok, kUnp_t, kUnp_l, kApp_ok, kRet_ok, kIf_t, kIf_f, kSeq_n, kSeq_r, kFor_ok, forFn_1, forFn_2, setAll_n, setAll_c, fin_r, fin_n, wipe_n, wipe_c, go_nil, go_cons, kGo_n, kGo_r, List.set_cons_zero, List.set_cons_succ, List.cons_append, List.nil_append, List.length_cons, List.length_nil, List.all_cons, List.all_nil, Bool.and_true, Bool.true_and, Bool.and_false, Bool.false_and, Bool.or_true, Bool.true_or, Bool.or_false, Bool.false_or, Bool.not_true, Bool.not_false, decide_true, decide_false, eq_self, Int.cast_ofNat_Int, beq_self_eq_true, s_far_wide, s_far_turn, s_wide_far, s_wide_turn, s_turn_far, s_turn_wide, List.any_cons, List.any_nil, Int.reduceEq, Int.reduceLT, Int.reduceLE, Int.reduceAdd, Int.reduceSub, Int.reduceMul, Int.reduceNeg, Int.reduceToNat, Bool.decide_eq_true, Bool.false_eq_true, ↓reduceIte, List.length_map, bitsM_len, Nat.zero_add, Nat.reduceAdd, call_cf, f__law_drawn, hm]
theorem r_maker {n : Nat} (a most : Int) (ha : 0 ≤ a) (hm : 0 < most) : ∃ way head gap unit bits low slip, run pg (n + 2) "_law_maker" [.int a, .int most] = .ok (mkD way head gap unit bits low slip) ∧ MkOk most way head gap unit bits slip := by
  obtain ⟨v1, e1, b1, c1⟩ := r_drawn (n := n) a 1 (by decide) (by decide)
  obtain ⟨v2, e2, b2, c2⟩ := r_drawn (n := n) a 2 (by decide) (by decide)
  obtain ⟨v3, e3, b3, c3⟩ := r_drawn (n := n) a 3 (by decide) (by decide)
  have w3 : a % 3 = 0 ∨ a % 3 = 1 ∨ a % 3 = 2 := by omega
  obtain ⟨way, ew, hw⟩ : ∃ way, dIdx (.tup [.str "far", .str "wide", .str "turn"]) (.int (a % 3)) = .ok (.str way) ∧ WayOk way := by
    rcases w3 with h | h | h <;> rw [h]
    · exact ⟨"far", ix_t0, .inl rfl⟩
    · exact ⟨"wide", ix_t1, .inr (.inl rfl)⟩
    · exact ⟨"turn", ix_t2, .inr (.inr rfl)⟩
  obtain ⟨u0, eu, hu1, hu2⟩ : ∃ u, dIdx (.tup [.int 9, .int 60, .int 900]) (.int (a / 4096 % 3)) = .ok (.int u) ∧ 9 ≤ u ∧ u ≤ 900 := by
    have : a / 4096 % 3 = 0 ∨ a / 4096 % 3 = 1 ∨ a / 4096 % 3 = 2 := by omega
    rcases this with h | h | h <;> rw [h]
    · exact ⟨9, ix_t0, by decide, by decide⟩
    · exact ⟨60, ix_t1, by decide, by decide⟩
    · exact ⟨900, ix_t2, by decide, by decide⟩
  have hq1 := Int.emod_nonneg (a / 4) (show u0 ≠ 0 by omega)
  have hq2 := Int.emod_lt_of_pos (a / 4) (show 0 < u0 by omega)
  generalize hun : 2 + a / 4 % u0 = unit
  have hn1 : 2 ≤ unit := by omega
  have hn2 : unit ≤ 901 := by omega
  obtain ⟨h0, eh, hh1, hh2⟩ : ∃ u, dIdx (.tup [.int (unit * 9), .int unit, .int 9999]) (.int (v1 / 4 / 65536 % 3)) = .ok (.int u) ∧ 2 ≤ u ∧ u ≤ 9999 := by
    have : v1 / 4 / 65536 % 3 = 0 ∨ v1 / 4 / 65536 % 3 = 1 ∨ v1 / 4 / 65536 % 3 = 2 := by omega
    rcases this with h | h | h <;> rw [h]
    · exact ⟨unit * 9, ix_t0, by omega, by omega⟩
    · exact ⟨unit, ix_t1, by omega, by omega⟩
    · exact ⟨9999, ix_t2, by decide, by decide⟩
  obtain ⟨g0, eg, hg1, hg2⟩ : ∃ u, dIdx (.tup [.int (unit * 5), .int unit, .int 9999]) (.int (v2 / 4 / 65536 % 3)) = .ok (.int u) ∧ 2 ≤ u ∧ u ≤ 9999 := by
    have : v2 / 4 / 65536 % 3 = 0 ∨ v2 / 4 / 65536 % 3 = 1 ∨ v2 / 4 / 65536 % 3 = 2 := by omega
    rcases this with h | h | h <;> rw [h]
    · exact ⟨unit * 5, ix_t0, by omega, by omega⟩
    · exact ⟨unit, ix_t1, by omega, by omega⟩
    · exact ⟨9999, ix_t2, by decide, by decide⟩
  have hr1 := Int.emod_nonneg (v1 / 4) (show h0 ≠ 0 by omega)
  have hr2 := Int.emod_lt_of_pos (v1 / 4) (show 0 < h0 by omega)
  have hs1 := Int.emod_nonneg (v2 / 4) (show g0 ≠ 0 by omega)
  have hs2 := Int.emod_lt_of_pos (v2 / 4) (show 0 < g0 by omega)
  generalize hhd : 1 + v1 / 4 % h0 = head
  generalize hgp : 1 + v2 / 4 % g0 = gap
  have ht1 := Int.emod_nonneg (v3 / 4 / 64) (show min ((unit + 1) / 2) (min head gap) ≠ 0 by omega)
  have ht2 := Int.emod_lt_of_pos (v3 / 4 / 64) (show 0 < min ((unit + 1) / 2) (min head gap) by omega)
  have hb1 := Int.emod_nonneg (v3 / 4) (show most ≠ 0 by omega)
  have hb2 := Int.emod_lt_of_pos (v3 / 4) hm
  refine ⟨way, head, gap, unit, 1 + v3 / 4 % most, decide (v3 / 4 / 16 % 2 = 0), v3 / 4 / 64 % min ((unit + 1) / 2) (min head gap), ?_, hw, by omega, by omega, by omega, by omega, by omega, by omega, by omega, by omega, by omega, by omega, by omega, by omega⟩
  rw [run__law_maker]
  simp -implicitDefEqProofs (disch := first | exact sh_int | assumption | omega | (simp -implicitDefEqProofs only [List.length_cons, List.length_nil, List.length_map, List.length_append, List.length_reverse, List.length_take, List.length_drop, List.length_set, List.length_replicate, bitsM_len, bitsL_len]; omega) | (simp -implicitDefEqProofs only [sh_int, sh_oI, sh8_pairs, sh8_rows, sh8_row, sh9_row, sh9_p, sh_bl, sh_non, sh9t, sh9l, sh8t, sh8l, sh7t, sh7l, sh6t, sh6l, sh5t, sh5l, sh4t, sh4l, sh_ints, sh_str, List.all_cons, List.all_nil, List.all_append, List.all_reverse, Bool.and_true, Bool.and_self]; done) | (simp -implicitDefEqProofs only [sh_int, sh_oI, sh8_pairs, sh8_rows, sh8_row, sh9_row, sh9_p, sh_bl, sh_non, sh9t, sh9l, sh8t, sh8l, sh7t, sh7l, sh6t, sh6l, sh5t, sh5l, sh4t, sh4l, sh_ints, sh_str, List.all_cons, List.all_nil, List.all_append, List.all_reverse, Bool.and_true, Bool.and_self]; decide +kernel)) only [ev_var, ev_cst, ev_glb, ev_bin, ev_cmp, ev_neg, ev_not, ev_chn, ev_and, ev_or, ev_idx, ev_cut, ev_stp, ev_tup, ev_lst, ev_call, ev_bi, ev_isi, ev_lc, ev_mth, ev_rpl, ev_kin, ev_kget, ev_sst, ev_lss, evs_nil, evs_cons, b1_ok, b2_ok, bs_ok, bcons_ok, band_t, band_f, band_b, bor_t, bor_f, bor_b, b3_ok, dNot_b, dNeg_i, prt_f, prt_t, blc_ok, bit_ok, dTup_ok, dLst_ok, add_ii, sub_ii, mul_l, mul_r, div_ii, mod_ii, add_tt, add_ll, mul_t1i, mul_l1i, lt_ii, le_ii, gt_ii, ge_ii, chn_le, is_bb, isn_bb, is_nn, is_in, isn_nn, isn_in, is_on, isn_on, deq_nn, deq_ni, deq_in, deq_oi, deq_oo, sh_oI, oI_s, oI_n, eq_ok, ne_ok, in_tup, nin_tup, in_lst, nin_lst, sh_int, sh_bl, sh_non, sh_str, sh_ints, deq_ii, deq_bb, deq_ss, deq_tt, deq_ll, deqL_nil, deqL_cons, deqL_nc, deqL_cn, deqL_ints, deqL_pairs, deqL_rows, deq_rr, deq_pp, get_0, get_s, ix_t0, ix_t1, ix_t2, ix_t3, ix_t4, ix_t5, ix_t6, ix_l0, ix_l1, ix_l2, ix_l3, ix_l4, ix_l5, ix_lb, ix_tb, dCut_t, dCut_l, rev_t, rev_l, even_t, odd_t, even_l, odd_l, len_t, len_l, int_b, int_i, tuple_t, tuple_l, list_t, list_l, abs_i, sum_t, sum_l, max_2, min_2, max_3, min_3, all_l, isi_ii, isi_ib, isi_is, isi_it, isi_il, isi_bi, isi_bb, isi_bt, isi_bs, isi_tt, isi_tl, isi_ti, isi_ts, isi_ll, isi_lt, isi_li, isi_ls, isi_ss, isi_si, isi_st, isi_sb, it_t, it_l, it_r1, it_r2, it_et, it_el, it_ztt, it_zll, it_ztl, it_zlt, lcFn_1, lcFn_2, cdR_t, cdR_f, cdR_b, xs_nil, xs_set, xs_own, xs_unp, xs_app, xs_ext, xs_put, kExt_ok, kPut_last, xs_frz, xs_pas, xs_ret, xs_ife, xs_for, kSet_ok, kOwn_ok, kUnp_t, kUnp_l, kApp_ok, kRet_ok, kIf_t, kIf_f, kSeq_n, kSeq_r, kFor_ok, forFn_1, forFn_2, setAll_n, setAll_c, fin_r, fin_n, wipe_n, wipe_c, go_nil, go_cons, kGo_n, kGo_r, List.set_cons_zero, List.set_cons_succ, List.cons_append, List.nil_append, List.length_cons, List.length_nil, List.all_cons, List.all_nil, Bool.and_true, Bool.true_and, Bool.and_false, Bool.false_and, Bool.or_true, Bool.true_or, Bool.or_false, Bool.false_or, Bool.not_true, Bool.not_false, decide_true, decide_false, eq_self, Int.cast_ofNat_Int, beq_self_eq_true, s_far_wide, s_far_turn, s_wide_far, s_wide_turn, s_turn_far, s_turn_wide, List.any_cons, List.any_nil, Int.reduceEq, Int.reduceLT, Int.reduceLE, Int.reduceAdd, Int.reduceSub, Int.reduceMul, Int.reduceNeg, Int.reduceToNat, Bool.decide_eq_true, Bool.false_eq_true, ↓reduceIte, List.length_map, bitsM_len, Nat.zero_add, Nat.reduceAdd, call_cf, f__law_maker, e1, e2, e3, ew, eu, eh, eg, hun, hhd, hgp, mkD]
theorem r_bits {n : Nat} {way : Str} {head gap unit b slip x : Int} {low : Bool} (hb : 0 ≤ b) (hb2 : b ≤ 1000) : run pg (n + 1) "bits_of" [mkD way head gap unit b low slip, .int x] = .ok (.tup ((bitsM low b.toNat x).map D.int)) := by
  rw [run_bits_of]
  simp -implicitDefEqProofs (disch := first | exact sh_int | assumption | omega | (simp -implicitDefEqProofs only [List.length_cons, List.length_nil, List.length_map, List.length_append, List.length_reverse, List.length_take, List.length_drop, List.length_set, List.length_replicate, bitsM_len, bitsL_len]; omega) | (simp -implicitDefEqProofs only [sh_int, sh_oI, sh8_pairs, sh8_rows, sh8_row, sh9_row, sh9_p, sh_bl, sh_non, sh9t, sh9l, sh8t, sh8l, sh7t, sh7l, sh6t, sh6l, sh5t, sh5l, sh4t, sh4l, sh_ints, sh_str, List.all_cons, List.all_nil, List.all_append, List.all_reverse, Bool.and_true, Bool.and_self]; done) | (simp -implicitDefEqProofs only [sh_int, sh_oI, sh8_pairs, sh8_rows, sh8_row, sh9_row, sh9_p, sh_bl, sh_non, sh9t, sh9l, sh8t, sh8l, sh7t, sh7l, sh6t, sh6l, sh5t, sh5l, sh4t, sh4l, sh_ints, sh_str, List.all_cons, List.all_nil, List.all_append, List.all_reverse, Bool.and_true, Bool.and_self]; decide +kernel)) only [ev_var, ev_cst, ev_glb, ev_bin, ev_cmp, ev_neg, ev_not, ev_chn, ev_and, ev_or, ev_idx, ev_cut, ev_stp, ev_tup, ev_lst, ev_call, ev_bi, ev_isi, ev_lc, ev_mth, ev_rpl, ev_kin, ev_kget, ev_sst, ev_lss, evs_nil, evs_cons, b1_ok, b2_ok, bs_ok, bcons_ok, band_t, band_f, band_b, bor_t, bor_f, bor_b, b3_ok, dNot_b, dNeg_i, prt_f, prt_t, blc_ok, bit_ok, dTup_ok, dLst_ok, add_ii, sub_ii, mul_l, mul_r, div_ii, mod_ii, add_tt, add_ll, mul_t1i, mul_l1i, lt_ii, le_ii, gt_ii, ge_ii, chn_le, is_bb, isn_bb, is_nn, is_in, isn_nn, isn_in, is_on, isn_on, deq_nn, deq_ni, deq_in, deq_oi, deq_oo, sh_oI, oI_s, oI_n, eq_ok, ne_ok, in_tup, nin_tup, in_lst, nin_lst, sh_int, sh_bl, sh_non, sh_str, sh_ints, deq_ii, deq_bb, deq_ss, deq_tt, deq_ll, deqL_nil, deqL_cons, deqL_nc, deqL_cn, deqL_ints, deqL_pairs, deqL_rows, deq_rr, deq_pp, get_0, get_s, ix_t0, ix_t1, ix_t2, ix_t3, ix_t4, ix_t5, ix_t6, ix_l0, ix_l1, ix_l2, ix_l3, ix_l4, ix_l5, ix_lb, ix_tb, dCut_t, dCut_l, rev_t, rev_l, even_t, odd_t, even_l, odd_l, len_t, len_l, int_b, int_i, tuple_t, tuple_l, list_t, list_l, abs_i, sum_t, sum_l, max_2, min_2, max_3, min_3, all_l, isi_ii, isi_ib, isi_is, isi_it, isi_il, isi_bi, isi_bb, isi_bt, isi_bs, isi_tt, isi_tl, isi_ti, isi_ts, isi_ll, isi_lt, isi_li, isi_ls, isi_ss, isi_si, isi_st, isi_sb, it_t, it_l, it_r1, it_r2, it_et, it_el, it_ztt, it_zll, it_ztl, it_zlt, lcFn_1, lcFn_2, cdR_t, cdR_f, cdR_b, xs_nil, xs_set, xs_own, xs_unp, xs_app, xs_ext, xs_put, kExt_ok, kPut_last, xs_frz, xs_pas, xs_ret, xs_ife, xs_for, kSet_ok, kOwn_ok, kUnp_t, kUnp_l, kApp_ok, kRet_ok, kIf_t, kIf_f, kSeq_n, kSeq_r, kFor_ok, forFn_1, forFn_2, setAll_n, setAll_c, fin_r, fin_n, wipe_n, wipe_c, go_nil, go_cons, kGo_n, kGo_r, List.set_cons_zero, List.set_cons_succ, List.cons_append, List.nil_append, List.length_cons, List.length_nil, List.all_cons, List.all_nil, Bool.and_true, Bool.true_and, Bool.and_false, Bool.false_and, Bool.or_true, Bool.true_or, Bool.or_false, Bool.false_or, Bool.not_true, Bool.not_false, decide_true, decide_false, eq_self, Int.cast_ofNat_Int, beq_self_eq_true, s_far_wide, s_far_turn, s_wide_far, s_wide_turn, s_turn_far, s_turn_wide, List.any_cons, List.any_nil, Int.reduceEq, Int.reduceLT, Int.reduceLE, Int.reduceAdd, Int.reduceSub, Int.reduceMul, Int.reduceNeg, Int.reduceToNat, Bool.decide_eq_true, Bool.false_eq_true, ↓reduceIte, List.length_map, bitsM_len, Nat.zero_add, Nat.reduceAdd, call_cf, f_bits_of, mkD]
  refine loop_fin (fun (a : List Int × Int) (j : Option D) => [some (mkD way head gap unit b low slip), some (.int a.2), some (.tup (a.1.map D.int)), j]) (fun r a => a.1 ++ bitsL r.length a.2 = bitsL b.toNat x ∧ a.1.length + r.length = b.toNat) ([], x) none rfl ?_ ?_ ?_
  · unfold rgL
    rw [List.length_map, List.length_range]
    exact ⟨rfl, Nat.zero_add _⟩
  · intro a j d r h
    refine ⟨(a.1 ++ [a.2 % 2], a.2 / 2), some d, ?_, ?_, ?_⟩
    · have h2 := h.2
      rw [List.length_cons] at h2
      simp -implicitDefEqProofs (disch := first | exact sh_int | assumption | omega | (simp -implicitDefEqProofs only [List.length_cons, List.length_nil, List.length_map, List.length_append, List.length_reverse, List.length_take, List.length_drop, List.length_set, List.length_replicate, bitsM_len, bitsL_len]; omega) | (simp -implicitDefEqProofs only [sh_int, sh_oI, sh8_pairs, sh8_rows, sh8_row, sh9_row, sh9_p, sh_bl, sh_non, sh9t, sh9l, sh8t, sh8l, sh7t, sh7l, sh6t, sh6l, sh5t, sh5l, sh4t, sh4l, sh_ints, sh_str, List.all_cons, List.all_nil, List.all_append, List.all_reverse, Bool.and_true, Bool.and_self]; done) | (simp -implicitDefEqProofs only [sh_int, sh_oI, sh8_pairs, sh8_rows, sh8_row, sh9_row, sh9_p, sh_bl, sh_non, sh9t, sh9l, sh8t, sh8l, sh7t, sh7l, sh6t, sh6l, sh5t, sh5l, sh4t, sh4l, sh_ints, sh_str, List.all_cons, List.all_nil, List.all_append, List.all_reverse, Bool.and_true, Bool.and_self]; decide +kernel)) only [ev_var, ev_cst, ev_glb, ev_bin, ev_cmp, ev_neg, ev_not, ev_chn, ev_and, ev_or, ev_idx, ev_cut, ev_stp, ev_tup, ev_lst, ev_call, ev_bi, ev_isi, ev_lc, ev_mth, ev_rpl, ev_kin, ev_kget, ev_sst, ev_lss, evs_nil, evs_cons, b1_ok, b2_ok, bs_ok, bcons_ok, band_t, band_f, band_b, bor_t, bor_f, bor_b, b3_ok, dNot_b, dNeg_i, prt_f, prt_t, blc_ok, bit_ok, dTup_ok, dLst_ok, add_ii, sub_ii, mul_l, mul_r, div_ii, mod_ii, add_tt, add_ll, mul_t1i, mul_l1i, lt_ii, le_ii, gt_ii, ge_ii, chn_le, is_bb, isn_bb, is_nn, is_in, isn_nn, isn_in, is_on, isn_on, deq_nn, deq_ni, deq_in, deq_oi, deq_oo, sh_oI, oI_s, oI_n, eq_ok, ne_ok, in_tup, nin_tup, in_lst, nin_lst, sh_int, sh_bl, sh_non, sh_str, sh_ints, deq_ii, deq_bb, deq_ss, deq_tt, deq_ll, deqL_nil, deqL_cons, deqL_nc, deqL_cn, deqL_ints, deqL_pairs, deqL_rows, deq_rr, deq_pp, get_0, get_s, ix_t0, ix_t1, ix_t2, ix_t3, ix_t4, ix_t5, ix_t6, ix_l0, ix_l1, ix_l2, ix_l3, ix_l4, ix_l5, ix_lb, ix_tb, dCut_t, dCut_l, rev_t, rev_l, even_t, odd_t, even_l, odd_l, len_t, len_l, int_b, int_i, tuple_t, tuple_l, list_t, list_l, abs_i, sum_t, sum_l, max_2, min_2, max_3, min_3, all_l, isi_ii, isi_ib, isi_is, isi_it, isi_il, isi_bi, isi_bb, isi_bt, isi_bs, isi_tt, isi_tl, isi_ti, isi_ts, isi_ll, isi_lt, isi_li, isi_ls, isi_ss, isi_si, isi_st, isi_sb, it_t, it_l, it_r1, it_r2, it_et, it_el, it_ztt, it_zll, it_ztl, it_zlt, lcFn_1, lcFn_2, cdR_t, cdR_f, cdR_b, xs_nil, xs_set, xs_own, xs_unp, xs_app, xs_ext, xs_put, kExt_ok, kPut_last, xs_frz, xs_pas, xs_ret, xs_ife, xs_for, kSet_ok, kOwn_ok, kUnp_t, kUnp_l, kApp_ok, kRet_ok, kIf_t, kIf_f, kSeq_n, kSeq_r, kFor_ok, forFn_1, forFn_2, setAll_n, setAll_c, fin_r, fin_n, wipe_n, wipe_c, go_nil, go_cons, kGo_n, kGo_r, List.set_cons_zero, List.set_cons_succ, List.cons_append, List.nil_append, List.length_cons, List.length_nil, List.all_cons, List.all_nil, Bool.and_true, Bool.true_and, Bool.and_false, Bool.false_and, Bool.or_true, Bool.true_or, Bool.or_false, Bool.false_or, Bool.not_true, Bool.not_false, decide_true, decide_false, eq_self, Int.cast_ofNat_Int, beq_self_eq_true, s_far_wide, s_far_turn, s_wide_far, s_wide_turn, s_turn_far, s_turn_wide, List.any_cons, List.any_nil, Int.reduceEq, Int.reduceLT, Int.reduceLE, Int.reduceAdd, Int.reduceSub, Int.reduceMul, Int.reduceNeg, Int.reduceToNat, Bool.decide_eq_true, Bool.false_eq_true, ↓reduceIte, List.length_map, bitsM_len, Nat.zero_add, Nat.reduceAdd, call_cf, List.map_append, List.map_cons, List.map_nil]
    · have h1 := h.1
      rw [List.length_cons, bitsL] at h1
      rw [← h1, List.append_assoc]
      rfl
    · have h2 := h.2
      rw [List.length_cons] at h2
      rw [List.length_append]
      show a.1.length + 1 + r.length = _
      omega
  · intro a j h
    have h1 := h.1
    have h2 := h.2
    rw [List.length_nil] at h1 h2
    rw [bitsL, List.append_nil] at h1
    unfold bitsM
    cases low
    · simp -implicitDefEqProofs (disch := first | exact sh_int | assumption | omega | (simp -implicitDefEqProofs only [List.length_cons, List.length_nil, List.length_map, List.length_append, List.length_reverse, List.length_take, List.length_drop, List.length_set, List.length_replicate, bitsM_len, bitsL_len]; omega) | (simp -implicitDefEqProofs only [sh_int, sh_oI, sh8_pairs, sh8_rows, sh8_row, sh9_row, sh9_p, sh_bl, sh_non, sh9t, sh9l, sh8t, sh8l, sh7t, sh7l, sh6t, sh6l, sh5t, sh5l, sh4t, sh4l, sh_ints, sh_str, List.all_cons, List.all_nil, List.all_append, List.all_reverse, Bool.and_true, Bool.and_self]; done) | (simp -implicitDefEqProofs only [sh_int, sh_oI, sh8_pairs, sh8_rows, sh8_row, sh9_row, sh9_p, sh_bl, sh_non, sh9t, sh9l, sh8t, sh8l, sh7t, sh7l, sh6t, sh6l, sh5t, sh5l, sh4t, sh4l, sh_ints, sh_str, List.all_cons, List.all_nil, List.all_append, List.all_reverse, Bool.and_true, Bool.and_self]; decide +kernel)) only [ev_var, ev_cst, ev_glb, ev_bin, ev_cmp, ev_neg, ev_not, ev_chn, ev_and, ev_or, ev_idx, ev_cut, ev_stp, ev_tup, ev_lst, ev_call, ev_bi, ev_isi, ev_lc, ev_mth, ev_rpl, ev_kin, ev_kget, ev_sst, ev_lss, evs_nil, evs_cons, b1_ok, b2_ok, bs_ok, bcons_ok, band_t, band_f, band_b, bor_t, bor_f, bor_b, b3_ok, dNot_b, dNeg_i, prt_f, prt_t, blc_ok, bit_ok, dTup_ok, dLst_ok, add_ii, sub_ii, mul_l, mul_r, div_ii, mod_ii, add_tt, add_ll, mul_t1i, mul_l1i, lt_ii, le_ii, gt_ii, ge_ii, chn_le, is_bb, isn_bb, is_nn, is_in, isn_nn, isn_in, is_on, isn_on, deq_nn, deq_ni, deq_in, deq_oi, deq_oo, sh_oI, oI_s, oI_n, eq_ok, ne_ok, in_tup, nin_tup, in_lst, nin_lst, sh_int, sh_bl, sh_non, sh_str, sh_ints, deq_ii, deq_bb, deq_ss, deq_tt, deq_ll, deqL_nil, deqL_cons, deqL_nc, deqL_cn, deqL_ints, deqL_pairs, deqL_rows, deq_rr, deq_pp, get_0, get_s, ix_t0, ix_t1, ix_t2, ix_t3, ix_t4, ix_t5, ix_t6, ix_l0, ix_l1, ix_l2, ix_l3, ix_l4, ix_l5, ix_lb, ix_tb, dCut_t, dCut_l, rev_t, rev_l, even_t, odd_t, even_l, odd_l, len_t, len_l, int_b, int_i, tuple_t, tuple_l, list_t, list_l, abs_i, sum_t, sum_l, max_2, min_2, max_3, min_3, all_l, isi_ii, isi_ib, isi_is, isi_it, isi_il, isi_bi, isi_bb, isi_bt, isi_bs, isi_tt, isi_tl, isi_ti, isi_ts, isi_ll, isi_lt, isi_li, isi_ls, isi_ss, isi_si, isi_st, isi_sb, it_t, it_l, it_r1, it_r2, it_et, it_el, it_ztt, it_zll, it_ztl, it_zlt, lcFn_1, lcFn_2, cdR_t, cdR_f, cdR_b, xs_nil, xs_set, xs_own, xs_unp, xs_app, xs_ext, xs_put, kExt_ok, kPut_last, xs_frz, xs_pas, xs_ret, xs_ife, xs_for, kSet_ok, kOwn_ok, kUnp_t, kUnp_l, kApp_ok, kRet_ok, kIf_t, kIf_f, kSeq_n, kSeq_r, kFor_ok, forFn_1, forFn_2, setAll_n, setAll_c, fin_r, fin_n, wipe_n, wipe_c, go_nil, go_cons, kGo_n, kGo_r, List.set_cons_zero, List.set_cons_succ, List.cons_append, List.nil_append, List.length_cons, List.length_nil, List.all_cons, List.all_nil, Bool.and_true, Bool.true_and, Bool.and_false, Bool.false_and, Bool.or_true, Bool.true_or, Bool.or_false, Bool.false_or, Bool.not_true, Bool.not_false, decide_true, decide_false, eq_self, Int.cast_ofNat_Int, beq_self_eq_true, s_far_wide, s_far_turn, s_wide_far, s_wide_turn, s_turn_far, s_turn_wide, List.any_cons, List.any_nil, Int.reduceEq, Int.reduceLT, Int.reduceLE, Int.reduceAdd, Int.reduceSub, Int.reduceMul, Int.reduceNeg, Int.reduceToNat, Bool.decide_eq_true, Bool.false_eq_true, ↓reduceIte, List.length_map, bitsM_len, Nat.zero_add, Nat.reduceAdd, call_cf, mkD]
      rw [← h1, List.map_reverse]
    · simp -implicitDefEqProofs (disch := first | exact sh_int | assumption | omega | (simp -implicitDefEqProofs only [List.length_cons, List.length_nil, List.length_map, List.length_append, List.length_reverse, List.length_take, List.length_drop, List.length_set, List.length_replicate, bitsM_len, bitsL_len]; omega) | (simp -implicitDefEqProofs only [sh_int, sh_oI, sh8_pairs, sh8_rows, sh8_row, sh9_row, sh9_p, sh_bl, sh_non, sh9t, sh9l, sh8t, sh8l, sh7t, sh7l, sh6t, sh6l, sh5t, sh5l, sh4t, sh4l, sh_ints, sh_str, List.all_cons, List.all_nil, List.all_append, List.all_reverse, Bool.and_true, Bool.and_self]; done) | (simp -implicitDefEqProofs only [sh_int, sh_oI, sh8_pairs, sh8_rows, sh8_row, sh9_row, sh9_p, sh_bl, sh_non, sh9t, sh9l, sh8t, sh8l, sh7t, sh7l, sh6t, sh6l, sh5t, sh5l, sh4t, sh4l, sh_ints, sh_str, List.all_cons, List.all_nil, List.all_append, List.all_reverse, Bool.and_true, Bool.and_self]; decide +kernel)) only [ev_var, ev_cst, ev_glb, ev_bin, ev_cmp, ev_neg, ev_not, ev_chn, ev_and, ev_or, ev_idx, ev_cut, ev_stp, ev_tup, ev_lst, ev_call, ev_bi, ev_isi, ev_lc, ev_mth, ev_rpl, ev_kin, ev_kget, ev_sst, ev_lss, evs_nil, evs_cons, b1_ok, b2_ok, bs_ok, bcons_ok, band_t, band_f, band_b, bor_t, bor_f, bor_b, b3_ok, dNot_b, dNeg_i, prt_f, prt_t, blc_ok, bit_ok, dTup_ok, dLst_ok, add_ii, sub_ii, mul_l, mul_r, div_ii, mod_ii, add_tt, add_ll, mul_t1i, mul_l1i, lt_ii, le_ii, gt_ii, ge_ii, chn_le, is_bb, isn_bb, is_nn, is_in, isn_nn, isn_in, is_on, isn_on, deq_nn, deq_ni, deq_in, deq_oi, deq_oo, sh_oI, oI_s, oI_n, eq_ok, ne_ok, in_tup, nin_tup, in_lst, nin_lst, sh_int, sh_bl, sh_non, sh_str, sh_ints, deq_ii, deq_bb, deq_ss, deq_tt, deq_ll, deqL_nil, deqL_cons, deqL_nc, deqL_cn, deqL_ints, deqL_pairs, deqL_rows, deq_rr, deq_pp, get_0, get_s, ix_t0, ix_t1, ix_t2, ix_t3, ix_t4, ix_t5, ix_t6, ix_l0, ix_l1, ix_l2, ix_l3, ix_l4, ix_l5, ix_lb, ix_tb, dCut_t, dCut_l, rev_t, rev_l, even_t, odd_t, even_l, odd_l, len_t, len_l, int_b, int_i, tuple_t, tuple_l, list_t, list_l, abs_i, sum_t, sum_l, max_2, min_2, max_3, min_3, all_l, isi_ii, isi_ib, isi_is, isi_it, isi_il, isi_bi, isi_bb, isi_bt, isi_bs, isi_tt, isi_tl, isi_ti, isi_ts, isi_ll, isi_lt, isi_li, isi_ls, isi_ss, isi_si, isi_st, isi_sb, it_t, it_l, it_r1, it_r2, it_et, it_el, it_ztt, it_zll, it_ztl, it_zlt, lcFn_1, lcFn_2, cdR_t, cdR_f, cdR_b, xs_nil, xs_set, xs_own, xs_unp, xs_app, xs_ext, xs_put, kExt_ok, kPut_last, xs_frz, xs_pas, xs_ret, xs_ife, xs_for, kSet_ok, kOwn_ok, kUnp_t, kUnp_l, kApp_ok, kRet_ok, kIf_t, kIf_f, kSeq_n, kSeq_r, kFor_ok, forFn_1, forFn_2, setAll_n, setAll_c, fin_r, fin_n, wipe_n, wipe_c, go_nil, go_cons, kGo_n, kGo_r, List.set_cons_zero, List.set_cons_succ, List.cons_append, List.nil_append, List.length_cons, List.length_nil, List.all_cons, List.all_nil, Bool.and_true, Bool.true_and, Bool.and_false, Bool.false_and, Bool.or_true, Bool.true_or, Bool.or_false, Bool.false_or, Bool.not_true, Bool.not_false, decide_true, decide_false, eq_self, Int.cast_ofNat_Int, beq_self_eq_true, s_far_wide, s_far_turn, s_wide_far, s_wide_turn, s_turn_far, s_turn_wide, List.any_cons, List.any_nil, Int.reduceEq, Int.reduceLT, Int.reduceLE, Int.reduceAdd, Int.reduceSub, Int.reduceMul, Int.reduceNeg, Int.reduceToNat, Bool.decide_eq_true, Bool.false_eq_true, ↓reduceIte, List.length_map, bitsM_len, Nat.zero_add, Nat.reduceAdd, call_cf, mkD]
      rw [← h1]
theorem r_number {n : Nat} {way : Str} {head gap unit b slip : Int} {low : Bool} (bs : List Int) (hl : bs.length ≤ 1000) : run pg (n + 1) "number_of" [mkD way head gap unit b low slip, .tup (bs.map D.int)] = .ok (.int (numM low bs)) := by
  have go : ∀ (cs : List Int) (ρ0 : D), cs.length ≤ 1000 → finish (kSeq (forGo (forFn (cf n) 100000 (.one 3) [.set 2 (.bin .Add (.bin .Mult (.cst (.int 2)) (.var 2)) (.var 3))]) (cs.map D.int) [some ρ0, some (.tup (cs.map D.int)), some (.int 0), none]) (cf n) 100000 [.ret (.var 2)]) = .ok (.int (cs.foldl (fun t b => 2 * t + b) 0)) := by
    intro cs ρ0 hc
    refine loop_fin (fun (a : Int) (j : Option D) => [some ρ0, some (.tup (cs.map D.int)), some (.int a), j]) (fun r a => ∃ q : List Int, r = q.map D.int ∧ q.foldl (fun t b => 2 * t + b) a = cs.foldl (fun t b => 2 * t + b) 0) 0 none rfl ⟨cs, rfl, rfl⟩ ?_ ?_
    · rintro a j d r ⟨q, hq, e⟩
      cases q with
      | nil => cases hq
      | cons y q =>
        cases hq
        refine ⟨2 * a + y, some (.int y), ?_, q, rfl, e⟩
        simp -implicitDefEqProofs (disch := first | exact sh_int | assumption | omega | (simp -implicitDefEqProofs only [List.length_cons, List.length_nil, List.length_map, List.length_append, List.length_reverse, List.length_take, List.length_drop, List.length_set, List.length_replicate, bitsM_len, bitsL_len]; omega) | (simp -implicitDefEqProofs only [sh_int, sh_oI, sh8_pairs, sh8_rows, sh8_row, sh9_row, sh9_p, sh_bl, sh_non, sh9t, sh9l, sh8t, sh8l, sh7t, sh7l, sh6t, sh6l, sh5t, sh5l, sh4t, sh4l, sh_ints, sh_str, List.all_cons, List.all_nil, List.all_append, List.all_reverse, Bool.and_true, Bool.and_self]; done) | (simp -implicitDefEqProofs only [sh_int, sh_oI, sh8_pairs, sh8_rows, sh8_row, sh9_row, sh9_p, sh_bl, sh_non, sh9t, sh9l, sh8t, sh8l, sh7t, sh7l, sh6t, sh6l, sh5t, sh5l, sh4t, sh4l, sh_ints, sh_str, List.all_cons, List.all_nil, List.all_append, List.all_reverse, Bool.and_true, Bool.and_self]; decide +kernel)) only [ev_var, ev_cst, ev_glb, ev_bin, ev_cmp, ev_neg, ev_not, ev_chn, ev_and, ev_or, ev_idx, ev_cut, ev_stp, ev_tup, ev_lst, ev_call, ev_bi, ev_isi, ev_lc, ev_mth, ev_rpl, ev_kin, ev_kget, ev_sst, ev_lss, evs_nil, evs_cons, b1_ok, b2_ok, bs_ok, bcons_ok, band_t, band_f, band_b, bor_t, bor_f, bor_b, b3_ok, dNot_b, dNeg_i, prt_f, prt_t, blc_ok, bit_ok, dTup_ok, dLst_ok, add_ii, sub_ii, mul_l, mul_r, div_ii, mod_ii, add_tt, add_ll, mul_t1i, mul_l1i, lt_ii, le_ii, gt_ii, ge_ii, chn_le, is_bb, isn_bb, is_nn, is_in, isn_nn, isn_in, is_on, isn_on, deq_nn, deq_ni, deq_in, deq_oi, deq_oo, sh_oI, oI_s, oI_n, eq_ok, ne_ok, in_tup, nin_tup, in_lst, nin_lst, sh_int, sh_bl, sh_non, sh_str, sh_ints, deq_ii, deq_bb, deq_ss, deq_tt, deq_ll, deqL_nil, deqL_cons, deqL_nc, deqL_cn, deqL_ints, deqL_pairs, deqL_rows, deq_rr, deq_pp, get_0, get_s, ix_t0, ix_t1, ix_t2, ix_t3, ix_t4, ix_t5, ix_t6, ix_l0, ix_l1, ix_l2, ix_l3, ix_l4, ix_l5, ix_lb, ix_tb, dCut_t, dCut_l, rev_t, rev_l, even_t, odd_t, even_l, odd_l, len_t, len_l, int_b, int_i, tuple_t, tuple_l, list_t, list_l, abs_i, sum_t, sum_l, max_2, min_2, max_3, min_3, all_l, isi_ii, isi_ib, isi_is, isi_it, isi_il, isi_bi, isi_bb, isi_bt, isi_bs, isi_tt, isi_tl, isi_ti, isi_ts, isi_ll, isi_lt, isi_li, isi_ls, isi_ss, isi_si, isi_st, isi_sb, it_t, it_l, it_r1, it_r2, it_et, it_el, it_ztt, it_zll, it_ztl, it_zlt, lcFn_1, lcFn_2, cdR_t, cdR_f, cdR_b, xs_nil, xs_set, xs_own, xs_unp, xs_app, xs_ext, xs_put, kExt_ok, kPut_last, xs_frz, xs_pas, xs_ret, xs_ife, xs_for, kSet_ok, kOwn_ok, kUnp_t, kUnp_l, kApp_ok, kRet_ok, kIf_t, kIf_f, kSeq_n, kSeq_r, kFor_ok, forFn_1, forFn_2, setAll_n, setAll_c, fin_r, fin_n, wipe_n, wipe_c, go_nil, go_cons, kGo_n, kGo_r, List.set_cons_zero, List.set_cons_succ, List.cons_append, List.nil_append, List.length_cons, List.length_nil, List.all_cons, List.all_nil, Bool.and_true, Bool.true_and, Bool.and_false, Bool.false_and, Bool.or_true, Bool.true_or, Bool.or_false, Bool.false_or, Bool.not_true, Bool.not_false, decide_true, decide_false, eq_self, Int.cast_ofNat_Int, beq_self_eq_true, s_far_wide, s_far_turn, s_wide_far, s_wide_turn, s_turn_far, s_turn_wide, List.any_cons, List.any_nil, Int.reduceEq, Int.reduceLT, Int.reduceLE, Int.reduceAdd, Int.reduceSub, Int.reduceMul, Int.reduceNeg, Int.reduceToNat, Bool.decide_eq_true, Bool.false_eq_true, ↓reduceIte, List.length_map, bitsM_len, Nat.zero_add, Nat.reduceAdd, call_cf]
    · rintro a j ⟨q, hq, e⟩
      cases q with
      | cons y q => cases hq
      | nil =>
        simp -implicitDefEqProofs (disch := first | exact sh_int | assumption | omega | (simp -implicitDefEqProofs only [List.length_cons, List.length_nil, List.length_map, List.length_append, List.length_reverse, List.length_take, List.length_drop, List.length_set, List.length_replicate, bitsM_len, bitsL_len]; omega) | (simp -implicitDefEqProofs only [sh_int, sh_oI, sh8_pairs, sh8_rows, sh8_row, sh9_row, sh9_p, sh_bl, sh_non, sh9t, sh9l, sh8t, sh8l, sh7t, sh7l, sh6t, sh6l, sh5t, sh5l, sh4t, sh4l, sh_ints, sh_str, List.all_cons, List.all_nil, List.all_append, List.all_reverse, Bool.and_true, Bool.and_self]; done) | (simp -implicitDefEqProofs only [sh_int, sh_oI, sh8_pairs, sh8_rows, sh8_row, sh9_row, sh9_p, sh_bl, sh_non, sh9t, sh9l, sh8t, sh8l, sh7t, sh7l, sh6t, sh6l, sh5t, sh5l, sh4t, sh4l, sh_ints, sh_str, List.all_cons, List.all_nil, List.all_append, List.all_reverse, Bool.and_true, Bool.and_self]; decide +kernel)) only [ev_var, ev_cst, ev_glb, ev_bin, ev_cmp, ev_neg, ev_not, ev_chn, ev_and, ev_or, ev_idx, ev_cut, ev_stp, ev_tup, ev_lst, ev_call, ev_bi, ev_isi, ev_lc, ev_mth, ev_rpl, ev_kin, ev_kget, ev_sst, ev_lss, evs_nil, evs_cons, b1_ok, b2_ok, bs_ok, bcons_ok, band_t, band_f, band_b, bor_t, bor_f, bor_b, b3_ok, dNot_b, dNeg_i, prt_f, prt_t, blc_ok, bit_ok, dTup_ok, dLst_ok, add_ii, sub_ii, mul_l, mul_r, div_ii, mod_ii, add_tt, add_ll, mul_t1i, mul_l1i, lt_ii, le_ii, gt_ii, ge_ii, chn_le, is_bb, isn_bb, is_nn, is_in, isn_nn, isn_in, is_on, isn_on, deq_nn, deq_ni, deq_in, deq_oi, deq_oo, sh_oI, oI_s, oI_n, eq_ok, ne_ok, in_tup, nin_tup, in_lst, nin_lst, sh_int, sh_bl, sh_non, sh_str, sh_ints, deq_ii, deq_bb, deq_ss, deq_tt, deq_ll, deqL_nil, deqL_cons, deqL_nc, deqL_cn, deqL_ints, deqL_pairs, deqL_rows, deq_rr, deq_pp, get_0, get_s, ix_t0, ix_t1, ix_t2, ix_t3, ix_t4, ix_t5, ix_t6, ix_l0, ix_l1, ix_l2, ix_l3, ix_l4, ix_l5, ix_lb, ix_tb, dCut_t, dCut_l, rev_t, rev_l, even_t, odd_t, even_l, odd_l, len_t, len_l, int_b, int_i, tuple_t, tuple_l, list_t, list_l, abs_i, sum_t, sum_l, max_2, min_2, max_3, min_3, all_l, isi_ii, isi_ib, isi_is, isi_it, isi_il, isi_bi, isi_bb, isi_bt, isi_bs, isi_tt, isi_tl, isi_ti, isi_ts, isi_ll, isi_lt, isi_li, isi_ls, isi_ss, isi_si, isi_st, isi_sb, it_t, it_l, it_r1, it_r2, it_et, it_el, it_ztt, it_zll, it_ztl, it_zlt, lcFn_1, lcFn_2, cdR_t, cdR_f, cdR_b, xs_nil, xs_set, xs_own, xs_unp, xs_app, xs_ext, xs_put, kExt_ok, kPut_last, xs_frz, xs_pas, xs_ret, xs_ife, xs_for, kSet_ok, kOwn_ok, kUnp_t, kUnp_l, kApp_ok, kRet_ok, kIf_t, kIf_f, kSeq_n, kSeq_r, kFor_ok, forFn_1, forFn_2, setAll_n, setAll_c, fin_r, fin_n, wipe_n, wipe_c, go_nil, go_cons, kGo_n, kGo_r, List.set_cons_zero, List.set_cons_succ, List.cons_append, List.nil_append, List.length_cons, List.length_nil, List.all_cons, List.all_nil, Bool.and_true, Bool.true_and, Bool.and_false, Bool.false_and, Bool.or_true, Bool.true_or, Bool.or_false, Bool.false_or, Bool.not_true, Bool.not_false, decide_true, decide_false, eq_self, Int.cast_ofNat_Int, beq_self_eq_true, s_far_wide, s_far_turn, s_wide_far, s_wide_turn, s_turn_far, s_turn_wide, List.any_cons, List.any_nil, Int.reduceEq, Int.reduceLT, Int.reduceLE, Int.reduceAdd, Int.reduceSub, Int.reduceMul, Int.reduceNeg, Int.reduceToNat, Bool.decide_eq_true, Bool.false_eq_true, ↓reduceIte, List.length_map, bitsM_len, Nat.zero_add, Nat.reduceAdd, call_cf]
        rw [← e]
        rfl
  rw [run_number_of]
  unfold numM
  cases low
  · simp -implicitDefEqProofs (disch := first | exact sh_int | assumption | omega | (simp -implicitDefEqProofs only [List.length_cons, List.length_nil, List.length_map, List.length_append, List.length_reverse, List.length_take, List.length_drop, List.length_set, List.length_replicate, bitsM_len, bitsL_len]; omega) | (simp -implicitDefEqProofs only [sh_int, sh_oI, sh8_pairs, sh8_rows, sh8_row, sh9_row, sh9_p, sh_bl, sh_non, sh9t, sh9l, sh8t, sh8l, sh7t, sh7l, sh6t, sh6l, sh5t, sh5l, sh4t, sh4l, sh_ints, sh_str, List.all_cons, List.all_nil, List.all_append, List.all_reverse, Bool.and_true, Bool.and_self]; done) | (simp -implicitDefEqProofs only [sh_int, sh_oI, sh8_pairs, sh8_rows, sh8_row, sh9_row, sh9_p, sh_bl, sh_non, sh9t, sh9l, sh8t, sh8l, sh7t, sh7l, sh6t, sh6l, sh5t, sh5l, sh4t, sh4l, sh_ints, sh_str, List.all_cons, List.all_nil, List.all_append, List.all_reverse, Bool.and_true, Bool.and_self]; decide +kernel)) only [ev_var, ev_cst, ev_glb, ev_bin, ev_cmp, ev_neg, ev_not, ev_chn, ev_and, ev_or, ev_idx, ev_cut, ev_stp, ev_tup, ev_lst, ev_call, ev_bi, ev_isi, ev_lc, ev_mth, ev_rpl, ev_kin, ev_kget, ev_sst, ev_lss, evs_nil, evs_cons, b1_ok, b2_ok, bs_ok, bcons_ok, band_t, band_f, band_b, bor_t, bor_f, bor_b, b3_ok, dNot_b, dNeg_i, prt_f, prt_t, blc_ok, bit_ok, dTup_ok, dLst_ok, add_ii, sub_ii, mul_l, mul_r, div_ii, mod_ii, add_tt, add_ll, mul_t1i, mul_l1i, lt_ii, le_ii, gt_ii, ge_ii, chn_le, is_bb, isn_bb, is_nn, is_in, isn_nn, isn_in, is_on, isn_on, deq_nn, deq_ni, deq_in, deq_oi, deq_oo, sh_oI, oI_s, oI_n, eq_ok, ne_ok, in_tup, nin_tup, in_lst, nin_lst, sh_int, sh_bl, sh_non, sh_str, sh_ints, deq_ii, deq_bb, deq_ss, deq_tt, deq_ll, deqL_nil, deqL_cons, deqL_nc, deqL_cn, deqL_ints, deqL_pairs, deqL_rows, deq_rr, deq_pp, get_0, get_s, ix_t0, ix_t1, ix_t2, ix_t3, ix_t4, ix_t5, ix_t6, ix_l0, ix_l1, ix_l2, ix_l3, ix_l4, ix_l5, ix_lb, ix_tb, dCut_t, dCut_l, rev_t, rev_l, even_t, odd_t, even_l, odd_l, len_t, len_l, int_b, int_i, tuple_t, tuple_l, list_t, list_l, abs_i, sum_t, sum_l, max_2, min_2, max_3, min_3, all_l, isi_ii, isi_ib, isi_is, isi_it, isi_il, isi_bi, isi_bb, isi_bt, isi_bs, isi_tt, isi_tl, isi_ti, isi_ts, isi_ll, isi_lt, isi_li, isi_ls, isi_ss, isi_si, isi_st, isi_sb, it_t, it_l, it_r1, it_r2, it_et, it_el, it_ztt, it_zll, it_ztl, it_zlt, lcFn_1, lcFn_2, cdR_t, cdR_f, cdR_b, xs_nil, xs_set, xs_own, xs_unp, xs_app, xs_ext, xs_put, kExt_ok, kPut_last, xs_frz, xs_pas, xs_ret, xs_ife, xs_for, kSet_ok, kOwn_ok, kUnp_t, kUnp_l, kApp_ok, kRet_ok, kIf_t, kIf_f, kSeq_n, kSeq_r, kFor_ok, forFn_1, forFn_2, setAll_n, setAll_c, fin_r, fin_n, wipe_n, wipe_c, go_nil, go_cons, kGo_n, kGo_r, List.set_cons_zero, List.set_cons_succ, List.cons_append, List.nil_append, List.length_cons, List.length_nil, List.all_cons, List.all_nil, Bool.and_true, Bool.true_and, Bool.and_false, Bool.false_and, Bool.or_true, Bool.true_or, Bool.or_false, Bool.false_or, Bool.not_true, Bool.not_false, decide_true, decide_false, eq_self, Int.cast_ofNat_Int, beq_self_eq_true, s_far_wide, s_far_turn, s_wide_far, s_wide_turn, s_turn_far, s_turn_wide, List.any_cons, List.any_nil, Int.reduceEq, Int.reduceLT, Int.reduceLE, Int.reduceAdd, Int.reduceSub, Int.reduceMul, Int.reduceNeg, Int.reduceToNat, Bool.decide_eq_true, Bool.false_eq_true, ↓reduceIte, List.length_map, bitsM_len, Nat.zero_add, Nat.reduceAdd, call_cf, f_number_of, mkD]
    rw [go bs _ hl, ← horner bs.reverse 0, List.reverse_reverse]
  · simp -implicitDefEqProofs (disch := first | exact sh_int | assumption | omega | (simp -implicitDefEqProofs only [List.length_cons, List.length_nil, List.length_map, List.length_append, List.length_reverse, List.length_take, List.length_drop, List.length_set, List.length_replicate, bitsM_len, bitsL_len]; omega) | (simp -implicitDefEqProofs only [sh_int, sh_oI, sh8_pairs, sh8_rows, sh8_row, sh9_row, sh9_p, sh_bl, sh_non, sh9t, sh9l, sh8t, sh8l, sh7t, sh7l, sh6t, sh6l, sh5t, sh5l, sh4t, sh4l, sh_ints, sh_str, List.all_cons, List.all_nil, List.all_append, List.all_reverse, Bool.and_true, Bool.and_self]; done) | (simp -implicitDefEqProofs only [sh_int, sh_oI, sh8_pairs, sh8_rows, sh8_row, sh9_row, sh9_p, sh_bl, sh_non, sh9t, sh9l, sh8t, sh8l, sh7t, sh7l, sh6t, sh6l, sh5t, sh5l, sh4t, sh4l, sh_ints, sh_str, List.all_cons, List.all_nil, List.all_append, List.all_reverse, Bool.and_true, Bool.and_self]; decide +kernel)) only [ev_var, ev_cst, ev_glb, ev_bin, ev_cmp, ev_neg, ev_not, ev_chn, ev_and, ev_or, ev_idx, ev_cut, ev_stp, ev_tup, ev_lst, ev_call, ev_bi, ev_isi, ev_lc, ev_mth, ev_rpl, ev_kin, ev_kget, ev_sst, ev_lss, evs_nil, evs_cons, b1_ok, b2_ok, bs_ok, bcons_ok, band_t, band_f, band_b, bor_t, bor_f, bor_b, b3_ok, dNot_b, dNeg_i, prt_f, prt_t, blc_ok, bit_ok, dTup_ok, dLst_ok, add_ii, sub_ii, mul_l, mul_r, div_ii, mod_ii, add_tt, add_ll, mul_t1i, mul_l1i, lt_ii, le_ii, gt_ii, ge_ii, chn_le, is_bb, isn_bb, is_nn, is_in, isn_nn, isn_in, is_on, isn_on, deq_nn, deq_ni, deq_in, deq_oi, deq_oo, sh_oI, oI_s, oI_n, eq_ok, ne_ok, in_tup, nin_tup, in_lst, nin_lst, sh_int, sh_bl, sh_non, sh_str, sh_ints, deq_ii, deq_bb, deq_ss, deq_tt, deq_ll, deqL_nil, deqL_cons, deqL_nc, deqL_cn, deqL_ints, deqL_pairs, deqL_rows, deq_rr, deq_pp, get_0, get_s, ix_t0, ix_t1, ix_t2, ix_t3, ix_t4, ix_t5, ix_t6, ix_l0, ix_l1, ix_l2, ix_l3, ix_l4, ix_l5, ix_lb, ix_tb, dCut_t, dCut_l, rev_t, rev_l, even_t, odd_t, even_l, odd_l, len_t, len_l, int_b, int_i, tuple_t, tuple_l, list_t, list_l, abs_i, sum_t, sum_l, max_2, min_2, max_3, min_3, all_l, isi_ii, isi_ib, isi_is, isi_it, isi_il, isi_bi, isi_bb, isi_bt, isi_bs, isi_tt, isi_tl, isi_ti, isi_ts, isi_ll, isi_lt, isi_li, isi_ls, isi_ss, isi_si, isi_st, isi_sb, it_t, it_l, it_r1, it_r2, it_et, it_el, it_ztt, it_zll, it_ztl, it_zlt, lcFn_1, lcFn_2, cdR_t, cdR_f, cdR_b, xs_nil, xs_set, xs_own, xs_unp, xs_app, xs_ext, xs_put, kExt_ok, kPut_last, xs_frz, xs_pas, xs_ret, xs_ife, xs_for, kSet_ok, kOwn_ok, kUnp_t, kUnp_l, kApp_ok, kRet_ok, kIf_t, kIf_f, kSeq_n, kSeq_r, kFor_ok, forFn_1, forFn_2, setAll_n, setAll_c, fin_r, fin_n, wipe_n, wipe_c, go_nil, go_cons, kGo_n, kGo_r, List.set_cons_zero, List.set_cons_succ, List.cons_append, List.nil_append, List.length_cons, List.length_nil, List.all_cons, List.all_nil, Bool.and_true, Bool.true_and, Bool.and_false, Bool.false_and, Bool.or_true, Bool.true_or, Bool.or_false, Bool.false_or, Bool.not_true, Bool.not_false, decide_true, decide_false, eq_self, Int.cast_ofNat_Int, beq_self_eq_true, s_far_wide, s_far_turn, s_wide_far, s_wide_turn, s_turn_far, s_turn_wide, List.any_cons, List.any_nil, Int.reduceEq, Int.reduceLT, Int.reduceLE, Int.reduceAdd, Int.reduceSub, Int.reduceMul, Int.reduceNeg, Int.reduceToNat, Bool.decide_eq_true, Bool.false_eq_true, ↓reduceIte, List.length_map, bitsM_len, Nat.zero_add, Nat.reduceAdd, call_cf, f_number_of, mkD]
    rw [← List.map_reverse, go bs.reverse _ (by rw [List.length_reverse]; exact hl), horner bs 0]
theorem r_count {n : Nat} {way : Str} {head gap unit b slip : Int} {low : Bool} (hb : 0 ≤ b) (hb2 : b ≤ 12) : run pg (n + 1) "_law_count" [mkD way head gap unit b low slip] = .ok (.int (2 ^ b.toNat)) := by
  rw [run__law_count]
  simp -implicitDefEqProofs (disch := first | exact sh_int | assumption | omega | (simp -implicitDefEqProofs only [List.length_cons, List.length_nil, List.length_map, List.length_append, List.length_reverse, List.length_take, List.length_drop, List.length_set, List.length_replicate, bitsM_len, bitsL_len]; omega) | (simp -implicitDefEqProofs only [sh_int, sh_oI, sh8_pairs, sh8_rows, sh8_row, sh9_row, sh9_p, sh_bl, sh_non, sh9t, sh9l, sh8t, sh8l, sh7t, sh7l, sh6t, sh6l, sh5t, sh5l, sh4t, sh4l, sh_ints, sh_str, List.all_cons, List.all_nil, List.all_append, List.all_reverse, Bool.and_true, Bool.and_self]; done) | (simp -implicitDefEqProofs only [sh_int, sh_oI, sh8_pairs, sh8_rows, sh8_row, sh9_row, sh9_p, sh_bl, sh_non, sh9t, sh9l, sh8t, sh8l, sh7t, sh7l, sh6t, sh6l, sh5t, sh5l, sh4t, sh4l, sh_ints, sh_str, List.all_cons, List.all_nil, List.all_append, List.all_reverse, Bool.and_true, Bool.and_self]; decide +kernel)) only [ev_var, ev_cst, ev_glb, ev_bin, ev_cmp, ev_neg, ev_not, ev_chn, ev_and, ev_or, ev_idx, ev_cut, ev_stp, ev_tup, ev_lst, ev_call, ev_bi, ev_isi, ev_lc, ev_mth, ev_rpl, ev_kin, ev_kget, ev_sst, ev_lss, evs_nil, evs_cons, b1_ok, b2_ok, bs_ok, bcons_ok, band_t, band_f, band_b, bor_t, bor_f, bor_b, b3_ok, dNot_b, dNeg_i, prt_f, prt_t, blc_ok, bit_ok, dTup_ok, dLst_ok, add_ii, sub_ii, mul_l, mul_r, div_ii, mod_ii, add_tt, add_ll, mul_t1i, mul_l1i, lt_ii, le_ii, gt_ii, ge_ii, chn_le, is_bb, isn_bb, is_nn, is_in, isn_nn, isn_in, is_on, isn_on, deq_nn, deq_ni, deq_in, deq_oi, deq_oo, sh_oI, oI_s, oI_n, eq_ok, ne_ok, in_tup, nin_tup, in_lst, nin_lst, sh_int, sh_bl, sh_non, sh_str, sh_ints, deq_ii, deq_bb, deq_ss, deq_tt, deq_ll, deqL_nil, deqL_cons, deqL_nc, deqL_cn, deqL_ints, deqL_pairs, deqL_rows, deq_rr, deq_pp, get_0, get_s, ix_t0, ix_t1, ix_t2, ix_t3, ix_t4, ix_t5, ix_t6, ix_l0, ix_l1, ix_l2, ix_l3, ix_l4, ix_l5, ix_lb, ix_tb, dCut_t, dCut_l, rev_t, rev_l, even_t, odd_t, even_l, odd_l, len_t, len_l, int_b, int_i, tuple_t, tuple_l, list_t, list_l, abs_i, sum_t, sum_l, max_2, min_2, max_3, min_3, all_l, isi_ii, isi_ib, isi_is, isi_it, isi_il, isi_bi, isi_bb, isi_bt, isi_bs, isi_tt, isi_tl, isi_ti, isi_ts, isi_ll, isi_lt, isi_li, isi_ls, isi_ss, isi_si, isi_st, isi_sb, it_t, it_l, it_r1, it_r2, it_et, it_el, it_ztt, it_zll, it_ztl, it_zlt, lcFn_1, lcFn_2, cdR_t, cdR_f, cdR_b, xs_nil, xs_set, xs_own, xs_unp, xs_app, xs_ext, xs_put, kExt_ok, kPut_last, xs_frz, xs_pas, xs_ret, xs_ife, xs_for, kSet_ok, kOwn_ok, kUnp_t, kUnp_l, kApp_ok, kRet_ok, kIf_t, kIf_f, kSeq_n, kSeq_r, kFor_ok, forFn_1, forFn_2, setAll_n, setAll_c, fin_r, fin_n, wipe_n, wipe_c, go_nil, go_cons, kGo_n, kGo_r, List.set_cons_zero, List.set_cons_succ, List.cons_append, List.nil_append, List.length_cons, List.length_nil, List.all_cons, List.all_nil, Bool.and_true, Bool.true_and, Bool.and_false, Bool.false_and, Bool.or_true, Bool.true_or, Bool.or_false, Bool.false_or, Bool.not_true, Bool.not_false, decide_true, decide_false, eq_self, Int.cast_ofNat_Int, beq_self_eq_true, s_far_wide, s_far_turn, s_wide_far, s_wide_turn, s_turn_far, s_turn_wide, List.any_cons, List.any_nil, Int.reduceEq, Int.reduceLT, Int.reduceLE, Int.reduceAdd, Int.reduceSub, Int.reduceMul, Int.reduceNeg, Int.reduceToNat, Bool.decide_eq_true, Bool.false_eq_true, ↓reduceIte, List.length_map, bitsM_len, Nat.zero_add, Nat.reduceAdd, call_cf, f__law_count, mkD, pow_list]
theorem r_longest {n : Nat} {way : Str} {head gap unit b slip : Int} {low : Bool} (hw : WayOk way) (hb : 1 ≤ b) (hb2 : b ≤ 12) (hu : 0 ≤ unit) (hu2 : unit < 1000000) : run pg (n + 1) "longest" [mkD way head gap unit b low slip] = .ok (.int (longL way head gap unit b.toNat)) := by
  rw [run_longest]
  have hws := hw.str
  have hbl : ((b.toNat : Nat) : Int) = b := by omega
  unfold longL
  rw [hbl]
  cases h1 : (way == "far") with
  | true => simp -implicitDefEqProofs (disch := first | exact sh_int | assumption | omega | (simp -implicitDefEqProofs only [List.length_cons, List.length_nil, List.length_map, List.length_append, List.length_reverse, List.length_take, List.length_drop, List.length_set, List.length_replicate, bitsM_len, bitsL_len]; omega) | (simp -implicitDefEqProofs only [sh_int, sh_oI, sh8_pairs, sh8_rows, sh8_row, sh9_row, sh9_p, sh_bl, sh_non, sh9t, sh9l, sh8t, sh8l, sh7t, sh7l, sh6t, sh6l, sh5t, sh5l, sh4t, sh4l, sh_ints, sh_str, List.all_cons, List.all_nil, List.all_append, List.all_reverse, Bool.and_true, Bool.and_self]; done) | (simp -implicitDefEqProofs only [sh_int, sh_oI, sh8_pairs, sh8_rows, sh8_row, sh9_row, sh9_p, sh_bl, sh_non, sh9t, sh9l, sh8t, sh8l, sh7t, sh7l, sh6t, sh6l, sh5t, sh5l, sh4t, sh4l, sh_ints, sh_str, List.all_cons, List.all_nil, List.all_append, List.all_reverse, Bool.and_true, Bool.and_self]; decide +kernel)) only [ev_var, ev_cst, ev_glb, ev_bin, ev_cmp, ev_neg, ev_not, ev_chn, ev_and, ev_or, ev_idx, ev_cut, ev_stp, ev_tup, ev_lst, ev_call, ev_bi, ev_isi, ev_lc, ev_mth, ev_rpl, ev_kin, ev_kget, ev_sst, ev_lss, evs_nil, evs_cons, b1_ok, b2_ok, bs_ok, bcons_ok, band_t, band_f, band_b, bor_t, bor_f, bor_b, b3_ok, dNot_b, dNeg_i, prt_f, prt_t, blc_ok, bit_ok, dTup_ok, dLst_ok, add_ii, sub_ii, mul_l, mul_r, div_ii, mod_ii, add_tt, add_ll, mul_t1i, mul_l1i, lt_ii, le_ii, gt_ii, ge_ii, chn_le, is_bb, isn_bb, is_nn, is_in, isn_nn, isn_in, is_on, isn_on, deq_nn, deq_ni, deq_in, deq_oi, deq_oo, sh_oI, oI_s, oI_n, eq_ok, ne_ok, in_tup, nin_tup, in_lst, nin_lst, sh_int, sh_bl, sh_non, sh_str, sh_ints, deq_ii, deq_bb, deq_ss, deq_tt, deq_ll, deqL_nil, deqL_cons, deqL_nc, deqL_cn, deqL_ints, deqL_pairs, deqL_rows, deq_rr, deq_pp, get_0, get_s, ix_t0, ix_t1, ix_t2, ix_t3, ix_t4, ix_t5, ix_t6, ix_l0, ix_l1, ix_l2, ix_l3, ix_l4, ix_l5, ix_lb, ix_tb, dCut_t, dCut_l, rev_t, rev_l, even_t, odd_t, even_l, odd_l, len_t, len_l, int_b, int_i, tuple_t, tuple_l, list_t, list_l, abs_i, sum_t, sum_l, max_2, min_2, max_3, min_3, all_l, isi_ii, isi_ib, isi_is, isi_it, isi_il, isi_bi, isi_bb, isi_bt, isi_bs, isi_tt, isi_tl, isi_ti, isi_ts, isi_ll, isi_lt, isi_li, isi_ls, isi_ss, isi_si, isi_st, isi_sb, it_t, it_l, it_r1, it_r2, it_et, it_el, it_ztt, it_zll, it_ztl, it_zlt, lcFn_1, lcFn_2, cdR_t, cdR_f, cdR_b, xs_nil, xs_set, xs_own, xs_unp, xs_app, xs_ext, xs_put, kExt_ok, kPut_last, xs_frz, xs_pas, xs_ret, xs_ife, xs_for, kSet_ok, kOwn_ok, kUnp_t, kUnp_l, kApp_ok, kRet_ok, kIf_t, kIf_f, kSeq_n, kSeq_r, kFor_ok, forFn_1, forFn_2, setAll_n, setAll_c, fin_r, fin_n, wipe_n, wipe_c, go_nil, go_cons, kGo_n, kGo_r, List.set_cons_zero, List.set_cons_succ, List.cons_append, List.nil_append, List.length_cons, List.length_nil, List.all_cons, List.all_nil, Bool.and_true, Bool.true_and, Bool.and_false, Bool.false_and, Bool.or_true, Bool.true_or, Bool.or_false, Bool.false_or, Bool.not_true, Bool.not_false, decide_true, decide_false, eq_self, Int.cast_ofNat_Int, beq_self_eq_true, s_far_wide, s_far_turn, s_wide_far, s_wide_turn, s_turn_far, s_turn_wide, List.any_cons, List.any_nil, Int.reduceEq, Int.reduceLT, Int.reduceLE, Int.reduceAdd, Int.reduceSub, Int.reduceMul, Int.reduceNeg, Int.reduceToNat, Bool.decide_eq_true, Bool.false_eq_true, ↓reduceIte, List.length_map, bitsM_len, Nat.zero_add, Nat.reduceAdd, call_cf, f_longest, mk_u, h1, glb_FAR, glb_WIDE]
  | false => cases h2 : (way == "wide") with
    | true => simp -implicitDefEqProofs (disch := first | exact sh_int | assumption | omega | (simp -implicitDefEqProofs only [List.length_cons, List.length_nil, List.length_map, List.length_append, List.length_reverse, List.length_take, List.length_drop, List.length_set, List.length_replicate, bitsM_len, bitsL_len]; omega) | (simp -implicitDefEqProofs only [sh_int, sh_oI, sh8_pairs, sh8_rows, sh8_row, sh9_row, sh9_p, sh_bl, sh_non, sh9t, sh9l, sh8t, sh8l, sh7t, sh7l, sh6t, sh6l, sh5t, sh5l, sh4t, sh4l, sh_ints, sh_str, List.all_cons, List.all_nil, List.all_append, List.all_reverse, Bool.and_true, Bool.and_self]; done) | (simp -implicitDefEqProofs only [sh_int, sh_oI, sh8_pairs, sh8_rows, sh8_row, sh9_row, sh9_p, sh_bl, sh_non, sh9t, sh9l, sh8t, sh8l, sh7t, sh7l, sh6t, sh6l, sh5t, sh5l, sh4t, sh4l, sh_ints, sh_str, List.all_cons, List.all_nil, List.all_append, List.all_reverse, Bool.and_true, Bool.and_self]; decide +kernel)) only [ev_var, ev_cst, ev_glb, ev_bin, ev_cmp, ev_neg, ev_not, ev_chn, ev_and, ev_or, ev_idx, ev_cut, ev_stp, ev_tup, ev_lst, ev_call, ev_bi, ev_isi, ev_lc, ev_mth, ev_rpl, ev_kin, ev_kget, ev_sst, ev_lss, evs_nil, evs_cons, b1_ok, b2_ok, bs_ok, bcons_ok, band_t, band_f, band_b, bor_t, bor_f, bor_b, b3_ok, dNot_b, dNeg_i, prt_f, prt_t, blc_ok, bit_ok, dTup_ok, dLst_ok, add_ii, sub_ii, mul_l, mul_r, div_ii, mod_ii, add_tt, add_ll, mul_t1i, mul_l1i, lt_ii, le_ii, gt_ii, ge_ii, chn_le, is_bb, isn_bb, is_nn, is_in, isn_nn, isn_in, is_on, isn_on, deq_nn, deq_ni, deq_in, deq_oi, deq_oo, sh_oI, oI_s, oI_n, eq_ok, ne_ok, in_tup, nin_tup, in_lst, nin_lst, sh_int, sh_bl, sh_non, sh_str, sh_ints, deq_ii, deq_bb, deq_ss, deq_tt, deq_ll, deqL_nil, deqL_cons, deqL_nc, deqL_cn, deqL_ints, deqL_pairs, deqL_rows, deq_rr, deq_pp, get_0, get_s, ix_t0, ix_t1, ix_t2, ix_t3, ix_t4, ix_t5, ix_t6, ix_l0, ix_l1, ix_l2, ix_l3, ix_l4, ix_l5, ix_lb, ix_tb, dCut_t, dCut_l, rev_t, rev_l, even_t, odd_t, even_l, odd_l, len_t, len_l, int_b, int_i, tuple_t, tuple_l, list_t, list_l, abs_i, sum_t, sum_l, max_2, min_2, max_3, min_3, all_l, isi_ii, isi_ib, isi_is, isi_it, isi_il, isi_bi, isi_bb, isi_bt, isi_bs, isi_tt, isi_tl, isi_ti, isi_ts, isi_ll, isi_lt, isi_li, isi_ls, isi_ss, isi_si, isi_st, isi_sb, it_t, it_l, it_r1, it_r2, it_et, it_el, it_ztt, it_zll, it_ztl, it_zlt, lcFn_1, lcFn_2, cdR_t, cdR_f, cdR_b, xs_nil, xs_set, xs_own, xs_unp, xs_app, xs_ext, xs_put, kExt_ok, kPut_last, xs_frz, xs_pas, xs_ret, xs_ife, xs_for, kSet_ok, kOwn_ok, kUnp_t, kUnp_l, kApp_ok, kRet_ok, kIf_t, kIf_f, kSeq_n, kSeq_r, kFor_ok, forFn_1, forFn_2, setAll_n, setAll_c, fin_r, fin_n, wipe_n, wipe_c, go_nil, go_cons, kGo_n, kGo_r, List.set_cons_zero, List.set_cons_succ, List.cons_append, List.nil_append, List.length_cons, List.length_nil, List.all_cons, List.all_nil, Bool.and_true, Bool.true_and, Bool.and_false, Bool.false_and, Bool.or_true, Bool.true_or, Bool.or_false, Bool.false_or, Bool.not_true, Bool.not_false, decide_true, decide_false, eq_self, Int.cast_ofNat_Int, beq_self_eq_true, s_far_wide, s_far_turn, s_wide_far, s_wide_turn, s_turn_far, s_turn_wide, List.any_cons, List.any_nil, Int.reduceEq, Int.reduceLT, Int.reduceLE, Int.reduceAdd, Int.reduceSub, Int.reduceMul, Int.reduceNeg, Int.reduceToNat, Bool.decide_eq_true, Bool.false_eq_true, ↓reduceIte, List.length_map, bitsM_len, Nat.zero_add, Nat.reduceAdd, call_cf, f_longest, mk_u, h1, h2, glb_FAR, glb_WIDE]
    | false => simp -implicitDefEqProofs (disch := first | exact sh_int | assumption | omega | (simp -implicitDefEqProofs only [List.length_cons, List.length_nil, List.length_map, List.length_append, List.length_reverse, List.length_take, List.length_drop, List.length_set, List.length_replicate, bitsM_len, bitsL_len]; omega) | (simp -implicitDefEqProofs only [sh_int, sh_oI, sh8_pairs, sh8_rows, sh8_row, sh9_row, sh9_p, sh_bl, sh_non, sh9t, sh9l, sh8t, sh8l, sh7t, sh7l, sh6t, sh6l, sh5t, sh5l, sh4t, sh4l, sh_ints, sh_str, List.all_cons, List.all_nil, List.all_append, List.all_reverse, Bool.and_true, Bool.and_self]; done) | (simp -implicitDefEqProofs only [sh_int, sh_oI, sh8_pairs, sh8_rows, sh8_row, sh9_row, sh9_p, sh_bl, sh_non, sh9t, sh9l, sh8t, sh8l, sh7t, sh7l, sh6t, sh6l, sh5t, sh5l, sh4t, sh4l, sh_ints, sh_str, List.all_cons, List.all_nil, List.all_append, List.all_reverse, Bool.and_true, Bool.and_self]; decide +kernel)) only [ev_var, ev_cst, ev_glb, ev_bin, ev_cmp, ev_neg, ev_not, ev_chn, ev_and, ev_or, ev_idx, ev_cut, ev_stp, ev_tup, ev_lst, ev_call, ev_bi, ev_isi, ev_lc, ev_mth, ev_rpl, ev_kin, ev_kget, ev_sst, ev_lss, evs_nil, evs_cons, b1_ok, b2_ok, bs_ok, bcons_ok, band_t, band_f, band_b, bor_t, bor_f, bor_b, b3_ok, dNot_b, dNeg_i, prt_f, prt_t, blc_ok, bit_ok, dTup_ok, dLst_ok, add_ii, sub_ii, mul_l, mul_r, div_ii, mod_ii, add_tt, add_ll, mul_t1i, mul_l1i, lt_ii, le_ii, gt_ii, ge_ii, chn_le, is_bb, isn_bb, is_nn, is_in, isn_nn, isn_in, is_on, isn_on, deq_nn, deq_ni, deq_in, deq_oi, deq_oo, sh_oI, oI_s, oI_n, eq_ok, ne_ok, in_tup, nin_tup, in_lst, nin_lst, sh_int, sh_bl, sh_non, sh_str, sh_ints, deq_ii, deq_bb, deq_ss, deq_tt, deq_ll, deqL_nil, deqL_cons, deqL_nc, deqL_cn, deqL_ints, deqL_pairs, deqL_rows, deq_rr, deq_pp, get_0, get_s, ix_t0, ix_t1, ix_t2, ix_t3, ix_t4, ix_t5, ix_t6, ix_l0, ix_l1, ix_l2, ix_l3, ix_l4, ix_l5, ix_lb, ix_tb, dCut_t, dCut_l, rev_t, rev_l, even_t, odd_t, even_l, odd_l, len_t, len_l, int_b, int_i, tuple_t, tuple_l, list_t, list_l, abs_i, sum_t, sum_l, max_2, min_2, max_3, min_3, all_l, isi_ii, isi_ib, isi_is, isi_it, isi_il, isi_bi, isi_bb, isi_bt, isi_bs, isi_tt, isi_tl, isi_ti, isi_ts, isi_ll, isi_lt, isi_li, isi_ls, isi_ss, isi_si, isi_st, isi_sb, it_t, it_l, it_r1, it_r2, it_et, it_el, it_ztt, it_zll, it_ztl, it_zlt, lcFn_1, lcFn_2, cdR_t, cdR_f, cdR_b, xs_nil, xs_set, xs_own, xs_unp, xs_app, xs_ext, xs_put, kExt_ok, kPut_last, xs_frz, xs_pas, xs_ret, xs_ife, xs_for, kSet_ok, kOwn_ok, kUnp_t, kUnp_l, kApp_ok, kRet_ok, kIf_t, kIf_f, kSeq_n, kSeq_r, kFor_ok, forFn_1, forFn_2, setAll_n, setAll_c, fin_r, fin_n, wipe_n, wipe_c, go_nil, go_cons, kGo_n, kGo_r, List.set_cons_zero, List.set_cons_succ, List.cons_append, List.nil_append, List.length_cons, List.length_nil, List.all_cons, List.all_nil, Bool.and_true, Bool.true_and, Bool.and_false, Bool.false_and, Bool.or_true, Bool.true_or, Bool.or_false, Bool.false_or, Bool.not_true, Bool.not_false, decide_true, decide_false, eq_self, Int.cast_ofNat_Int, beq_self_eq_true, s_far_wide, s_far_turn, s_wide_far, s_wide_turn, s_turn_far, s_turn_wide, List.any_cons, List.any_nil, Int.reduceEq, Int.reduceLT, Int.reduceLE, Int.reduceAdd, Int.reduceSub, Int.reduceMul, Int.reduceNeg, Int.reduceToNat, Bool.decide_eq_true, Bool.false_eq_true, ↓reduceIte, List.length_map, bitsM_len, Nat.zero_add, Nat.reduceAdd, call_cf, f_longest, mk_u, h1, h2, glb_FAR, glb_WIDE]
theorem r_far {n : Nat} {unit : Int} (bs : List Int) (hl : bs.length ≤ 1000) (hu : 0 ≤ unit) (hu2 : unit < 1000000) : run pg (n + 1) "far_times" [.tup (bs.map D.int), .int unit] = .ok (.tup ((farL unit bs).map D.int)) := by
  rw [run_far_times]
  simp -implicitDefEqProofs (disch := first | exact sh_int | assumption | omega | (simp -implicitDefEqProofs only [List.length_cons, List.length_nil, List.length_map, List.length_append, List.length_reverse, List.length_take, List.length_drop, List.length_set, List.length_replicate, bitsM_len, bitsL_len]; omega) | (simp -implicitDefEqProofs only [sh_int, sh_oI, sh8_pairs, sh8_rows, sh8_row, sh9_row, sh9_p, sh_bl, sh_non, sh9t, sh9l, sh8t, sh8l, sh7t, sh7l, sh6t, sh6l, sh5t, sh5l, sh4t, sh4l, sh_ints, sh_str, List.all_cons, List.all_nil, List.all_append, List.all_reverse, Bool.and_true, Bool.and_self]; done) | (simp -implicitDefEqProofs only [sh_int, sh_oI, sh8_pairs, sh8_rows, sh8_row, sh9_row, sh9_p, sh_bl, sh_non, sh9t, sh9l, sh8t, sh8l, sh7t, sh7l, sh6t, sh6l, sh5t, sh5l, sh4t, sh4l, sh_ints, sh_str, List.all_cons, List.all_nil, List.all_append, List.all_reverse, Bool.and_true, Bool.and_self]; decide +kernel)) only [ev_var, ev_cst, ev_glb, ev_bin, ev_cmp, ev_neg, ev_not, ev_chn, ev_and, ev_or, ev_idx, ev_cut, ev_stp, ev_tup, ev_lst, ev_call, ev_bi, ev_isi, ev_lc, ev_mth, ev_rpl, ev_kin, ev_kget, ev_sst, ev_lss, evs_nil, evs_cons, b1_ok, b2_ok, bs_ok, bcons_ok, band_t, band_f, band_b, bor_t, bor_f, bor_b, b3_ok, dNot_b, dNeg_i, prt_f, prt_t, blc_ok, bit_ok, dTup_ok, dLst_ok, add_ii, sub_ii, mul_l, mul_r, div_ii, mod_ii, add_tt, add_ll, mul_t1i, mul_l1i, lt_ii, le_ii, gt_ii, ge_ii, chn_le, is_bb, isn_bb, is_nn, is_in, isn_nn, isn_in, is_on, isn_on, deq_nn, deq_ni, deq_in, deq_oi, deq_oo, sh_oI, oI_s, oI_n, eq_ok, ne_ok, in_tup, nin_tup, in_lst, nin_lst, sh_int, sh_bl, sh_non, sh_str, sh_ints, deq_ii, deq_bb, deq_ss, deq_tt, deq_ll, deqL_nil, deqL_cons, deqL_nc, deqL_cn, deqL_ints, deqL_pairs, deqL_rows, deq_rr, deq_pp, get_0, get_s, ix_t0, ix_t1, ix_t2, ix_t3, ix_t4, ix_t5, ix_t6, ix_l0, ix_l1, ix_l2, ix_l3, ix_l4, ix_l5, ix_lb, ix_tb, dCut_t, dCut_l, rev_t, rev_l, even_t, odd_t, even_l, odd_l, len_t, len_l, int_b, int_i, tuple_t, tuple_l, list_t, list_l, abs_i, sum_t, sum_l, max_2, min_2, max_3, min_3, all_l, isi_ii, isi_ib, isi_is, isi_it, isi_il, isi_bi, isi_bb, isi_bt, isi_bs, isi_tt, isi_tl, isi_ti, isi_ts, isi_ll, isi_lt, isi_li, isi_ls, isi_ss, isi_si, isi_st, isi_sb, it_t, it_l, it_r1, it_r2, it_et, it_el, it_ztt, it_zll, it_ztl, it_zlt, lcFn_1, lcFn_2, cdR_t, cdR_f, cdR_b, xs_nil, xs_set, xs_own, xs_unp, xs_app, xs_ext, xs_put, kExt_ok, kPut_last, xs_frz, xs_pas, xs_ret, xs_ife, xs_for, kSet_ok, kOwn_ok, kUnp_t, kUnp_l, kApp_ok, kRet_ok, kIf_t, kIf_f, kSeq_n, kSeq_r, kFor_ok, forFn_1, forFn_2, setAll_n, setAll_c, fin_r, fin_n, wipe_n, wipe_c, go_nil, go_cons, kGo_n, kGo_r, List.set_cons_zero, List.set_cons_succ, List.cons_append, List.nil_append, List.length_cons, List.length_nil, List.all_cons, List.all_nil, Bool.and_true, Bool.true_and, Bool.and_false, Bool.false_and, Bool.or_true, Bool.true_or, Bool.or_false, Bool.false_or, Bool.not_true, Bool.not_false, decide_true, decide_false, eq_self, Int.cast_ofNat_Int, beq_self_eq_true, s_far_wide, s_far_turn, s_wide_far, s_wide_turn, s_turn_far, s_turn_wide, List.any_cons, List.any_nil, Int.reduceEq, Int.reduceLT, Int.reduceLE, Int.reduceAdd, Int.reduceSub, Int.reduceMul, Int.reduceNeg, Int.reduceToNat, Bool.decide_eq_true, Bool.false_eq_true, ↓reduceIte, List.length_map, bitsM_len, Nat.zero_add, Nat.reduceAdd, call_cf, f_far_times]
  refine loop_fin (fun (a : List Int) (j : Option D) => [some (.tup (bs.map D.int)), some (.int unit), some (.tup (a.map D.int)), j]) (fun r a => ∃ q : List Int, r = q.map D.int ∧ a ++ farL unit q = farL unit bs ∧ a.length + 2 * q.length ≤ 2000) [] none rfl ⟨bs, rfl, rfl, by simp only [List.length_nil]; omega⟩ ?_ ?_
  · rintro a j d r ⟨q, hq, e, hlen⟩
    cases q with
    | nil => cases hq
    | cons y q =>
      cases hq
      rw [List.length_cons] at hlen
      refine ⟨a ++ [unit, unit + 2 * unit * y], some (.int y), ?_, q, rfl, ?_, ?_⟩
      · simp -implicitDefEqProofs (disch := first | exact sh_int | assumption | omega | (simp -implicitDefEqProofs only [List.length_cons, List.length_nil, List.length_map, List.length_append, List.length_reverse, List.length_take, List.length_drop, List.length_set, List.length_replicate, bitsM_len, bitsL_len]; omega) | (simp -implicitDefEqProofs only [sh_int, sh_oI, sh8_pairs, sh8_rows, sh8_row, sh9_row, sh9_p, sh_bl, sh_non, sh9t, sh9l, sh8t, sh8l, sh7t, sh7l, sh6t, sh6l, sh5t, sh5l, sh4t, sh4l, sh_ints, sh_str, List.all_cons, List.all_nil, List.all_append, List.all_reverse, Bool.and_true, Bool.and_self]; done) | (simp -implicitDefEqProofs only [sh_int, sh_oI, sh8_pairs, sh8_rows, sh8_row, sh9_row, sh9_p, sh_bl, sh_non, sh9t, sh9l, sh8t, sh8l, sh7t, sh7l, sh6t, sh6l, sh5t, sh5l, sh4t, sh4l, sh_ints, sh_str, List.all_cons, List.all_nil, List.all_append, List.all_reverse, Bool.and_true, Bool.and_self]; decide +kernel)) only [ev_var, ev_cst, ev_glb, ev_bin, ev_cmp, ev_neg, ev_not, ev_chn, ev_and, ev_or, ev_idx, ev_cut, ev_stp, ev_tup, ev_lst, ev_call, ev_bi, ev_isi, ev_lc, ev_mth, ev_rpl, ev_kin, ev_kget, ev_sst, ev_lss, evs_nil, evs_cons, b1_ok, b2_ok, bs_ok, bcons_ok, band_t, band_f, band_b, bor_t, bor_f, bor_b, b3_ok, dNot_b, dNeg_i, prt_f, prt_t, blc_ok, bit_ok, dTup_ok, dLst_ok, add_ii, sub_ii, mul_l, mul_r, div_ii, mod_ii, add_tt, add_ll, mul_t1i, mul_l1i, lt_ii, le_ii, gt_ii, ge_ii, chn_le, is_bb, isn_bb, is_nn, is_in, isn_nn, isn_in, is_on, isn_on, deq_nn, deq_ni, deq_in, deq_oi, deq_oo, sh_oI, oI_s, oI_n, eq_ok, ne_ok, in_tup, nin_tup, in_lst, nin_lst, sh_int, sh_bl, sh_non, sh_str, sh_ints, deq_ii, deq_bb, deq_ss, deq_tt, deq_ll, deqL_nil, deqL_cons, deqL_nc, deqL_cn, deqL_ints, deqL_pairs, deqL_rows, deq_rr, deq_pp, get_0, get_s, ix_t0, ix_t1, ix_t2, ix_t3, ix_t4, ix_t5, ix_t6, ix_l0, ix_l1, ix_l2, ix_l3, ix_l4, ix_l5, ix_lb, ix_tb, dCut_t, dCut_l, rev_t, rev_l, even_t, odd_t, even_l, odd_l, len_t, len_l, int_b, int_i, tuple_t, tuple_l, list_t, list_l, abs_i, sum_t, sum_l, max_2, min_2, max_3, min_3, all_l, isi_ii, isi_ib, isi_is, isi_it, isi_il, isi_bi, isi_bb, isi_bt, isi_bs, isi_tt, isi_tl, isi_ti, isi_ts, isi_ll, isi_lt, isi_li, isi_ls, isi_ss, isi_si, isi_st, isi_sb, it_t, it_l, it_r1, it_r2, it_et, it_el, it_ztt, it_zll, it_ztl, it_zlt, lcFn_1, lcFn_2, cdR_t, cdR_f, cdR_b, xs_nil, xs_set, xs_own, xs_unp, xs_app, xs_ext, xs_put, kExt_ok, kPut_last, xs_frz, xs_pas, xs_ret, xs_ife, xs_for, kSet_ok, kOwn_ok, kUnp_t, kUnp_l, kApp_ok, kRet_ok, kIf_t, kIf_f, kSeq_n, kSeq_r, kFor_ok, forFn_1, forFn_2, setAll_n, setAll_c, fin_r, fin_n, wipe_n, wipe_c, go_nil, go_cons, kGo_n, kGo_r, List.set_cons_zero, List.set_cons_succ, List.cons_append, List.nil_append, List.length_cons, List.length_nil, List.all_cons, List.all_nil, Bool.and_true, Bool.true_and, Bool.and_false, Bool.false_and, Bool.or_true, Bool.true_or, Bool.or_false, Bool.false_or, Bool.not_true, Bool.not_false, decide_true, decide_false, eq_self, Int.cast_ofNat_Int, beq_self_eq_true, s_far_wide, s_far_turn, s_wide_far, s_wide_turn, s_turn_far, s_turn_wide, List.any_cons, List.any_nil, Int.reduceEq, Int.reduceLT, Int.reduceLE, Int.reduceAdd, Int.reduceSub, Int.reduceMul, Int.reduceNeg, Int.reduceToNat, Bool.decide_eq_true, Bool.false_eq_true, ↓reduceIte, List.length_map, bitsM_len, Nat.zero_add, Nat.reduceAdd, call_cf, List.map_append, List.map_cons, List.map_nil]
      · rw [← e, farL, List.append_assoc]
        rfl
      · simp only [List.length_append, List.length_cons, List.length_nil]
        omega
  · rintro a j ⟨q, hq, e, hlen⟩
    cases q with
    | cons y q => cases hq
    | nil =>
      simp -implicitDefEqProofs (disch := first | exact sh_int | assumption | omega | (simp -implicitDefEqProofs only [List.length_cons, List.length_nil, List.length_map, List.length_append, List.length_reverse, List.length_take, List.length_drop, List.length_set, List.length_replicate, bitsM_len, bitsL_len]; omega) | (simp -implicitDefEqProofs only [sh_int, sh_oI, sh8_pairs, sh8_rows, sh8_row, sh9_row, sh9_p, sh_bl, sh_non, sh9t, sh9l, sh8t, sh8l, sh7t, sh7l, sh6t, sh6l, sh5t, sh5l, sh4t, sh4l, sh_ints, sh_str, List.all_cons, List.all_nil, List.all_append, List.all_reverse, Bool.and_true, Bool.and_self]; done) | (simp -implicitDefEqProofs only [sh_int, sh_oI, sh8_pairs, sh8_rows, sh8_row, sh9_row, sh9_p, sh_bl, sh_non, sh9t, sh9l, sh8t, sh8l, sh7t, sh7l, sh6t, sh6l, sh5t, sh5l, sh4t, sh4l, sh_ints, sh_str, List.all_cons, List.all_nil, List.all_append, List.all_reverse, Bool.and_true, Bool.and_self]; decide +kernel)) only [ev_var, ev_cst, ev_glb, ev_bin, ev_cmp, ev_neg, ev_not, ev_chn, ev_and, ev_or, ev_idx, ev_cut, ev_stp, ev_tup, ev_lst, ev_call, ev_bi, ev_isi, ev_lc, ev_mth, ev_rpl, ev_kin, ev_kget, ev_sst, ev_lss, evs_nil, evs_cons, b1_ok, b2_ok, bs_ok, bcons_ok, band_t, band_f, band_b, bor_t, bor_f, bor_b, b3_ok, dNot_b, dNeg_i, prt_f, prt_t, blc_ok, bit_ok, dTup_ok, dLst_ok, add_ii, sub_ii, mul_l, mul_r, div_ii, mod_ii, add_tt, add_ll, mul_t1i, mul_l1i, lt_ii, le_ii, gt_ii, ge_ii, chn_le, is_bb, isn_bb, is_nn, is_in, isn_nn, isn_in, is_on, isn_on, deq_nn, deq_ni, deq_in, deq_oi, deq_oo, sh_oI, oI_s, oI_n, eq_ok, ne_ok, in_tup, nin_tup, in_lst, nin_lst, sh_int, sh_bl, sh_non, sh_str, sh_ints, deq_ii, deq_bb, deq_ss, deq_tt, deq_ll, deqL_nil, deqL_cons, deqL_nc, deqL_cn, deqL_ints, deqL_pairs, deqL_rows, deq_rr, deq_pp, get_0, get_s, ix_t0, ix_t1, ix_t2, ix_t3, ix_t4, ix_t5, ix_t6, ix_l0, ix_l1, ix_l2, ix_l3, ix_l4, ix_l5, ix_lb, ix_tb, dCut_t, dCut_l, rev_t, rev_l, even_t, odd_t, even_l, odd_l, len_t, len_l, int_b, int_i, tuple_t, tuple_l, list_t, list_l, abs_i, sum_t, sum_l, max_2, min_2, max_3, min_3, all_l, isi_ii, isi_ib, isi_is, isi_it, isi_il, isi_bi, isi_bb, isi_bt, isi_bs, isi_tt, isi_tl, isi_ti, isi_ts, isi_ll, isi_lt, isi_li, isi_ls, isi_ss, isi_si, isi_st, isi_sb, it_t, it_l, it_r1, it_r2, it_et, it_el, it_ztt, it_zll, it_ztl, it_zlt, lcFn_1, lcFn_2, cdR_t, cdR_f, cdR_b, xs_nil, xs_set, xs_own, xs_unp, xs_app, xs_ext, xs_put, kExt_ok, kPut_last, xs_frz, xs_pas, xs_ret, xs_ife, xs_for, kSet_ok, kOwn_ok, kUnp_t, kUnp_l, kApp_ok, kRet_ok, kIf_t, kIf_f, kSeq_n, kSeq_r, kFor_ok, forFn_1, forFn_2, setAll_n, setAll_c, fin_r, fin_n, wipe_n, wipe_c, go_nil, go_cons, kGo_n, kGo_r, List.set_cons_zero, List.set_cons_succ, List.cons_append, List.nil_append, List.length_cons, List.length_nil, List.all_cons, List.all_nil, Bool.and_true, Bool.true_and, Bool.and_false, Bool.false_and, Bool.or_true, Bool.true_or, Bool.or_false, Bool.false_or, Bool.not_true, Bool.not_false, decide_true, decide_false, eq_self, Int.cast_ofNat_Int, beq_self_eq_true, s_far_wide, s_far_turn, s_wide_far, s_wide_turn, s_turn_far, s_turn_wide, List.any_cons, List.any_nil, Int.reduceEq, Int.reduceLT, Int.reduceLE, Int.reduceAdd, Int.reduceSub, Int.reduceMul, Int.reduceNeg, Int.reduceToNat, Bool.decide_eq_true, Bool.false_eq_true, ↓reduceIte, List.length_map, bitsM_len, Nat.zero_add, Nat.reduceAdd, call_cf]
      rw [← e]
      simp only [farL, List.map_append, List.map_cons, List.map_nil]
theorem r_wide {n : Nat} {unit : Int} (bs : List Int) (hn : bs ≠ []) (hl : bs.length ≤ 1000) (hu : 0 ≤ unit) (hu2 : unit < 1000000) : run pg (n + 1) "wide_times" [.tup (bs.map D.int), .int unit] = .ok (.tup ((wideL unit bs).map D.int)) := by
  rw [run_wide_times]
  simp -implicitDefEqProofs (disch := first | exact sh_int | assumption | omega | (simp -implicitDefEqProofs only [List.length_cons, List.length_nil, List.length_map, List.length_append, List.length_reverse, List.length_take, List.length_drop, List.length_set, List.length_replicate, bitsM_len, bitsL_len]; omega) | (simp -implicitDefEqProofs only [sh_int, sh_oI, sh8_pairs, sh8_rows, sh8_row, sh9_row, sh9_p, sh_bl, sh_non, sh9t, sh9l, sh8t, sh8l, sh7t, sh7l, sh6t, sh6l, sh5t, sh5l, sh4t, sh4l, sh_ints, sh_str, List.all_cons, List.all_nil, List.all_append, List.all_reverse, Bool.and_true, Bool.and_self]; done) | (simp -implicitDefEqProofs only [sh_int, sh_oI, sh8_pairs, sh8_rows, sh8_row, sh9_row, sh9_p, sh_bl, sh_non, sh9t, sh9l, sh8t, sh8l, sh7t, sh7l, sh6t, sh6l, sh5t, sh5l, sh4t, sh4l, sh_ints, sh_str, List.all_cons, List.all_nil, List.all_append, List.all_reverse, Bool.and_true, Bool.and_self]; decide +kernel)) only [ev_var, ev_cst, ev_glb, ev_bin, ev_cmp, ev_neg, ev_not, ev_chn, ev_and, ev_or, ev_idx, ev_cut, ev_stp, ev_tup, ev_lst, ev_call, ev_bi, ev_isi, ev_lc, ev_mth, ev_rpl, ev_kin, ev_kget, ev_sst, ev_lss, evs_nil, evs_cons, b1_ok, b2_ok, bs_ok, bcons_ok, band_t, band_f, band_b, bor_t, bor_f, bor_b, b3_ok, dNot_b, dNeg_i, prt_f, prt_t, blc_ok, bit_ok, dTup_ok, dLst_ok, add_ii, sub_ii, mul_l, mul_r, div_ii, mod_ii, add_tt, add_ll, mul_t1i, mul_l1i, lt_ii, le_ii, gt_ii, ge_ii, chn_le, is_bb, isn_bb, is_nn, is_in, isn_nn, isn_in, is_on, isn_on, deq_nn, deq_ni, deq_in, deq_oi, deq_oo, sh_oI, oI_s, oI_n, eq_ok, ne_ok, in_tup, nin_tup, in_lst, nin_lst, sh_int, sh_bl, sh_non, sh_str, sh_ints, deq_ii, deq_bb, deq_ss, deq_tt, deq_ll, deqL_nil, deqL_cons, deqL_nc, deqL_cn, deqL_ints, deqL_pairs, deqL_rows, deq_rr, deq_pp, get_0, get_s, ix_t0, ix_t1, ix_t2, ix_t3, ix_t4, ix_t5, ix_t6, ix_l0, ix_l1, ix_l2, ix_l3, ix_l4, ix_l5, ix_lb, ix_tb, dCut_t, dCut_l, rev_t, rev_l, even_t, odd_t, even_l, odd_l, len_t, len_l, int_b, int_i, tuple_t, tuple_l, list_t, list_l, abs_i, sum_t, sum_l, max_2, min_2, max_3, min_3, all_l, isi_ii, isi_ib, isi_is, isi_it, isi_il, isi_bi, isi_bb, isi_bt, isi_bs, isi_tt, isi_tl, isi_ti, isi_ts, isi_ll, isi_lt, isi_li, isi_ls, isi_ss, isi_si, isi_st, isi_sb, it_t, it_l, it_r1, it_r2, it_et, it_el, it_ztt, it_zll, it_ztl, it_zlt, lcFn_1, lcFn_2, cdR_t, cdR_f, cdR_b, xs_nil, xs_set, xs_own, xs_unp, xs_app, xs_ext, xs_put, kExt_ok, kPut_last, xs_frz, xs_pas, xs_ret, xs_ife, xs_for, kSet_ok, kOwn_ok, kUnp_t, kUnp_l, kApp_ok, kRet_ok, kIf_t, kIf_f, kSeq_n, kSeq_r, kFor_ok, forFn_1, forFn_2, setAll_n, setAll_c, fin_r, fin_n, wipe_n, wipe_c, go_nil, go_cons, kGo_n, kGo_r, List.set_cons_zero, List.set_cons_succ, List.cons_append, List.nil_append, List.length_cons, List.length_nil, List.all_cons, List.all_nil, Bool.and_true, Bool.true_and, Bool.and_false, Bool.false_and, Bool.or_true, Bool.true_or, Bool.or_false, Bool.false_or, Bool.not_true, Bool.not_false, decide_true, decide_false, eq_self, Int.cast_ofNat_Int, beq_self_eq_true, s_far_wide, s_far_turn, s_wide_far, s_wide_turn, s_turn_far, s_turn_wide, List.any_cons, List.any_nil, Int.reduceEq, Int.reduceLT, Int.reduceLE, Int.reduceAdd, Int.reduceSub, Int.reduceMul, Int.reduceNeg, Int.reduceToNat, Bool.decide_eq_true, Bool.false_eq_true, ↓reduceIte, List.length_map, bitsM_len, Nat.zero_add, Nat.reduceAdd, call_cf, f_wide_times]
  refine loop_fin (fun (a : List Int) (j : Option D) => [some (.tup (bs.map D.int)), some (.int unit), some (.tup (a.map D.int)), j]) (fun r a => ∃ q : List Int, r = q.map D.int ∧ a ++ wideP unit q = wideP unit bs ∧ a.length + 2 * q.length ≤ 2000) [] none rfl ⟨bs, rfl, rfl, by simp only [List.length_nil]; omega⟩ ?_ ?_
  · rintro a j d r ⟨q, hq, e, hlen⟩
    cases q with
    | nil => cases hq
    | cons y q =>
      cases hq
      rw [List.length_cons] at hlen
      refine ⟨a ++ [unit + unit * y, unit], some (.int y), ?_, q, rfl, ?_, ?_⟩
      · simp -implicitDefEqProofs (disch := first | exact sh_int | assumption | omega | (simp -implicitDefEqProofs only [List.length_cons, List.length_nil, List.length_map, List.length_append, List.length_reverse, List.length_take, List.length_drop, List.length_set, List.length_replicate, bitsM_len, bitsL_len]; omega) | (simp -implicitDefEqProofs only [sh_int, sh_oI, sh8_pairs, sh8_rows, sh8_row, sh9_row, sh9_p, sh_bl, sh_non, sh9t, sh9l, sh8t, sh8l, sh7t, sh7l, sh6t, sh6l, sh5t, sh5l, sh4t, sh4l, sh_ints, sh_str, List.all_cons, List.all_nil, List.all_append, List.all_reverse, Bool.and_true, Bool.and_self]; done) | (simp -implicitDefEqProofs only [sh_int, sh_oI, sh8_pairs, sh8_rows, sh8_row, sh9_row, sh9_p, sh_bl, sh_non, sh9t, sh9l, sh8t, sh8l, sh7t, sh7l, sh6t, sh6l, sh5t, sh5l, sh4t, sh4l, sh_ints, sh_str, List.all_cons, List.all_nil, List.all_append, List.all_reverse, Bool.and_true, Bool.and_self]; decide +kernel)) only [ev_var, ev_cst, ev_glb, ev_bin, ev_cmp, ev_neg, ev_not, ev_chn, ev_and, ev_or, ev_idx, ev_cut, ev_stp, ev_tup, ev_lst, ev_call, ev_bi, ev_isi, ev_lc, ev_mth, ev_rpl, ev_kin, ev_kget, ev_sst, ev_lss, evs_nil, evs_cons, b1_ok, b2_ok, bs_ok, bcons_ok, band_t, band_f, band_b, bor_t, bor_f, bor_b, b3_ok, dNot_b, dNeg_i, prt_f, prt_t, blc_ok, bit_ok, dTup_ok, dLst_ok, add_ii, sub_ii, mul_l, mul_r, div_ii, mod_ii, add_tt, add_ll, mul_t1i, mul_l1i, lt_ii, le_ii, gt_ii, ge_ii, chn_le, is_bb, isn_bb, is_nn, is_in, isn_nn, isn_in, is_on, isn_on, deq_nn, deq_ni, deq_in, deq_oi, deq_oo, sh_oI, oI_s, oI_n, eq_ok, ne_ok, in_tup, nin_tup, in_lst, nin_lst, sh_int, sh_bl, sh_non, sh_str, sh_ints, deq_ii, deq_bb, deq_ss, deq_tt, deq_ll, deqL_nil, deqL_cons, deqL_nc, deqL_cn, deqL_ints, deqL_pairs, deqL_rows, deq_rr, deq_pp, get_0, get_s, ix_t0, ix_t1, ix_t2, ix_t3, ix_t4, ix_t5, ix_t6, ix_l0, ix_l1, ix_l2, ix_l3, ix_l4, ix_l5, ix_lb, ix_tb, dCut_t, dCut_l, rev_t, rev_l, even_t, odd_t, even_l, odd_l, len_t, len_l, int_b, int_i, tuple_t, tuple_l, list_t, list_l, abs_i, sum_t, sum_l, max_2, min_2, max_3, min_3, all_l, isi_ii, isi_ib, isi_is, isi_it, isi_il, isi_bi, isi_bb, isi_bt, isi_bs, isi_tt, isi_tl, isi_ti, isi_ts, isi_ll, isi_lt, isi_li, isi_ls, isi_ss, isi_si, isi_st, isi_sb, it_t, it_l, it_r1, it_r2, it_et, it_el, it_ztt, it_zll, it_ztl, it_zlt, lcFn_1, lcFn_2, cdR_t, cdR_f, cdR_b, xs_nil, xs_set, xs_own, xs_unp, xs_app, xs_ext, xs_put, kExt_ok, kPut_last, xs_frz, xs_pas, xs_ret, xs_ife, xs_for, kSet_ok, kOwn_ok, kUnp_t, kUnp_l, kApp_ok, kRet_ok, kIf_t, kIf_f, kSeq_n, kSeq_r, kFor_ok, forFn_1, forFn_2, setAll_n, setAll_c, fin_r, fin_n, wipe_n, wipe_c, go_nil, go_cons, kGo_n, kGo_r, List.set_cons_zero, List.set_cons_succ, List.cons_append, List.nil_append, List.length_cons, List.length_nil, List.all_cons, List.all_nil, Bool.and_true, Bool.true_and, Bool.and_false, Bool.false_and, Bool.or_true, Bool.true_or, Bool.or_false, Bool.false_or, Bool.not_true, Bool.not_false, decide_true, decide_false, eq_self, Int.cast_ofNat_Int, beq_self_eq_true, s_far_wide, s_far_turn, s_wide_far, s_wide_turn, s_turn_far, s_turn_wide, List.any_cons, List.any_nil, Int.reduceEq, Int.reduceLT, Int.reduceLE, Int.reduceAdd, Int.reduceSub, Int.reduceMul, Int.reduceNeg, Int.reduceToNat, Bool.decide_eq_true, Bool.false_eq_true, ↓reduceIte, List.length_map, bitsM_len, Nat.zero_add, Nat.reduceAdd, call_cf, List.map_append, List.map_cons, List.map_nil]
      · rw [← e, wideP, List.append_assoc]
        rfl
      · simp only [List.length_append, List.length_cons, List.length_nil]
        omega
  · rintro a j ⟨q, hq, e, hlen⟩
    cases q with
    | cons y q => cases hq
    | nil =>
      rw [wideP, List.append_nil] at e
      simp -implicitDefEqProofs (disch := first | exact sh_int | assumption | omega | (simp -implicitDefEqProofs only [List.length_cons, List.length_nil, List.length_map, List.length_append, List.length_reverse, List.length_take, List.length_drop, List.length_set, List.length_replicate, bitsM_len, bitsL_len]; omega) | (simp -implicitDefEqProofs only [sh_int, sh_oI, sh8_pairs, sh8_rows, sh8_row, sh9_row, sh9_p, sh_bl, sh_non, sh9t, sh9l, sh8t, sh8l, sh7t, sh7l, sh6t, sh6l, sh5t, sh5l, sh4t, sh4l, sh_ints, sh_str, List.all_cons, List.all_nil, List.all_append, List.all_reverse, Bool.and_true, Bool.and_self]; done) | (simp -implicitDefEqProofs only [sh_int, sh_oI, sh8_pairs, sh8_rows, sh8_row, sh9_row, sh9_p, sh_bl, sh_non, sh9t, sh9l, sh8t, sh8l, sh7t, sh7l, sh6t, sh6l, sh5t, sh5l, sh4t, sh4l, sh_ints, sh_str, List.all_cons, List.all_nil, List.all_append, List.all_reverse, Bool.and_true, Bool.and_self]; decide +kernel)) only [ev_var, ev_cst, ev_glb, ev_bin, ev_cmp, ev_neg, ev_not, ev_chn, ev_and, ev_or, ev_idx, ev_cut, ev_stp, ev_tup, ev_lst, ev_call, ev_bi, ev_isi, ev_lc, ev_mth, ev_rpl, ev_kin, ev_kget, ev_sst, ev_lss, evs_nil, evs_cons, b1_ok, b2_ok, bs_ok, bcons_ok, band_t, band_f, band_b, bor_t, bor_f, bor_b, b3_ok, dNot_b, dNeg_i, prt_f, prt_t, blc_ok, bit_ok, dTup_ok, dLst_ok, add_ii, sub_ii, mul_l, mul_r, div_ii, mod_ii, add_tt, add_ll, mul_t1i, mul_l1i, lt_ii, le_ii, gt_ii, ge_ii, chn_le, is_bb, isn_bb, is_nn, is_in, isn_nn, isn_in, is_on, isn_on, deq_nn, deq_ni, deq_in, deq_oi, deq_oo, sh_oI, oI_s, oI_n, eq_ok, ne_ok, in_tup, nin_tup, in_lst, nin_lst, sh_int, sh_bl, sh_non, sh_str, sh_ints, deq_ii, deq_bb, deq_ss, deq_tt, deq_ll, deqL_nil, deqL_cons, deqL_nc, deqL_cn, deqL_ints, deqL_pairs, deqL_rows, deq_rr, deq_pp, get_0, get_s, ix_t0, ix_t1, ix_t2, ix_t3, ix_t4, ix_t5, ix_t6, ix_l0, ix_l1, ix_l2, ix_l3, ix_l4, ix_l5, ix_lb, ix_tb, dCut_t, dCut_l, rev_t, rev_l, even_t, odd_t, even_l, odd_l, len_t, len_l, int_b, int_i, tuple_t, tuple_l, list_t, list_l, abs_i, sum_t, sum_l, max_2, min_2, max_3, min_3, all_l, isi_ii, isi_ib, isi_is, isi_it, isi_il, isi_bi, isi_bb, isi_bt, isi_bs, isi_tt, isi_tl, isi_ti, isi_ts, isi_ll, isi_lt, isi_li, isi_ls, isi_ss, isi_si, isi_st, isi_sb, it_t, it_l, it_r1, it_r2, it_et, it_el, it_ztt, it_zll, it_ztl, it_zlt, lcFn_1, lcFn_2, cdR_t, cdR_f, cdR_b, xs_nil, xs_set, xs_own, xs_unp, xs_app, xs_ext, xs_put, kExt_ok, kPut_last, xs_frz, xs_pas, xs_ret, xs_ife, xs_for, kSet_ok, kOwn_ok, kUnp_t, kUnp_l, kApp_ok, kRet_ok, kIf_t, kIf_f, kSeq_n, kSeq_r, kFor_ok, forFn_1, forFn_2, setAll_n, setAll_c, fin_r, fin_n, wipe_n, wipe_c, go_nil, go_cons, kGo_n, kGo_r, List.set_cons_zero, List.set_cons_succ, List.cons_append, List.nil_append, List.length_cons, List.length_nil, List.all_cons, List.all_nil, Bool.and_true, Bool.true_and, Bool.and_false, Bool.false_and, Bool.or_true, Bool.true_or, Bool.or_false, Bool.false_or, Bool.not_true, Bool.not_false, decide_true, decide_false, eq_self, Int.cast_ofNat_Int, beq_self_eq_true, s_far_wide, s_far_turn, s_wide_far, s_wide_turn, s_turn_far, s_turn_wide, List.any_cons, List.any_nil, Int.reduceEq, Int.reduceLT, Int.reduceLE, Int.reduceAdd, Int.reduceSub, Int.reduceMul, Int.reduceNeg, Int.reduceToNat, Bool.decide_eq_true, Bool.false_eq_true, ↓reduceIte, List.length_map, bitsM_len, Nat.zero_add, Nat.reduceAdd, call_cf, cut_m]
      rw [← List.map_dropLast, e, ← wide_drop unit bs hn]
theorem r_turn {n : Nat} {unit : Int} (bs : List Int) (hb : ∀ b ∈ bs, b = 0 ∨ b = 1) (hl : bs.length ≤ 1000) (hu : 0 ≤ unit) (hu2 : unit < 1000000) : run pg (n + 1) "turn_times" [.tup (bs.map D.int), .int unit] = .ok (.tup ((unit :: turnL unit 0 (bs ++ [1])).map D.int)) := by
  rw [run_turn_times]
  simp -implicitDefEqProofs (disch := first | exact sh_int | assumption | omega | (simp -implicitDefEqProofs only [List.length_cons, List.length_nil, List.length_map, List.length_append, List.length_reverse, List.length_take, List.length_drop, List.length_set, List.length_replicate, bitsM_len, bitsL_len]; omega) | (simp -implicitDefEqProofs only [sh_int, sh_oI, sh8_pairs, sh8_rows, sh8_row, sh9_row, sh9_p, sh_bl, sh_non, sh9t, sh9l, sh8t, sh8l, sh7t, sh7l, sh6t, sh6l, sh5t, sh5l, sh4t, sh4l, sh_ints, sh_str, List.all_cons, List.all_nil, List.all_append, List.all_reverse, Bool.and_true, Bool.and_self]; done) | (simp -implicitDefEqProofs only [sh_int, sh_oI, sh8_pairs, sh8_rows, sh8_row, sh9_row, sh9_p, sh_bl, sh_non, sh9t, sh9l, sh8t, sh8l, sh7t, sh7l, sh6t, sh6l, sh5t, sh5l, sh4t, sh4l, sh_ints, sh_str, List.all_cons, List.all_nil, List.all_append, List.all_reverse, Bool.and_true, Bool.and_self]; decide +kernel)) only [ev_var, ev_cst, ev_glb, ev_bin, ev_cmp, ev_neg, ev_not, ev_chn, ev_and, ev_or, ev_idx, ev_cut, ev_stp, ev_tup, ev_lst, ev_call, ev_bi, ev_isi, ev_lc, ev_mth, ev_rpl, ev_kin, ev_kget, ev_sst, ev_lss, evs_nil, evs_cons, b1_ok, b2_ok, bs_ok, bcons_ok, band_t, band_f, band_b, bor_t, bor_f, bor_b, b3_ok, dNot_b, dNeg_i, prt_f, prt_t, blc_ok, bit_ok, dTup_ok, dLst_ok, add_ii, sub_ii, mul_l, mul_r, div_ii, mod_ii, add_tt, add_ll, mul_t1i, mul_l1i, lt_ii, le_ii, gt_ii, ge_ii, chn_le, is_bb, isn_bb, is_nn, is_in, isn_nn, isn_in, is_on, isn_on, deq_nn, deq_ni, deq_in, deq_oi, deq_oo, sh_oI, oI_s, oI_n, eq_ok, ne_ok, in_tup, nin_tup, in_lst, nin_lst, sh_int, sh_bl, sh_non, sh_str, sh_ints, deq_ii, deq_bb, deq_ss, deq_tt, deq_ll, deqL_nil, deqL_cons, deqL_nc, deqL_cn, deqL_ints, deqL_pairs, deqL_rows, deq_rr, deq_pp, get_0, get_s, ix_t0, ix_t1, ix_t2, ix_t3, ix_t4, ix_t5, ix_t6, ix_l0, ix_l1, ix_l2, ix_l3, ix_l4, ix_l5, ix_lb, ix_tb, dCut_t, dCut_l, rev_t, rev_l, even_t, odd_t, even_l, odd_l, len_t, len_l, int_b, int_i, tuple_t, tuple_l, list_t, list_l, abs_i, sum_t, sum_l, max_2, min_2, max_3, min_3, all_l, isi_ii, isi_ib, isi_is, isi_it, isi_il, isi_bi, isi_bb, isi_bt, isi_bs, isi_tt, isi_tl, isi_ti, isi_ts, isi_ll, isi_lt, isi_li, isi_ls, isi_ss, isi_si, isi_st, isi_sb, it_t, it_l, it_r1, it_r2, it_et, it_el, it_ztt, it_zll, it_ztl, it_zlt, lcFn_1, lcFn_2, cdR_t, cdR_f, cdR_b, xs_nil, xs_set, xs_own, xs_unp, xs_app, xs_ext, xs_put, kExt_ok, kPut_last, xs_frz, xs_pas, xs_ret, xs_ife, xs_for, kSet_ok, kOwn_ok, kUnp_t, kUnp_l, kApp_ok, kRet_ok, kIf_t, kIf_f, kSeq_n, kSeq_r, kFor_ok, forFn_1, forFn_2, setAll_n, setAll_c, fin_r, fin_n, wipe_n, wipe_c, go_nil, go_cons, kGo_n, kGo_r, List.set_cons_zero, List.set_cons_succ, List.cons_append, List.nil_append, List.length_cons, List.length_nil, List.all_cons, List.all_nil, Bool.and_true, Bool.true_and, Bool.and_false, Bool.false_and, Bool.or_true, Bool.true_or, Bool.or_false, Bool.false_or, Bool.not_true, Bool.not_false, decide_true, decide_false, eq_self, Int.cast_ofNat_Int, beq_self_eq_true, s_far_wide, s_far_turn, s_wide_far, s_wide_turn, s_turn_far, s_turn_wide, List.any_cons, List.any_nil, Int.reduceEq, Int.reduceLT, Int.reduceLE, Int.reduceAdd, Int.reduceSub, Int.reduceMul, Int.reduceNeg, Int.reduceToNat, Bool.decide_eq_true, Bool.false_eq_true, ↓reduceIte, List.length_map, bitsM_len, Nat.zero_add, Nat.reduceAdd, call_cf, f_turn_times]
  have hcs : bs.map D.int ++ [D.int 1] = (bs ++ [1]).map D.int := by simp only [List.map_cons, List.map_append, List.map_nil]
  rw [hcs]
  have hm : ∀ b ∈ (0 :: (bs ++ [1]) : List Int), b = 0 ∨ b = 1 := by
    intro b hb2
    rcases List.mem_cons.mp hb2 with rfl | hb2
    · exact .inl rfl
    rcases List.mem_append.mp hb2 with hb2 | hb2
    · exact hb b hb2
    · simp only [List.mem_cons, List.not_mem_nil, or_false] at hb2
      exact .inr hb2
  refine loop_fin (fun (a : List Int) (j : Option D) => [some (.tup (bs.map D.int)), some (.int unit), some (.lst (a.map D.int)), j, none, none, none]) (fun r a => ∃ q : List Int, r = q.map D.int ∧ a ++ halvesL q = halvesL (0 :: (bs ++ [1])) ∧ a.length + 2 * q.length ≤ 3000) [1, 0] (some (.int 0)) rfl ⟨_, rfl, rfl, by simp only [List.length_nil, List.length_cons, List.length_append]; omega⟩ ?_ ?_
  · rintro a j d r ⟨q, hq, e, hlen⟩
    cases q with
    | nil => cases hq
    | cons y q =>
      cases hq
      rw [List.length_cons] at hlen
      refine ⟨a ++ [1 - y, y], some (.int y), ?_, q, rfl, ?_, ?_⟩
      · simp -implicitDefEqProofs (disch := first | exact sh_int | assumption | omega | (simp -implicitDefEqProofs only [List.length_cons, List.length_nil, List.length_map, List.length_append, List.length_reverse, List.length_take, List.length_drop, List.length_set, List.length_replicate, bitsM_len, bitsL_len]; omega) | (simp -implicitDefEqProofs only [sh_int, sh_oI, sh8_pairs, sh8_rows, sh8_row, sh9_row, sh9_p, sh_bl, sh_non, sh9t, sh9l, sh8t, sh8l, sh7t, sh7l, sh6t, sh6l, sh5t, sh5l, sh4t, sh4l, sh_ints, sh_str, List.all_cons, List.all_nil, List.all_append, List.all_reverse, Bool.and_true, Bool.and_self]; done) | (simp -implicitDefEqProofs only [sh_int, sh_oI, sh8_pairs, sh8_rows, sh8_row, sh9_row, sh9_p, sh_bl, sh_non, sh9t, sh9l, sh8t, sh8l, sh7t, sh7l, sh6t, sh6l, sh5t, sh5l, sh4t, sh4l, sh_ints, sh_str, List.all_cons, List.all_nil, List.all_append, List.all_reverse, Bool.and_true, Bool.and_self]; decide +kernel)) only [ev_var, ev_cst, ev_glb, ev_bin, ev_cmp, ev_neg, ev_not, ev_chn, ev_and, ev_or, ev_idx, ev_cut, ev_stp, ev_tup, ev_lst, ev_call, ev_bi, ev_isi, ev_lc, ev_mth, ev_rpl, ev_kin, ev_kget, ev_sst, ev_lss, evs_nil, evs_cons, b1_ok, b2_ok, bs_ok, bcons_ok, band_t, band_f, band_b, bor_t, bor_f, bor_b, b3_ok, dNot_b, dNeg_i, prt_f, prt_t, blc_ok, bit_ok, dTup_ok, dLst_ok, add_ii, sub_ii, mul_l, mul_r, div_ii, mod_ii, add_tt, add_ll, mul_t1i, mul_l1i, lt_ii, le_ii, gt_ii, ge_ii, chn_le, is_bb, isn_bb, is_nn, is_in, isn_nn, isn_in, is_on, isn_on, deq_nn, deq_ni, deq_in, deq_oi, deq_oo, sh_oI, oI_s, oI_n, eq_ok, ne_ok, in_tup, nin_tup, in_lst, nin_lst, sh_int, sh_bl, sh_non, sh_str, sh_ints, deq_ii, deq_bb, deq_ss, deq_tt, deq_ll, deqL_nil, deqL_cons, deqL_nc, deqL_cn, deqL_ints, deqL_pairs, deqL_rows, deq_rr, deq_pp, get_0, get_s, ix_t0, ix_t1, ix_t2, ix_t3, ix_t4, ix_t5, ix_t6, ix_l0, ix_l1, ix_l2, ix_l3, ix_l4, ix_l5, ix_lb, ix_tb, dCut_t, dCut_l, rev_t, rev_l, even_t, odd_t, even_l, odd_l, len_t, len_l, int_b, int_i, tuple_t, tuple_l, list_t, list_l, abs_i, sum_t, sum_l, max_2, min_2, max_3, min_3, all_l, isi_ii, isi_ib, isi_is, isi_it, isi_il, isi_bi, isi_bb, isi_bt, isi_bs, isi_tt, isi_tl, isi_ti, isi_ts, isi_ll, isi_lt, isi_li, isi_ls, isi_ss, isi_si, isi_st, isi_sb, it_t, it_l, it_r1, it_r2, it_et, it_el, it_ztt, it_zll, it_ztl, it_zlt, lcFn_1, lcFn_2, cdR_t, cdR_f, cdR_b, xs_nil, xs_set, xs_own, xs_unp, xs_app, xs_ext, xs_put, kExt_ok, kPut_last, xs_frz, xs_pas, xs_ret, xs_ife, xs_for, kSet_ok, kOwn_ok, kUnp_t, kUnp_l, kApp_ok, kRet_ok, kIf_t, kIf_f, kSeq_n, kSeq_r, kFor_ok, forFn_1, forFn_2, setAll_n, setAll_c, fin_r, fin_n, wipe_n, wipe_c, go_nil, go_cons, kGo_n, kGo_r, List.set_cons_zero, List.set_cons_succ, List.cons_append, List.nil_append, List.length_cons, List.length_nil, List.all_cons, List.all_nil, Bool.and_true, Bool.true_and, Bool.and_false, Bool.false_and, Bool.or_true, Bool.true_or, Bool.or_false, Bool.false_or, Bool.not_true, Bool.not_false, decide_true, decide_false, eq_self, Int.cast_ofNat_Int, beq_self_eq_true, s_far_wide, s_far_turn, s_wide_far, s_wide_turn, s_turn_far, s_turn_wide, List.any_cons, List.any_nil, Int.reduceEq, Int.reduceLT, Int.reduceLE, Int.reduceAdd, Int.reduceSub, Int.reduceMul, Int.reduceNeg, Int.reduceToNat, Bool.decide_eq_true, Bool.false_eq_true, ↓reduceIte, List.length_map, bitsM_len, Nat.zero_add, Nat.reduceAdd, call_cf, List.map_append, List.map_cons, List.map_nil]
      · rw [← e, halvesL, List.append_assoc]
        rfl
      · simp only [List.length_append, List.length_cons, List.length_nil]
        omega
  rintro a j3 ⟨q, hq, e, hlen⟩
  cases q with
  | cons y q => cases hq
  | nil =>
    rw [halvesL, List.append_nil] at e
    subst e
    have hhl := halves_len (0 :: (bs ++ [1]))
    rw [List.length_cons, List.length_append] at hhl
    simp only [List.length_cons, List.length_nil] at hhl
    generalize hgh : halvesL (0 :: (bs ++ [1])) = hs at hhl
    have htar : rl unit 1 unit (hs.drop 1) = unit :: turnL unit 0 (bs ++ [1]) := by
      rw [← hgh]
      show rl unit 1 unit (0 :: halvesL (bs ++ [1])) = _
      rw [rl, if_neg (by decide), rl_turn unit (bs ++ [1]) 0 (.inl rfl) fun b hb2 => hm b (List.mem_cons_of_mem _ hb2)]
    obtain ⟨hs', hhs⟩ : ∃ hs', hs = 1 :: hs' := ⟨_, hgh.symm⟩
    simp -implicitDefEqProofs (disch := first | exact sh_int | assumption | omega | (simp -implicitDefEqProofs only [List.length_cons, List.length_nil, List.length_map, List.length_append, List.length_reverse, List.length_take, List.length_drop, List.length_set, List.length_replicate, bitsM_len, bitsL_len]; omega) | (simp -implicitDefEqProofs only [sh_int, sh_oI, sh8_pairs, sh8_rows, sh8_row, sh9_row, sh9_p, sh_bl, sh_non, sh9t, sh9l, sh8t, sh8l, sh7t, sh7l, sh6t, sh6l, sh5t, sh5l, sh4t, sh4l, sh_ints, sh_str, List.all_cons, List.all_nil, List.all_append, List.all_reverse, Bool.and_true, Bool.and_self]; done) | (simp -implicitDefEqProofs only [sh_int, sh_oI, sh8_pairs, sh8_rows, sh8_row, sh9_row, sh9_p, sh_bl, sh_non, sh9t, sh9l, sh8t, sh8l, sh7t, sh7l, sh6t, sh6l, sh5t, sh5l, sh4t, sh4l, sh_ints, sh_str, List.all_cons, List.all_nil, List.all_append, List.all_reverse, Bool.and_true, Bool.and_self]; decide +kernel)) only [ev_var, ev_cst, ev_glb, ev_bin, ev_cmp, ev_neg, ev_not, ev_chn, ev_and, ev_or, ev_idx, ev_cut, ev_stp, ev_tup, ev_lst, ev_call, ev_bi, ev_isi, ev_lc, ev_mth, ev_rpl, ev_kin, ev_kget, ev_sst, ev_lss, evs_nil, evs_cons, b1_ok, b2_ok, bs_ok, bcons_ok, band_t, band_f, band_b, bor_t, bor_f, bor_b, b3_ok, dNot_b, dNeg_i, prt_f, prt_t, blc_ok, bit_ok, dTup_ok, dLst_ok, add_ii, sub_ii, mul_l, mul_r, div_ii, mod_ii, add_tt, add_ll, mul_t1i, mul_l1i, lt_ii, le_ii, gt_ii, ge_ii, chn_le, is_bb, isn_bb, is_nn, is_in, isn_nn, isn_in, is_on, isn_on, deq_nn, deq_ni, deq_in, deq_oi, deq_oo, sh_oI, oI_s, oI_n, eq_ok, ne_ok, in_tup, nin_tup, in_lst, nin_lst, sh_int, sh_bl, sh_non, sh_str, sh_ints, deq_ii, deq_bb, deq_ss, deq_tt, deq_ll, deqL_nil, deqL_cons, deqL_nc, deqL_cn, deqL_ints, deqL_pairs, deqL_rows, deq_rr, deq_pp, get_0, get_s, ix_t0, ix_t1, ix_t2, ix_t3, ix_t4, ix_t5, ix_t6, ix_l0, ix_l1, ix_l2, ix_l3, ix_l4, ix_l5, ix_lb, ix_tb, dCut_t, dCut_l, rev_t, rev_l, even_t, odd_t, even_l, odd_l, len_t, len_l, int_b, int_i, tuple_t, tuple_l, list_t, list_l, abs_i, sum_t, sum_l, max_2, min_2, max_3, min_3, all_l, isi_ii, isi_ib, isi_is, isi_it, isi_il, isi_bi, isi_bb, isi_bt, isi_bs, isi_tt, isi_tl, isi_ti, isi_ts, isi_ll, isi_lt, isi_li, isi_ls, isi_ss, isi_si, isi_st, isi_sb, it_t, it_l, it_r1, it_r2, it_et, it_el, it_ztt, it_zll, it_ztl, it_zlt, lcFn_1, lcFn_2, cdR_t, cdR_f, cdR_b, xs_nil, xs_set, xs_own, xs_unp, xs_app, xs_ext, xs_put, kExt_ok, kPut_last, xs_frz, xs_pas, xs_ret, xs_ife, xs_for, kSet_ok, kOwn_ok, kUnp_t, kUnp_l, kApp_ok, kRet_ok, kIf_t, kIf_f, kSeq_n, kSeq_r, kFor_ok, forFn_1, forFn_2, setAll_n, setAll_c, fin_r, fin_n, wipe_n, wipe_c, go_nil, go_cons, kGo_n, kGo_r, List.set_cons_zero, List.set_cons_succ, List.cons_append, List.nil_append, List.length_cons, List.length_nil, List.all_cons, List.all_nil, Bool.and_true, Bool.true_and, Bool.and_false, Bool.false_and, Bool.or_true, Bool.true_or, Bool.or_false, Bool.false_or, Bool.not_true, Bool.not_false, decide_true, decide_false, eq_self, Int.cast_ofNat_Int, beq_self_eq_true, s_far_wide, s_far_turn, s_wide_far, s_wide_turn, s_turn_far, s_turn_wide, List.any_cons, List.any_nil, Int.reduceEq, Int.reduceLT, Int.reduceLE, Int.reduceAdd, Int.reduceSub, Int.reduceMul, Int.reduceNeg, Int.reduceToNat, Bool.decide_eq_true, Bool.false_eq_true, ↓reduceIte, List.length_map, bitsM_len, Nat.zero_add, Nat.reduceAdd, call_cf]
    refine loop_fin (fun (a : List Int) (j : Option D × Option D) => [some (.tup (bs.map D.int)), some (.int unit), some (.lst (hs.map D.int)), j3, some (.lst (a.map D.int)), j.1, j.2]) (fun r a => (r = enumL 0 (hs.map D.int) ∧ a = []) ∨ ∃ (done rest : List Int) (prev t : Int) (pre : List Int), r = enumL (done.length + 1) (rest.map D.int) ∧ hs = (done ++ [prev]) ++ rest ∧ a = pre ++ [t] ∧ pre ++ rl unit prev t rest = unit :: turnL unit 0 (bs ++ [1]) ∧ a.length ≤ done.length + 1) [] (none, none) rfl (.inl ⟨rfl, rfl⟩) ?_ ?_
    · rintro a j d r (⟨hr, rfl⟩ | ⟨done, rest, prev, t, pre, hr, hd, rfl, e, hal⟩)
      · rw [hhs, List.map_cons, enumL_cons] at hr
        cases hr
        refine ⟨[unit], (some (.int 0), some (.int 1)), ?_, .inr ⟨[], hs', 1, unit, [], rfl, by rw [hhs]; rfl, rfl, ?_, Nat.le_refl _⟩⟩
        · simp -implicitDefEqProofs (disch := first | exact sh_int | assumption | omega | (simp -implicitDefEqProofs only [List.length_cons, List.length_nil, List.length_map, List.length_append, List.length_reverse, List.length_take, List.length_drop, List.length_set, List.length_replicate, bitsM_len, bitsL_len]; omega) | (simp -implicitDefEqProofs only [sh_int, sh_oI, sh8_pairs, sh8_rows, sh8_row, sh9_row, sh9_p, sh_bl, sh_non, sh9t, sh9l, sh8t, sh8l, sh7t, sh7l, sh6t, sh6l, sh5t, sh5l, sh4t, sh4l, sh_ints, sh_str, List.all_cons, List.all_nil, List.all_append, List.all_reverse, Bool.and_true, Bool.and_self]; done) | (simp -implicitDefEqProofs only [sh_int, sh_oI, sh8_pairs, sh8_rows, sh8_row, sh9_row, sh9_p, sh_bl, sh_non, sh9t, sh9l, sh8t, sh8l, sh7t, sh7l, sh6t, sh6l, sh5t, sh5l, sh4t, sh4l, sh_ints, sh_str, List.all_cons, List.all_nil, List.all_append, List.all_reverse, Bool.and_true, Bool.and_self]; decide +kernel)) only [ev_var, ev_cst, ev_glb, ev_bin, ev_cmp, ev_neg, ev_not, ev_chn, ev_and, ev_or, ev_idx, ev_cut, ev_stp, ev_tup, ev_lst, ev_call, ev_bi, ev_isi, ev_lc, ev_mth, ev_rpl, ev_kin, ev_kget, ev_sst, ev_lss, evs_nil, evs_cons, b1_ok, b2_ok, bs_ok, bcons_ok, band_t, band_f, band_b, bor_t, bor_f, bor_b, b3_ok, dNot_b, dNeg_i, prt_f, prt_t, blc_ok, bit_ok, dTup_ok, dLst_ok, add_ii, sub_ii, mul_l, mul_r, div_ii, mod_ii, add_tt, add_ll, mul_t1i, mul_l1i, lt_ii, le_ii, gt_ii, ge_ii, chn_le, is_bb, isn_bb, is_nn, is_in, isn_nn, isn_in, is_on, isn_on, deq_nn, deq_ni, deq_in, deq_oi, deq_oo, sh_oI, oI_s, oI_n, eq_ok, ne_ok, in_tup, nin_tup, in_lst, nin_lst, sh_int, sh_bl, sh_non, sh_str, sh_ints, deq_ii, deq_bb, deq_ss, deq_tt, deq_ll, deqL_nil, deqL_cons, deqL_nc, deqL_cn, deqL_ints, deqL_pairs, deqL_rows, deq_rr, deq_pp, get_0, get_s, ix_t0, ix_t1, ix_t2, ix_t3, ix_t4, ix_t5, ix_t6, ix_l0, ix_l1, ix_l2, ix_l3, ix_l4, ix_l5, ix_lb, ix_tb, dCut_t, dCut_l, rev_t, rev_l, even_t, odd_t, even_l, odd_l, len_t, len_l, int_b, int_i, tuple_t, tuple_l, list_t, list_l, abs_i, sum_t, sum_l, max_2, min_2, max_3, min_3, all_l, isi_ii, isi_ib, isi_is, isi_it, isi_il, isi_bi, isi_bb, isi_bt, isi_bs, isi_tt, isi_tl, isi_ti, isi_ts, isi_ll, isi_lt, isi_li, isi_ls, isi_ss, isi_si, isi_st, isi_sb, it_t, it_l, it_r1, it_r2, it_et, it_el, it_ztt, it_zll, it_ztl, it_zlt, lcFn_1, lcFn_2, cdR_t, cdR_f, cdR_b, xs_nil, xs_set, xs_own, xs_unp, xs_app, xs_ext, xs_put, kExt_ok, kPut_last, xs_frz, xs_pas, xs_ret, xs_ife, xs_for, kSet_ok, kOwn_ok, kUnp_t, kUnp_l, kApp_ok, kRet_ok, kIf_t, kIf_f, kSeq_n, kSeq_r, kFor_ok, forFn_1, forFn_2, setAll_n, setAll_c, fin_r, fin_n, wipe_n, wipe_c, go_nil, go_cons, kGo_n, kGo_r, List.set_cons_zero, List.set_cons_succ, List.cons_append, List.nil_append, List.length_cons, List.length_nil, List.all_cons, List.all_nil, Bool.and_true, Bool.true_and, Bool.and_false, Bool.false_and, Bool.or_true, Bool.true_or, Bool.or_false, Bool.false_or, Bool.not_true, Bool.not_false, decide_true, decide_false, eq_self, Int.cast_ofNat_Int, beq_self_eq_true, s_far_wide, s_far_turn, s_wide_far, s_wide_turn, s_turn_far, s_turn_wide, List.any_cons, List.any_nil, Int.reduceEq, Int.reduceLT, Int.reduceLE, Int.reduceAdd, Int.reduceSub, Int.reduceMul, Int.reduceNeg, Int.reduceToNat, Bool.decide_eq_true, Bool.false_eq_true, ↓reduceIte, List.length_map, bitsM_len, Nat.zero_add, Nat.reduceAdd, call_cf, List.map_append, List.map_cons, List.map_nil]
          all_goals rfl
        · rw [← htar, hhs]
          rfl
      · cases rest with
        | nil => cases hr
        | cons y rest =>
          rw [List.map_cons, enumL_cons] at hr
          cases hr
          have hx : (hs.getD ((((done.length + 1 : Nat) : Int)) - 1).toNat 0) = prev := by
            rw [show ((((done.length + 1 : Nat) : Int)) - 1).toNat = done.length by omega, hd, List.append_assoc, List.getD_eq_getElem?_getD, List.getElem?_append_right (Nat.le_refl _), Nat.sub_self]
            rfl
          have hlt : done.length + 1 < hs.length := by
            rw [hd]
            simp only [List.length_append, List.length_cons, List.length_nil]
            omega
          have hgt : decide ((0 : Int) < ((done.length + 1 : Nat) : Int)) = true := decide_eq_true (by omega)
          rw [rl] at e
          by_cases hp : prev = y
          · rw [if_pos hp] at e
            refine ⟨pre ++ [t + unit], (some (.int ((done.length + 1 : Nat) : Int)), some (.int y)), ?_, .inr ⟨done ++ [prev], rest, y, t + unit, pre, by rw [List.length_append]; rfl, by rw [hd, hp]; simp only [List.append_assoc, List.cons_append, List.nil_append], rfl, e, ?_⟩⟩
            · simp -implicitDefEqProofs (disch := first | exact sh_int | assumption | omega | (simp -implicitDefEqProofs only [List.length_cons, List.length_nil, List.length_map, List.length_append, List.length_reverse, List.length_take, List.length_drop, List.length_set, List.length_replicate, bitsM_len, bitsL_len]; omega) | (simp -implicitDefEqProofs only [sh_int, sh_oI, sh8_pairs, sh8_rows, sh8_row, sh9_row, sh9_p, sh_bl, sh_non, sh9t, sh9l, sh8t, sh8l, sh7t, sh7l, sh6t, sh6l, sh5t, sh5l, sh4t, sh4l, sh_ints, sh_str, List.all_cons, List.all_nil, List.all_append, List.all_reverse, Bool.and_true, Bool.and_self]; done) | (simp -implicitDefEqProofs only [sh_int, sh_oI, sh8_pairs, sh8_rows, sh8_row, sh9_row, sh9_p, sh_bl, sh_non, sh9t, sh9l, sh8t, sh8l, sh7t, sh7l, sh6t, sh6l, sh5t, sh5l, sh4t, sh4l, sh_ints, sh_str, List.all_cons, List.all_nil, List.all_append, List.all_reverse, Bool.and_true, Bool.and_self]; decide +kernel)) only [ev_var, ev_cst, ev_glb, ev_bin, ev_cmp, ev_neg, ev_not, ev_chn, ev_and, ev_or, ev_idx, ev_cut, ev_stp, ev_tup, ev_lst, ev_call, ev_bi, ev_isi, ev_lc, ev_mth, ev_rpl, ev_kin, ev_kget, ev_sst, ev_lss, evs_nil, evs_cons, b1_ok, b2_ok, bs_ok, bcons_ok, band_t, band_f, band_b, bor_t, bor_f, bor_b, b3_ok, dNot_b, dNeg_i, prt_f, prt_t, blc_ok, bit_ok, dTup_ok, dLst_ok, add_ii, sub_ii, mul_l, mul_r, div_ii, mod_ii, add_tt, add_ll, mul_t1i, mul_l1i, lt_ii, le_ii, gt_ii, ge_ii, chn_le, is_bb, isn_bb, is_nn, is_in, isn_nn, isn_in, is_on, isn_on, deq_nn, deq_ni, deq_in, deq_oi, deq_oo, sh_oI, oI_s, oI_n, eq_ok, ne_ok, in_tup, nin_tup, in_lst, nin_lst, sh_int, sh_bl, sh_non, sh_str, sh_ints, deq_ii, deq_bb, deq_ss, deq_tt, deq_ll, deqL_nil, deqL_cons, deqL_nc, deqL_cn, deqL_ints, deqL_pairs, deqL_rows, deq_rr, deq_pp, get_0, get_s, ix_t0, ix_t1, ix_t2, ix_t3, ix_t4, ix_t5, ix_t6, ix_l0, ix_l1, ix_l2, ix_l3, ix_l4, ix_l5, ix_lb, ix_tb, dCut_t, dCut_l, rev_t, rev_l, even_t, odd_t, even_l, odd_l, len_t, len_l, int_b, int_i, tuple_t, tuple_l, list_t, list_l, abs_i, sum_t, sum_l, max_2, min_2, max_3, min_3, all_l, isi_ii, isi_ib, isi_is, isi_it, isi_il, isi_bi, isi_bb, isi_bt, isi_bs, isi_tt, isi_tl, isi_ti, isi_ts, isi_ll, isi_lt, isi_li, isi_ls, isi_ss, isi_si, isi_st, isi_sb, it_t, it_l, it_r1, it_r2, it_et, it_el, it_ztt, it_zll, it_ztl, it_zlt, lcFn_1, lcFn_2, cdR_t, cdR_f, cdR_b, xs_nil, xs_set, xs_own, xs_unp, xs_app, xs_ext, xs_put, kExt_ok, kPut_last, xs_frz, xs_pas, xs_ret, xs_ife, xs_for, kSet_ok, kOwn_ok, kUnp_t, kUnp_l, kApp_ok, kRet_ok, kIf_t, kIf_f, kSeq_n, kSeq_r, kFor_ok, forFn_1, forFn_2, setAll_n, setAll_c, fin_r, fin_n, wipe_n, wipe_c, go_nil, go_cons, kGo_n, kGo_r, List.set_cons_zero, List.set_cons_succ, List.cons_append, List.nil_append, List.length_cons, List.length_nil, List.all_cons, List.all_nil, Bool.and_true, Bool.true_and, Bool.and_false, Bool.false_and, Bool.or_true, Bool.true_or, Bool.or_false, Bool.false_or, Bool.not_true, Bool.not_false, decide_true, decide_false, eq_self, Int.cast_ofNat_Int, beq_self_eq_true, s_far_wide, s_far_turn, s_wide_far, s_wide_turn, s_turn_far, s_turn_wide, List.any_cons, List.any_nil, Int.reduceEq, Int.reduceLT, Int.reduceLE, Int.reduceAdd, Int.reduceSub, Int.reduceMul, Int.reduceNeg, Int.reduceToNat, Bool.decide_eq_true, Bool.false_eq_true, ↓reduceIte, List.length_map, bitsM_len, Nat.zero_add, Nat.reduceAdd, call_cf, ix_li, hx, hgt, hp, List.map_append, List.map_cons, List.map_nil, ix_lm]
            · simp only [List.length_append, List.length_cons, List.length_nil] at hal ⊢
              omega
          · rw [if_neg hp] at e
            have hp2 : decide (prev = y) = false := decide_eq_false hp
            refine ⟨(pre ++ [t]) ++ [unit], (some (.int ((done.length + 1 : Nat) : Int)), some (.int y)), ?_, .inr ⟨done ++ [prev], rest, y, unit, pre ++ [t], by rw [List.length_append]; rfl, by rw [hd]; simp only [List.append_assoc, List.cons_append, List.nil_append], rfl, ?_, ?_⟩⟩
            · simp only [List.length_append, List.length_cons, List.length_nil] at hal
              simp -implicitDefEqProofs (disch := first | exact sh_int | assumption | omega | (simp -implicitDefEqProofs only [List.length_cons, List.length_nil, List.length_map, List.length_append, List.length_reverse, List.length_take, List.length_drop, List.length_set, List.length_replicate, bitsM_len, bitsL_len]; omega) | (simp -implicitDefEqProofs only [sh_int, sh_oI, sh8_pairs, sh8_rows, sh8_row, sh9_row, sh9_p, sh_bl, sh_non, sh9t, sh9l, sh8t, sh8l, sh7t, sh7l, sh6t, sh6l, sh5t, sh5l, sh4t, sh4l, sh_ints, sh_str, List.all_cons, List.all_nil, List.all_append, List.all_reverse, Bool.and_true, Bool.and_self]; done) | (simp -implicitDefEqProofs only [sh_int, sh_oI, sh8_pairs, sh8_rows, sh8_row, sh9_row, sh9_p, sh_bl, sh_non, sh9t, sh9l, sh8t, sh8l, sh7t, sh7l, sh6t, sh6l, sh5t, sh5l, sh4t, sh4l, sh_ints, sh_str, List.all_cons, List.all_nil, List.all_append, List.all_reverse, Bool.and_true, Bool.and_self]; decide +kernel)) only [ev_var, ev_cst, ev_glb, ev_bin, ev_cmp, ev_neg, ev_not, ev_chn, ev_and, ev_or, ev_idx, ev_cut, ev_stp, ev_tup, ev_lst, ev_call, ev_bi, ev_isi, ev_lc, ev_mth, ev_rpl, ev_kin, ev_kget, ev_sst, ev_lss, evs_nil, evs_cons, b1_ok, b2_ok, bs_ok, bcons_ok, band_t, band_f, band_b, bor_t, bor_f, bor_b, b3_ok, dNot_b, dNeg_i, prt_f, prt_t, blc_ok, bit_ok, dTup_ok, dLst_ok, add_ii, sub_ii, mul_l, mul_r, div_ii, mod_ii, add_tt, add_ll, mul_t1i, mul_l1i, lt_ii, le_ii, gt_ii, ge_ii, chn_le, is_bb, isn_bb, is_nn, is_in, isn_nn, isn_in, is_on, isn_on, deq_nn, deq_ni, deq_in, deq_oi, deq_oo, sh_oI, oI_s, oI_n, eq_ok, ne_ok, in_tup, nin_tup, in_lst, nin_lst, sh_int, sh_bl, sh_non, sh_str, sh_ints, deq_ii, deq_bb, deq_ss, deq_tt, deq_ll, deqL_nil, deqL_cons, deqL_nc, deqL_cn, deqL_ints, deqL_pairs, deqL_rows, deq_rr, deq_pp, get_0, get_s, ix_t0, ix_t1, ix_t2, ix_t3, ix_t4, ix_t5, ix_t6, ix_l0, ix_l1, ix_l2, ix_l3, ix_l4, ix_l5, ix_lb, ix_tb, dCut_t, dCut_l, rev_t, rev_l, even_t, odd_t, even_l, odd_l, len_t, len_l, int_b, int_i, tuple_t, tuple_l, list_t, list_l, abs_i, sum_t, sum_l, max_2, min_2, max_3, min_3, all_l, isi_ii, isi_ib, isi_is, isi_it, isi_il, isi_bi, isi_bb, isi_bt, isi_bs, isi_tt, isi_tl, isi_ti, isi_ts, isi_ll, isi_lt, isi_li, isi_ls, isi_ss, isi_si, isi_st, isi_sb, it_t, it_l, it_r1, it_r2, it_et, it_el, it_ztt, it_zll, it_ztl, it_zlt, lcFn_1, lcFn_2, cdR_t, cdR_f, cdR_b, xs_nil, xs_set, xs_own, xs_unp, xs_app, xs_ext, xs_put, kExt_ok, kPut_last, xs_frz, xs_pas, xs_ret, xs_ife, xs_for, kSet_ok, kOwn_ok, kUnp_t, kUnp_l, kApp_ok, kRet_ok, kIf_t, kIf_f, kSeq_n, kSeq_r, kFor_ok, forFn_1, forFn_2, setAll_n, setAll_c, fin_r, fin_n, wipe_n, wipe_c, go_nil, go_cons, kGo_n, kGo_r, List.set_cons_zero, List.set_cons_succ, List.cons_append, List.nil_append, List.length_cons, List.length_nil, List.all_cons, List.all_nil, Bool.and_true, Bool.true_and, Bool.and_false, Bool.false_and, Bool.or_true, Bool.true_or, Bool.or_false, Bool.false_or, Bool.not_true, Bool.not_false, decide_true, decide_false, eq_self, Int.cast_ofNat_Int, beq_self_eq_true, s_far_wide, s_far_turn, s_wide_far, s_wide_turn, s_turn_far, s_turn_wide, List.any_cons, List.any_nil, Int.reduceEq, Int.reduceLT, Int.reduceLE, Int.reduceAdd, Int.reduceSub, Int.reduceMul, Int.reduceNeg, Int.reduceToNat, Bool.decide_eq_true, Bool.false_eq_true, ↓reduceIte, List.length_map, bitsM_len, Nat.zero_add, Nat.reduceAdd, call_cf, ix_li, hx, hgt, hp2, List.map_append, List.map_cons, List.map_nil]
            · rw [← e, List.append_assoc]
              rfl
            · simp only [List.length_append, List.length_cons, List.length_nil] at hal ⊢
              omega
    · rintro a j (⟨hr, rfl⟩ | ⟨done, rest, prev, t, pre, hr, hd, rfl, e, hal⟩)
      · rw [hhs] at hr
        cases hr
      · cases rest with
        | cons y rest => cases hr
        | nil =>
          simp -implicitDefEqProofs (disch := first | exact sh_int | assumption | omega | (simp -implicitDefEqProofs only [List.length_cons, List.length_nil, List.length_map, List.length_append, List.length_reverse, List.length_take, List.length_drop, List.length_set, List.length_replicate, bitsM_len, bitsL_len]; omega) | (simp -implicitDefEqProofs only [sh_int, sh_oI, sh8_pairs, sh8_rows, sh8_row, sh9_row, sh9_p, sh_bl, sh_non, sh9t, sh9l, sh8t, sh8l, sh7t, sh7l, sh6t, sh6l, sh5t, sh5l, sh4t, sh4l, sh_ints, sh_str, List.all_cons, List.all_nil, List.all_append, List.all_reverse, Bool.and_true, Bool.and_self]; done) | (simp -implicitDefEqProofs only [sh_int, sh_oI, sh8_pairs, sh8_rows, sh8_row, sh9_row, sh9_p, sh_bl, sh_non, sh9t, sh9l, sh8t, sh8l, sh7t, sh7l, sh6t, sh6l, sh5t, sh5l, sh4t, sh4l, sh_ints, sh_str, List.all_cons, List.all_nil, List.all_append, List.all_reverse, Bool.and_true, Bool.and_self]; decide +kernel)) only [ev_var, ev_cst, ev_glb, ev_bin, ev_cmp, ev_neg, ev_not, ev_chn, ev_and, ev_or, ev_idx, ev_cut, ev_stp, ev_tup, ev_lst, ev_call, ev_bi, ev_isi, ev_lc, ev_mth, ev_rpl, ev_kin, ev_kget, ev_sst, ev_lss, evs_nil, evs_cons, b1_ok, b2_ok, bs_ok, bcons_ok, band_t, band_f, band_b, bor_t, bor_f, bor_b, b3_ok, dNot_b, dNeg_i, prt_f, prt_t, blc_ok, bit_ok, dTup_ok, dLst_ok, add_ii, sub_ii, mul_l, mul_r, div_ii, mod_ii, add_tt, add_ll, mul_t1i, mul_l1i, lt_ii, le_ii, gt_ii, ge_ii, chn_le, is_bb, isn_bb, is_nn, is_in, isn_nn, isn_in, is_on, isn_on, deq_nn, deq_ni, deq_in, deq_oi, deq_oo, sh_oI, oI_s, oI_n, eq_ok, ne_ok, in_tup, nin_tup, in_lst, nin_lst, sh_int, sh_bl, sh_non, sh_str, sh_ints, deq_ii, deq_bb, deq_ss, deq_tt, deq_ll, deqL_nil, deqL_cons, deqL_nc, deqL_cn, deqL_ints, deqL_pairs, deqL_rows, deq_rr, deq_pp, get_0, get_s, ix_t0, ix_t1, ix_t2, ix_t3, ix_t4, ix_t5, ix_t6, ix_l0, ix_l1, ix_l2, ix_l3, ix_l4, ix_l5, ix_lb, ix_tb, dCut_t, dCut_l, rev_t, rev_l, even_t, odd_t, even_l, odd_l, len_t, len_l, int_b, int_i, tuple_t, tuple_l, list_t, list_l, abs_i, sum_t, sum_l, max_2, min_2, max_3, min_3, all_l, isi_ii, isi_ib, isi_is, isi_it, isi_il, isi_bi, isi_bb, isi_bt, isi_bs, isi_tt, isi_tl, isi_ti, isi_ts, isi_ll, isi_lt, isi_li, isi_ls, isi_ss, isi_si, isi_st, isi_sb, it_t, it_l, it_r1, it_r2, it_et, it_el, it_ztt, it_zll, it_ztl, it_zlt, lcFn_1, lcFn_2, cdR_t, cdR_f, cdR_b, xs_nil, xs_set, xs_own, xs_unp, xs_app, xs_ext, xs_put, kExt_ok, kPut_last, xs_frz, xs_pas, xs_ret, xs_ife, xs_for, kSet_ok, kOwn_ok, kUnp_t, kUnp_l, kApp_ok, kRet_ok, kIf_t, kIf_f, kSeq_n, kSeq_r, kFor_ok, forFn_1, forFn_2, setAll_n, setAll_c, fin_r, fin_n, wipe_n, wipe_c, go_nil, go_cons, kGo_n, kGo_r, List.set_cons_zero, List.set_cons_succ, List.cons_append, List.nil_append, List.length_cons, List.length_nil, List.all_cons, List.all_nil, Bool.and_true, Bool.true_and, Bool.and_false, Bool.false_and, Bool.or_true, Bool.true_or, Bool.or_false, Bool.false_or, Bool.not_true, Bool.not_false, decide_true, decide_false, eq_self, Int.cast_ofNat_Int, beq_self_eq_true, s_far_wide, s_far_turn, s_wide_far, s_wide_turn, s_turn_far, s_turn_wide, List.any_cons, List.any_nil, Int.reduceEq, Int.reduceLT, Int.reduceLE, Int.reduceAdd, Int.reduceSub, Int.reduceMul, Int.reduceNeg, Int.reduceToNat, Bool.decide_eq_true, Bool.false_eq_true, ↓reduceIte, List.length_map, bitsM_len, Nat.zero_add, Nat.reduceAdd, call_cf]
          rw [← e, rl]
theorem r_flash {n : Nat} {way : Str} {head gap unit b slip x : Int} {low : Bool} (hw : WayOk way) (hb : 1 ≤ b) (hb2 : b ≤ 1000) (hu : 0 ≤ unit) (hu2 : unit < 1000000) : run pg (n + 2) "flashes" [mkD way head gap unit b low slip, .int x] = .ok (.tup ((flashL way head gap unit (bitsM low b.toNat x)).map D.int)) := by
  rw [run_flashes]
  have hws := hw.str
  have hl := bitsM_len low b.toNat x
  have h01 := bitsM_01 low b.toNat x
  have eb := r_bits (n := n) (way := way) (head := head) (gap := gap) (unit := unit) (b := b) (slip := slip) (x := x) (low := low) (by omega) hb2
  generalize bitsM low b.toNat x = bs at hl eb h01 ⊢
  have hl1 : bs.length ≤ 1000 := by omega
  have hne : bs ≠ [] := fun z => by rw [z, List.length_nil] at hl; omega
  have e1 := r_far (n := n) bs hl1 hu hu2
  have e2 := r_wide (n := n) bs hne hl1 hu hu2
  have e3 := r_turn (n := n) bs h01 hl1 hu hu2
  have l1 := far_len unit bs
  have l2 := wide_len unit bs hne
  have l3 := (turn_len unit (bs ++ [1]) 0).1
  rw [List.length_append, List.length_cons, List.length_nil] at l3
  unfold flashL timesL
  cases h1 : (way == "far") with
  | true => simp -implicitDefEqProofs (disch := first | exact sh_int | assumption | omega | (simp -implicitDefEqProofs only [List.length_cons, List.length_nil, List.length_map, List.length_append, List.length_reverse, List.length_take, List.length_drop, List.length_set, List.length_replicate, bitsM_len, bitsL_len]; omega) | (simp -implicitDefEqProofs only [sh_int, sh_oI, sh8_pairs, sh8_rows, sh8_row, sh9_row, sh9_p, sh_bl, sh_non, sh9t, sh9l, sh8t, sh8l, sh7t, sh7l, sh6t, sh6l, sh5t, sh5l, sh4t, sh4l, sh_ints, sh_str, List.all_cons, List.all_nil, List.all_append, List.all_reverse, Bool.and_true, Bool.and_self]; done) | (simp -implicitDefEqProofs only [sh_int, sh_oI, sh8_pairs, sh8_rows, sh8_row, sh9_row, sh9_p, sh_bl, sh_non, sh9t, sh9l, sh8t, sh8l, sh7t, sh7l, sh6t, sh6l, sh5t, sh5l, sh4t, sh4l, sh_ints, sh_str, List.all_cons, List.all_nil, List.all_append, List.all_reverse, Bool.and_true, Bool.and_self]; decide +kernel)) only [ev_var, ev_cst, ev_glb, ev_bin, ev_cmp, ev_neg, ev_not, ev_chn, ev_and, ev_or, ev_idx, ev_cut, ev_stp, ev_tup, ev_lst, ev_call, ev_bi, ev_isi, ev_lc, ev_mth, ev_rpl, ev_kin, ev_kget, ev_sst, ev_lss, evs_nil, evs_cons, b1_ok, b2_ok, bs_ok, bcons_ok, band_t, band_f, band_b, bor_t, bor_f, bor_b, b3_ok, dNot_b, dNeg_i, prt_f, prt_t, blc_ok, bit_ok, dTup_ok, dLst_ok, add_ii, sub_ii, mul_l, mul_r, div_ii, mod_ii, add_tt, add_ll, mul_t1i, mul_l1i, lt_ii, le_ii, gt_ii, ge_ii, chn_le, is_bb, isn_bb, is_nn, is_in, isn_nn, isn_in, is_on, isn_on, deq_nn, deq_ni, deq_in, deq_oi, deq_oo, sh_oI, oI_s, oI_n, eq_ok, ne_ok, in_tup, nin_tup, in_lst, nin_lst, sh_int, sh_bl, sh_non, sh_str, sh_ints, deq_ii, deq_bb, deq_ss, deq_tt, deq_ll, deqL_nil, deqL_cons, deqL_nc, deqL_cn, deqL_ints, deqL_pairs, deqL_rows, deq_rr, deq_pp, get_0, get_s, ix_t0, ix_t1, ix_t2, ix_t3, ix_t4, ix_t5, ix_t6, ix_l0, ix_l1, ix_l2, ix_l3, ix_l4, ix_l5, ix_lb, ix_tb, dCut_t, dCut_l, rev_t, rev_l, even_t, odd_t, even_l, odd_l, len_t, len_l, int_b, int_i, tuple_t, tuple_l, list_t, list_l, abs_i, sum_t, sum_l, max_2, min_2, max_3, min_3, all_l, isi_ii, isi_ib, isi_is, isi_it, isi_il, isi_bi, isi_bb, isi_bt, isi_bs, isi_tt, isi_tl, isi_ti, isi_ts, isi_ll, isi_lt, isi_li, isi_ls, isi_ss, isi_si, isi_st, isi_sb, it_t, it_l, it_r1, it_r2, it_et, it_el, it_ztt, it_zll, it_ztl, it_zlt, lcFn_1, lcFn_2, cdR_t, cdR_f, cdR_b, xs_nil, xs_set, xs_own, xs_unp, xs_app, xs_ext, xs_put, kExt_ok, kPut_last, xs_frz, xs_pas, xs_ret, xs_ife, xs_for, kSet_ok, kOwn_ok, kUnp_t, kUnp_l, kApp_ok, kRet_ok, kIf_t, kIf_f, kSeq_n, kSeq_r, kFor_ok, forFn_1, forFn_2, setAll_n, setAll_c, fin_r, fin_n, wipe_n, wipe_c, go_nil, go_cons, kGo_n, kGo_r, List.set_cons_zero, List.set_cons_succ, List.cons_append, List.nil_append, List.length_cons, List.length_nil, List.all_cons, List.all_nil, Bool.and_true, Bool.true_and, Bool.and_false, Bool.false_and, Bool.or_true, Bool.true_or, Bool.or_false, Bool.false_or, Bool.not_true, Bool.not_false, decide_true, decide_false, eq_self, Int.cast_ofNat_Int, beq_self_eq_true, s_far_wide, s_far_turn, s_wide_far, s_wide_turn, s_turn_far, s_turn_wide, List.any_cons, List.any_nil, Int.reduceEq, Int.reduceLT, Int.reduceLE, Int.reduceAdd, Int.reduceSub, Int.reduceMul, Int.reduceNeg, Int.reduceToNat, Bool.decide_eq_true, Bool.false_eq_true, ↓reduceIte, List.length_map, bitsM_len, Nat.zero_add, Nat.reduceAdd, call_cf, f_flashes, mk_c4, eb, h1, glb_FAR, glb_WIDE, e1, List.map_cons]
  | false =>
    cases h2 : (way == "wide") with
    | true => simp -implicitDefEqProofs (disch := first | exact sh_int | assumption | omega | (simp -implicitDefEqProofs only [List.length_cons, List.length_nil, List.length_map, List.length_append, List.length_reverse, List.length_take, List.length_drop, List.length_set, List.length_replicate, bitsM_len, bitsL_len]; omega) | (simp -implicitDefEqProofs only [sh_int, sh_oI, sh8_pairs, sh8_rows, sh8_row, sh9_row, sh9_p, sh_bl, sh_non, sh9t, sh9l, sh8t, sh8l, sh7t, sh7l, sh6t, sh6l, sh5t, sh5l, sh4t, sh4l, sh_ints, sh_str, List.all_cons, List.all_nil, List.all_append, List.all_reverse, Bool.and_true, Bool.and_self]; done) | (simp -implicitDefEqProofs only [sh_int, sh_oI, sh8_pairs, sh8_rows, sh8_row, sh9_row, sh9_p, sh_bl, sh_non, sh9t, sh9l, sh8t, sh8l, sh7t, sh7l, sh6t, sh6l, sh5t, sh5l, sh4t, sh4l, sh_ints, sh_str, List.all_cons, List.all_nil, List.all_append, List.all_reverse, Bool.and_true, Bool.and_self]; decide +kernel)) only [ev_var, ev_cst, ev_glb, ev_bin, ev_cmp, ev_neg, ev_not, ev_chn, ev_and, ev_or, ev_idx, ev_cut, ev_stp, ev_tup, ev_lst, ev_call, ev_bi, ev_isi, ev_lc, ev_mth, ev_rpl, ev_kin, ev_kget, ev_sst, ev_lss, evs_nil, evs_cons, b1_ok, b2_ok, bs_ok, bcons_ok, band_t, band_f, band_b, bor_t, bor_f, bor_b, b3_ok, dNot_b, dNeg_i, prt_f, prt_t, blc_ok, bit_ok, dTup_ok, dLst_ok, add_ii, sub_ii, mul_l, mul_r, div_ii, mod_ii, add_tt, add_ll, mul_t1i, mul_l1i, lt_ii, le_ii, gt_ii, ge_ii, chn_le, is_bb, isn_bb, is_nn, is_in, isn_nn, isn_in, is_on, isn_on, deq_nn, deq_ni, deq_in, deq_oi, deq_oo, sh_oI, oI_s, oI_n, eq_ok, ne_ok, in_tup, nin_tup, in_lst, nin_lst, sh_int, sh_bl, sh_non, sh_str, sh_ints, deq_ii, deq_bb, deq_ss, deq_tt, deq_ll, deqL_nil, deqL_cons, deqL_nc, deqL_cn, deqL_ints, deqL_pairs, deqL_rows, deq_rr, deq_pp, get_0, get_s, ix_t0, ix_t1, ix_t2, ix_t3, ix_t4, ix_t5, ix_t6, ix_l0, ix_l1, ix_l2, ix_l3, ix_l4, ix_l5, ix_lb, ix_tb, dCut_t, dCut_l, rev_t, rev_l, even_t, odd_t, even_l, odd_l, len_t, len_l, int_b, int_i, tuple_t, tuple_l, list_t, list_l, abs_i, sum_t, sum_l, max_2, min_2, max_3, min_3, all_l, isi_ii, isi_ib, isi_is, isi_it, isi_il, isi_bi, isi_bb, isi_bt, isi_bs, isi_tt, isi_tl, isi_ti, isi_ts, isi_ll, isi_lt, isi_li, isi_ls, isi_ss, isi_si, isi_st, isi_sb, it_t, it_l, it_r1, it_r2, it_et, it_el, it_ztt, it_zll, it_ztl, it_zlt, lcFn_1, lcFn_2, cdR_t, cdR_f, cdR_b, xs_nil, xs_set, xs_own, xs_unp, xs_app, xs_ext, xs_put, kExt_ok, kPut_last, xs_frz, xs_pas, xs_ret, xs_ife, xs_for, kSet_ok, kOwn_ok, kUnp_t, kUnp_l, kApp_ok, kRet_ok, kIf_t, kIf_f, kSeq_n, kSeq_r, kFor_ok, forFn_1, forFn_2, setAll_n, setAll_c, fin_r, fin_n, wipe_n, wipe_c, go_nil, go_cons, kGo_n, kGo_r, List.set_cons_zero, List.set_cons_succ, List.cons_append, List.nil_append, List.length_cons, List.length_nil, List.all_cons, List.all_nil, Bool.and_true, Bool.true_and, Bool.and_false, Bool.false_and, Bool.or_true, Bool.true_or, Bool.or_false, Bool.false_or, Bool.not_true, Bool.not_false, decide_true, decide_false, eq_self, Int.cast_ofNat_Int, beq_self_eq_true, s_far_wide, s_far_turn, s_wide_far, s_wide_turn, s_turn_far, s_turn_wide, List.any_cons, List.any_nil, Int.reduceEq, Int.reduceLT, Int.reduceLE, Int.reduceAdd, Int.reduceSub, Int.reduceMul, Int.reduceNeg, Int.reduceToNat, Bool.decide_eq_true, Bool.false_eq_true, ↓reduceIte, List.length_map, bitsM_len, Nat.zero_add, Nat.reduceAdd, call_cf, f_flashes, mk_c4, eb, h1, h2, glb_FAR, glb_WIDE, e2, List.map_cons]
    | false => simp -implicitDefEqProofs (disch := first | exact sh_int | assumption | omega | (simp -implicitDefEqProofs only [List.length_cons, List.length_nil, List.length_map, List.length_append, List.length_reverse, List.length_take, List.length_drop, List.length_set, List.length_replicate, bitsM_len, bitsL_len]; omega) | (simp -implicitDefEqProofs only [sh_int, sh_oI, sh8_pairs, sh8_rows, sh8_row, sh9_row, sh9_p, sh_bl, sh_non, sh9t, sh9l, sh8t, sh8l, sh7t, sh7l, sh6t, sh6l, sh5t, sh5l, sh4t, sh4l, sh_ints, sh_str, List.all_cons, List.all_nil, List.all_append, List.all_reverse, Bool.and_true, Bool.and_self]; done) | (simp -implicitDefEqProofs only [sh_int, sh_oI, sh8_pairs, sh8_rows, sh8_row, sh9_row, sh9_p, sh_bl, sh_non, sh9t, sh9l, sh8t, sh8l, sh7t, sh7l, sh6t, sh6l, sh5t, sh5l, sh4t, sh4l, sh_ints, sh_str, List.all_cons, List.all_nil, List.all_append, List.all_reverse, Bool.and_true, Bool.and_self]; decide +kernel)) only [ev_var, ev_cst, ev_glb, ev_bin, ev_cmp, ev_neg, ev_not, ev_chn, ev_and, ev_or, ev_idx, ev_cut, ev_stp, ev_tup, ev_lst, ev_call, ev_bi, ev_isi, ev_lc, ev_mth, ev_rpl, ev_kin, ev_kget, ev_sst, ev_lss, evs_nil, evs_cons, b1_ok, b2_ok, bs_ok, bcons_ok, band_t, band_f, band_b, bor_t, bor_f, bor_b, b3_ok, dNot_b, dNeg_i, prt_f, prt_t, blc_ok, bit_ok, dTup_ok, dLst_ok, add_ii, sub_ii, mul_l, mul_r, div_ii, mod_ii, add_tt, add_ll, mul_t1i, mul_l1i, lt_ii, le_ii, gt_ii, ge_ii, chn_le, is_bb, isn_bb, is_nn, is_in, isn_nn, isn_in, is_on, isn_on, deq_nn, deq_ni, deq_in, deq_oi, deq_oo, sh_oI, oI_s, oI_n, eq_ok, ne_ok, in_tup, nin_tup, in_lst, nin_lst, sh_int, sh_bl, sh_non, sh_str, sh_ints, deq_ii, deq_bb, deq_ss, deq_tt, deq_ll, deqL_nil, deqL_cons, deqL_nc, deqL_cn, deqL_ints, deqL_pairs, deqL_rows, deq_rr, deq_pp, get_0, get_s, ix_t0, ix_t1, ix_t2, ix_t3, ix_t4, ix_t5, ix_t6, ix_l0, ix_l1, ix_l2, ix_l3, ix_l4, ix_l5, ix_lb, ix_tb, dCut_t, dCut_l, rev_t, rev_l, even_t, odd_t, even_l, odd_l, len_t, len_l, int_b, int_i, tuple_t, tuple_l, list_t, list_l, abs_i, sum_t, sum_l, max_2, min_2, max_3, min_3, all_l, isi_ii, isi_ib, isi_is, isi_it, isi_il, isi_bi, isi_bb, isi_bt, isi_bs, isi_tt, isi_tl, isi_ti, isi_ts, isi_ll, isi_lt, isi_li, isi_ls, isi_ss, isi_si, isi_st, isi_sb, it_t, it_l, it_r1, it_r2, it_et, it_el, it_ztt, it_zll, it_ztl, it_zlt, lcFn_1, lcFn_2, cdR_t, cdR_f, cdR_b, xs_nil, xs_set, xs_own, xs_unp, xs_app, xs_ext, xs_put, kExt_ok, kPut_last, xs_frz, xs_pas, xs_ret, xs_ife, xs_for, kSet_ok, kOwn_ok, kUnp_t, kUnp_l, kApp_ok, kRet_ok, kIf_t, kIf_f, kSeq_n, kSeq_r, kFor_ok, forFn_1, forFn_2, setAll_n, setAll_c, fin_r, fin_n, wipe_n, wipe_c, go_nil, go_cons, kGo_n, kGo_r, List.set_cons_zero, List.set_cons_succ, List.cons_append, List.nil_append, List.length_cons, List.length_nil, List.all_cons, List.all_nil, Bool.and_true, Bool.true_and, Bool.and_false, Bool.false_and, Bool.or_true, Bool.true_or, Bool.or_false, Bool.false_or, Bool.not_true, Bool.not_false, decide_true, decide_false, eq_self, Int.cast_ofNat_Int, beq_self_eq_true, s_far_wide, s_far_turn, s_wide_far, s_wide_turn, s_turn_far, s_turn_wide, List.any_cons, List.any_nil, Int.reduceEq, Int.reduceLT, Int.reduceLE, Int.reduceAdd, Int.reduceSub, Int.reduceMul, Int.reduceNeg, Int.reduceToNat, Bool.decide_eq_true, Bool.false_eq_true, ↓reduceIte, List.length_map, bitsM_len, Nat.zero_add, Nat.reduceAdd, call_cf, f_flashes, mk_c4, eb, h1, h2, glb_FAR, glb_WIDE, e3, List.map_cons]
theorem r_by {n : Nat} (ts : List Int) (a b : Int) (hl : ts.length ≤ 100000) : run pg (n + 1) "bits_by" [.tup (ts.map D.int), .int a, .int b] = .ok (.tup ((byL (a + b) ts).map D.int)) := by
  rw [run_bits_by]
  simp -implicitDefEqProofs (disch := first | exact sh_int | assumption | omega | (simp -implicitDefEqProofs only [List.length_cons, List.length_nil, List.length_map, List.length_append, List.length_reverse, List.length_take, List.length_drop, List.length_set, List.length_replicate, bitsM_len, bitsL_len]; omega) | (simp -implicitDefEqProofs only [sh_int, sh_oI, sh8_pairs, sh8_rows, sh8_row, sh9_row, sh9_p, sh_bl, sh_non, sh9t, sh9l, sh8t, sh8l, sh7t, sh7l, sh6t, sh6l, sh5t, sh5l, sh4t, sh4l, sh_ints, sh_str, List.all_cons, List.all_nil, List.all_append, List.all_reverse, Bool.and_true, Bool.and_self]; done) | (simp -implicitDefEqProofs only [sh_int, sh_oI, sh8_pairs, sh8_rows, sh8_row, sh9_row, sh9_p, sh_bl, sh_non, sh9t, sh9l, sh8t, sh8l, sh7t, sh7l, sh6t, sh6l, sh5t, sh5l, sh4t, sh4l, sh_ints, sh_str, List.all_cons, List.all_nil, List.all_append, List.all_reverse, Bool.and_true, Bool.and_self]; decide +kernel)) only [ev_var, ev_cst, ev_glb, ev_bin, ev_cmp, ev_neg, ev_not, ev_chn, ev_and, ev_or, ev_idx, ev_cut, ev_stp, ev_tup, ev_lst, ev_call, ev_bi, ev_isi, ev_lc, ev_mth, ev_rpl, ev_kin, ev_kget, ev_sst, ev_lss, evs_nil, evs_cons, b1_ok, b2_ok, bs_ok, bcons_ok, band_t, band_f, band_b, bor_t, bor_f, bor_b, b3_ok, dNot_b, dNeg_i, prt_f, prt_t, blc_ok, bit_ok, dTup_ok, dLst_ok, add_ii, sub_ii, mul_l, mul_r, div_ii, mod_ii, add_tt, add_ll, mul_t1i, mul_l1i, lt_ii, le_ii, gt_ii, ge_ii, chn_le, is_bb, isn_bb, is_nn, is_in, isn_nn, isn_in, is_on, isn_on, deq_nn, deq_ni, deq_in, deq_oi, deq_oo, sh_oI, oI_s, oI_n, eq_ok, ne_ok, in_tup, nin_tup, in_lst, nin_lst, sh_int, sh_bl, sh_non, sh_str, sh_ints, deq_ii, deq_bb, deq_ss, deq_tt, deq_ll, deqL_nil, deqL_cons, deqL_nc, deqL_cn, deqL_ints, deqL_pairs, deqL_rows, deq_rr, deq_pp, get_0, get_s, ix_t0, ix_t1, ix_t2, ix_t3, ix_t4, ix_t5, ix_t6, ix_l0, ix_l1, ix_l2, ix_l3, ix_l4, ix_l5, ix_lb, ix_tb, dCut_t, dCut_l, rev_t, rev_l, even_t, odd_t, even_l, odd_l, len_t, len_l, int_b, int_i, tuple_t, tuple_l, list_t, list_l, abs_i, sum_t, sum_l, max_2, min_2, max_3, min_3, all_l, isi_ii, isi_ib, isi_is, isi_it, isi_il, isi_bi, isi_bb, isi_bt, isi_bs, isi_tt, isi_tl, isi_ti, isi_ts, isi_ll, isi_lt, isi_li, isi_ls, isi_ss, isi_si, isi_st, isi_sb, it_t, it_l, it_r1, it_r2, it_et, it_el, it_ztt, it_zll, it_ztl, it_zlt, lcFn_1, lcFn_2, cdR_t, cdR_f, cdR_b, xs_nil, xs_set, xs_own, xs_unp, xs_app, xs_ext, xs_put, kExt_ok, kPut_last, xs_frz, xs_pas, xs_ret, xs_ife, xs_for, kSet_ok, kOwn_ok, kUnp_t, kUnp_l, kApp_ok, kRet_ok, kIf_t, kIf_f, kSeq_n, kSeq_r, kFor_ok, forFn_1, forFn_2, setAll_n, setAll_c, fin_r, fin_n, wipe_n, wipe_c, go_nil, go_cons, kGo_n, kGo_r, List.set_cons_zero, List.set_cons_succ, List.cons_append, List.nil_append, List.length_cons, List.length_nil, List.all_cons, List.all_nil, Bool.and_true, Bool.true_and, Bool.and_false, Bool.false_and, Bool.or_true, Bool.true_or, Bool.or_false, Bool.false_or, Bool.not_true, Bool.not_false, decide_true, decide_false, eq_self, Int.cast_ofNat_Int, beq_self_eq_true, s_far_wide, s_far_turn, s_wide_far, s_wide_turn, s_turn_far, s_turn_wide, List.any_cons, List.any_nil, Int.reduceEq, Int.reduceLT, Int.reduceLE, Int.reduceAdd, Int.reduceSub, Int.reduceMul, Int.reduceNeg, Int.reduceToNat, Bool.decide_eq_true, Bool.false_eq_true, ↓reduceIte, List.length_map, bitsM_len, Nat.zero_add, Nat.reduceAdd, call_cf, f_bits_by]
  rw [lcS_map (dI fun t => if a + b < 2 * t then 1 else 0) (by rw [List.length_map]; omega) (fun d hd => by
    obtain ⟨t, _, rfl⟩ := List.mem_map.mp hd
    simp -implicitDefEqProofs (disch := first | exact sh_int | assumption | omega | (simp -implicitDefEqProofs only [List.length_cons, List.length_nil, List.length_map, List.length_append, List.length_reverse, List.length_take, List.length_drop, List.length_set, List.length_replicate, bitsM_len, bitsL_len]; omega) | (simp -implicitDefEqProofs only [sh_int, sh_oI, sh8_pairs, sh8_rows, sh8_row, sh9_row, sh9_p, sh_bl, sh_non, sh9t, sh9l, sh8t, sh8l, sh7t, sh7l, sh6t, sh6l, sh5t, sh5l, sh4t, sh4l, sh_ints, sh_str, List.all_cons, List.all_nil, List.all_append, List.all_reverse, Bool.and_true, Bool.and_self]; done) | (simp -implicitDefEqProofs only [sh_int, sh_oI, sh8_pairs, sh8_rows, sh8_row, sh9_row, sh9_p, sh_bl, sh_non, sh9t, sh9l, sh8t, sh8l, sh7t, sh7l, sh6t, sh6l, sh5t, sh5l, sh4t, sh4l, sh_ints, sh_str, List.all_cons, List.all_nil, List.all_append, List.all_reverse, Bool.and_true, Bool.and_self]; decide +kernel)) only [ev_var, ev_cst, ev_glb, ev_bin, ev_cmp, ev_neg, ev_not, ev_chn, ev_and, ev_or, ev_idx, ev_cut, ev_stp, ev_tup, ev_lst, ev_call, ev_bi, ev_isi, ev_lc, ev_mth, ev_rpl, ev_kin, ev_kget, ev_sst, ev_lss, evs_nil, evs_cons, b1_ok, b2_ok, bs_ok, bcons_ok, band_t, band_f, band_b, bor_t, bor_f, bor_b, b3_ok, dNot_b, dNeg_i, prt_f, prt_t, blc_ok, bit_ok, dTup_ok, dLst_ok, add_ii, sub_ii, mul_l, mul_r, div_ii, mod_ii, add_tt, add_ll, mul_t1i, mul_l1i, lt_ii, le_ii, gt_ii, ge_ii, chn_le, is_bb, isn_bb, is_nn, is_in, isn_nn, isn_in, is_on, isn_on, deq_nn, deq_ni, deq_in, deq_oi, deq_oo, sh_oI, oI_s, oI_n, eq_ok, ne_ok, in_tup, nin_tup, in_lst, nin_lst, sh_int, sh_bl, sh_non, sh_str, sh_ints, deq_ii, deq_bb, deq_ss, deq_tt, deq_ll, deqL_nil, deqL_cons, deqL_nc, deqL_cn, deqL_ints, deqL_pairs, deqL_rows, deq_rr, deq_pp, get_0, get_s, ix_t0, ix_t1, ix_t2, ix_t3, ix_t4, ix_t5, ix_t6, ix_l0, ix_l1, ix_l2, ix_l3, ix_l4, ix_l5, ix_lb, ix_tb, dCut_t, dCut_l, rev_t, rev_l, even_t, odd_t, even_l, odd_l, len_t, len_l, int_b, int_i, tuple_t, tuple_l, list_t, list_l, abs_i, sum_t, sum_l, max_2, min_2, max_3, min_3, all_l, isi_ii, isi_ib, isi_is, isi_it, isi_il, isi_bi, isi_bb, isi_bt, isi_bs, isi_tt, isi_tl, isi_ti, isi_ts, isi_ll, isi_lt, isi_li, isi_ls, isi_ss, isi_si, isi_st, isi_sb, it_t, it_l, it_r1, it_r2, it_et, it_el, it_ztt, it_zll, it_ztl, it_zlt, lcFn_1, lcFn_2, cdR_t, cdR_f, cdR_b, xs_nil, xs_set, xs_own, xs_unp, xs_app, xs_ext, xs_put, kExt_ok, kPut_last, xs_frz, xs_pas, xs_ret, xs_ife, xs_for, kSet_ok, kOwn_ok, kUnp_t, kUnp_l, kApp_ok, kRet_ok, kIf_t, kIf_f, kSeq_n, kSeq_r, kFor_ok, forFn_1, forFn_2, setAll_n, setAll_c, fin_r, fin_n, wipe_n, wipe_c, go_nil, go_cons, kGo_n, kGo_r, List.set_cons_zero, List.set_cons_succ, List.cons_append, List.nil_append, List.length_cons, List.length_nil, List.all_cons, List.all_nil, Bool.and_true, Bool.true_and, Bool.and_false, Bool.false_and, Bool.or_true, Bool.true_or, Bool.or_false, Bool.false_or, Bool.not_true, Bool.not_false, decide_true, decide_false, eq_self, Int.cast_ofNat_Int, beq_self_eq_true, s_far_wide, s_far_turn, s_wide_far, s_wide_turn, s_turn_far, s_turn_wide, List.any_cons, List.any_nil, Int.reduceEq, Int.reduceLT, Int.reduceLE, Int.reduceAdd, Int.reduceSub, Int.reduceMul, Int.reduceNeg, Int.reduceToNat, Bool.decide_eq_true, Bool.false_eq_true, ↓reduceIte, List.length_map, bitsM_len, Nat.zero_add, Nat.reduceAdd, call_cf, dI, decide_eq_true_eq]), dI_ints]
  simp -implicitDefEqProofs (disch := first | exact sh_int | assumption | omega | (simp -implicitDefEqProofs only [List.length_cons, List.length_nil, List.length_map, List.length_append, List.length_reverse, List.length_take, List.length_drop, List.length_set, List.length_replicate, bitsM_len, bitsL_len]; omega) | (simp -implicitDefEqProofs only [sh_int, sh_oI, sh8_pairs, sh8_rows, sh8_row, sh9_row, sh9_p, sh_bl, sh_non, sh9t, sh9l, sh8t, sh8l, sh7t, sh7l, sh6t, sh6l, sh5t, sh5l, sh4t, sh4l, sh_ints, sh_str, List.all_cons, List.all_nil, List.all_append, List.all_reverse, Bool.and_true, Bool.and_self]; done) | (simp -implicitDefEqProofs only [sh_int, sh_oI, sh8_pairs, sh8_rows, sh8_row, sh9_row, sh9_p, sh_bl, sh_non, sh9t, sh9l, sh8t, sh8l, sh7t, sh7l, sh6t, sh6l, sh5t, sh5l, sh4t, sh4l, sh_ints, sh_str, List.all_cons, List.all_nil, List.all_append, List.all_reverse, Bool.and_true, Bool.and_self]; decide +kernel)) only [ev_var, ev_cst, ev_glb, ev_bin, ev_cmp, ev_neg, ev_not, ev_chn, ev_and, ev_or, ev_idx, ev_cut, ev_stp, ev_tup, ev_lst, ev_call, ev_bi, ev_isi, ev_lc, ev_mth, ev_rpl, ev_kin, ev_kget, ev_sst, ev_lss, evs_nil, evs_cons, b1_ok, b2_ok, bs_ok, bcons_ok, band_t, band_f, band_b, bor_t, bor_f, bor_b, b3_ok, dNot_b, dNeg_i, prt_f, prt_t, blc_ok, bit_ok, dTup_ok, dLst_ok, add_ii, sub_ii, mul_l, mul_r, div_ii, mod_ii, add_tt, add_ll, mul_t1i, mul_l1i, lt_ii, le_ii, gt_ii, ge_ii, chn_le, is_bb, isn_bb, is_nn, is_in, isn_nn, isn_in, is_on, isn_on, deq_nn, deq_ni, deq_in, deq_oi, deq_oo, sh_oI, oI_s, oI_n, eq_ok, ne_ok, in_tup, nin_tup, in_lst, nin_lst, sh_int, sh_bl, sh_non, sh_str, sh_ints, deq_ii, deq_bb, deq_ss, deq_tt, deq_ll, deqL_nil, deqL_cons, deqL_nc, deqL_cn, deqL_ints, deqL_pairs, deqL_rows, deq_rr, deq_pp, get_0, get_s, ix_t0, ix_t1, ix_t2, ix_t3, ix_t4, ix_t5, ix_t6, ix_l0, ix_l1, ix_l2, ix_l3, ix_l4, ix_l5, ix_lb, ix_tb, dCut_t, dCut_l, rev_t, rev_l, even_t, odd_t, even_l, odd_l, len_t, len_l, int_b, int_i, tuple_t, tuple_l, list_t, list_l, abs_i, sum_t, sum_l, max_2, min_2, max_3, min_3, all_l, isi_ii, isi_ib, isi_is, isi_it, isi_il, isi_bi, isi_bb, isi_bt, isi_bs, isi_tt, isi_tl, isi_ti, isi_ts, isi_ll, isi_lt, isi_li, isi_ls, isi_ss, isi_si, isi_st, isi_sb, it_t, it_l, it_r1, it_r2, it_et, it_el, it_ztt, it_zll, it_ztl, it_zlt, lcFn_1, lcFn_2, cdR_t, cdR_f, cdR_b, xs_nil, xs_set, xs_own, xs_unp, xs_app, xs_ext, xs_put, kExt_ok, kPut_last, xs_frz, xs_pas, xs_ret, xs_ife, xs_for, kSet_ok, kOwn_ok, kUnp_t, kUnp_l, kApp_ok, kRet_ok, kIf_t, kIf_f, kSeq_n, kSeq_r, kFor_ok, forFn_1, forFn_2, setAll_n, setAll_c, fin_r, fin_n, wipe_n, wipe_c, go_nil, go_cons, kGo_n, kGo_r, List.set_cons_zero, List.set_cons_succ, List.cons_append, List.nil_append, List.length_cons, List.length_nil, List.all_cons, List.all_nil, Bool.and_true, Bool.true_and, Bool.and_false, Bool.false_and, Bool.or_true, Bool.true_or, Bool.or_false, Bool.false_or, Bool.not_true, Bool.not_false, decide_true, decide_false, eq_self, Int.cast_ofNat_Int, beq_self_eq_true, s_far_wide, s_far_turn, s_wide_far, s_wide_turn, s_turn_far, s_turn_wide, List.any_cons, List.any_nil, Int.reduceEq, Int.reduceLT, Int.reduceLE, Int.reduceAdd, Int.reduceSub, Int.reduceMul, Int.reduceNeg, Int.reduceToNat, Bool.decide_eq_true, Bool.false_eq_true, ↓reduceIte, List.length_map, bitsM_len, Nat.zero_add, Nat.reduceAdd, call_cf]
  rfl
theorem r_halves {n : Nat} (ts : List Int) (u : Int) (hl : ts.length ≤ 100000) : run pg (n + 1) "halves_of" [.tup (ts.map D.int), .int u] = .ok (.lst ((expL u 1 ts).map D.int)) := by
  rw [run_halves_of]
  simp -implicitDefEqProofs (disch := first | exact sh_int | assumption | omega | (simp -implicitDefEqProofs only [List.length_cons, List.length_nil, List.length_map, List.length_append, List.length_reverse, List.length_take, List.length_drop, List.length_set, List.length_replicate, bitsM_len, bitsL_len]; omega) | (simp -implicitDefEqProofs only [sh_int, sh_oI, sh8_pairs, sh8_rows, sh8_row, sh9_row, sh9_p, sh_bl, sh_non, sh9t, sh9l, sh8t, sh8l, sh7t, sh7l, sh6t, sh6l, sh5t, sh5l, sh4t, sh4l, sh_ints, sh_str, List.all_cons, List.all_nil, List.all_append, List.all_reverse, Bool.and_true, Bool.and_self]; done) | (simp -implicitDefEqProofs only [sh_int, sh_oI, sh8_pairs, sh8_rows, sh8_row, sh9_row, sh9_p, sh_bl, sh_non, sh9t, sh9l, sh8t, sh8l, sh7t, sh7l, sh6t, sh6l, sh5t, sh5l, sh4t, sh4l, sh_ints, sh_str, List.all_cons, List.all_nil, List.all_append, List.all_reverse, Bool.and_true, Bool.and_self]; decide +kernel)) only [ev_var, ev_cst, ev_glb, ev_bin, ev_cmp, ev_neg, ev_not, ev_chn, ev_and, ev_or, ev_idx, ev_cut, ev_stp, ev_tup, ev_lst, ev_call, ev_bi, ev_isi, ev_lc, ev_mth, ev_rpl, ev_kin, ev_kget, ev_sst, ev_lss, evs_nil, evs_cons, b1_ok, b2_ok, bs_ok, bcons_ok, band_t, band_f, band_b, bor_t, bor_f, bor_b, b3_ok, dNot_b, dNeg_i, prt_f, prt_t, blc_ok, bit_ok, dTup_ok, dLst_ok, add_ii, sub_ii, mul_l, mul_r, div_ii, mod_ii, add_tt, add_ll, mul_t1i, mul_l1i, lt_ii, le_ii, gt_ii, ge_ii, chn_le, is_bb, isn_bb, is_nn, is_in, isn_nn, isn_in, is_on, isn_on, deq_nn, deq_ni, deq_in, deq_oi, deq_oo, sh_oI, oI_s, oI_n, eq_ok, ne_ok, in_tup, nin_tup, in_lst, nin_lst, sh_int, sh_bl, sh_non, sh_str, sh_ints, deq_ii, deq_bb, deq_ss, deq_tt, deq_ll, deqL_nil, deqL_cons, deqL_nc, deqL_cn, deqL_ints, deqL_pairs, deqL_rows, deq_rr, deq_pp, get_0, get_s, ix_t0, ix_t1, ix_t2, ix_t3, ix_t4, ix_t5, ix_t6, ix_l0, ix_l1, ix_l2, ix_l3, ix_l4, ix_l5, ix_lb, ix_tb, dCut_t, dCut_l, rev_t, rev_l, even_t, odd_t, even_l, odd_l, len_t, len_l, int_b, int_i, tuple_t, tuple_l, list_t, list_l, abs_i, sum_t, sum_l, max_2, min_2, max_3, min_3, all_l, isi_ii, isi_ib, isi_is, isi_it, isi_il, isi_bi, isi_bb, isi_bt, isi_bs, isi_tt, isi_tl, isi_ti, isi_ts, isi_ll, isi_lt, isi_li, isi_ls, isi_ss, isi_si, isi_st, isi_sb, it_t, it_l, it_r1, it_r2, it_et, it_el, it_ztt, it_zll, it_ztl, it_zlt, lcFn_1, lcFn_2, cdR_t, cdR_f, cdR_b, xs_nil, xs_set, xs_own, xs_unp, xs_app, xs_ext, xs_put, kExt_ok, kPut_last, xs_frz, xs_pas, xs_ret, xs_ife, xs_for, kSet_ok, kOwn_ok, kUnp_t, kUnp_l, kApp_ok, kRet_ok, kIf_t, kIf_f, kSeq_n, kSeq_r, kFor_ok, forFn_1, forFn_2, setAll_n, setAll_c, fin_r, fin_n, wipe_n, wipe_c, go_nil, go_cons, kGo_n, kGo_r, List.set_cons_zero, List.set_cons_succ, List.cons_append, List.nil_append, List.length_cons, List.length_nil, List.all_cons, List.all_nil, Bool.and_true, Bool.true_and, Bool.and_false, Bool.false_and, Bool.or_true, Bool.true_or, Bool.or_false, Bool.false_or, Bool.not_true, Bool.not_false, decide_true, decide_false, eq_self, Int.cast_ofNat_Int, beq_self_eq_true, s_far_wide, s_far_turn, s_wide_far, s_wide_turn, s_turn_far, s_turn_wide, List.any_cons, List.any_nil, Int.reduceEq, Int.reduceLT, Int.reduceLE, Int.reduceAdd, Int.reduceSub, Int.reduceMul, Int.reduceNeg, Int.reduceToNat, Bool.decide_eq_true, Bool.false_eq_true, ↓reduceIte, List.length_map, bitsM_len, Nat.zero_add, Nat.reduceAdd, call_cf, f_halves_of]
  refine loop_fin (fun (a : List Int) (j : Option D × Option D) => [some (.tup (ts.map D.int)), some (.int u), some (.lst (a.map D.int)), j.1, j.2]) (fun r a => ∃ (i : Nat) (q : List Int), r = enumL i (q.map D.int) ∧ a ++ expL u (1 - (i : Int) % 2) q = expL u 1 ts ∧ a.length + 2 * q.length ≤ 200000) [] (none, none) rfl ⟨0, ts, rfl, rfl, by rw [List.length_nil]; omega⟩ ?_ ?_
  · rintro a j d r ⟨i, q, hq, e, hlen⟩
    cases q with
    | nil => cases hq
    | cons y q =>
      rw [List.map_cons, enumL_cons] at hq
      cases hq
      rw [List.length_cons] at hlen
      rw [expL] at e
      have hnx : 1 - (1 - (i : Int) % 2) = 1 - ((i + 1 : Nat) : Int) % 2 := by omega
      rw [hnx] at e
      by_cases ht : 3 * u < 2 * y
      · rw [if_pos ht] at e
        have ht2 : decide (3 * u < 2 * y) = true := decide_eq_true ht
        refine ⟨a ++ [1 - (i : Int) % 2, 1 - (i : Int) % 2], (some (.int i), some (.int y)), ?_, i + 1, q, rfl, ?_, ?_⟩
        · simp -implicitDefEqProofs (disch := first | exact sh_int | assumption | omega | (simp -implicitDefEqProofs only [List.length_cons, List.length_nil, List.length_map, List.length_append, List.length_reverse, List.length_take, List.length_drop, List.length_set, List.length_replicate, bitsM_len, bitsL_len]; omega) | (simp -implicitDefEqProofs only [sh_int, sh_oI, sh8_pairs, sh8_rows, sh8_row, sh9_row, sh9_p, sh_bl, sh_non, sh9t, sh9l, sh8t, sh8l, sh7t, sh7l, sh6t, sh6l, sh5t, sh5l, sh4t, sh4l, sh_ints, sh_str, List.all_cons, List.all_nil, List.all_append, List.all_reverse, Bool.and_true, Bool.and_self]; done) | (simp -implicitDefEqProofs only [sh_int, sh_oI, sh8_pairs, sh8_rows, sh8_row, sh9_row, sh9_p, sh_bl, sh_non, sh9t, sh9l, sh8t, sh8l, sh7t, sh7l, sh6t, sh6l, sh5t, sh5l, sh4t, sh4l, sh_ints, sh_str, List.all_cons, List.all_nil, List.all_append, List.all_reverse, Bool.and_true, Bool.and_self]; decide +kernel)) only [ev_var, ev_cst, ev_glb, ev_bin, ev_cmp, ev_neg, ev_not, ev_chn, ev_and, ev_or, ev_idx, ev_cut, ev_stp, ev_tup, ev_lst, ev_call, ev_bi, ev_isi, ev_lc, ev_mth, ev_rpl, ev_kin, ev_kget, ev_sst, ev_lss, evs_nil, evs_cons, b1_ok, b2_ok, bs_ok, bcons_ok, band_t, band_f, band_b, bor_t, bor_f, bor_b, b3_ok, dNot_b, dNeg_i, prt_f, prt_t, blc_ok, bit_ok, dTup_ok, dLst_ok, add_ii, sub_ii, mul_l, mul_r, div_ii, mod_ii, add_tt, add_ll, mul_t1i, mul_l1i, lt_ii, le_ii, gt_ii, ge_ii, chn_le, is_bb, isn_bb, is_nn, is_in, isn_nn, isn_in, is_on, isn_on, deq_nn, deq_ni, deq_in, deq_oi, deq_oo, sh_oI, oI_s, oI_n, eq_ok, ne_ok, in_tup, nin_tup, in_lst, nin_lst, sh_int, sh_bl, sh_non, sh_str, sh_ints, deq_ii, deq_bb, deq_ss, deq_tt, deq_ll, deqL_nil, deqL_cons, deqL_nc, deqL_cn, deqL_ints, deqL_pairs, deqL_rows, deq_rr, deq_pp, get_0, get_s, ix_t0, ix_t1, ix_t2, ix_t3, ix_t4, ix_t5, ix_t6, ix_l0, ix_l1, ix_l2, ix_l3, ix_l4, ix_l5, ix_lb, ix_tb, dCut_t, dCut_l, rev_t, rev_l, even_t, odd_t, even_l, odd_l, len_t, len_l, int_b, int_i, tuple_t, tuple_l, list_t, list_l, abs_i, sum_t, sum_l, max_2, min_2, max_3, min_3, all_l, isi_ii, isi_ib, isi_is, isi_it, isi_il, isi_bi, isi_bb, isi_bt, isi_bs, isi_tt, isi_tl, isi_ti, isi_ts, isi_ll, isi_lt, isi_li, isi_ls, isi_ss, isi_si, isi_st, isi_sb, it_t, it_l, it_r1, it_r2, it_et, it_el, it_ztt, it_zll, it_ztl, it_zlt, lcFn_1, lcFn_2, cdR_t, cdR_f, cdR_b, xs_nil, xs_set, xs_own, xs_unp, xs_app, xs_ext, xs_put, kExt_ok, kPut_last, xs_frz, xs_pas, xs_ret, xs_ife, xs_for, kSet_ok, kOwn_ok, kUnp_t, kUnp_l, kApp_ok, kRet_ok, kIf_t, kIf_f, kSeq_n, kSeq_r, kFor_ok, forFn_1, forFn_2, setAll_n, setAll_c, fin_r, fin_n, wipe_n, wipe_c, go_nil, go_cons, kGo_n, kGo_r, List.set_cons_zero, List.set_cons_succ, List.cons_append, List.nil_append, List.length_cons, List.length_nil, List.all_cons, List.all_nil, Bool.and_true, Bool.true_and, Bool.and_false, Bool.false_and, Bool.or_true, Bool.true_or, Bool.or_false, Bool.false_or, Bool.not_true, Bool.not_false, decide_true, decide_false, eq_self, Int.cast_ofNat_Int, beq_self_eq_true, s_far_wide, s_far_turn, s_wide_far, s_wide_turn, s_turn_far, s_turn_wide, List.any_cons, List.any_nil, Int.reduceEq, Int.reduceLT, Int.reduceLE, Int.reduceAdd, Int.reduceSub, Int.reduceMul, Int.reduceNeg, Int.reduceToNat, Bool.decide_eq_true, Bool.false_eq_true, ↓reduceIte, List.length_map, bitsM_len, Nat.zero_add, Nat.reduceAdd, call_cf, ht2, List.map_append, List.map_cons, List.map_nil, List.replicate_succ, List.replicate_zero]
        · rw [← e, List.append_assoc]
        · simp only [List.length_append, List.length_cons, List.length_nil]
          omega
      · rw [if_neg ht] at e
        have ht2 : decide (3 * u < 2 * y) = false := decide_eq_false ht
        refine ⟨a ++ [1 - (i : Int) % 2], (some (.int i), some (.int y)), ?_, i + 1, q, rfl, ?_, ?_⟩
        · simp -implicitDefEqProofs (disch := first | exact sh_int | assumption | omega | (simp -implicitDefEqProofs only [List.length_cons, List.length_nil, List.length_map, List.length_append, List.length_reverse, List.length_take, List.length_drop, List.length_set, List.length_replicate, bitsM_len, bitsL_len]; omega) | (simp -implicitDefEqProofs only [sh_int, sh_oI, sh8_pairs, sh8_rows, sh8_row, sh9_row, sh9_p, sh_bl, sh_non, sh9t, sh9l, sh8t, sh8l, sh7t, sh7l, sh6t, sh6l, sh5t, sh5l, sh4t, sh4l, sh_ints, sh_str, List.all_cons, List.all_nil, List.all_append, List.all_reverse, Bool.and_true, Bool.and_self]; done) | (simp -implicitDefEqProofs only [sh_int, sh_oI, sh8_pairs, sh8_rows, sh8_row, sh9_row, sh9_p, sh_bl, sh_non, sh9t, sh9l, sh8t, sh8l, sh7t, sh7l, sh6t, sh6l, sh5t, sh5l, sh4t, sh4l, sh_ints, sh_str, List.all_cons, List.all_nil, List.all_append, List.all_reverse, Bool.and_true, Bool.and_self]; decide +kernel)) only [ev_var, ev_cst, ev_glb, ev_bin, ev_cmp, ev_neg, ev_not, ev_chn, ev_and, ev_or, ev_idx, ev_cut, ev_stp, ev_tup, ev_lst, ev_call, ev_bi, ev_isi, ev_lc, ev_mth, ev_rpl, ev_kin, ev_kget, ev_sst, ev_lss, evs_nil, evs_cons, b1_ok, b2_ok, bs_ok, bcons_ok, band_t, band_f, band_b, bor_t, bor_f, bor_b, b3_ok, dNot_b, dNeg_i, prt_f, prt_t, blc_ok, bit_ok, dTup_ok, dLst_ok, add_ii, sub_ii, mul_l, mul_r, div_ii, mod_ii, add_tt, add_ll, mul_t1i, mul_l1i, lt_ii, le_ii, gt_ii, ge_ii, chn_le, is_bb, isn_bb, is_nn, is_in, isn_nn, isn_in, is_on, isn_on, deq_nn, deq_ni, deq_in, deq_oi, deq_oo, sh_oI, oI_s, oI_n, eq_ok, ne_ok, in_tup, nin_tup, in_lst, nin_lst, sh_int, sh_bl, sh_non, sh_str, sh_ints, deq_ii, deq_bb, deq_ss, deq_tt, deq_ll, deqL_nil, deqL_cons, deqL_nc, deqL_cn, deqL_ints, deqL_pairs, deqL_rows, deq_rr, deq_pp, get_0, get_s, ix_t0, ix_t1, ix_t2, ix_t3, ix_t4, ix_t5, ix_t6, ix_l0, ix_l1, ix_l2, ix_l3, ix_l4, ix_l5, ix_lb, ix_tb, dCut_t, dCut_l, rev_t, rev_l, even_t, odd_t, even_l, odd_l, len_t, len_l, int_b, int_i, tuple_t, tuple_l, list_t, list_l, abs_i, sum_t, sum_l, max_2, min_2, max_3, min_3, all_l, isi_ii, isi_ib, isi_is, isi_it, isi_il, isi_bi, isi_bb, isi_bt, isi_bs, isi_tt, isi_tl, isi_ti, isi_ts, isi_ll, isi_lt, isi_li, isi_ls, isi_ss, isi_si, isi_st, isi_sb, it_t, it_l, it_r1, it_r2, it_et, it_el, it_ztt, it_zll, it_ztl, it_zlt, lcFn_1, lcFn_2, cdR_t, cdR_f, cdR_b, xs_nil, xs_set, xs_own, xs_unp, xs_app, xs_ext, xs_put, kExt_ok, kPut_last, xs_frz, xs_pas, xs_ret, xs_ife, xs_for, kSet_ok, kOwn_ok, kUnp_t, kUnp_l, kApp_ok, kRet_ok, kIf_t, kIf_f, kSeq_n, kSeq_r, kFor_ok, forFn_1, forFn_2, setAll_n, setAll_c, fin_r, fin_n, wipe_n, wipe_c, go_nil, go_cons, kGo_n, kGo_r, List.set_cons_zero, List.set_cons_succ, List.cons_append, List.nil_append, List.length_cons, List.length_nil, List.all_cons, List.all_nil, Bool.and_true, Bool.true_and, Bool.and_false, Bool.false_and, Bool.or_true, Bool.true_or, Bool.or_false, Bool.false_or, Bool.not_true, Bool.not_false, decide_true, decide_false, eq_self, Int.cast_ofNat_Int, beq_self_eq_true, s_far_wide, s_far_turn, s_wide_far, s_wide_turn, s_turn_far, s_turn_wide, List.any_cons, List.any_nil, Int.reduceEq, Int.reduceLT, Int.reduceLE, Int.reduceAdd, Int.reduceSub, Int.reduceMul, Int.reduceNeg, Int.reduceToNat, Bool.decide_eq_true, Bool.false_eq_true, ↓reduceIte, List.length_map, bitsM_len, Nat.zero_add, Nat.reduceAdd, call_cf, ht2, List.map_append, List.map_cons, List.map_nil, List.replicate_succ, List.replicate_zero]
        · rw [← e, List.append_assoc]
        · simp only [List.length_append, List.length_cons, List.length_nil]
          omega
  · rintro a j ⟨i, q, hq, e, hlen⟩
    cases q with
    | cons y q => cases hq
    | nil =>
      rw [expL, List.append_nil] at e
      simp -implicitDefEqProofs (disch := first | exact sh_int | assumption | omega | (simp -implicitDefEqProofs only [List.length_cons, List.length_nil, List.length_map, List.length_append, List.length_reverse, List.length_take, List.length_drop, List.length_set, List.length_replicate, bitsM_len, bitsL_len]; omega) | (simp -implicitDefEqProofs only [sh_int, sh_oI, sh8_pairs, sh8_rows, sh8_row, sh9_row, sh9_p, sh_bl, sh_non, sh9t, sh9l, sh8t, sh8l, sh7t, sh7l, sh6t, sh6l, sh5t, sh5l, sh4t, sh4l, sh_ints, sh_str, List.all_cons, List.all_nil, List.all_append, List.all_reverse, Bool.and_true, Bool.and_self]; done) | (simp -implicitDefEqProofs only [sh_int, sh_oI, sh8_pairs, sh8_rows, sh8_row, sh9_row, sh9_p, sh_bl, sh_non, sh9t, sh9l, sh8t, sh8l, sh7t, sh7l, sh6t, sh6l, sh5t, sh5l, sh4t, sh4l, sh_ints, sh_str, List.all_cons, List.all_nil, List.all_append, List.all_reverse, Bool.and_true, Bool.and_self]; decide +kernel)) only [ev_var, ev_cst, ev_glb, ev_bin, ev_cmp, ev_neg, ev_not, ev_chn, ev_and, ev_or, ev_idx, ev_cut, ev_stp, ev_tup, ev_lst, ev_call, ev_bi, ev_isi, ev_lc, ev_mth, ev_rpl, ev_kin, ev_kget, ev_sst, ev_lss, evs_nil, evs_cons, b1_ok, b2_ok, bs_ok, bcons_ok, band_t, band_f, band_b, bor_t, bor_f, bor_b, b3_ok, dNot_b, dNeg_i, prt_f, prt_t, blc_ok, bit_ok, dTup_ok, dLst_ok, add_ii, sub_ii, mul_l, mul_r, div_ii, mod_ii, add_tt, add_ll, mul_t1i, mul_l1i, lt_ii, le_ii, gt_ii, ge_ii, chn_le, is_bb, isn_bb, is_nn, is_in, isn_nn, isn_in, is_on, isn_on, deq_nn, deq_ni, deq_in, deq_oi, deq_oo, sh_oI, oI_s, oI_n, eq_ok, ne_ok, in_tup, nin_tup, in_lst, nin_lst, sh_int, sh_bl, sh_non, sh_str, sh_ints, deq_ii, deq_bb, deq_ss, deq_tt, deq_ll, deqL_nil, deqL_cons, deqL_nc, deqL_cn, deqL_ints, deqL_pairs, deqL_rows, deq_rr, deq_pp, get_0, get_s, ix_t0, ix_t1, ix_t2, ix_t3, ix_t4, ix_t5, ix_t6, ix_l0, ix_l1, ix_l2, ix_l3, ix_l4, ix_l5, ix_lb, ix_tb, dCut_t, dCut_l, rev_t, rev_l, even_t, odd_t, even_l, odd_l, len_t, len_l, int_b, int_i, tuple_t, tuple_l, list_t, list_l, abs_i, sum_t, sum_l, max_2, min_2, max_3, min_3, all_l, isi_ii, isi_ib, isi_is, isi_it, isi_il, isi_bi, isi_bb, isi_bt, isi_bs, isi_tt, isi_tl, isi_ti, isi_ts, isi_ll, isi_lt, isi_li, isi_ls, isi_ss, isi_si, isi_st, isi_sb, it_t, it_l, it_r1, it_r2, it_et, it_el, it_ztt, it_zll, it_ztl, it_zlt, lcFn_1, lcFn_2, cdR_t, cdR_f, cdR_b, xs_nil, xs_set, xs_own, xs_unp, xs_app, xs_ext, xs_put, kExt_ok, kPut_last, xs_frz, xs_pas, xs_ret, xs_ife, xs_for, kSet_ok, kOwn_ok, kUnp_t, kUnp_l, kApp_ok, kRet_ok, kIf_t, kIf_f, kSeq_n, kSeq_r, kFor_ok, forFn_1, forFn_2, setAll_n, setAll_c, fin_r, fin_n, wipe_n, wipe_c, go_nil, go_cons, kGo_n, kGo_r, List.set_cons_zero, List.set_cons_succ, List.cons_append, List.nil_append, List.length_cons, List.length_nil, List.all_cons, List.all_nil, Bool.and_true, Bool.true_and, Bool.and_false, Bool.false_and, Bool.or_true, Bool.true_or, Bool.or_false, Bool.false_or, Bool.not_true, Bool.not_false, decide_true, decide_false, eq_self, Int.cast_ofNat_Int, beq_self_eq_true, s_far_wide, s_far_turn, s_wide_far, s_wide_turn, s_turn_far, s_turn_wide, List.any_cons, List.any_nil, Int.reduceEq, Int.reduceLT, Int.reduceLE, Int.reduceAdd, Int.reduceSub, Int.reduceMul, Int.reduceNeg, Int.reduceToNat, Bool.decide_eq_true, Bool.false_eq_true, ↓reduceIte, List.length_map, bitsM_len, Nat.zero_add, Nat.reduceAdd, call_cf]
      rw [e]
theorem r_near {n : Nat} {way : Str} {head gap unit b slip : Int} {low : Bool} (hw : WayOk way) (hb : 0 ≤ b) (hb2 : b ≤ 1000) (row : List Int) (hl : row.length ≤ 100000) : run pg (n + 2) "nearest" [mkD way head gap unit b low slip, .tup (row.map D.int)] = .ok (oI (nearL way unit b.toNat low row)) := by
  rw [run_nearest]
  have hws := hw.str
  have hld : (row.drop 2).length ≤ 100000 := by rw [List.length_drop]; omega
  have hle : ∀ l : List Int, (evens l).length ≤ l.length := fun l => evens_le l
  have htl : (row.drop 2).tail.length ≤ 100000 := by rw [List.length_tail]; omega
  have h1e := hle (row.drop 2).tail
  have h2e := hle (row.drop 2)
  have e1 := r_by (n := n) (evens (row.drop 2).tail) unit (3 * unit) (by omega)
  have e2 := r_by (n := n) (evens (row.drop 2)) unit (2 * unit) (by omega)
  have e3 := r_halves (n := n) (row.drop 2) unit (by omega)
  rw [show unit + 3 * unit = 4 * unit by omega] at e1
  rw [show unit + 2 * unit = 3 * unit by omega] at e2
  have hx3 := exp_len unit (row.drop 2) 1
  have hx4 := hle (expL unit 1 (row.drop 2)).tail
  rw [List.length_tail] at hx4
  have h2 : (2 : Int).toNat = 2 := rfl
  have hfin : ∀ (bs : List Int) (j : Option D), bs.length ≤ 200000 → finish (xss (cf (n + 1)) 100000 [.ife (.cmp .NotEq (.bi .len [.var 10]) (.var 6)) [.ret (.cst .non)] [], .ret (.call "number_of" [.var 0, .var 10])] [some (mkD way head gap unit b low slip), some (.tup (row.map D.int)), some (.str way), some (.int head), some (.int gap), some (.int unit), some (.int b), some (.bl low), some (.int slip), some (.tup ((row.drop 2).map D.int)), some (.tup (bs.map D.int)), j]) = .ok (oI (if bs.length = b.toNat then some (numM low bs) else none)) := by
    intro bs j hbs
    by_cases hk : bs.length = b.toNat
    · have hk2 : decide ((bs.length : Int) = b) = true := decide_eq_true (by omega)
      rw [if_pos hk]
      simp -implicitDefEqProofs (disch := first | exact sh_int | assumption | omega | (simp -implicitDefEqProofs only [List.length_cons, List.length_nil, List.length_map, List.length_append, List.length_reverse, List.length_take, List.length_drop, List.length_set, List.length_replicate, bitsM_len, bitsL_len]; omega) | (simp -implicitDefEqProofs only [sh_int, sh_oI, sh8_pairs, sh8_rows, sh8_row, sh9_row, sh9_p, sh_bl, sh_non, sh9t, sh9l, sh8t, sh8l, sh7t, sh7l, sh6t, sh6l, sh5t, sh5l, sh4t, sh4l, sh_ints, sh_str, List.all_cons, List.all_nil, List.all_append, List.all_reverse, Bool.and_true, Bool.and_self]; done) | (simp -implicitDefEqProofs only [sh_int, sh_oI, sh8_pairs, sh8_rows, sh8_row, sh9_row, sh9_p, sh_bl, sh_non, sh9t, sh9l, sh8t, sh8l, sh7t, sh7l, sh6t, sh6l, sh5t, sh5l, sh4t, sh4l, sh_ints, sh_str, List.all_cons, List.all_nil, List.all_append, List.all_reverse, Bool.and_true, Bool.and_self]; decide +kernel)) only [ev_var, ev_cst, ev_glb, ev_bin, ev_cmp, ev_neg, ev_not, ev_chn, ev_and, ev_or, ev_idx, ev_cut, ev_stp, ev_tup, ev_lst, ev_call, ev_bi, ev_isi, ev_lc, ev_mth, ev_rpl, ev_kin, ev_kget, ev_sst, ev_lss, evs_nil, evs_cons, b1_ok, b2_ok, bs_ok, bcons_ok, band_t, band_f, band_b, bor_t, bor_f, bor_b, b3_ok, dNot_b, dNeg_i, prt_f, prt_t, blc_ok, bit_ok, dTup_ok, dLst_ok, add_ii, sub_ii, mul_l, mul_r, div_ii, mod_ii, add_tt, add_ll, mul_t1i, mul_l1i, lt_ii, le_ii, gt_ii, ge_ii, chn_le, is_bb, isn_bb, is_nn, is_in, isn_nn, isn_in, is_on, isn_on, deq_nn, deq_ni, deq_in, deq_oi, deq_oo, sh_oI, oI_s, oI_n, eq_ok, ne_ok, in_tup, nin_tup, in_lst, nin_lst, sh_int, sh_bl, sh_non, sh_str, sh_ints, deq_ii, deq_bb, deq_ss, deq_tt, deq_ll, deqL_nil, deqL_cons, deqL_nc, deqL_cn, deqL_ints, deqL_pairs, deqL_rows, deq_rr, deq_pp, get_0, get_s, ix_t0, ix_t1, ix_t2, ix_t3, ix_t4, ix_t5, ix_t6, ix_l0, ix_l1, ix_l2, ix_l3, ix_l4, ix_l5, ix_lb, ix_tb, dCut_t, dCut_l, rev_t, rev_l, even_t, odd_t, even_l, odd_l, len_t, len_l, int_b, int_i, tuple_t, tuple_l, list_t, list_l, abs_i, sum_t, sum_l, max_2, min_2, max_3, min_3, all_l, isi_ii, isi_ib, isi_is, isi_it, isi_il, isi_bi, isi_bb, isi_bt, isi_bs, isi_tt, isi_tl, isi_ti, isi_ts, isi_ll, isi_lt, isi_li, isi_ls, isi_ss, isi_si, isi_st, isi_sb, it_t, it_l, it_r1, it_r2, it_et, it_el, it_ztt, it_zll, it_ztl, it_zlt, lcFn_1, lcFn_2, cdR_t, cdR_f, cdR_b, xs_nil, xs_set, xs_own, xs_unp, xs_app, xs_ext, xs_put, kExt_ok, kPut_last, xs_frz, xs_pas, xs_ret, xs_ife, xs_for, kSet_ok, kOwn_ok, kUnp_t, kUnp_l, kApp_ok, kRet_ok, kIf_t, kIf_f, kSeq_n, kSeq_r, kFor_ok, forFn_1, forFn_2, setAll_n, setAll_c, fin_r, fin_n, wipe_n, wipe_c, go_nil, go_cons, kGo_n, kGo_r, List.set_cons_zero, List.set_cons_succ, List.cons_append, List.nil_append, List.length_cons, List.length_nil, List.all_cons, List.all_nil, Bool.and_true, Bool.true_and, Bool.and_false, Bool.false_and, Bool.or_true, Bool.true_or, Bool.or_false, Bool.false_or, Bool.not_true, Bool.not_false, decide_true, decide_false, eq_self, Int.cast_ofNat_Int, beq_self_eq_true, s_far_wide, s_far_turn, s_wide_far, s_wide_turn, s_turn_far, s_turn_wide, List.any_cons, List.any_nil, Int.reduceEq, Int.reduceLT, Int.reduceLE, Int.reduceAdd, Int.reduceSub, Int.reduceMul, Int.reduceNeg, Int.reduceToNat, Bool.decide_eq_true, Bool.false_eq_true, ↓reduceIte, List.length_map, bitsM_len, Nat.zero_add, Nat.reduceAdd, call_cf, hk2, r_number, oI]
    · have hk2 : decide ((bs.length : Int) = b) = false := decide_eq_false (by omega)
      rw [if_neg hk]
      simp -implicitDefEqProofs (disch := first | exact sh_int | assumption | omega | (simp -implicitDefEqProofs only [List.length_cons, List.length_nil, List.length_map, List.length_append, List.length_reverse, List.length_take, List.length_drop, List.length_set, List.length_replicate, bitsM_len, bitsL_len]; omega) | (simp -implicitDefEqProofs only [sh_int, sh_oI, sh8_pairs, sh8_rows, sh8_row, sh9_row, sh9_p, sh_bl, sh_non, sh9t, sh9l, sh8t, sh8l, sh7t, sh7l, sh6t, sh6l, sh5t, sh5l, sh4t, sh4l, sh_ints, sh_str, List.all_cons, List.all_nil, List.all_append, List.all_reverse, Bool.and_true, Bool.and_self]; done) | (simp -implicitDefEqProofs only [sh_int, sh_oI, sh8_pairs, sh8_rows, sh8_row, sh9_row, sh9_p, sh_bl, sh_non, sh9t, sh9l, sh8t, sh8l, sh7t, sh7l, sh6t, sh6l, sh5t, sh5l, sh4t, sh4l, sh_ints, sh_str, List.all_cons, List.all_nil, List.all_append, List.all_reverse, Bool.and_true, Bool.and_self]; decide +kernel)) only [ev_var, ev_cst, ev_glb, ev_bin, ev_cmp, ev_neg, ev_not, ev_chn, ev_and, ev_or, ev_idx, ev_cut, ev_stp, ev_tup, ev_lst, ev_call, ev_bi, ev_isi, ev_lc, ev_mth, ev_rpl, ev_kin, ev_kget, ev_sst, ev_lss, evs_nil, evs_cons, b1_ok, b2_ok, bs_ok, bcons_ok, band_t, band_f, band_b, bor_t, bor_f, bor_b, b3_ok, dNot_b, dNeg_i, prt_f, prt_t, blc_ok, bit_ok, dTup_ok, dLst_ok, add_ii, sub_ii, mul_l, mul_r, div_ii, mod_ii, add_tt, add_ll, mul_t1i, mul_l1i, lt_ii, le_ii, gt_ii, ge_ii, chn_le, is_bb, isn_bb, is_nn, is_in, isn_nn, isn_in, is_on, isn_on, deq_nn, deq_ni, deq_in, deq_oi, deq_oo, sh_oI, oI_s, oI_n, eq_ok, ne_ok, in_tup, nin_tup, in_lst, nin_lst, sh_int, sh_bl, sh_non, sh_str, sh_ints, deq_ii, deq_bb, deq_ss, deq_tt, deq_ll, deqL_nil, deqL_cons, deqL_nc, deqL_cn, deqL_ints, deqL_pairs, deqL_rows, deq_rr, deq_pp, get_0, get_s, ix_t0, ix_t1, ix_t2, ix_t3, ix_t4, ix_t5, ix_t6, ix_l0, ix_l1, ix_l2, ix_l3, ix_l4, ix_l5, ix_lb, ix_tb, dCut_t, dCut_l, rev_t, rev_l, even_t, odd_t, even_l, odd_l, len_t, len_l, int_b, int_i, tuple_t, tuple_l, list_t, list_l, abs_i, sum_t, sum_l, max_2, min_2, max_3, min_3, all_l, isi_ii, isi_ib, isi_is, isi_it, isi_il, isi_bi, isi_bb, isi_bt, isi_bs, isi_tt, isi_tl, isi_ti, isi_ts, isi_ll, isi_lt, isi_li, isi_ls, isi_ss, isi_si, isi_st, isi_sb, it_t, it_l, it_r1, it_r2, it_et, it_el, it_ztt, it_zll, it_ztl, it_zlt, lcFn_1, lcFn_2, cdR_t, cdR_f, cdR_b, xs_nil, xs_set, xs_own, xs_unp, xs_app, xs_ext, xs_put, kExt_ok, kPut_last, xs_frz, xs_pas, xs_ret, xs_ife, xs_for, kSet_ok, kOwn_ok, kUnp_t, kUnp_l, kApp_ok, kRet_ok, kIf_t, kIf_f, kSeq_n, kSeq_r, kFor_ok, forFn_1, forFn_2, setAll_n, setAll_c, fin_r, fin_n, wipe_n, wipe_c, go_nil, go_cons, kGo_n, kGo_r, List.set_cons_zero, List.set_cons_succ, List.cons_append, List.nil_append, List.length_cons, List.length_nil, List.all_cons, List.all_nil, Bool.and_true, Bool.true_and, Bool.and_false, Bool.false_and, Bool.or_true, Bool.true_or, Bool.or_false, Bool.false_or, Bool.not_true, Bool.not_false, decide_true, decide_false, eq_self, Int.cast_ofNat_Int, beq_self_eq_true, s_far_wide, s_far_turn, s_wide_far, s_wide_turn, s_turn_far, s_turn_wide, List.any_cons, List.any_nil, Int.reduceEq, Int.reduceLT, Int.reduceLE, Int.reduceAdd, Int.reduceSub, Int.reduceMul, Int.reduceNeg, Int.reduceToNat, Bool.decide_eq_true, Bool.false_eq_true, ↓reduceIte, List.length_map, bitsM_len, Nat.zero_add, Nat.reduceAdd, call_cf, hk2, oI]
  unfold nearL someL
  cases h1 : (way == "far") with
  | true =>
    simp -implicitDefEqProofs (disch := first | exact sh_int | assumption | omega | (simp -implicitDefEqProofs only [List.length_cons, List.length_nil, List.length_map, List.length_append, List.length_reverse, List.length_take, List.length_drop, List.length_set, List.length_replicate, bitsM_len, bitsL_len]; omega) | (simp -implicitDefEqProofs only [sh_int, sh_oI, sh8_pairs, sh8_rows, sh8_row, sh9_row, sh9_p, sh_bl, sh_non, sh9t, sh9l, sh8t, sh8l, sh7t, sh7l, sh6t, sh6l, sh5t, sh5l, sh4t, sh4l, sh_ints, sh_str, List.all_cons, List.all_nil, List.all_append, List.all_reverse, Bool.and_true, Bool.and_self]; done) | (simp -implicitDefEqProofs only [sh_int, sh_oI, sh8_pairs, sh8_rows, sh8_row, sh9_row, sh9_p, sh_bl, sh_non, sh9t, sh9l, sh8t, sh8l, sh7t, sh7l, sh6t, sh6l, sh5t, sh5l, sh4t, sh4l, sh_ints, sh_str, List.all_cons, List.all_nil, List.all_append, List.all_reverse, Bool.and_true, Bool.and_self]; decide +kernel)) only [ev_var, ev_cst, ev_glb, ev_bin, ev_cmp, ev_neg, ev_not, ev_chn, ev_and, ev_or, ev_idx, ev_cut, ev_stp, ev_tup, ev_lst, ev_call, ev_bi, ev_isi, ev_lc, ev_mth, ev_rpl, ev_kin, ev_kget, ev_sst, ev_lss, evs_nil, evs_cons, b1_ok, b2_ok, bs_ok, bcons_ok, band_t, band_f, band_b, bor_t, bor_f, bor_b, b3_ok, dNot_b, dNeg_i, prt_f, prt_t, blc_ok, bit_ok, dTup_ok, dLst_ok, add_ii, sub_ii, mul_l, mul_r, div_ii, mod_ii, add_tt, add_ll, mul_t1i, mul_l1i, lt_ii, le_ii, gt_ii, ge_ii, chn_le, is_bb, isn_bb, is_nn, is_in, isn_nn, isn_in, is_on, isn_on, deq_nn, deq_ni, deq_in, deq_oi, deq_oo, sh_oI, oI_s, oI_n, eq_ok, ne_ok, in_tup, nin_tup, in_lst, nin_lst, sh_int, sh_bl, sh_non, sh_str, sh_ints, deq_ii, deq_bb, deq_ss, deq_tt, deq_ll, deqL_nil, deqL_cons, deqL_nc, deqL_cn, deqL_ints, deqL_pairs, deqL_rows, deq_rr, deq_pp, get_0, get_s, ix_t0, ix_t1, ix_t2, ix_t3, ix_t4, ix_t5, ix_t6, ix_l0, ix_l1, ix_l2, ix_l3, ix_l4, ix_l5, ix_lb, ix_tb, dCut_t, dCut_l, rev_t, rev_l, even_t, odd_t, even_l, odd_l, len_t, len_l, int_b, int_i, tuple_t, tuple_l, list_t, list_l, abs_i, sum_t, sum_l, max_2, min_2, max_3, min_3, all_l, isi_ii, isi_ib, isi_is, isi_it, isi_il, isi_bi, isi_bb, isi_bt, isi_bs, isi_tt, isi_tl, isi_ti, isi_ts, isi_ll, isi_lt, isi_li, isi_ls, isi_ss, isi_si, isi_st, isi_sb, it_t, it_l, it_r1, it_r2, it_et, it_el, it_ztt, it_zll, it_ztl, it_zlt, lcFn_1, lcFn_2, cdR_t, cdR_f, cdR_b, xs_nil, xs_set, xs_own, xs_unp, xs_app, xs_ext, xs_put, kExt_ok, kPut_last, xs_frz, xs_pas, xs_ret, xs_ife, xs_for, kSet_ok, kOwn_ok, kUnp_t, kUnp_l, kApp_ok, kRet_ok, kIf_t, kIf_f, kSeq_n, kSeq_r, kFor_ok, forFn_1, forFn_2, setAll_n, setAll_c, fin_r, fin_n, wipe_n, wipe_c, go_nil, go_cons, kGo_n, kGo_r, List.set_cons_zero, List.set_cons_succ, List.cons_append, List.nil_append, List.length_cons, List.length_nil, List.all_cons, List.all_nil, Bool.and_true, Bool.true_and, Bool.and_false, Bool.false_and, Bool.or_true, Bool.true_or, Bool.or_false, Bool.false_or, Bool.not_true, Bool.not_false, decide_true, decide_false, eq_self, Int.cast_ofNat_Int, beq_self_eq_true, s_far_wide, s_far_turn, s_wide_far, s_wide_turn, s_turn_far, s_turn_wide, List.any_cons, List.any_nil, Int.reduceEq, Int.reduceLT, Int.reduceLE, Int.reduceAdd, Int.reduceSub, Int.reduceMul, Int.reduceNeg, Int.reduceToNat, Bool.decide_eq_true, Bool.false_eq_true, ↓reduceIte, List.length_map, bitsM_len, Nat.zero_add, Nat.reduceAdd, call_cf, f_nearest, mk_u, h1, glb_FAR, glb_WIDE, cut_lo, h2, ← List.map_drop, ← List.map_tail, map_evens, e1]
    have := hfin (byL (4 * unit) (evens (row.drop 2).tail)) none (by unfold byL; rw [List.length_map]; omega)
    simp -implicitDefEqProofs (disch := first | exact sh_int | assumption | omega | (simp -implicitDefEqProofs only [List.length_cons, List.length_nil, List.length_map, List.length_append, List.length_reverse, List.length_take, List.length_drop, List.length_set, List.length_replicate, bitsM_len, bitsL_len]; omega) | (simp -implicitDefEqProofs only [sh_int, sh_oI, sh8_pairs, sh8_rows, sh8_row, sh9_row, sh9_p, sh_bl, sh_non, sh9t, sh9l, sh8t, sh8l, sh7t, sh7l, sh6t, sh6l, sh5t, sh5l, sh4t, sh4l, sh_ints, sh_str, List.all_cons, List.all_nil, List.all_append, List.all_reverse, Bool.and_true, Bool.and_self]; done) | (simp -implicitDefEqProofs only [sh_int, sh_oI, sh8_pairs, sh8_rows, sh8_row, sh9_row, sh9_p, sh_bl, sh_non, sh9t, sh9l, sh8t, sh8l, sh7t, sh7l, sh6t, sh6l, sh5t, sh5l, sh4t, sh4l, sh_ints, sh_str, List.all_cons, List.all_nil, List.all_append, List.all_reverse, Bool.and_true, Bool.and_self]; decide +kernel)) only [ev_var, ev_cst, ev_glb, ev_bin, ev_cmp, ev_neg, ev_not, ev_chn, ev_and, ev_or, ev_idx, ev_cut, ev_stp, ev_tup, ev_lst, ev_call, ev_bi, ev_isi, ev_lc, ev_mth, ev_rpl, ev_kin, ev_kget, ev_sst, ev_lss, evs_nil, evs_cons, b1_ok, b2_ok, bs_ok, bcons_ok, band_t, band_f, band_b, bor_t, bor_f, bor_b, b3_ok, dNot_b, dNeg_i, prt_f, prt_t, blc_ok, bit_ok, dTup_ok, dLst_ok, add_ii, sub_ii, mul_l, mul_r, div_ii, mod_ii, add_tt, add_ll, mul_t1i, mul_l1i, lt_ii, le_ii, gt_ii, ge_ii, chn_le, is_bb, isn_bb, is_nn, is_in, isn_nn, isn_in, is_on, isn_on, deq_nn, deq_ni, deq_in, deq_oi, deq_oo, sh_oI, oI_s, oI_n, eq_ok, ne_ok, in_tup, nin_tup, in_lst, nin_lst, sh_int, sh_bl, sh_non, sh_str, sh_ints, deq_ii, deq_bb, deq_ss, deq_tt, deq_ll, deqL_nil, deqL_cons, deqL_nc, deqL_cn, deqL_ints, deqL_pairs, deqL_rows, deq_rr, deq_pp, get_0, get_s, ix_t0, ix_t1, ix_t2, ix_t3, ix_t4, ix_t5, ix_t6, ix_l0, ix_l1, ix_l2, ix_l3, ix_l4, ix_l5, ix_lb, ix_tb, dCut_t, dCut_l, rev_t, rev_l, even_t, odd_t, even_l, odd_l, len_t, len_l, int_b, int_i, tuple_t, tuple_l, list_t, list_l, abs_i, sum_t, sum_l, max_2, min_2, max_3, min_3, all_l, isi_ii, isi_ib, isi_is, isi_it, isi_il, isi_bi, isi_bb, isi_bt, isi_bs, isi_tt, isi_tl, isi_ti, isi_ts, isi_ll, isi_lt, isi_li, isi_ls, isi_ss, isi_si, isi_st, isi_sb, it_t, it_l, it_r1, it_r2, it_et, it_el, it_ztt, it_zll, it_ztl, it_zlt, lcFn_1, lcFn_2, cdR_t, cdR_f, cdR_b, xs_nil, xs_set, xs_own, xs_unp, xs_app, xs_ext, xs_put, kExt_ok, kPut_last, xs_frz, xs_pas, xs_ret, xs_ife, xs_for, kSet_ok, kOwn_ok, kUnp_t, kUnp_l, kApp_ok, kRet_ok, kIf_t, kIf_f, kSeq_n, kSeq_r, kFor_ok, forFn_1, forFn_2, setAll_n, setAll_c, fin_r, fin_n, wipe_n, wipe_c, go_nil, go_cons, kGo_n, kGo_r, List.set_cons_zero, List.set_cons_succ, List.cons_append, List.nil_append, List.length_cons, List.length_nil, List.all_cons, List.all_nil, Bool.and_true, Bool.true_and, Bool.and_false, Bool.false_and, Bool.or_true, Bool.true_or, Bool.or_false, Bool.false_or, Bool.not_true, Bool.not_false, decide_true, decide_false, eq_self, Int.cast_ofNat_Int, beq_self_eq_true, s_far_wide, s_far_turn, s_wide_far, s_wide_turn, s_turn_far, s_turn_wide, List.any_cons, List.any_nil, Int.reduceEq, Int.reduceLT, Int.reduceLE, Int.reduceAdd, Int.reduceSub, Int.reduceMul, Int.reduceNeg, Int.reduceToNat, Bool.decide_eq_true, Bool.false_eq_true, ↓reduceIte, List.length_map, bitsM_len, Nat.zero_add, Nat.reduceAdd, call_cf] at this
    exact this
  | false =>
    cases h2 : (way == "wide") with
    | true =>
      simp -implicitDefEqProofs (disch := first | exact sh_int | assumption | omega | (simp -implicitDefEqProofs only [List.length_cons, List.length_nil, List.length_map, List.length_append, List.length_reverse, List.length_take, List.length_drop, List.length_set, List.length_replicate, bitsM_len, bitsL_len]; omega) | (simp -implicitDefEqProofs only [sh_int, sh_oI, sh8_pairs, sh8_rows, sh8_row, sh9_row, sh9_p, sh_bl, sh_non, sh9t, sh9l, sh8t, sh8l, sh7t, sh7l, sh6t, sh6l, sh5t, sh5l, sh4t, sh4l, sh_ints, sh_str, List.all_cons, List.all_nil, List.all_append, List.all_reverse, Bool.and_true, Bool.and_self]; done) | (simp -implicitDefEqProofs only [sh_int, sh_oI, sh8_pairs, sh8_rows, sh8_row, sh9_row, sh9_p, sh_bl, sh_non, sh9t, sh9l, sh8t, sh8l, sh7t, sh7l, sh6t, sh6l, sh5t, sh5l, sh4t, sh4l, sh_ints, sh_str, List.all_cons, List.all_nil, List.all_append, List.all_reverse, Bool.and_true, Bool.and_self]; decide +kernel)) only [ev_var, ev_cst, ev_glb, ev_bin, ev_cmp, ev_neg, ev_not, ev_chn, ev_and, ev_or, ev_idx, ev_cut, ev_stp, ev_tup, ev_lst, ev_call, ev_bi, ev_isi, ev_lc, ev_mth, ev_rpl, ev_kin, ev_kget, ev_sst, ev_lss, evs_nil, evs_cons, b1_ok, b2_ok, bs_ok, bcons_ok, band_t, band_f, band_b, bor_t, bor_f, bor_b, b3_ok, dNot_b, dNeg_i, prt_f, prt_t, blc_ok, bit_ok, dTup_ok, dLst_ok, add_ii, sub_ii, mul_l, mul_r, div_ii, mod_ii, add_tt, add_ll, mul_t1i, mul_l1i, lt_ii, le_ii, gt_ii, ge_ii, chn_le, is_bb, isn_bb, is_nn, is_in, isn_nn, isn_in, is_on, isn_on, deq_nn, deq_ni, deq_in, deq_oi, deq_oo, sh_oI, oI_s, oI_n, eq_ok, ne_ok, in_tup, nin_tup, in_lst, nin_lst, sh_int, sh_bl, sh_non, sh_str, sh_ints, deq_ii, deq_bb, deq_ss, deq_tt, deq_ll, deqL_nil, deqL_cons, deqL_nc, deqL_cn, deqL_ints, deqL_pairs, deqL_rows, deq_rr, deq_pp, get_0, get_s, ix_t0, ix_t1, ix_t2, ix_t3, ix_t4, ix_t5, ix_t6, ix_l0, ix_l1, ix_l2, ix_l3, ix_l4, ix_l5, ix_lb, ix_tb, dCut_t, dCut_l, rev_t, rev_l, even_t, odd_t, even_l, odd_l, len_t, len_l, int_b, int_i, tuple_t, tuple_l, list_t, list_l, abs_i, sum_t, sum_l, max_2, min_2, max_3, min_3, all_l, isi_ii, isi_ib, isi_is, isi_it, isi_il, isi_bi, isi_bb, isi_bt, isi_bs, isi_tt, isi_tl, isi_ti, isi_ts, isi_ll, isi_lt, isi_li, isi_ls, isi_ss, isi_si, isi_st, isi_sb, it_t, it_l, it_r1, it_r2, it_et, it_el, it_ztt, it_zll, it_ztl, it_zlt, lcFn_1, lcFn_2, cdR_t, cdR_f, cdR_b, xs_nil, xs_set, xs_own, xs_unp, xs_app, xs_ext, xs_put, kExt_ok, kPut_last, xs_frz, xs_pas, xs_ret, xs_ife, xs_for, kSet_ok, kOwn_ok, kUnp_t, kUnp_l, kApp_ok, kRet_ok, kIf_t, kIf_f, kSeq_n, kSeq_r, kFor_ok, forFn_1, forFn_2, setAll_n, setAll_c, fin_r, fin_n, wipe_n, wipe_c, go_nil, go_cons, kGo_n, kGo_r, List.set_cons_zero, List.set_cons_succ, List.cons_append, List.nil_append, List.length_cons, List.length_nil, List.all_cons, List.all_nil, Bool.and_true, Bool.true_and, Bool.and_false, Bool.false_and, Bool.or_true, Bool.true_or, Bool.or_false, Bool.false_or, Bool.not_true, Bool.not_false, decide_true, decide_false, eq_self, Int.cast_ofNat_Int, beq_self_eq_true, s_far_wide, s_far_turn, s_wide_far, s_wide_turn, s_turn_far, s_turn_wide, List.any_cons, List.any_nil, Int.reduceEq, Int.reduceLT, Int.reduceLE, Int.reduceAdd, Int.reduceSub, Int.reduceMul, Int.reduceNeg, Int.reduceToNat, Bool.decide_eq_true, Bool.false_eq_true, ↓reduceIte, List.length_map, bitsM_len, Nat.zero_add, Nat.reduceAdd, call_cf, f_nearest, mk_u, h1, h2, glb_FAR, glb_WIDE, cut_lo, h2, ← List.map_drop, ← List.map_tail, map_evens, e2]
      have := hfin (byL (3 * unit) (evens (row.drop 2))) none (by unfold byL; rw [List.length_map]; omega)
      simp -implicitDefEqProofs (disch := first | exact sh_int | assumption | omega | (simp -implicitDefEqProofs only [List.length_cons, List.length_nil, List.length_map, List.length_append, List.length_reverse, List.length_take, List.length_drop, List.length_set, List.length_replicate, bitsM_len, bitsL_len]; omega) | (simp -implicitDefEqProofs only [sh_int, sh_oI, sh8_pairs, sh8_rows, sh8_row, sh9_row, sh9_p, sh_bl, sh_non, sh9t, sh9l, sh8t, sh8l, sh7t, sh7l, sh6t, sh6l, sh5t, sh5l, sh4t, sh4l, sh_ints, sh_str, List.all_cons, List.all_nil, List.all_append, List.all_reverse, Bool.and_true, Bool.and_self]; done) | (simp -implicitDefEqProofs only [sh_int, sh_oI, sh8_pairs, sh8_rows, sh8_row, sh9_row, sh9_p, sh_bl, sh_non, sh9t, sh9l, sh8t, sh8l, sh7t, sh7l, sh6t, sh6l, sh5t, sh5l, sh4t, sh4l, sh_ints, sh_str, List.all_cons, List.all_nil, List.all_append, List.all_reverse, Bool.and_true, Bool.and_self]; decide +kernel)) only [ev_var, ev_cst, ev_glb, ev_bin, ev_cmp, ev_neg, ev_not, ev_chn, ev_and, ev_or, ev_idx, ev_cut, ev_stp, ev_tup, ev_lst, ev_call, ev_bi, ev_isi, ev_lc, ev_mth, ev_rpl, ev_kin, ev_kget, ev_sst, ev_lss, evs_nil, evs_cons, b1_ok, b2_ok, bs_ok, bcons_ok, band_t, band_f, band_b, bor_t, bor_f, bor_b, b3_ok, dNot_b, dNeg_i, prt_f, prt_t, blc_ok, bit_ok, dTup_ok, dLst_ok, add_ii, sub_ii, mul_l, mul_r, div_ii, mod_ii, add_tt, add_ll, mul_t1i, mul_l1i, lt_ii, le_ii, gt_ii, ge_ii, chn_le, is_bb, isn_bb, is_nn, is_in, isn_nn, isn_in, is_on, isn_on, deq_nn, deq_ni, deq_in, deq_oi, deq_oo, sh_oI, oI_s, oI_n, eq_ok, ne_ok, in_tup, nin_tup, in_lst, nin_lst, sh_int, sh_bl, sh_non, sh_str, sh_ints, deq_ii, deq_bb, deq_ss, deq_tt, deq_ll, deqL_nil, deqL_cons, deqL_nc, deqL_cn, deqL_ints, deqL_pairs, deqL_rows, deq_rr, deq_pp, get_0, get_s, ix_t0, ix_t1, ix_t2, ix_t3, ix_t4, ix_t5, ix_t6, ix_l0, ix_l1, ix_l2, ix_l3, ix_l4, ix_l5, ix_lb, ix_tb, dCut_t, dCut_l, rev_t, rev_l, even_t, odd_t, even_l, odd_l, len_t, len_l, int_b, int_i, tuple_t, tuple_l, list_t, list_l, abs_i, sum_t, sum_l, max_2, min_2, max_3, min_3, all_l, isi_ii, isi_ib, isi_is, isi_it, isi_il, isi_bi, isi_bb, isi_bt, isi_bs, isi_tt, isi_tl, isi_ti, isi_ts, isi_ll, isi_lt, isi_li, isi_ls, isi_ss, isi_si, isi_st, isi_sb, it_t, it_l, it_r1, it_r2, it_et, it_el, it_ztt, it_zll, it_ztl, it_zlt, lcFn_1, lcFn_2, cdR_t, cdR_f, cdR_b, xs_nil, xs_set, xs_own, xs_unp, xs_app, xs_ext, xs_put, kExt_ok, kPut_last, xs_frz, xs_pas, xs_ret, xs_ife, xs_for, kSet_ok, kOwn_ok, kUnp_t, kUnp_l, kApp_ok, kRet_ok, kIf_t, kIf_f, kSeq_n, kSeq_r, kFor_ok, forFn_1, forFn_2, setAll_n, setAll_c, fin_r, fin_n, wipe_n, wipe_c, go_nil, go_cons, kGo_n, kGo_r, List.set_cons_zero, List.set_cons_succ, List.cons_append, List.nil_append, List.length_cons, List.length_nil, List.all_cons, List.all_nil, Bool.and_true, Bool.true_and, Bool.and_false, Bool.false_and, Bool.or_true, Bool.true_or, Bool.or_false, Bool.false_or, Bool.not_true, Bool.not_false, decide_true, decide_false, eq_self, Int.cast_ofNat_Int, beq_self_eq_true, s_far_wide, s_far_turn, s_wide_far, s_wide_turn, s_turn_far, s_turn_wide, List.any_cons, List.any_nil, Int.reduceEq, Int.reduceLT, Int.reduceLE, Int.reduceAdd, Int.reduceSub, Int.reduceMul, Int.reduceNeg, Int.reduceToNat, Bool.decide_eq_true, Bool.false_eq_true, ↓reduceIte, List.length_map, bitsM_len, Nat.zero_add, Nat.reduceAdd, call_cf] at this
      exact this
    | false =>
      simp -implicitDefEqProofs (disch := first | exact sh_int | assumption | omega | (simp -implicitDefEqProofs only [List.length_cons, List.length_nil, List.length_map, List.length_append, List.length_reverse, List.length_take, List.length_drop, List.length_set, List.length_replicate, bitsM_len, bitsL_len]; omega) | (simp -implicitDefEqProofs only [sh_int, sh_oI, sh8_pairs, sh8_rows, sh8_row, sh9_row, sh9_p, sh_bl, sh_non, sh9t, sh9l, sh8t, sh8l, sh7t, sh7l, sh6t, sh6l, sh5t, sh5l, sh4t, sh4l, sh_ints, sh_str, List.all_cons, List.all_nil, List.all_append, List.all_reverse, Bool.and_true, Bool.and_self]; done) | (simp -implicitDefEqProofs only [sh_int, sh_oI, sh8_pairs, sh8_rows, sh8_row, sh9_row, sh9_p, sh_bl, sh_non, sh9t, sh9l, sh8t, sh8l, sh7t, sh7l, sh6t, sh6l, sh5t, sh5l, sh4t, sh4l, sh_ints, sh_str, List.all_cons, List.all_nil, List.all_append, List.all_reverse, Bool.and_true, Bool.and_self]; decide +kernel)) only [ev_var, ev_cst, ev_glb, ev_bin, ev_cmp, ev_neg, ev_not, ev_chn, ev_and, ev_or, ev_idx, ev_cut, ev_stp, ev_tup, ev_lst, ev_call, ev_bi, ev_isi, ev_lc, ev_mth, ev_rpl, ev_kin, ev_kget, ev_sst, ev_lss, evs_nil, evs_cons, b1_ok, b2_ok, bs_ok, bcons_ok, band_t, band_f, band_b, bor_t, bor_f, bor_b, b3_ok, dNot_b, dNeg_i, prt_f, prt_t, blc_ok, bit_ok, dTup_ok, dLst_ok, add_ii, sub_ii, mul_l, mul_r, div_ii, mod_ii, add_tt, add_ll, mul_t1i, mul_l1i, lt_ii, le_ii, gt_ii, ge_ii, chn_le, is_bb, isn_bb, is_nn, is_in, isn_nn, isn_in, is_on, isn_on, deq_nn, deq_ni, deq_in, deq_oi, deq_oo, sh_oI, oI_s, oI_n, eq_ok, ne_ok, in_tup, nin_tup, in_lst, nin_lst, sh_int, sh_bl, sh_non, sh_str, sh_ints, deq_ii, deq_bb, deq_ss, deq_tt, deq_ll, deqL_nil, deqL_cons, deqL_nc, deqL_cn, deqL_ints, deqL_pairs, deqL_rows, deq_rr, deq_pp, get_0, get_s, ix_t0, ix_t1, ix_t2, ix_t3, ix_t4, ix_t5, ix_t6, ix_l0, ix_l1, ix_l2, ix_l3, ix_l4, ix_l5, ix_lb, ix_tb, dCut_t, dCut_l, rev_t, rev_l, even_t, odd_t, even_l, odd_l, len_t, len_l, int_b, int_i, tuple_t, tuple_l, list_t, list_l, abs_i, sum_t, sum_l, max_2, min_2, max_3, min_3, all_l, isi_ii, isi_ib, isi_is, isi_it, isi_il, isi_bi, isi_bb, isi_bt, isi_bs, isi_tt, isi_tl, isi_ti, isi_ts, isi_ll, isi_lt, isi_li, isi_ls, isi_ss, isi_si, isi_st, isi_sb, it_t, it_l, it_r1, it_r2, it_et, it_el, it_ztt, it_zll, it_ztl, it_zlt, lcFn_1, lcFn_2, cdR_t, cdR_f, cdR_b, xs_nil, xs_set, xs_own, xs_unp, xs_app, xs_ext, xs_put, kExt_ok, kPut_last, xs_frz, xs_pas, xs_ret, xs_ife, xs_for, kSet_ok, kOwn_ok, kUnp_t, kUnp_l, kApp_ok, kRet_ok, kIf_t, kIf_f, kSeq_n, kSeq_r, kFor_ok, forFn_1, forFn_2, setAll_n, setAll_c, fin_r, fin_n, wipe_n, wipe_c, go_nil, go_cons, kGo_n, kGo_r, List.set_cons_zero, List.set_cons_succ, List.cons_append, List.nil_append, List.length_cons, List.length_nil, List.all_cons, List.all_nil, Bool.and_true, Bool.true_and, Bool.and_false, Bool.false_and, Bool.or_true, Bool.true_or, Bool.or_false, Bool.false_or, Bool.not_true, Bool.not_false, decide_true, decide_false, eq_self, Int.cast_ofNat_Int, beq_self_eq_true, s_far_wide, s_far_turn, s_wide_far, s_wide_turn, s_turn_far, s_turn_wide, List.any_cons, List.any_nil, Int.reduceEq, Int.reduceLT, Int.reduceLE, Int.reduceAdd, Int.reduceSub, Int.reduceMul, Int.reduceNeg, Int.reduceToNat, Bool.decide_eq_true, Bool.false_eq_true, ↓reduceIte, List.length_map, bitsM_len, Nat.zero_add, Nat.reduceAdd, call_cf, f_nearest, mk_u, h1, h2, glb_FAR, glb_WIDE, cut_lo, h2, ← List.map_drop, ← List.map_tail, map_evens, e3, cut_lm, ← List.map_dropLast]
      have := hfin (((evens (expL unit 1 (row.drop 2)).tail).drop 1).dropLast) (some (.lst ((expL unit 1 (row.drop 2)).map D.int))) (by rw [List.length_dropLast, List.length_drop]; omega)
      simp -implicitDefEqProofs (disch := first | exact sh_int | assumption | omega | (simp -implicitDefEqProofs only [List.length_cons, List.length_nil, List.length_map, List.length_append, List.length_reverse, List.length_take, List.length_drop, List.length_set, List.length_replicate, bitsM_len, bitsL_len]; omega) | (simp -implicitDefEqProofs only [sh_int, sh_oI, sh8_pairs, sh8_rows, sh8_row, sh9_row, sh9_p, sh_bl, sh_non, sh9t, sh9l, sh8t, sh8l, sh7t, sh7l, sh6t, sh6l, sh5t, sh5l, sh4t, sh4l, sh_ints, sh_str, List.all_cons, List.all_nil, List.all_append, List.all_reverse, Bool.and_true, Bool.and_self]; done) | (simp -implicitDefEqProofs only [sh_int, sh_oI, sh8_pairs, sh8_rows, sh8_row, sh9_row, sh9_p, sh_bl, sh_non, sh9t, sh9l, sh8t, sh8l, sh7t, sh7l, sh6t, sh6l, sh5t, sh5l, sh4t, sh4l, sh_ints, sh_str, List.all_cons, List.all_nil, List.all_append, List.all_reverse, Bool.and_true, Bool.and_self]; decide +kernel)) only [ev_var, ev_cst, ev_glb, ev_bin, ev_cmp, ev_neg, ev_not, ev_chn, ev_and, ev_or, ev_idx, ev_cut, ev_stp, ev_tup, ev_lst, ev_call, ev_bi, ev_isi, ev_lc, ev_mth, ev_rpl, ev_kin, ev_kget, ev_sst, ev_lss, evs_nil, evs_cons, b1_ok, b2_ok, bs_ok, bcons_ok, band_t, band_f, band_b, bor_t, bor_f, bor_b, b3_ok, dNot_b, dNeg_i, prt_f, prt_t, blc_ok, bit_ok, dTup_ok, dLst_ok, add_ii, sub_ii, mul_l, mul_r, div_ii, mod_ii, add_tt, add_ll, mul_t1i, mul_l1i, lt_ii, le_ii, gt_ii, ge_ii, chn_le, is_bb, isn_bb, is_nn, is_in, isn_nn, isn_in, is_on, isn_on, deq_nn, deq_ni, deq_in, deq_oi, deq_oo, sh_oI, oI_s, oI_n, eq_ok, ne_ok, in_tup, nin_tup, in_lst, nin_lst, sh_int, sh_bl, sh_non, sh_str, sh_ints, deq_ii, deq_bb, deq_ss, deq_tt, deq_ll, deqL_nil, deqL_cons, deqL_nc, deqL_cn, deqL_ints, deqL_pairs, deqL_rows, deq_rr, deq_pp, get_0, get_s, ix_t0, ix_t1, ix_t2, ix_t3, ix_t4, ix_t5, ix_t6, ix_l0, ix_l1, ix_l2, ix_l3, ix_l4, ix_l5, ix_lb, ix_tb, dCut_t, dCut_l, rev_t, rev_l, even_t, odd_t, even_l, odd_l, len_t, len_l, int_b, int_i, tuple_t, tuple_l, list_t, list_l, abs_i, sum_t, sum_l, max_2, min_2, max_3, min_3, all_l, isi_ii, isi_ib, isi_is, isi_it, isi_il, isi_bi, isi_bb, isi_bt, isi_bs, isi_tt, isi_tl, isi_ti, isi_ts, isi_ll, isi_lt, isi_li, isi_ls, isi_ss, isi_si, isi_st, isi_sb, it_t, it_l, it_r1, it_r2, it_et, it_el, it_ztt, it_zll, it_ztl, it_zlt, lcFn_1, lcFn_2, cdR_t, cdR_f, cdR_b, xs_nil, xs_set, xs_own, xs_unp, xs_app, xs_ext, xs_put, kExt_ok, kPut_last, xs_frz, xs_pas, xs_ret, xs_ife, xs_for, kSet_ok, kOwn_ok, kUnp_t, kUnp_l, kApp_ok, kRet_ok, kIf_t, kIf_f, kSeq_n, kSeq_r, kFor_ok, forFn_1, forFn_2, setAll_n, setAll_c, fin_r, fin_n, wipe_n, wipe_c, go_nil, go_cons, kGo_n, kGo_r, List.set_cons_zero, List.set_cons_succ, List.cons_append, List.nil_append, List.length_cons, List.length_nil, List.all_cons, List.all_nil, Bool.and_true, Bool.true_and, Bool.and_false, Bool.false_and, Bool.or_true, Bool.true_or, Bool.or_false, Bool.false_or, Bool.not_true, Bool.not_false, decide_true, decide_false, eq_self, Int.cast_ofNat_Int, beq_self_eq_true, s_far_wide, s_far_turn, s_wide_far, s_wide_turn, s_turn_far, s_turn_wide, List.any_cons, List.any_nil, Int.reduceEq, Int.reduceLT, Int.reduceLE, Int.reduceAdd, Int.reduceSub, Int.reduceMul, Int.reduceNeg, Int.reduceToNat, Bool.decide_eq_true, Bool.false_eq_true, ↓reduceIte, List.length_map, bitsM_len, Nat.zero_add, Nat.reduceAdd, call_cf] at this
      exact this
theorem r_off {n : Nat} {way : Str} {head gap unit b slip x : Int} {low : Bool} (hw : WayOk way) (hb : 1 ≤ b) (hb2 : b ≤ 1000) (hu : 0 ≤ unit) (hu2 : unit < 1000000) (row : List Int) (hl : row.length ≤ 100000) : run pg (n + 3) "off" [mkD way head gap unit b low slip, .int x, .tup (row.map D.int)] = .ok (oI (offL (flashL way head gap unit (bitsM low b.toNat x)) row)) := by
  rw [run_off]
  have hfl := flash_len way head gap unit (bitsM low b.toNat x)
  have ef := r_flash (n := n) (way := way) (head := head) (gap := gap) (unit := unit) (b := b) (slip := slip) (x := x) (low := low) hw hb hb2 hu hu2
  rw [bitsM_len] at hfl
  have hne : flashL way head gap unit (bitsM low b.toNat x) ≠ [] := List.cons_ne_nil _ _
  generalize flashL way head gap unit (bitsM low b.toNat x) = due at hfl ef hne ⊢
  unfold offL
  by_cases hlen : due.length = row.length
  · have h2 : decide ((due.length : Int) = (row.length : Int)) = true := decide_eq_true (by omega)
    rw [if_pos hlen]
    simp -implicitDefEqProofs (disch := first | exact sh_int | assumption | omega | (simp -implicitDefEqProofs only [List.length_cons, List.length_nil, List.length_map, List.length_append, List.length_reverse, List.length_take, List.length_drop, List.length_set, List.length_replicate, bitsM_len, bitsL_len]; omega) | (simp -implicitDefEqProofs only [sh_int, sh_oI, sh8_pairs, sh8_rows, sh8_row, sh9_row, sh9_p, sh_bl, sh_non, sh9t, sh9l, sh8t, sh8l, sh7t, sh7l, sh6t, sh6l, sh5t, sh5l, sh4t, sh4l, sh_ints, sh_str, List.all_cons, List.all_nil, List.all_append, List.all_reverse, Bool.and_true, Bool.and_self]; done) | (simp -implicitDefEqProofs only [sh_int, sh_oI, sh8_pairs, sh8_rows, sh8_row, sh9_row, sh9_p, sh_bl, sh_non, sh9t, sh9l, sh8t, sh8l, sh7t, sh7l, sh6t, sh6l, sh5t, sh5l, sh4t, sh4l, sh_ints, sh_str, List.all_cons, List.all_nil, List.all_append, List.all_reverse, Bool.and_true, Bool.and_self]; decide +kernel)) only [ev_var, ev_cst, ev_glb, ev_bin, ev_cmp, ev_neg, ev_not, ev_chn, ev_and, ev_or, ev_idx, ev_cut, ev_stp, ev_tup, ev_lst, ev_call, ev_bi, ev_isi, ev_lc, ev_mth, ev_rpl, ev_kin, ev_kget, ev_sst, ev_lss, evs_nil, evs_cons, b1_ok, b2_ok, bs_ok, bcons_ok, band_t, band_f, band_b, bor_t, bor_f, bor_b, b3_ok, dNot_b, dNeg_i, prt_f, prt_t, blc_ok, bit_ok, dTup_ok, dLst_ok, add_ii, sub_ii, mul_l, mul_r, div_ii, mod_ii, add_tt, add_ll, mul_t1i, mul_l1i, lt_ii, le_ii, gt_ii, ge_ii, chn_le, is_bb, isn_bb, is_nn, is_in, isn_nn, isn_in, is_on, isn_on, deq_nn, deq_ni, deq_in, deq_oi, deq_oo, sh_oI, oI_s, oI_n, eq_ok, ne_ok, in_tup, nin_tup, in_lst, nin_lst, sh_int, sh_bl, sh_non, sh_str, sh_ints, deq_ii, deq_bb, deq_ss, deq_tt, deq_ll, deqL_nil, deqL_cons, deqL_nc, deqL_cn, deqL_ints, deqL_pairs, deqL_rows, deq_rr, deq_pp, get_0, get_s, ix_t0, ix_t1, ix_t2, ix_t3, ix_t4, ix_t5, ix_t6, ix_l0, ix_l1, ix_l2, ix_l3, ix_l4, ix_l5, ix_lb, ix_tb, dCut_t, dCut_l, rev_t, rev_l, even_t, odd_t, even_l, odd_l, len_t, len_l, int_b, int_i, tuple_t, tuple_l, list_t, list_l, abs_i, sum_t, sum_l, max_2, min_2, max_3, min_3, all_l, isi_ii, isi_ib, isi_is, isi_it, isi_il, isi_bi, isi_bb, isi_bt, isi_bs, isi_tt, isi_tl, isi_ti, isi_ts, isi_ll, isi_lt, isi_li, isi_ls, isi_ss, isi_si, isi_st, isi_sb, it_t, it_l, it_r1, it_r2, it_et, it_el, it_ztt, it_zll, it_ztl, it_zlt, lcFn_1, lcFn_2, cdR_t, cdR_f, cdR_b, xs_nil, xs_set, xs_own, xs_unp, xs_app, xs_ext, xs_put, kExt_ok, kPut_last, xs_frz, xs_pas, xs_ret, xs_ife, xs_for, kSet_ok, kOwn_ok, kUnp_t, kUnp_l, kApp_ok, kRet_ok, kIf_t, kIf_f, kSeq_n, kSeq_r, kFor_ok, forFn_1, forFn_2, setAll_n, setAll_c, fin_r, fin_n, wipe_n, wipe_c, go_nil, go_cons, kGo_n, kGo_r, List.set_cons_zero, List.set_cons_succ, List.cons_append, List.nil_append, List.length_cons, List.length_nil, List.all_cons, List.all_nil, Bool.and_true, Bool.true_and, Bool.and_false, Bool.false_and, Bool.or_true, Bool.true_or, Bool.or_false, Bool.false_or, Bool.not_true, Bool.not_false, decide_true, decide_false, eq_self, Int.cast_ofNat_Int, beq_self_eq_true, s_far_wide, s_far_turn, s_wide_far, s_wide_turn, s_turn_far, s_turn_wide, List.any_cons, List.any_nil, Int.reduceEq, Int.reduceLT, Int.reduceLE, Int.reduceAdd, Int.reduceSub, Int.reduceMul, Int.reduceNeg, Int.reduceToNat, Bool.decide_eq_true, Bool.false_eq_true, ↓reduceIte, List.length_map, bitsM_len, Nat.zero_add, Nat.reduceAdd, call_cf, f_off, ef, h2]
    have hz := zipL_le (due.map D.int) (row.map D.int)
    rw [List.length_map] at hz
    rw [lcS_map (d2 fun x y => ab (x - y)) (by omega) (fun d hd => by
      obtain ⟨x, y, _, _, rfl⟩ := zipL_mem hd
      simp -implicitDefEqProofs (disch := first | exact sh_int | assumption | omega | (simp -implicitDefEqProofs only [List.length_cons, List.length_nil, List.length_map, List.length_append, List.length_reverse, List.length_take, List.length_drop, List.length_set, List.length_replicate, bitsM_len, bitsL_len]; omega) | (simp -implicitDefEqProofs only [sh_int, sh_oI, sh8_pairs, sh8_rows, sh8_row, sh9_row, sh9_p, sh_bl, sh_non, sh9t, sh9l, sh8t, sh8l, sh7t, sh7l, sh6t, sh6l, sh5t, sh5l, sh4t, sh4l, sh_ints, sh_str, List.all_cons, List.all_nil, List.all_append, List.all_reverse, Bool.and_true, Bool.and_self]; done) | (simp -implicitDefEqProofs only [sh_int, sh_oI, sh8_pairs, sh8_rows, sh8_row, sh9_row, sh9_p, sh_bl, sh_non, sh9t, sh9l, sh8t, sh8l, sh7t, sh7l, sh6t, sh6l, sh5t, sh5l, sh4t, sh4l, sh_ints, sh_str, List.all_cons, List.all_nil, List.all_append, List.all_reverse, Bool.and_true, Bool.and_self]; decide +kernel)) only [ev_var, ev_cst, ev_glb, ev_bin, ev_cmp, ev_neg, ev_not, ev_chn, ev_and, ev_or, ev_idx, ev_cut, ev_stp, ev_tup, ev_lst, ev_call, ev_bi, ev_isi, ev_lc, ev_mth, ev_rpl, ev_kin, ev_kget, ev_sst, ev_lss, evs_nil, evs_cons, b1_ok, b2_ok, bs_ok, bcons_ok, band_t, band_f, band_b, bor_t, bor_f, bor_b, b3_ok, dNot_b, dNeg_i, prt_f, prt_t, blc_ok, bit_ok, dTup_ok, dLst_ok, add_ii, sub_ii, mul_l, mul_r, div_ii, mod_ii, add_tt, add_ll, mul_t1i, mul_l1i, lt_ii, le_ii, gt_ii, ge_ii, chn_le, is_bb, isn_bb, is_nn, is_in, isn_nn, isn_in, is_on, isn_on, deq_nn, deq_ni, deq_in, deq_oi, deq_oo, sh_oI, oI_s, oI_n, eq_ok, ne_ok, in_tup, nin_tup, in_lst, nin_lst, sh_int, sh_bl, sh_non, sh_str, sh_ints, deq_ii, deq_bb, deq_ss, deq_tt, deq_ll, deqL_nil, deqL_cons, deqL_nc, deqL_cn, deqL_ints, deqL_pairs, deqL_rows, deq_rr, deq_pp, get_0, get_s, ix_t0, ix_t1, ix_t2, ix_t3, ix_t4, ix_t5, ix_t6, ix_l0, ix_l1, ix_l2, ix_l3, ix_l4, ix_l5, ix_lb, ix_tb, dCut_t, dCut_l, rev_t, rev_l, even_t, odd_t, even_l, odd_l, len_t, len_l, int_b, int_i, tuple_t, tuple_l, list_t, list_l, abs_i, sum_t, sum_l, max_2, min_2, max_3, min_3, all_l, isi_ii, isi_ib, isi_is, isi_it, isi_il, isi_bi, isi_bb, isi_bt, isi_bs, isi_tt, isi_tl, isi_ti, isi_ts, isi_ll, isi_lt, isi_li, isi_ls, isi_ss, isi_si, isi_st, isi_sb, it_t, it_l, it_r1, it_r2, it_et, it_el, it_ztt, it_zll, it_ztl, it_zlt, lcFn_1, lcFn_2, cdR_t, cdR_f, cdR_b, xs_nil, xs_set, xs_own, xs_unp, xs_app, xs_ext, xs_put, kExt_ok, kPut_last, xs_frz, xs_pas, xs_ret, xs_ife, xs_for, kSet_ok, kOwn_ok, kUnp_t, kUnp_l, kApp_ok, kRet_ok, kIf_t, kIf_f, kSeq_n, kSeq_r, kFor_ok, forFn_1, forFn_2, setAll_n, setAll_c, fin_r, fin_n, wipe_n, wipe_c, go_nil, go_cons, kGo_n, kGo_r, List.set_cons_zero, List.set_cons_succ, List.cons_append, List.nil_append, List.length_cons, List.length_nil, List.all_cons, List.all_nil, Bool.and_true, Bool.true_and, Bool.and_false, Bool.false_and, Bool.or_true, Bool.true_or, Bool.or_false, Bool.false_or, Bool.not_true, Bool.not_false, decide_true, decide_false, eq_self, Int.cast_ofNat_Int, beq_self_eq_true, s_far_wide, s_far_turn, s_wide_far, s_wide_turn, s_turn_far, s_turn_wide, List.any_cons, List.any_nil, Int.reduceEq, Int.reduceLT, Int.reduceLE, Int.reduceAdd, Int.reduceSub, Int.reduceMul, Int.reduceNeg, Int.reduceToNat, Bool.decide_eq_true, Bool.false_eq_true, ↓reduceIte, List.length_map, bitsM_len, Nat.zero_add, Nat.reduceAdd, call_cf, d2, ab]), zip_map]
    have hdn : diffs due row ≠ [] := fun z => by
      have hz2 : (diffs due row).length = min due.length row.length := List.length_zipWith
      rw [z, List.length_nil] at hz2
      have : due.length ≠ 0 := fun y => hne (List.eq_nil_of_length_eq_zero y)
      omega
    have hmx := maxD_bi hdn
    unfold diffs at hmx ⊢
    simp -implicitDefEqProofs (disch := first | exact sh_int | assumption | omega | (simp -implicitDefEqProofs only [List.length_cons, List.length_nil, List.length_map, List.length_append, List.length_reverse, List.length_take, List.length_drop, List.length_set, List.length_replicate, bitsM_len, bitsL_len]; omega) | (simp -implicitDefEqProofs only [sh_int, sh_oI, sh8_pairs, sh8_rows, sh8_row, sh9_row, sh9_p, sh_bl, sh_non, sh9t, sh9l, sh8t, sh8l, sh7t, sh7l, sh6t, sh6l, sh5t, sh5l, sh4t, sh4l, sh_ints, sh_str, List.all_cons, List.all_nil, List.all_append, List.all_reverse, Bool.and_true, Bool.and_self]; done) | (simp -implicitDefEqProofs only [sh_int, sh_oI, sh8_pairs, sh8_rows, sh8_row, sh9_row, sh9_p, sh_bl, sh_non, sh9t, sh9l, sh8t, sh8l, sh7t, sh7l, sh6t, sh6l, sh5t, sh5l, sh4t, sh4l, sh_ints, sh_str, List.all_cons, List.all_nil, List.all_append, List.all_reverse, Bool.and_true, Bool.and_self]; decide +kernel)) only [ev_var, ev_cst, ev_glb, ev_bin, ev_cmp, ev_neg, ev_not, ev_chn, ev_and, ev_or, ev_idx, ev_cut, ev_stp, ev_tup, ev_lst, ev_call, ev_bi, ev_isi, ev_lc, ev_mth, ev_rpl, ev_kin, ev_kget, ev_sst, ev_lss, evs_nil, evs_cons, b1_ok, b2_ok, bs_ok, bcons_ok, band_t, band_f, band_b, bor_t, bor_f, bor_b, b3_ok, dNot_b, dNeg_i, prt_f, prt_t, blc_ok, bit_ok, dTup_ok, dLst_ok, add_ii, sub_ii, mul_l, mul_r, div_ii, mod_ii, add_tt, add_ll, mul_t1i, mul_l1i, lt_ii, le_ii, gt_ii, ge_ii, chn_le, is_bb, isn_bb, is_nn, is_in, isn_nn, isn_in, is_on, isn_on, deq_nn, deq_ni, deq_in, deq_oi, deq_oo, sh_oI, oI_s, oI_n, eq_ok, ne_ok, in_tup, nin_tup, in_lst, nin_lst, sh_int, sh_bl, sh_non, sh_str, sh_ints, deq_ii, deq_bb, deq_ss, deq_tt, deq_ll, deqL_nil, deqL_cons, deqL_nc, deqL_cn, deqL_ints, deqL_pairs, deqL_rows, deq_rr, deq_pp, get_0, get_s, ix_t0, ix_t1, ix_t2, ix_t3, ix_t4, ix_t5, ix_t6, ix_l0, ix_l1, ix_l2, ix_l3, ix_l4, ix_l5, ix_lb, ix_tb, dCut_t, dCut_l, rev_t, rev_l, even_t, odd_t, even_l, odd_l, len_t, len_l, int_b, int_i, tuple_t, tuple_l, list_t, list_l, abs_i, sum_t, sum_l, max_2, min_2, max_3, min_3, all_l, isi_ii, isi_ib, isi_is, isi_it, isi_il, isi_bi, isi_bb, isi_bt, isi_bs, isi_tt, isi_tl, isi_ti, isi_ts, isi_ll, isi_lt, isi_li, isi_ls, isi_ss, isi_si, isi_st, isi_sb, it_t, it_l, it_r1, it_r2, it_et, it_el, it_ztt, it_zll, it_ztl, it_zlt, lcFn_1, lcFn_2, cdR_t, cdR_f, cdR_b, xs_nil, xs_set, xs_own, xs_unp, xs_app, xs_ext, xs_put, kExt_ok, kPut_last, xs_frz, xs_pas, xs_ret, xs_ife, xs_for, kSet_ok, kOwn_ok, kUnp_t, kUnp_l, kApp_ok, kRet_ok, kIf_t, kIf_f, kSeq_n, kSeq_r, kFor_ok, forFn_1, forFn_2, setAll_n, setAll_c, fin_r, fin_n, wipe_n, wipe_c, go_nil, go_cons, kGo_n, kGo_r, List.set_cons_zero, List.set_cons_succ, List.cons_append, List.nil_append, List.length_cons, List.length_nil, List.all_cons, List.all_nil, Bool.and_true, Bool.true_and, Bool.and_false, Bool.false_and, Bool.or_true, Bool.true_or, Bool.or_false, Bool.false_or, Bool.not_true, Bool.not_false, decide_true, decide_false, eq_self, Int.cast_ofNat_Int, beq_self_eq_true, s_far_wide, s_far_turn, s_wide_far, s_wide_turn, s_turn_far, s_turn_wide, List.any_cons, List.any_nil, Int.reduceEq, Int.reduceLT, Int.reduceLE, Int.reduceAdd, Int.reduceSub, Int.reduceMul, Int.reduceNeg, Int.reduceToNat, Bool.decide_eq_true, Bool.false_eq_true, ↓reduceIte, List.length_map, bitsM_len, Nat.zero_add, Nat.reduceAdd, call_cf, hmx, oI]
  · have h2 : decide ((due.length : Int) = (row.length : Int)) = false := decide_eq_false (by omega)
    rw [if_neg hlen]
    simp -implicitDefEqProofs (disch := first | exact sh_int | assumption | omega | (simp -implicitDefEqProofs only [List.length_cons, List.length_nil, List.length_map, List.length_append, List.length_reverse, List.length_take, List.length_drop, List.length_set, List.length_replicate, bitsM_len, bitsL_len]; omega) | (simp -implicitDefEqProofs only [sh_int, sh_oI, sh8_pairs, sh8_rows, sh8_row, sh9_row, sh9_p, sh_bl, sh_non, sh9t, sh9l, sh8t, sh8l, sh7t, sh7l, sh6t, sh6l, sh5t, sh5l, sh4t, sh4l, sh_ints, sh_str, List.all_cons, List.all_nil, List.all_append, List.all_reverse, Bool.and_true, Bool.and_self]; done) | (simp -implicitDefEqProofs only [sh_int, sh_oI, sh8_pairs, sh8_rows, sh8_row, sh9_row, sh9_p, sh_bl, sh_non, sh9t, sh9l, sh8t, sh8l, sh7t, sh7l, sh6t, sh6l, sh5t, sh5l, sh4t, sh4l, sh_ints, sh_str, List.all_cons, List.all_nil, List.all_append, List.all_reverse, Bool.and_true, Bool.and_self]; decide +kernel)) only [ev_var, ev_cst, ev_glb, ev_bin, ev_cmp, ev_neg, ev_not, ev_chn, ev_and, ev_or, ev_idx, ev_cut, ev_stp, ev_tup, ev_lst, ev_call, ev_bi, ev_isi, ev_lc, ev_mth, ev_rpl, ev_kin, ev_kget, ev_sst, ev_lss, evs_nil, evs_cons, b1_ok, b2_ok, bs_ok, bcons_ok, band_t, band_f, band_b, bor_t, bor_f, bor_b, b3_ok, dNot_b, dNeg_i, prt_f, prt_t, blc_ok, bit_ok, dTup_ok, dLst_ok, add_ii, sub_ii, mul_l, mul_r, div_ii, mod_ii, add_tt, add_ll, mul_t1i, mul_l1i, lt_ii, le_ii, gt_ii, ge_ii, chn_le, is_bb, isn_bb, is_nn, is_in, isn_nn, isn_in, is_on, isn_on, deq_nn, deq_ni, deq_in, deq_oi, deq_oo, sh_oI, oI_s, oI_n, eq_ok, ne_ok, in_tup, nin_tup, in_lst, nin_lst, sh_int, sh_bl, sh_non, sh_str, sh_ints, deq_ii, deq_bb, deq_ss, deq_tt, deq_ll, deqL_nil, deqL_cons, deqL_nc, deqL_cn, deqL_ints, deqL_pairs, deqL_rows, deq_rr, deq_pp, get_0, get_s, ix_t0, ix_t1, ix_t2, ix_t3, ix_t4, ix_t5, ix_t6, ix_l0, ix_l1, ix_l2, ix_l3, ix_l4, ix_l5, ix_lb, ix_tb, dCut_t, dCut_l, rev_t, rev_l, even_t, odd_t, even_l, odd_l, len_t, len_l, int_b, int_i, tuple_t, tuple_l, list_t, list_l, abs_i, sum_t, sum_l, max_2, min_2, max_3, min_3, all_l, isi_ii, isi_ib, isi_is, isi_it, isi_il, isi_bi, isi_bb, isi_bt, isi_bs, isi_tt, isi_tl, isi_ti, isi_ts, isi_ll, isi_lt, isi_li, isi_ls, isi_ss, isi_si, isi_st, isi_sb, it_t, it_l, it_r1, it_r2, it_et, it_el, it_ztt, it_zll, it_ztl, it_zlt, lcFn_1, lcFn_2, cdR_t, cdR_f, cdR_b, xs_nil, xs_set, xs_own, xs_unp, xs_app, xs_ext, xs_put, kExt_ok, kPut_last, xs_frz, xs_pas, xs_ret, xs_ife, xs_for, kSet_ok, kOwn_ok, kUnp_t, kUnp_l, kApp_ok, kRet_ok, kIf_t, kIf_f, kSeq_n, kSeq_r, kFor_ok, forFn_1, forFn_2, setAll_n, setAll_c, fin_r, fin_n, wipe_n, wipe_c, go_nil, go_cons, kGo_n, kGo_r, List.set_cons_zero, List.set_cons_succ, List.cons_append, List.nil_append, List.length_cons, List.length_nil, List.all_cons, List.all_nil, Bool.and_true, Bool.true_and, Bool.and_false, Bool.false_and, Bool.or_true, Bool.true_or, Bool.or_false, Bool.false_or, Bool.not_true, Bool.not_false, decide_true, decide_false, eq_self, Int.cast_ofNat_Int, beq_self_eq_true, s_far_wide, s_far_turn, s_wide_far, s_wide_turn, s_turn_far, s_turn_wide, List.any_cons, List.any_nil, Int.reduceEq, Int.reduceLT, Int.reduceLE, Int.reduceAdd, Int.reduceSub, Int.reduceMul, Int.reduceNeg, Int.reduceToNat, Bool.decide_eq_true, Bool.false_eq_true, ↓reduceIte, List.length_map, bitsM_len, Nat.zero_add, Nat.reduceAdd, call_cf, f_off, ef, h2, oI]
theorem r_heard {n : Nat} {way : Str} {head gap unit b slip : Int} {low : Bool} (hw : WayOk way) (hb : 1 ≤ b) (hb2 : b ≤ 1000) (hu : 0 ≤ unit) (hu2 : unit < 1000000) (row : List Int) (hl : row.length ≤ 100000) : run pg (n + 4) "heard" [mkD way head gap unit b low slip, .tup (row.map D.int)] = .ok (oI (heardL way head gap unit b.toNat low slip row)) := by
  rw [run_heard]
  have e1 := r_near (n := n + 1) (way := way) (head := head) (gap := gap) (unit := unit) (b := b) (slip := slip) (low := low) hw (by omega) hb2 row hl
  unfold heardL
  cases hn : nearL way unit b.toNat low row with
  | none =>
    rw [hn] at e1
    simp -implicitDefEqProofs (disch := first | exact sh_int | assumption | omega | (simp -implicitDefEqProofs only [List.length_cons, List.length_nil, List.length_map, List.length_append, List.length_reverse, List.length_take, List.length_drop, List.length_set, List.length_replicate, bitsM_len, bitsL_len]; omega) | (simp -implicitDefEqProofs only [sh_int, sh_oI, sh8_pairs, sh8_rows, sh8_row, sh9_row, sh9_p, sh_bl, sh_non, sh9t, sh9l, sh8t, sh8l, sh7t, sh7l, sh6t, sh6l, sh5t, sh5l, sh4t, sh4l, sh_ints, sh_str, List.all_cons, List.all_nil, List.all_append, List.all_reverse, Bool.and_true, Bool.and_self]; done) | (simp -implicitDefEqProofs only [sh_int, sh_oI, sh8_pairs, sh8_rows, sh8_row, sh9_row, sh9_p, sh_bl, sh_non, sh9t, sh9l, sh8t, sh8l, sh7t, sh7l, sh6t, sh6l, sh5t, sh5l, sh4t, sh4l, sh_ints, sh_str, List.all_cons, List.all_nil, List.all_append, List.all_reverse, Bool.and_true, Bool.and_self]; decide +kernel)) only [ev_var, ev_cst, ev_glb, ev_bin, ev_cmp, ev_neg, ev_not, ev_chn, ev_and, ev_or, ev_idx, ev_cut, ev_stp, ev_tup, ev_lst, ev_call, ev_bi, ev_isi, ev_lc, ev_mth, ev_rpl, ev_kin, ev_kget, ev_sst, ev_lss, evs_nil, evs_cons, b1_ok, b2_ok, bs_ok, bcons_ok, band_t, band_f, band_b, bor_t, bor_f, bor_b, b3_ok, dNot_b, dNeg_i, prt_f, prt_t, blc_ok, bit_ok, dTup_ok, dLst_ok, add_ii, sub_ii, mul_l, mul_r, div_ii, mod_ii, add_tt, add_ll, mul_t1i, mul_l1i, lt_ii, le_ii, gt_ii, ge_ii, chn_le, is_bb, isn_bb, is_nn, is_in, isn_nn, isn_in, is_on, isn_on, deq_nn, deq_ni, deq_in, deq_oi, deq_oo, sh_oI, oI_s, oI_n, eq_ok, ne_ok, in_tup, nin_tup, in_lst, nin_lst, sh_int, sh_bl, sh_non, sh_str, sh_ints, deq_ii, deq_bb, deq_ss, deq_tt, deq_ll, deqL_nil, deqL_cons, deqL_nc, deqL_cn, deqL_ints, deqL_pairs, deqL_rows, deq_rr, deq_pp, get_0, get_s, ix_t0, ix_t1, ix_t2, ix_t3, ix_t4, ix_t5, ix_t6, ix_l0, ix_l1, ix_l2, ix_l3, ix_l4, ix_l5, ix_lb, ix_tb, dCut_t, dCut_l, rev_t, rev_l, even_t, odd_t, even_l, odd_l, len_t, len_l, int_b, int_i, tuple_t, tuple_l, list_t, list_l, abs_i, sum_t, sum_l, max_2, min_2, max_3, min_3, all_l, isi_ii, isi_ib, isi_is, isi_it, isi_il, isi_bi, isi_bb, isi_bt, isi_bs, isi_tt, isi_tl, isi_ti, isi_ts, isi_ll, isi_lt, isi_li, isi_ls, isi_ss, isi_si, isi_st, isi_sb, it_t, it_l, it_r1, it_r2, it_et, it_el, it_ztt, it_zll, it_ztl, it_zlt, lcFn_1, lcFn_2, cdR_t, cdR_f, cdR_b, xs_nil, xs_set, xs_own, xs_unp, xs_app, xs_ext, xs_put, kExt_ok, kPut_last, xs_frz, xs_pas, xs_ret, xs_ife, xs_for, kSet_ok, kOwn_ok, kUnp_t, kUnp_l, kApp_ok, kRet_ok, kIf_t, kIf_f, kSeq_n, kSeq_r, kFor_ok, forFn_1, forFn_2, setAll_n, setAll_c, fin_r, fin_n, wipe_n, wipe_c, go_nil, go_cons, kGo_n, kGo_r, List.set_cons_zero, List.set_cons_succ, List.cons_append, List.nil_append, List.length_cons, List.length_nil, List.all_cons, List.all_nil, Bool.and_true, Bool.true_and, Bool.and_false, Bool.false_and, Bool.or_true, Bool.true_or, Bool.or_false, Bool.false_or, Bool.not_true, Bool.not_false, decide_true, decide_false, eq_self, Int.cast_ofNat_Int, beq_self_eq_true, s_far_wide, s_far_turn, s_wide_far, s_wide_turn, s_turn_far, s_turn_wide, List.any_cons, List.any_nil, Int.reduceEq, Int.reduceLT, Int.reduceLE, Int.reduceAdd, Int.reduceSub, Int.reduceMul, Int.reduceNeg, Int.reduceToNat, Bool.decide_eq_true, Bool.false_eq_true, ↓reduceIte, List.length_map, bitsM_len, Nat.zero_add, Nat.reduceAdd, call_cf, f_heard, e1, oI, is_nn]
  | some x =>
    rw [hn] at e1
    have e2 := r_off (n := n) (way := way) (head := head) (gap := gap) (unit := unit) (b := b) (slip := slip) (x := x) (low := low) hw hb hb2 hu hu2 row hl
    dsimp only
    cases ho : offL (flashL way head gap unit (bitsM low b.toNat x)) row with
    | none =>
      rw [ho] at e2
      simp -implicitDefEqProofs (disch := first | exact sh_int | assumption | omega | (simp -implicitDefEqProofs only [List.length_cons, List.length_nil, List.length_map, List.length_append, List.length_reverse, List.length_take, List.length_drop, List.length_set, List.length_replicate, bitsM_len, bitsL_len]; omega) | (simp -implicitDefEqProofs only [sh_int, sh_oI, sh8_pairs, sh8_rows, sh8_row, sh9_row, sh9_p, sh_bl, sh_non, sh9t, sh9l, sh8t, sh8l, sh7t, sh7l, sh6t, sh6l, sh5t, sh5l, sh4t, sh4l, sh_ints, sh_str, List.all_cons, List.all_nil, List.all_append, List.all_reverse, Bool.and_true, Bool.and_self]; done) | (simp -implicitDefEqProofs only [sh_int, sh_oI, sh8_pairs, sh8_rows, sh8_row, sh9_row, sh9_p, sh_bl, sh_non, sh9t, sh9l, sh8t, sh8l, sh7t, sh7l, sh6t, sh6l, sh5t, sh5l, sh4t, sh4l, sh_ints, sh_str, List.all_cons, List.all_nil, List.all_append, List.all_reverse, Bool.and_true, Bool.and_self]; decide +kernel)) only [ev_var, ev_cst, ev_glb, ev_bin, ev_cmp, ev_neg, ev_not, ev_chn, ev_and, ev_or, ev_idx, ev_cut, ev_stp, ev_tup, ev_lst, ev_call, ev_bi, ev_isi, ev_lc, ev_mth, ev_rpl, ev_kin, ev_kget, ev_sst, ev_lss, evs_nil, evs_cons, b1_ok, b2_ok, bs_ok, bcons_ok, band_t, band_f, band_b, bor_t, bor_f, bor_b, b3_ok, dNot_b, dNeg_i, prt_f, prt_t, blc_ok, bit_ok, dTup_ok, dLst_ok, add_ii, sub_ii, mul_l, mul_r, div_ii, mod_ii, add_tt, add_ll, mul_t1i, mul_l1i, lt_ii, le_ii, gt_ii, ge_ii, chn_le, is_bb, isn_bb, is_nn, is_in, isn_nn, isn_in, is_on, isn_on, deq_nn, deq_ni, deq_in, deq_oi, deq_oo, sh_oI, oI_s, oI_n, eq_ok, ne_ok, in_tup, nin_tup, in_lst, nin_lst, sh_int, sh_bl, sh_non, sh_str, sh_ints, deq_ii, deq_bb, deq_ss, deq_tt, deq_ll, deqL_nil, deqL_cons, deqL_nc, deqL_cn, deqL_ints, deqL_pairs, deqL_rows, deq_rr, deq_pp, get_0, get_s, ix_t0, ix_t1, ix_t2, ix_t3, ix_t4, ix_t5, ix_t6, ix_l0, ix_l1, ix_l2, ix_l3, ix_l4, ix_l5, ix_lb, ix_tb, dCut_t, dCut_l, rev_t, rev_l, even_t, odd_t, even_l, odd_l, len_t, len_l, int_b, int_i, tuple_t, tuple_l, list_t, list_l, abs_i, sum_t, sum_l, max_2, min_2, max_3, min_3, all_l, isi_ii, isi_ib, isi_is, isi_it, isi_il, isi_bi, isi_bb, isi_bt, isi_bs, isi_tt, isi_tl, isi_ti, isi_ts, isi_ll, isi_lt, isi_li, isi_ls, isi_ss, isi_si, isi_st, isi_sb, it_t, it_l, it_r1, it_r2, it_et, it_el, it_ztt, it_zll, it_ztl, it_zlt, lcFn_1, lcFn_2, cdR_t, cdR_f, cdR_b, xs_nil, xs_set, xs_own, xs_unp, xs_app, xs_ext, xs_put, kExt_ok, kPut_last, xs_frz, xs_pas, xs_ret, xs_ife, xs_for, kSet_ok, kOwn_ok, kUnp_t, kUnp_l, kApp_ok, kRet_ok, kIf_t, kIf_f, kSeq_n, kSeq_r, kFor_ok, forFn_1, forFn_2, setAll_n, setAll_c, fin_r, fin_n, wipe_n, wipe_c, go_nil, go_cons, kGo_n, kGo_r, List.set_cons_zero, List.set_cons_succ, List.cons_append, List.nil_append, List.length_cons, List.length_nil, List.all_cons, List.all_nil, Bool.and_true, Bool.true_and, Bool.and_false, Bool.false_and, Bool.or_true, Bool.true_or, Bool.or_false, Bool.false_or, Bool.not_true, Bool.not_false, decide_true, decide_false, eq_self, Int.cast_ofNat_Int, beq_self_eq_true, s_far_wide, s_far_turn, s_wide_far, s_wide_turn, s_turn_far, s_turn_wide, List.any_cons, List.any_nil, Int.reduceEq, Int.reduceLT, Int.reduceLE, Int.reduceAdd, Int.reduceSub, Int.reduceMul, Int.reduceNeg, Int.reduceToNat, Bool.decide_eq_true, Bool.false_eq_true, ↓reduceIte, List.length_map, bitsM_len, Nat.zero_add, Nat.reduceAdd, call_cf, f_heard, e1, e2, oI, is_nn, is_in]
    | some m =>
      rw [ho] at e2
      dsimp only
      by_cases hm : slip < m
      · have h3 : decide (slip < m) = true := decide_eq_true hm
        simp -implicitDefEqProofs (disch := first | exact sh_int | assumption | omega | (simp -implicitDefEqProofs only [List.length_cons, List.length_nil, List.length_map, List.length_append, List.length_reverse, List.length_take, List.length_drop, List.length_set, List.length_replicate, bitsM_len, bitsL_len]; omega) | (simp -implicitDefEqProofs only [sh_int, sh_oI, sh8_pairs, sh8_rows, sh8_row, sh9_row, sh9_p, sh_bl, sh_non, sh9t, sh9l, sh8t, sh8l, sh7t, sh7l, sh6t, sh6l, sh5t, sh5l, sh4t, sh4l, sh_ints, sh_str, List.all_cons, List.all_nil, List.all_append, List.all_reverse, Bool.and_true, Bool.and_self]; done) | (simp -implicitDefEqProofs only [sh_int, sh_oI, sh8_pairs, sh8_rows, sh8_row, sh9_row, sh9_p, sh_bl, sh_non, sh9t, sh9l, sh8t, sh8l, sh7t, sh7l, sh6t, sh6l, sh5t, sh5l, sh4t, sh4l, sh_ints, sh_str, List.all_cons, List.all_nil, List.all_append, List.all_reverse, Bool.and_true, Bool.and_self]; decide +kernel)) only [ev_var, ev_cst, ev_glb, ev_bin, ev_cmp, ev_neg, ev_not, ev_chn, ev_and, ev_or, ev_idx, ev_cut, ev_stp, ev_tup, ev_lst, ev_call, ev_bi, ev_isi, ev_lc, ev_mth, ev_rpl, ev_kin, ev_kget, ev_sst, ev_lss, evs_nil, evs_cons, b1_ok, b2_ok, bs_ok, bcons_ok, band_t, band_f, band_b, bor_t, bor_f, bor_b, b3_ok, dNot_b, dNeg_i, prt_f, prt_t, blc_ok, bit_ok, dTup_ok, dLst_ok, add_ii, sub_ii, mul_l, mul_r, div_ii, mod_ii, add_tt, add_ll, mul_t1i, mul_l1i, lt_ii, le_ii, gt_ii, ge_ii, chn_le, is_bb, isn_bb, is_nn, is_in, isn_nn, isn_in, is_on, isn_on, deq_nn, deq_ni, deq_in, deq_oi, deq_oo, sh_oI, oI_s, oI_n, eq_ok, ne_ok, in_tup, nin_tup, in_lst, nin_lst, sh_int, sh_bl, sh_non, sh_str, sh_ints, deq_ii, deq_bb, deq_ss, deq_tt, deq_ll, deqL_nil, deqL_cons, deqL_nc, deqL_cn, deqL_ints, deqL_pairs, deqL_rows, deq_rr, deq_pp, get_0, get_s, ix_t0, ix_t1, ix_t2, ix_t3, ix_t4, ix_t5, ix_t6, ix_l0, ix_l1, ix_l2, ix_l3, ix_l4, ix_l5, ix_lb, ix_tb, dCut_t, dCut_l, rev_t, rev_l, even_t, odd_t, even_l, odd_l, len_t, len_l, int_b, int_i, tuple_t, tuple_l, list_t, list_l, abs_i, sum_t, sum_l, max_2, min_2, max_3, min_3, all_l, isi_ii, isi_ib, isi_is, isi_it, isi_il, isi_bi, isi_bb, isi_bt, isi_bs, isi_tt, isi_tl, isi_ti, isi_ts, isi_ll, isi_lt, isi_li, isi_ls, isi_ss, isi_si, isi_st, isi_sb, it_t, it_l, it_r1, it_r2, it_et, it_el, it_ztt, it_zll, it_ztl, it_zlt, lcFn_1, lcFn_2, cdR_t, cdR_f, cdR_b, xs_nil, xs_set, xs_own, xs_unp, xs_app, xs_ext, xs_put, kExt_ok, kPut_last, xs_frz, xs_pas, xs_ret, xs_ife, xs_for, kSet_ok, kOwn_ok, kUnp_t, kUnp_l, kApp_ok, kRet_ok, kIf_t, kIf_f, kSeq_n, kSeq_r, kFor_ok, forFn_1, forFn_2, setAll_n, setAll_c, fin_r, fin_n, wipe_n, wipe_c, go_nil, go_cons, kGo_n, kGo_r, List.set_cons_zero, List.set_cons_succ, List.cons_append, List.nil_append, List.length_cons, List.length_nil, List.all_cons, List.all_nil, Bool.and_true, Bool.true_and, Bool.and_false, Bool.false_and, Bool.or_true, Bool.true_or, Bool.or_false, Bool.false_or, Bool.not_true, Bool.not_false, decide_true, decide_false, eq_self, Int.cast_ofNat_Int, beq_self_eq_true, s_far_wide, s_far_turn, s_wide_far, s_wide_turn, s_turn_far, s_turn_wide, List.any_cons, List.any_nil, Int.reduceEq, Int.reduceLT, Int.reduceLE, Int.reduceAdd, Int.reduceSub, Int.reduceMul, Int.reduceNeg, Int.reduceToNat, Bool.decide_eq_true, Bool.false_eq_true, ↓reduceIte, List.length_map, bitsM_len, Nat.zero_add, Nat.reduceAdd, call_cf, f_heard, e1, e2, oI, is_nn, is_in, mk_6, h3, hm]
      · have h3 : decide (slip < m) = false := decide_eq_false hm
        simp -implicitDefEqProofs (disch := first | exact sh_int | assumption | omega | (simp -implicitDefEqProofs only [List.length_cons, List.length_nil, List.length_map, List.length_append, List.length_reverse, List.length_take, List.length_drop, List.length_set, List.length_replicate, bitsM_len, bitsL_len]; omega) | (simp -implicitDefEqProofs only [sh_int, sh_oI, sh8_pairs, sh8_rows, sh8_row, sh9_row, sh9_p, sh_bl, sh_non, sh9t, sh9l, sh8t, sh8l, sh7t, sh7l, sh6t, sh6l, sh5t, sh5l, sh4t, sh4l, sh_ints, sh_str, List.all_cons, List.all_nil, List.all_append, List.all_reverse, Bool.and_true, Bool.and_self]; done) | (simp -implicitDefEqProofs only [sh_int, sh_oI, sh8_pairs, sh8_rows, sh8_row, sh9_row, sh9_p, sh_bl, sh_non, sh9t, sh9l, sh8t, sh8l, sh7t, sh7l, sh6t, sh6l, sh5t, sh5l, sh4t, sh4l, sh_ints, sh_str, List.all_cons, List.all_nil, List.all_append, List.all_reverse, Bool.and_true, Bool.and_self]; decide +kernel)) only [ev_var, ev_cst, ev_glb, ev_bin, ev_cmp, ev_neg, ev_not, ev_chn, ev_and, ev_or, ev_idx, ev_cut, ev_stp, ev_tup, ev_lst, ev_call, ev_bi, ev_isi, ev_lc, ev_mth, ev_rpl, ev_kin, ev_kget, ev_sst, ev_lss, evs_nil, evs_cons, b1_ok, b2_ok, bs_ok, bcons_ok, band_t, band_f, band_b, bor_t, bor_f, bor_b, b3_ok, dNot_b, dNeg_i, prt_f, prt_t, blc_ok, bit_ok, dTup_ok, dLst_ok, add_ii, sub_ii, mul_l, mul_r, div_ii, mod_ii, add_tt, add_ll, mul_t1i, mul_l1i, lt_ii, le_ii, gt_ii, ge_ii, chn_le, is_bb, isn_bb, is_nn, is_in, isn_nn, isn_in, is_on, isn_on, deq_nn, deq_ni, deq_in, deq_oi, deq_oo, sh_oI, oI_s, oI_n, eq_ok, ne_ok, in_tup, nin_tup, in_lst, nin_lst, sh_int, sh_bl, sh_non, sh_str, sh_ints, deq_ii, deq_bb, deq_ss, deq_tt, deq_ll, deqL_nil, deqL_cons, deqL_nc, deqL_cn, deqL_ints, deqL_pairs, deqL_rows, deq_rr, deq_pp, get_0, get_s, ix_t0, ix_t1, ix_t2, ix_t3, ix_t4, ix_t5, ix_t6, ix_l0, ix_l1, ix_l2, ix_l3, ix_l4, ix_l5, ix_lb, ix_tb, dCut_t, dCut_l, rev_t, rev_l, even_t, odd_t, even_l, odd_l, len_t, len_l, int_b, int_i, tuple_t, tuple_l, list_t, list_l, abs_i, sum_t, sum_l, max_2, min_2, max_3, min_3, all_l, isi_ii, isi_ib, isi_is, isi_it, isi_il, isi_bi, isi_bb, isi_bt, isi_bs, isi_tt, isi_tl, isi_ti, isi_ts, isi_ll, isi_lt, isi_li, isi_ls, isi_ss, isi_si, isi_st, isi_sb, it_t, it_l, it_r1, it_r2, it_et, it_el, it_ztt, it_zll, it_ztl, it_zlt, lcFn_1, lcFn_2, cdR_t, cdR_f, cdR_b, xs_nil, xs_set, xs_own, xs_unp, xs_app, xs_ext, xs_put, kExt_ok, kPut_last, xs_frz, xs_pas, xs_ret, xs_ife, xs_for, kSet_ok, kOwn_ok, kUnp_t, kUnp_l, kApp_ok, kRet_ok, kIf_t, kIf_f, kSeq_n, kSeq_r, kFor_ok, forFn_1, forFn_2, setAll_n, setAll_c, fin_r, fin_n, wipe_n, wipe_c, go_nil, go_cons, kGo_n, kGo_r, List.set_cons_zero, List.set_cons_succ, List.cons_append, List.nil_append, List.length_cons, List.length_nil, List.all_cons, List.all_nil, Bool.and_true, Bool.true_and, Bool.and_false, Bool.false_and, Bool.or_true, Bool.true_or, Bool.or_false, Bool.false_or, Bool.not_true, Bool.not_false, decide_true, decide_false, eq_self, Int.cast_ofNat_Int, beq_self_eq_true, s_far_wide, s_far_turn, s_wide_far, s_wide_turn, s_turn_far, s_turn_wide, List.any_cons, List.any_nil, Int.reduceEq, Int.reduceLT, Int.reduceLE, Int.reduceAdd, Int.reduceSub, Int.reduceMul, Int.reduceNeg, Int.reduceToNat, Bool.decide_eq_true, Bool.false_eq_true, ↓reduceIte, List.length_map, bitsM_len, Nat.zero_add, Nat.reduceAdd, call_cf, f_heard, e1, e2, oI, is_nn, is_in, mk_6, h3, hm]
theorem law_true (ns : List Int) (h : ns.length ≤ 63) : run pg 7 "law" [.lst (ns.map D.int)] = .ok (.bl true) := by
  obtain ⟨m0, e0, a0, b0⟩ := r_mixed (n := 4) ns 0 (by decide) (by decide)
  obtain ⟨m1, e1, a1, b1⟩ := r_mixed (n := 4) ns 1 (by decide) (by decide)
  obtain ⟨way, head, gap, unit, b, low, slip, em, ok⟩ := r_maker (n := 4) m0 7 a0 (by decide)
  have hb1 := ok.bits1
  have hb2 := ok.bits2
  have hu1 := ok.unit1
  have hu2 := ok.unit2
  have hw := ok.way
  have hs0 := ok.slip0
  have hsu := ok.slipu
  obtain ⟨p1, p2⟩ := pow_bits hb1 (by omega)
  have hx1 := Int.emod_nonneg m1 (show (2 : Int) ^ b.toNat ≠ 0 by omega)
  have hx2 := Int.emod_lt_of_pos m1 (show (0 : Int) < 2 ^ b.toNat by omega)
  have hbl : ((b.toNat : Nat) : Int) = b := by omega
  have p128 : 2 ^ b.toNat ≤ 128 := Nat.le_trans (Nat.pow_le_pow_right (by decide) (show b.toNat ≤ 7 by omega)) (by decide)
  have eC : ∀ lw : Bool, run pg 6 "_law_count" [mkD way head gap unit b lw slip] = .ok (.int (2 ^ b.toNat)) := fun lw => by
    rw [r_count] <;> first | rfl | omega
  have eF : ∀ (lw : Bool) (y : Int), run pg 6 "flashes" [mkD way head gap unit b lw slip, .int y] = .ok (rowD (flashL way head gap unit (bitsM lw b.toNat y))) := fun lw y => r_flash (n := 4) hw hb1 (by omega) (by omega) (by omega)
  have eL : ∀ lw : Bool, run pg 6 "longest" [mkD way head gap unit b lw slip] = .ok (.int (longL way head gap unit b.toNat)) := fun lw => r_longest (n := 5) hw hb1 (by omega) (by omega) (by omega)
  have eH : ∀ (lw : Bool) (y : Int), 0 ≤ y → y < 2 ^ b.toNat → run pg 6 "heard" [mkD way head gap unit b lw slip, rowD (flashL way head gap unit (bitsM lw b.toNat y))] = .ok (.int y) := fun lw y h1 h2 => by
    have := flash_len way head gap unit (bitsM lw b.toNat y)
    rw [bitsM_len] at this
    have e := r_heard (n := 2) (low := lw) (slip := slip) (head := head) (gap := gap) (unit := unit) hw hb1 (by omega) (by omega) (by omega) (flashL way head gap unit (bitsM lw b.toNat y)) (by omega)
    rw [(heard_iff hsu hs0).mpr ⟨⟨h1, h2⟩, near_self hs0 _⟩] at e
    exact e
  have eB : ∀ y : Int, run pg 6 "bits_of" [mkD way head gap unit b low slip, .int y] = .ok (.tup ((bitsM low b.toNat y).map D.int)) := fun y => r_bits (n := 5) (by omega) (by omega)
  have eN : ∀ bs : List Int, bs.length ≤ 1000 → run pg 6 "number_of" [mkD way head gap unit b (!low) slip, .tup (bs.map D.int)] = .ok (.int (numM (!low) bs)) := fun bs hl => r_number (n := 5) bs hl
  rw [run_law]
  simp -implicitDefEqProofs (disch := first | exact sh_int | assumption | omega | (simp -implicitDefEqProofs only [List.length_cons, List.length_nil, List.length_map, List.length_append, List.length_reverse, List.length_take, List.length_drop, List.length_set, List.length_replicate, bitsM_len, bitsL_len]; omega) | (simp -implicitDefEqProofs only [sh_int, sh_oI, sh8_pairs, sh8_rows, sh8_row, sh9_row, sh9_p, sh_bl, sh_non, sh9t, sh9l, sh8t, sh8l, sh7t, sh7l, sh6t, sh6l, sh5t, sh5l, sh4t, sh4l, sh_ints, sh_str, List.all_cons, List.all_nil, List.all_append, List.all_reverse, Bool.and_true, Bool.and_self]; done) | (simp -implicitDefEqProofs only [sh_int, sh_oI, sh8_pairs, sh8_rows, sh8_row, sh9_row, sh9_p, sh_bl, sh_non, sh9t, sh9l, sh8t, sh8l, sh7t, sh7l, sh6t, sh6l, sh5t, sh5l, sh4t, sh4l, sh_ints, sh_str, List.all_cons, List.all_nil, List.all_append, List.all_reverse, Bool.and_true, Bool.and_self]; decide +kernel)) only [ev_var, ev_cst, ev_glb, ev_bin, ev_cmp, ev_neg, ev_not, ev_chn, ev_and, ev_or, ev_idx, ev_cut, ev_stp, ev_tup, ev_lst, ev_call, ev_bi, ev_isi, ev_lc, ev_mth, ev_rpl, ev_kin, ev_kget, ev_sst, ev_lss, evs_nil, evs_cons, b1_ok, b2_ok, bs_ok, bcons_ok, band_t, band_f, band_b, bor_t, bor_f, bor_b, b3_ok, dNot_b, dNeg_i, prt_f, prt_t, blc_ok, bit_ok, dTup_ok, dLst_ok, add_ii, sub_ii, mul_l, mul_r, div_ii, mod_ii, add_tt, add_ll, mul_t1i, mul_l1i, lt_ii, le_ii, gt_ii, ge_ii, chn_le, is_bb, isn_bb, is_nn, is_in, isn_nn, isn_in, is_on, isn_on, deq_nn, deq_ni, deq_in, deq_oi, deq_oo, sh_oI, oI_s, oI_n, eq_ok, ne_ok, in_tup, nin_tup, in_lst, nin_lst, sh_int, sh_bl, sh_non, sh_str, sh_ints, deq_ii, deq_bb, deq_ss, deq_tt, deq_ll, deqL_nil, deqL_cons, deqL_nc, deqL_cn, deqL_ints, deqL_pairs, deqL_rows, deq_rr, deq_pp, get_0, get_s, ix_t0, ix_t1, ix_t2, ix_t3, ix_t4, ix_t5, ix_t6, ix_l0, ix_l1, ix_l2, ix_l3, ix_l4, ix_l5, ix_lb, ix_tb, dCut_t, dCut_l, rev_t, rev_l, even_t, odd_t, even_l, odd_l, len_t, len_l, int_b, int_i, tuple_t, tuple_l, list_t, list_l, abs_i, sum_t, sum_l, max_2, min_2, max_3, min_3, all_l, isi_ii, isi_ib, isi_is, isi_it, isi_il, isi_bi, isi_bb, isi_bt, isi_bs, isi_tt, isi_tl, isi_ti, isi_ts, isi_ll, isi_lt, isi_li, isi_ls, isi_ss, isi_si, isi_st, isi_sb, it_t, it_l, it_r1, it_r2, it_et, it_el, it_ztt, it_zll, it_ztl, it_zlt, lcFn_1, lcFn_2, cdR_t, cdR_f, cdR_b, xs_nil, xs_set, xs_own, xs_unp, xs_app, xs_ext, xs_put, kExt_ok, kPut_last, xs_frz, xs_pas, xs_ret, xs_ife, xs_for, kSet_ok, kOwn_ok, kUnp_t, kUnp_l, kApp_ok, kRet_ok, kIf_t, kIf_f, kSeq_n, kSeq_r, kFor_ok, forFn_1, forFn_2, setAll_n, setAll_c, fin_r, fin_n, wipe_n, wipe_c, kGo_n, kGo_r, List.set_cons_zero, List.set_cons_succ, List.cons_append, List.nil_append, List.length_cons, List.length_nil, List.all_cons, List.all_nil, Bool.and_true, Bool.true_and, Bool.and_false, Bool.false_and, Bool.or_true, Bool.true_or, Bool.or_false, Bool.false_or, Bool.not_true, Bool.not_false, decide_true, decide_false, eq_self, Int.cast_ofNat_Int, beq_self_eq_true, s_far_wide, s_far_turn, s_wide_far, s_wide_turn, s_turn_far, s_turn_wide, List.any_cons, List.any_nil, Int.reduceEq, Int.reduceLT, Int.reduceLE, Int.reduceAdd, Int.reduceSub, Int.reduceMul, Int.reduceNeg, Int.reduceToNat, Bool.decide_eq_true, Bool.false_eq_true, ↓reduceIte, List.length_map, bitsM_len, Nat.zero_add, Nat.reduceAdd, call_cf, f_law, e0, em, e1, mk_c5, mk_d6, mk_5, mk_fold, eC, eB]
  generalize m1 % 2 ^ b.toNat = x at hx1 hx2 ⊢
  have h01 := bitsM_01 low b.toNat x
  have hbl2 := bitsM_len low b.toNat x
  obtain ⟨t1, t2, t3⟩ := bitsM_numM (!low) (bitsM low b.toNat x) h01
  rw [hbl2] at t1 t3
  rw [eN _ (by omega)]
  generalize numM (!low) (bitsM low b.toNat x) = t at t1 t2 t3
  have eFl := eF low
  have eF2 := eF (!low) t
  have eH2 := eH (!low) t t2 t3
  rw [t1] at eF2 eH2
  have eH1 := eH low x hx1 hx2
  have hne := fun r => ne_same (sh9_row r)
  have hni : ∀ i : Int, dCmp .NotEq (.int i) (.int i) = .ok (.bl false) := fun i => ne_same rfl
  have hgo : ∀ d ∈ (allR way head gap unit low b.toNat).map rowD, ∃ bs : List Int, d = rowD (flashL way head gap unit bs) ∧ bs.length = b.toNat ∧ (∀ b ∈ bs, b = 0 ∨ b = 1) ∧ bs ≠ [] := fun d hd => by
    obtain ⟨r, hr, rfl⟩ := List.mem_map.mp hd
    obtain ⟨bs, rfl, hl, h2⟩ := allR_mem hr
    exact ⟨bs, rfl, hl, h2, fun z => by rw [z, List.length_nil] at hl; omega⟩
  simp -implicitDefEqProofs (disch := first | exact sh_int | assumption | omega | (simp -implicitDefEqProofs only [List.length_cons, List.length_nil, List.length_map, List.length_append, List.length_reverse, List.length_take, List.length_drop, List.length_set, List.length_replicate, bitsM_len, bitsL_len]; omega) | (simp -implicitDefEqProofs only [sh_int, sh_oI, sh8_pairs, sh8_rows, sh8_row, sh9_row, sh9_p, sh_bl, sh_non, sh9t, sh9l, sh8t, sh8l, sh7t, sh7l, sh6t, sh6l, sh5t, sh5l, sh4t, sh4l, sh_ints, sh_str, List.all_cons, List.all_nil, List.all_append, List.all_reverse, Bool.and_true, Bool.and_self]; done) | (simp -implicitDefEqProofs only [sh_int, sh_oI, sh8_pairs, sh8_rows, sh8_row, sh9_row, sh9_p, sh_bl, sh_non, sh9t, sh9l, sh8t, sh8l, sh7t, sh7l, sh6t, sh6l, sh5t, sh5l, sh4t, sh4l, sh_ints, sh_str, List.all_cons, List.all_nil, List.all_append, List.all_reverse, Bool.and_true, Bool.and_self]; decide +kernel)) only [ev_var, ev_cst, ev_glb, ev_bin, ev_cmp, ev_neg, ev_not, ev_chn, ev_and, ev_or, ev_idx, ev_cut, ev_stp, ev_tup, ev_lst, ev_call, ev_bi, ev_isi, ev_lc, ev_mth, ev_rpl, ev_kin, ev_kget, ev_sst, ev_lss, evs_nil, evs_cons, b1_ok, b2_ok, bs_ok, bcons_ok, band_t, band_f, band_b, bor_t, bor_f, bor_b, b3_ok, dNot_b, dNeg_i, prt_f, prt_t, blc_ok, bit_ok, dTup_ok, dLst_ok, add_ii, sub_ii, mul_l, mul_r, div_ii, mod_ii, add_tt, add_ll, mul_t1i, mul_l1i, lt_ii, le_ii, gt_ii, ge_ii, chn_le, is_bb, isn_bb, is_nn, is_in, isn_nn, isn_in, is_on, isn_on, deq_nn, deq_ni, deq_in, deq_oi, deq_oo, sh_oI, oI_s, oI_n, eq_ok, ne_ok, in_tup, nin_tup, in_lst, nin_lst, sh_int, sh_bl, sh_non, sh_str, sh_ints, deq_ii, deq_bb, deq_ss, deq_tt, deq_ll, deqL_nil, deqL_cons, deqL_nc, deqL_cn, deqL_ints, deqL_pairs, deqL_rows, deq_rr, deq_pp, get_0, get_s, ix_t0, ix_t1, ix_t2, ix_t3, ix_t4, ix_t5, ix_t6, ix_l0, ix_l1, ix_l2, ix_l3, ix_l4, ix_l5, ix_lb, ix_tb, dCut_t, dCut_l, rev_t, rev_l, even_t, odd_t, even_l, odd_l, len_t, len_l, int_b, int_i, tuple_t, tuple_l, list_t, list_l, abs_i, sum_t, sum_l, max_2, min_2, max_3, min_3, all_l, isi_ii, isi_ib, isi_is, isi_it, isi_il, isi_bi, isi_bb, isi_bt, isi_bs, isi_tt, isi_tl, isi_ti, isi_ts, isi_ll, isi_lt, isi_li, isi_ls, isi_ss, isi_si, isi_st, isi_sb, it_t, it_l, it_r1, it_r2, it_et, it_el, it_ztt, it_zll, it_ztl, it_zlt, lcFn_1, lcFn_2, cdR_t, cdR_f, cdR_b, xs_nil, xs_set, xs_own, xs_unp, xs_app, xs_ext, xs_put, kExt_ok, kPut_last, xs_frz, xs_pas, xs_ret, xs_ife, xs_for, kSet_ok, kOwn_ok, kUnp_t, kUnp_l, kApp_ok, kRet_ok, kIf_t, kIf_f, kSeq_n, kSeq_r, kFor_ok, forFn_1, forFn_2, setAll_n, setAll_c, fin_r, fin_n, wipe_n, wipe_c, kGo_n, kGo_r, List.set_cons_zero, List.set_cons_succ, List.cons_append, List.nil_append, List.length_cons, List.length_nil, List.all_cons, List.all_nil, Bool.and_true, Bool.true_and, Bool.and_false, Bool.false_and, Bool.or_true, Bool.true_or, Bool.or_false, Bool.false_or, Bool.not_true, Bool.not_false, decide_true, decide_false, eq_self, Int.cast_ofNat_Int, beq_self_eq_true, s_far_wide, s_far_turn, s_wide_far, s_wide_turn, s_turn_far, s_turn_wide, List.any_cons, List.any_nil, Int.reduceEq, Int.reduceLT, Int.reduceLE, Int.reduceAdd, Int.reduceSub, Int.reduceMul, Int.reduceNeg, Int.reduceToNat, Bool.decide_eq_true, Bool.false_eq_true, ↓reduceIte, List.length_map, bitsM_len, Nat.zero_add, Nat.reduceAdd, call_cf, eFl, eF2, eH1, eH2, hne, hni, eC]
  rw [lcS_map (dN fun i => rowD (flashL way head gap unit (bitsM low b.toNat i))) (by rw [rgL_len]; omega) (fun d hd => by
    obtain ⟨i, hi, rfl⟩ := rgL_mem hd
    have z : ((0 : Int) + (i : Int)).toNat = i := by omega
    simp -implicitDefEqProofs (disch := first | exact sh_int | assumption | omega | (simp -implicitDefEqProofs only [List.length_cons, List.length_nil, List.length_map, List.length_append, List.length_reverse, List.length_take, List.length_drop, List.length_set, List.length_replicate, bitsM_len, bitsL_len]; omega) | (simp -implicitDefEqProofs only [sh_int, sh_oI, sh8_pairs, sh8_rows, sh8_row, sh9_row, sh9_p, sh_bl, sh_non, sh9t, sh9l, sh8t, sh8l, sh7t, sh7l, sh6t, sh6l, sh5t, sh5l, sh4t, sh4l, sh_ints, sh_str, List.all_cons, List.all_nil, List.all_append, List.all_reverse, Bool.and_true, Bool.and_self]; done) | (simp -implicitDefEqProofs only [sh_int, sh_oI, sh8_pairs, sh8_rows, sh8_row, sh9_row, sh9_p, sh_bl, sh_non, sh9t, sh9l, sh8t, sh8l, sh7t, sh7l, sh6t, sh6l, sh5t, sh5l, sh4t, sh4l, sh_ints, sh_str, List.all_cons, List.all_nil, List.all_append, List.all_reverse, Bool.and_true, Bool.and_self]; decide +kernel)) only [ev_var, ev_cst, ev_glb, ev_bin, ev_cmp, ev_neg, ev_not, ev_chn, ev_and, ev_or, ev_idx, ev_cut, ev_stp, ev_tup, ev_lst, ev_call, ev_bi, ev_isi, ev_lc, ev_mth, ev_rpl, ev_kin, ev_kget, ev_sst, ev_lss, evs_nil, evs_cons, b1_ok, b2_ok, bs_ok, bcons_ok, band_t, band_f, band_b, bor_t, bor_f, bor_b, b3_ok, dNot_b, dNeg_i, prt_f, prt_t, blc_ok, bit_ok, dTup_ok, dLst_ok, add_ii, sub_ii, mul_l, mul_r, div_ii, mod_ii, add_tt, add_ll, mul_t1i, mul_l1i, lt_ii, le_ii, gt_ii, ge_ii, chn_le, is_bb, isn_bb, is_nn, is_in, isn_nn, isn_in, is_on, isn_on, deq_nn, deq_ni, deq_in, deq_oi, deq_oo, sh_oI, oI_s, oI_n, eq_ok, ne_ok, in_tup, nin_tup, in_lst, nin_lst, sh_int, sh_bl, sh_non, sh_str, sh_ints, deq_ii, deq_bb, deq_ss, deq_tt, deq_ll, deqL_nil, deqL_cons, deqL_nc, deqL_cn, deqL_ints, deqL_pairs, deqL_rows, deq_rr, deq_pp, get_0, get_s, ix_t0, ix_t1, ix_t2, ix_t3, ix_t4, ix_t5, ix_t6, ix_l0, ix_l1, ix_l2, ix_l3, ix_l4, ix_l5, ix_lb, ix_tb, dCut_t, dCut_l, rev_t, rev_l, even_t, odd_t, even_l, odd_l, len_t, len_l, int_b, int_i, tuple_t, tuple_l, list_t, list_l, abs_i, sum_t, sum_l, max_2, min_2, max_3, min_3, all_l, isi_ii, isi_ib, isi_is, isi_it, isi_il, isi_bi, isi_bb, isi_bt, isi_bs, isi_tt, isi_tl, isi_ti, isi_ts, isi_ll, isi_lt, isi_li, isi_ls, isi_ss, isi_si, isi_st, isi_sb, it_t, it_l, it_r1, it_r2, it_et, it_el, it_ztt, it_zll, it_ztl, it_zlt, lcFn_1, lcFn_2, cdR_t, cdR_f, cdR_b, xs_nil, xs_set, xs_own, xs_unp, xs_app, xs_ext, xs_put, kExt_ok, kPut_last, xs_frz, xs_pas, xs_ret, xs_ife, xs_for, kSet_ok, kOwn_ok, kUnp_t, kUnp_l, kApp_ok, kRet_ok, kIf_t, kIf_f, kSeq_n, kSeq_r, kFor_ok, forFn_1, forFn_2, setAll_n, setAll_c, fin_r, fin_n, wipe_n, wipe_c, go_nil, go_cons, kGo_n, kGo_r, List.set_cons_zero, List.set_cons_succ, List.cons_append, List.nil_append, List.length_cons, List.length_nil, List.all_cons, List.all_nil, Bool.and_true, Bool.true_and, Bool.and_false, Bool.false_and, Bool.or_true, Bool.true_or, Bool.or_false, Bool.false_or, Bool.not_true, Bool.not_false, decide_true, decide_false, eq_self, Int.cast_ofNat_Int, beq_self_eq_true, s_far_wide, s_far_turn, s_wide_far, s_wide_turn, s_turn_far, s_turn_wide, List.any_cons, List.any_nil, Int.reduceEq, Int.reduceLT, Int.reduceLE, Int.reduceAdd, Int.reduceSub, Int.reduceMul, Int.reduceNeg, Int.reduceToNat, Bool.decide_eq_true, Bool.false_eq_true, ↓reduceIte, List.length_map, bitsM_len, Nat.zero_add, Nat.reduceAdd, call_cf, eFl, dN, z, Int.zero_add, Int.toNat_natCast]), rg_mapN]
  have eR : (List.range ((2 : Int) ^ b.toNat).toNat).map (fun i : Nat => rowD (flashL way head gap unit (bitsM low b.toNat i))) = (allR way head gap unit low b.toNat).map rowD := by
    have : ((2 : Int) ^ b.toNat).toNat = 2 ^ b.toNat := by
      have hp : ((2 ^ b.toNat : Nat) : Int) = 2 ^ b.toNat := by rw [Int.natCast_pow]; rfl
      omega
    rw [this]
    unfold allR
    rw [List.map_map]
    rfl
  have hlenR := allR_len (way := way) (head := head) (gap := gap) (u := unit) (low := low) (k := b.toNat)
  have hnd := allR_nd (way := way) (head := head) (gap := gap) (u := unit) (low := low) (k := b.toNat) (by omega)
  have hmx := allR_max (way := way) (head := head) (gap := gap) (u := unit) (low := low) (k := b.toNat) (by omega) (by omega)
  have hmem : ∀ r ∈ allR way head gap unit low b.toNat, ∃ bs : List Int, r = flashL way head gap unit bs ∧ bs.length = b.toNat ∧ (∀ b ∈ bs, b = 0 ∨ b = 1) ∧ bs ≠ [] := fun r hr => by
    obtain ⟨bs, rfl, hl, h2⟩ := allR_mem hr
    exact ⟨bs, rfl, hl, h2, fun z => by rw [z, List.length_nil] at hl; omega⟩
  have hfst : ∃ rest, allR way head gap unit low b.toNat = flashL way head gap unit (bitsM low b.toNat 0) :: rest := by
    cases hq : allR way head gap unit low b.toNat with
    | nil =>
      rw [hq] at hlenR
      have := Nat.two_pow_pos b.toNat
      rw [List.length_nil] at hlenR
      omega
    | cons r rest =>
      refine ⟨rest, ?_⟩
      have e := congrArg (fun l => l[0]?) hq
      unfold allR at e
      rw [List.getElem?_map, List.getElem?_range (Nat.two_pow_pos _)] at e
      rw [show r = flashL way head gap unit (bitsM low b.toNat 0) from (Option.some.inj e).symm]
  rw [eR]
  generalize allR way head gap unit low b.toNat = rows at hlenR hnd hmx hmem hfst
  have ei : dIdx (.lst (rows.map rowD)) (.int 0) = .ok (rowD (flashL way head gap unit (bitsM low b.toNat 0))) := by
    obtain ⟨rest, e⟩ := hfst
    rw [e]
    exact ix_l0
  have hrne : rows ≠ [] := fun z => by
    obtain ⟨rest, e⟩ := hfst
    rw [z] at e
    exact nomatch e
  have emx : dBi .max [.lst ((rows.map List.sum).map D.int)] = .ok (.int (longL way head gap unit b.toNat)) := by rw [maxD_bil (fun z => hrne (List.map_eq_nil_iff.mp z)), hmx]
  simp -implicitDefEqProofs (disch := first | exact sh_int | assumption | omega | (simp -implicitDefEqProofs only [List.length_cons, List.length_nil, List.length_map, List.length_append, List.length_reverse, List.length_take, List.length_drop, List.length_set, List.length_replicate, bitsM_len, bitsL_len]; omega) | (simp -implicitDefEqProofs only [sh_int, sh_oI, sh8_pairs, sh8_rows, sh8_row, sh9_row, sh9_p, sh_bl, sh_non, sh9t, sh9l, sh8t, sh8l, sh7t, sh7l, sh6t, sh6l, sh5t, sh5l, sh4t, sh4l, sh_ints, sh_str, List.all_cons, List.all_nil, List.all_append, List.all_reverse, Bool.and_true, Bool.and_self]; done) | (simp -implicitDefEqProofs only [sh_int, sh_oI, sh8_pairs, sh8_rows, sh8_row, sh9_row, sh9_p, sh_bl, sh_non, sh9t, sh9l, sh8t, sh8l, sh7t, sh7l, sh6t, sh6l, sh5t, sh5l, sh4t, sh4l, sh_ints, sh_str, List.all_cons, List.all_nil, List.all_append, List.all_reverse, Bool.and_true, Bool.and_self]; decide +kernel)) only [ev_var, ev_cst, ev_glb, ev_bin, ev_cmp, ev_neg, ev_not, ev_chn, ev_and, ev_or, ev_idx, ev_cut, ev_stp, ev_tup, ev_lst, ev_call, ev_bi, ev_isi, ev_lc, ev_mth, ev_rpl, ev_kin, ev_kget, ev_sst, ev_lss, evs_nil, evs_cons, b1_ok, b2_ok, bs_ok, bcons_ok, band_t, band_f, band_b, bor_t, bor_f, bor_b, b3_ok, dNot_b, dNeg_i, prt_f, prt_t, blc_ok, bit_ok, dTup_ok, dLst_ok, add_ii, sub_ii, mul_l, mul_r, div_ii, mod_ii, add_tt, add_ll, mul_t1i, mul_l1i, lt_ii, le_ii, gt_ii, ge_ii, chn_le, is_bb, isn_bb, is_nn, is_in, isn_nn, isn_in, is_on, isn_on, deq_nn, deq_ni, deq_in, deq_oi, deq_oo, sh_oI, oI_s, oI_n, eq_ok, ne_ok, in_tup, nin_tup, in_lst, nin_lst, sh_int, sh_bl, sh_non, sh_str, sh_ints, deq_ii, deq_bb, deq_ss, deq_tt, deq_ll, deqL_nil, deqL_cons, deqL_nc, deqL_cn, deqL_ints, deqL_pairs, deqL_rows, deq_rr, deq_pp, get_0, get_s, ix_t0, ix_t1, ix_t2, ix_t3, ix_t4, ix_t5, ix_t6, ix_l0, ix_l1, ix_l2, ix_l3, ix_l4, ix_l5, ix_lb, ix_tb, dCut_t, dCut_l, rev_t, rev_l, even_t, odd_t, even_l, odd_l, len_t, len_l, int_b, int_i, tuple_t, tuple_l, list_t, list_l, abs_i, sum_t, sum_l, max_2, min_2, max_3, min_3, all_l, isi_ii, isi_ib, isi_is, isi_it, isi_il, isi_bi, isi_bb, isi_bt, isi_bs, isi_tt, isi_tl, isi_ti, isi_ts, isi_ll, isi_lt, isi_li, isi_ls, isi_ss, isi_si, isi_st, isi_sb, it_t, it_l, it_r1, it_r2, it_et, it_el, it_ztt, it_zll, it_ztl, it_zlt, lcFn_1, lcFn_2, cdR_t, cdR_f, cdR_b, xs_nil, xs_set, xs_own, xs_unp, xs_app, xs_ext, xs_put, kExt_ok, kPut_last, xs_frz, xs_pas, xs_ret, xs_ife, xs_for, kSet_ok, kOwn_ok, kUnp_t, kUnp_l, kApp_ok, kRet_ok, kIf_t, kIf_f, kSeq_n, kSeq_r, kFor_ok, forFn_1, forFn_2, setAll_n, setAll_c, fin_r, fin_n, wipe_n, wipe_c, kGo_n, kGo_r, List.set_cons_zero, List.set_cons_succ, List.cons_append, List.nil_append, List.length_cons, List.length_nil, List.all_cons, List.all_nil, Bool.and_true, Bool.true_and, Bool.and_false, Bool.false_and, Bool.or_true, Bool.true_or, Bool.or_false, Bool.false_or, Bool.not_true, Bool.not_false, decide_true, decide_false, eq_self, Int.cast_ofNat_Int, beq_self_eq_true, s_far_wide, s_far_turn, s_wide_far, s_wide_turn, s_turn_far, s_turn_wide, List.any_cons, List.any_nil, Int.reduceEq, Int.reduceLT, Int.reduceLE, Int.reduceAdd, Int.reduceSub, Int.reduceMul, Int.reduceNeg, Int.reduceToNat, Bool.decide_eq_true, Bool.false_eq_true, ↓reduceIte, List.length_map, bitsM_len, Nat.zero_add, Nat.reduceAdd, call_cf, it_rows, eL]
  rw [lcS_mapF (fun r : List Int => D.int r.sum) (by omega) (fun r hr => by simp -implicitDefEqProofs (disch := first | exact sh_int | assumption | omega | (simp -implicitDefEqProofs only [List.length_cons, List.length_nil, List.length_map, List.length_append, List.length_reverse, List.length_take, List.length_drop, List.length_set, List.length_replicate, bitsM_len, bitsL_len]; omega) | (simp -implicitDefEqProofs only [sh_int, sh_oI, sh8_pairs, sh8_rows, sh8_row, sh9_row, sh9_p, sh_bl, sh_non, sh9t, sh9l, sh8t, sh8l, sh7t, sh7l, sh6t, sh6l, sh5t, sh5l, sh4t, sh4l, sh_ints, sh_str, List.all_cons, List.all_nil, List.all_append, List.all_reverse, Bool.and_true, Bool.and_self]; done) | (simp -implicitDefEqProofs only [sh_int, sh_oI, sh8_pairs, sh8_rows, sh8_row, sh9_row, sh9_p, sh_bl, sh_non, sh9t, sh9l, sh8t, sh8l, sh7t, sh7l, sh6t, sh6l, sh5t, sh5l, sh4t, sh4l, sh_ints, sh_str, List.all_cons, List.all_nil, List.all_append, List.all_reverse, Bool.and_true, Bool.and_self]; decide +kernel)) only [ev_var, ev_cst, ev_glb, ev_bin, ev_cmp, ev_neg, ev_not, ev_chn, ev_and, ev_or, ev_idx, ev_cut, ev_stp, ev_tup, ev_lst, ev_call, ev_bi, ev_isi, ev_lc, ev_mth, ev_rpl, ev_kin, ev_kget, ev_sst, ev_lss, evs_nil, evs_cons, b1_ok, b2_ok, bs_ok, bcons_ok, band_t, band_f, band_b, bor_t, bor_f, bor_b, b3_ok, dNot_b, dNeg_i, prt_f, prt_t, blc_ok, bit_ok, dTup_ok, dLst_ok, add_ii, sub_ii, mul_l, mul_r, div_ii, mod_ii, add_tt, add_ll, mul_t1i, mul_l1i, lt_ii, le_ii, gt_ii, ge_ii, chn_le, is_bb, isn_bb, is_nn, is_in, isn_nn, isn_in, is_on, isn_on, deq_nn, deq_ni, deq_in, deq_oi, deq_oo, sh_oI, oI_s, oI_n, eq_ok, ne_ok, in_tup, nin_tup, in_lst, nin_lst, sh_int, sh_bl, sh_non, sh_str, sh_ints, deq_ii, deq_bb, deq_ss, deq_tt, deq_ll, deqL_nil, deqL_cons, deqL_nc, deqL_cn, deqL_ints, deqL_pairs, deqL_rows, deq_rr, deq_pp, get_0, get_s, ix_t0, ix_t1, ix_t2, ix_t3, ix_t4, ix_t5, ix_t6, ix_l0, ix_l1, ix_l2, ix_l3, ix_l4, ix_l5, ix_lb, ix_tb, dCut_t, dCut_l, rev_t, rev_l, even_t, odd_t, even_l, odd_l, len_t, len_l, int_b, int_i, tuple_t, tuple_l, list_t, list_l, abs_i, sum_t, sum_l, max_2, min_2, max_3, min_3, all_l, isi_ii, isi_ib, isi_is, isi_it, isi_il, isi_bi, isi_bb, isi_bt, isi_bs, isi_tt, isi_tl, isi_ti, isi_ts, isi_ll, isi_lt, isi_li, isi_ls, isi_ss, isi_si, isi_st, isi_sb, it_t, it_l, it_r1, it_r2, it_et, it_el, it_ztt, it_zll, it_ztl, it_zlt, lcFn_1, lcFn_2, cdR_t, cdR_f, cdR_b, xs_nil, xs_set, xs_own, xs_unp, xs_app, xs_ext, xs_put, kExt_ok, kPut_last, xs_frz, xs_pas, xs_ret, xs_ife, xs_for, kSet_ok, kOwn_ok, kUnp_t, kUnp_l, kApp_ok, kRet_ok, kIf_t, kIf_f, kSeq_n, kSeq_r, kFor_ok, forFn_1, forFn_2, setAll_n, setAll_c, fin_r, fin_n, wipe_n, wipe_c, go_nil, go_cons, kGo_n, kGo_r, List.set_cons_zero, List.set_cons_succ, List.cons_append, List.nil_append, List.length_cons, List.length_nil, List.all_cons, List.all_nil, Bool.and_true, Bool.true_and, Bool.and_false, Bool.false_and, Bool.or_true, Bool.true_or, Bool.or_false, Bool.false_or, Bool.not_true, Bool.not_false, decide_true, decide_false, eq_self, Int.cast_ofNat_Int, beq_self_eq_true, s_far_wide, s_far_turn, s_wide_far, s_wide_turn, s_turn_far, s_turn_wide, List.any_cons, List.any_nil, Int.reduceEq, Int.reduceLT, Int.reduceLE, Int.reduceAdd, Int.reduceSub, Int.reduceMul, Int.reduceNeg, Int.reduceToNat, Bool.decide_eq_true, Bool.false_eq_true, ↓reduceIte, List.length_map, bitsM_len, Nat.zero_add, Nat.reduceAdd, call_cf, sum_row]), show rows.map (fun r : List Int => D.int r.sum) = (rows.map List.sum).map D.int by rw [List.map_map]; rfl]
  simp -implicitDefEqProofs (disch := first | exact sh_int | assumption | omega | (simp -implicitDefEqProofs only [List.length_cons, List.length_nil, List.length_map, List.length_append, List.length_reverse, List.length_take, List.length_drop, List.length_set, List.length_replicate, bitsM_len, bitsL_len]; omega) | (simp -implicitDefEqProofs only [sh_int, sh_oI, sh8_pairs, sh8_rows, sh8_row, sh9_row, sh9_p, sh_bl, sh_non, sh9t, sh9l, sh8t, sh8l, sh7t, sh7l, sh6t, sh6l, sh5t, sh5l, sh4t, sh4l, sh_ints, sh_str, List.all_cons, List.all_nil, List.all_append, List.all_reverse, Bool.and_true, Bool.and_self]; done) | (simp -implicitDefEqProofs only [sh_int, sh_oI, sh8_pairs, sh8_rows, sh8_row, sh9_row, sh9_p, sh_bl, sh_non, sh9t, sh9l, sh8t, sh8l, sh7t, sh7l, sh6t, sh6l, sh5t, sh5l, sh4t, sh4l, sh_ints, sh_str, List.all_cons, List.all_nil, List.all_append, List.all_reverse, Bool.and_true, Bool.and_self]; decide +kernel)) only [ev_var, ev_cst, ev_glb, ev_bin, ev_cmp, ev_neg, ev_not, ev_chn, ev_and, ev_or, ev_idx, ev_cut, ev_stp, ev_tup, ev_lst, ev_call, ev_bi, ev_isi, ev_lc, ev_mth, ev_rpl, ev_kin, ev_kget, ev_sst, ev_lss, evs_nil, evs_cons, b1_ok, b2_ok, bs_ok, bcons_ok, band_t, band_f, band_b, bor_t, bor_f, bor_b, b3_ok, dNot_b, dNeg_i, prt_f, prt_t, blc_ok, bit_ok, dTup_ok, dLst_ok, add_ii, sub_ii, mul_l, mul_r, div_ii, mod_ii, add_tt, add_ll, mul_t1i, mul_l1i, lt_ii, le_ii, gt_ii, ge_ii, chn_le, is_bb, isn_bb, is_nn, is_in, isn_nn, isn_in, is_on, isn_on, deq_nn, deq_ni, deq_in, deq_oi, deq_oo, sh_oI, oI_s, oI_n, eq_ok, ne_ok, in_tup, nin_tup, in_lst, nin_lst, sh_int, sh_bl, sh_non, sh_str, sh_ints, deq_ii, deq_bb, deq_ss, deq_tt, deq_ll, deqL_nil, deqL_cons, deqL_nc, deqL_cn, deqL_ints, deqL_pairs, deqL_rows, deq_rr, deq_pp, get_0, get_s, ix_t0, ix_t1, ix_t2, ix_t3, ix_t4, ix_t5, ix_t6, ix_l0, ix_l1, ix_l2, ix_l3, ix_l4, ix_l5, ix_lb, ix_tb, dCut_t, dCut_l, rev_t, rev_l, even_t, odd_t, even_l, odd_l, len_t, len_l, int_b, int_i, tuple_t, tuple_l, list_t, list_l, abs_i, sum_t, sum_l, max_2, min_2, max_3, min_3, all_l, isi_ii, isi_ib, isi_is, isi_it, isi_il, isi_bi, isi_bb, isi_bt, isi_bs, isi_tt, isi_tl, isi_ti, isi_ts, isi_ll, isi_lt, isi_li, isi_ls, isi_ss, isi_si, isi_st, isi_sb, it_t, it_l, it_r1, it_r2, it_et, it_el, it_ztt, it_zll, it_ztl, it_zlt, lcFn_1, lcFn_2, cdR_t, cdR_f, cdR_b, xs_nil, xs_set, xs_own, xs_unp, xs_app, xs_ext, xs_put, kExt_ok, kPut_last, xs_frz, xs_pas, xs_ret, xs_ife, xs_for, kSet_ok, kOwn_ok, kUnp_t, kUnp_l, kApp_ok, kRet_ok, kIf_t, kIf_f, kSeq_n, kSeq_r, kFor_ok, forFn_1, forFn_2, setAll_n, setAll_c, fin_r, fin_n, wipe_n, wipe_c, kGo_n, kGo_r, List.set_cons_zero, List.set_cons_succ, List.cons_append, List.nil_append, List.length_cons, List.length_nil, List.all_cons, List.all_nil, Bool.and_true, Bool.true_and, Bool.and_false, Bool.false_and, Bool.or_true, Bool.true_or, Bool.or_false, Bool.false_or, Bool.not_true, Bool.not_false, decide_true, decide_false, eq_self, Int.cast_ofNat_Int, beq_self_eq_true, s_far_wide, s_far_turn, s_wide_far, s_wide_turn, s_turn_far, s_turn_wide, List.any_cons, List.any_nil, Int.reduceEq, Int.reduceLT, Int.reduceLE, Int.reduceAdd, Int.reduceSub, Int.reduceMul, Int.reduceNeg, Int.reduceToNat, Bool.decide_eq_true, Bool.false_eq_true, ↓reduceIte, List.length_map, bitsM_len, Nat.zero_add, Nat.reduceAdd, call_cf, emx, hni, eL, it_rows]
  rw [lcS_mapF (fun r : List Int => D.int r.length) (by omega) (fun r hr => by simp -implicitDefEqProofs (disch := first | exact sh_int | assumption | omega | (simp -implicitDefEqProofs only [List.length_cons, List.length_nil, List.length_map, List.length_append, List.length_reverse, List.length_take, List.length_drop, List.length_set, List.length_replicate, bitsM_len, bitsL_len]; omega) | (simp -implicitDefEqProofs only [sh_int, sh_oI, sh8_pairs, sh8_rows, sh8_row, sh9_row, sh9_p, sh_bl, sh_non, sh9t, sh9l, sh8t, sh8l, sh7t, sh7l, sh6t, sh6l, sh5t, sh5l, sh4t, sh4l, sh_ints, sh_str, List.all_cons, List.all_nil, List.all_append, List.all_reverse, Bool.and_true, Bool.and_self]; done) | (simp -implicitDefEqProofs only [sh_int, sh_oI, sh8_pairs, sh8_rows, sh8_row, sh9_row, sh9_p, sh_bl, sh_non, sh9t, sh9l, sh8t, sh8l, sh7t, sh7l, sh6t, sh6l, sh5t, sh5l, sh4t, sh4l, sh_ints, sh_str, List.all_cons, List.all_nil, List.all_append, List.all_reverse, Bool.and_true, Bool.and_self]; decide +kernel)) only [ev_var, ev_cst, ev_glb, ev_bin, ev_cmp, ev_neg, ev_not, ev_chn, ev_and, ev_or, ev_idx, ev_cut, ev_stp, ev_tup, ev_lst, ev_call, ev_bi, ev_isi, ev_lc, ev_mth, ev_rpl, ev_kin, ev_kget, ev_sst, ev_lss, evs_nil, evs_cons, b1_ok, b2_ok, bs_ok, bcons_ok, band_t, band_f, band_b, bor_t, bor_f, bor_b, b3_ok, dNot_b, dNeg_i, prt_f, prt_t, blc_ok, bit_ok, dTup_ok, dLst_ok, add_ii, sub_ii, mul_l, mul_r, div_ii, mod_ii, add_tt, add_ll, mul_t1i, mul_l1i, lt_ii, le_ii, gt_ii, ge_ii, chn_le, is_bb, isn_bb, is_nn, is_in, isn_nn, isn_in, is_on, isn_on, deq_nn, deq_ni, deq_in, deq_oi, deq_oo, sh_oI, oI_s, oI_n, eq_ok, ne_ok, in_tup, nin_tup, in_lst, nin_lst, sh_int, sh_bl, sh_non, sh_str, sh_ints, deq_ii, deq_bb, deq_ss, deq_tt, deq_ll, deqL_nil, deqL_cons, deqL_nc, deqL_cn, deqL_ints, deqL_pairs, deqL_rows, deq_rr, deq_pp, get_0, get_s, ix_t0, ix_t1, ix_t2, ix_t3, ix_t4, ix_t5, ix_t6, ix_l0, ix_l1, ix_l2, ix_l3, ix_l4, ix_l5, ix_lb, ix_tb, dCut_t, dCut_l, rev_t, rev_l, even_t, odd_t, even_l, odd_l, len_t, len_l, int_b, int_i, tuple_t, tuple_l, list_t, list_l, abs_i, sum_t, sum_l, max_2, min_2, max_3, min_3, all_l, isi_ii, isi_ib, isi_is, isi_it, isi_il, isi_bi, isi_bb, isi_bt, isi_bs, isi_tt, isi_tl, isi_ti, isi_ts, isi_ll, isi_lt, isi_li, isi_ls, isi_ss, isi_si, isi_st, isi_sb, it_t, it_l, it_r1, it_r2, it_et, it_el, it_ztt, it_zll, it_ztl, it_zlt, lcFn_1, lcFn_2, cdR_t, cdR_f, cdR_b, xs_nil, xs_set, xs_own, xs_unp, xs_app, xs_ext, xs_put, kExt_ok, kPut_last, xs_frz, xs_pas, xs_ret, xs_ife, xs_for, kSet_ok, kOwn_ok, kUnp_t, kUnp_l, kApp_ok, kRet_ok, kIf_t, kIf_f, kSeq_n, kSeq_r, kFor_ok, forFn_1, forFn_2, setAll_n, setAll_c, fin_r, fin_n, wipe_n, wipe_c, go_nil, go_cons, kGo_n, kGo_r, List.set_cons_zero, List.set_cons_succ, List.cons_append, List.nil_append, List.length_cons, List.length_nil, List.all_cons, List.all_nil, Bool.and_true, Bool.true_and, Bool.and_false, Bool.false_and, Bool.or_true, Bool.true_or, Bool.or_false, Bool.false_or, Bool.not_true, Bool.not_false, decide_true, decide_false, eq_self, Int.cast_ofNat_Int, beq_self_eq_true, s_far_wide, s_far_turn, s_wide_far, s_wide_turn, s_turn_far, s_turn_wide, List.any_cons, List.any_nil, Int.reduceEq, Int.reduceLT, Int.reduceLE, Int.reduceAdd, Int.reduceSub, Int.reduceMul, Int.reduceNeg, Int.reduceToNat, Bool.decide_eq_true, Bool.false_eq_true, ↓reduceIte, List.length_map, bitsM_len, Nat.zero_add, Nat.reduceAdd, call_cf, len_r]), show rows.map (fun r : List Int => D.int r.length) = (rows.map fun r => (r.length : Int)).map D.int by rw [List.map_map]; rfl]
  have hfew : (srtU (rows.map fun r => (r.length : Int))).length < 64 := by
    have := srtU_few (ns := rows.map fun r => (r.length : Int)) (lo := 0) (hi := 20) (fun x hx => by
      obtain ⟨r, hr, rfl⟩ := List.mem_map.mp hx
      obtain ⟨bs, rfl, hl, _⟩ := hmem r hr
      have := flash_len way head gap unit bs
      omega) (by decide)
    omega
  have ess := sst_l (ns := rows.map fun r => (r.length : Int)) (by rw [List.length_map]; omega) hfew
  have hone : ∀ c : Int, (∀ r ∈ rows, (r.length : Int) = c) → srtU (rows.map fun r => (r.length : Int)) = [c] := fun c hc => srtU_one (fun z => hrne (List.map_eq_nil_iff.mp z)) fun x hx => by
    obtain ⟨r, hr, rfl⟩ := List.mem_map.mp hx
    exact hc r hr
  have hfar : (way == "far") = true → srtU (rows.map fun r => (r.length : Int)) = [3 + 2 * b] := fun hf => hone _ fun r hr => by
    obtain ⟨bs, rfl, hl, _⟩ := hmem r hr
    unfold flashL timesL
    rw [if_pos hf, List.length_cons, List.length_cons, far_len]
    omega
  have hwide : (way == "far") = false → (way == "wide") = true → srtU (rows.map fun r => (r.length : Int)) = [1 + 2 * b] := fun hf hw => hone _ fun r hr => by
    obtain ⟨bs, rfl, hl, _, hbn⟩ := hmem r hr
    unfold flashL timesL
    rw [if_neg (by rw [hf]; decide), if_pos hw, List.length_cons, List.length_cons, wide_len _ _ hbn]
    omega
  generalize srtU (rows.map fun r => (r.length : Int)) = SZ at ess hfar hwide
  have hws := hw.str
  have ebad : dCmp .NotEq (.lst []) (.lst []) = .ok (.bl false) := ne_same rfl
  have els := lss_rows (rs := rows) (by omega) hnd
  have hfl : ∀ bs : List Int, dCut (rowD (flashL way head gap unit bs)) none (some 2) = .ok (.tup [.int head, .int gap]) := fun bs => cut2_row
  have hht : dCmp .NotEq (.tup [.int head, .int gap]) (.tup [.int head, .int gap]) = .ok (.bl false) := ne_same rfl
  have hht2 : dCmp .Eq (.tup [.int head, .int gap]) (.tup [.int head, .int gap]) = .ok (.bl true) := eq_same rfl
  have e2 : dCmp .Eq (.lst []) (.lst []) = .ok (.bl true) := eq_same rfl
  have hSZ : ∀ c : Int, dCmp .NotEq (.lst ([c].map D.int)) (.lst [.int c]) = .ok (.bl false) := fun c => ne_same rfl
  have elr : dBi .len [.lst (rows.map rowD)] = .ok (.int rows.length) := by rw [len_l, List.length_map]
  cases hf : (way == "far") with
  | true =>
    have hz := hfar hf
    have hq : (way == "wide") = false := by
      rw [eq_of_beq hf]
      decide +kernel
    subst hz
    simp -implicitDefEqProofs (disch := first | exact sh_int | assumption | omega | (simp -implicitDefEqProofs only [List.length_cons, List.length_nil, List.length_map, List.length_append, List.length_reverse, List.length_take, List.length_drop, List.length_set, List.length_replicate, bitsM_len, bitsL_len]; omega) | (simp -implicitDefEqProofs only [sh_int, sh_oI, sh8_pairs, sh8_rows, sh8_row, sh9_row, sh9_p, sh_bl, sh_non, sh9t, sh9l, sh8t, sh8l, sh7t, sh7l, sh6t, sh6l, sh5t, sh5l, sh4t, sh4l, sh_ints, sh_str, List.all_cons, List.all_nil, List.all_append, List.all_reverse, Bool.and_true, Bool.and_self]; done) | (simp -implicitDefEqProofs only [sh_int, sh_oI, sh8_pairs, sh8_rows, sh8_row, sh9_row, sh9_p, sh_bl, sh_non, sh9t, sh9l, sh8t, sh8l, sh7t, sh7l, sh6t, sh6l, sh5t, sh5l, sh4t, sh4l, sh_ints, sh_str, List.all_cons, List.all_nil, List.all_append, List.all_reverse, Bool.and_true, Bool.and_self]; decide +kernel)) only [ev_var, ev_cst, ev_glb, ev_bin, ev_cmp, ev_neg, ev_not, ev_chn, ev_and, ev_or, ev_idx, ev_cut, ev_stp, ev_tup, ev_lst, ev_call, ev_bi, ev_isi, ev_lc, ev_mth, ev_rpl, ev_kin, ev_kget, ev_sst, ev_lss, evs_nil, evs_cons, b1_ok, b2_ok, bs_ok, bcons_ok, band_t, band_f, band_b, bor_t, bor_f, bor_b, b3_ok, dNot_b, dNeg_i, prt_f, prt_t, blc_ok, bit_ok, dTup_ok, dLst_ok, add_ii, sub_ii, mul_l, mul_r, div_ii, mod_ii, add_tt, add_ll, mul_t1i, mul_l1i, lt_ii, le_ii, gt_ii, ge_ii, chn_le, is_bb, isn_bb, is_nn, is_in, isn_nn, isn_in, is_on, isn_on, deq_nn, deq_ni, deq_in, deq_oi, deq_oo, sh_oI, oI_s, oI_n, eq_ok, ne_ok, in_tup, nin_tup, in_lst, nin_lst, sh_int, sh_bl, sh_non, sh_str, sh_ints, deq_ii, deq_bb, deq_ss, deq_tt, deq_ll, deqL_nil, deqL_cons, deqL_nc, deqL_cn, deqL_ints, deqL_pairs, deqL_rows, deq_rr, deq_pp, get_0, get_s, ix_t0, ix_t1, ix_t2, ix_t3, ix_t4, ix_t5, ix_t6, ix_l0, ix_l1, ix_l2, ix_l3, ix_l4, ix_l5, ix_lb, ix_tb, dCut_t, dCut_l, rev_t, rev_l, even_t, odd_t, even_l, odd_l, len_t, len_l, int_b, int_i, tuple_t, tuple_l, list_t, list_l, abs_i, sum_t, sum_l, max_2, min_2, max_3, min_3, all_l, isi_ii, isi_ib, isi_is, isi_it, isi_il, isi_bi, isi_bb, isi_bt, isi_bs, isi_tt, isi_tl, isi_ti, isi_ts, isi_ll, isi_lt, isi_li, isi_ls, isi_ss, isi_si, isi_st, isi_sb, it_t, it_l, it_r1, it_r2, it_et, it_el, it_ztt, it_zll, it_ztl, it_zlt, lcFn_1, lcFn_2, cdR_t, cdR_f, cdR_b, xs_nil, xs_set, xs_own, xs_unp, xs_app, xs_ext, xs_put, kExt_ok, kPut_last, xs_frz, xs_pas, xs_ret, xs_ife, xs_for, kSet_ok, kOwn_ok, kUnp_t, kUnp_l, kApp_ok, kRet_ok, kIf_t, kIf_f, kSeq_n, kSeq_r, kFor_ok, forFn_1, forFn_2, setAll_n, setAll_c, fin_r, fin_n, wipe_n, wipe_c, kGo_n, kGo_r, List.set_cons_zero, List.set_cons_succ, List.cons_append, List.nil_append, List.length_cons, List.length_nil, List.all_cons, List.all_nil, Bool.and_true, Bool.true_and, Bool.and_false, Bool.false_and, Bool.or_true, Bool.true_or, Bool.or_false, Bool.false_or, Bool.not_true, Bool.not_false, decide_true, decide_false, eq_self, Int.cast_ofNat_Int, beq_self_eq_true, s_far_wide, s_far_turn, s_wide_far, s_wide_turn, s_turn_far, s_turn_wide, List.any_cons, List.any_nil, Int.reduceEq, Int.reduceLT, Int.reduceLE, Int.reduceAdd, Int.reduceSub, Int.reduceMul, Int.reduceNeg, Int.reduceToNat, Bool.decide_eq_true, Bool.false_eq_true, ↓reduceIte, List.length_map, bitsM_len, Nat.zero_add, Nat.reduceAdd, call_cf, ess, mk_0, mk_4, hf, hq, hSZ, it_rows, ei]
    rw [lcS_fm (fun _ => none) (by rw [List.length_map]; omega) (fun d hd => by
      obtain ⟨r, hr, rfl⟩ := List.mem_map.mp hd
      obtain ⟨bs, rfl, hl, _⟩ := hmem r hr
      simp -implicitDefEqProofs (disch := first | exact sh_int | assumption | omega | (simp -implicitDefEqProofs only [List.length_cons, List.length_nil, List.length_map, List.length_append, List.length_reverse, List.length_take, List.length_drop, List.length_set, List.length_replicate, bitsM_len, bitsL_len]; omega) | (simp -implicitDefEqProofs only [sh_int, sh_oI, sh8_pairs, sh8_rows, sh8_row, sh9_row, sh9_p, sh_bl, sh_non, sh9t, sh9l, sh8t, sh8l, sh7t, sh7l, sh6t, sh6l, sh5t, sh5l, sh4t, sh4l, sh_ints, sh_str, List.all_cons, List.all_nil, List.all_append, List.all_reverse, Bool.and_true, Bool.and_self]; done) | (simp -implicitDefEqProofs only [sh_int, sh_oI, sh8_pairs, sh8_rows, sh8_row, sh9_row, sh9_p, sh_bl, sh_non, sh9t, sh9l, sh8t, sh8l, sh7t, sh7l, sh6t, sh6l, sh5t, sh5l, sh4t, sh4l, sh_ints, sh_str, List.all_cons, List.all_nil, List.all_append, List.all_reverse, Bool.and_true, Bool.and_self]; decide +kernel)) only [ev_var, ev_cst, ev_glb, ev_bin, ev_cmp, ev_neg, ev_not, ev_chn, ev_and, ev_or, ev_idx, ev_cut, ev_stp, ev_tup, ev_lst, ev_call, ev_bi, ev_isi, ev_lc, ev_mth, ev_rpl, ev_kin, ev_kget, ev_sst, ev_lss, evs_nil, evs_cons, b1_ok, b2_ok, bs_ok, bcons_ok, band_t, band_f, band_b, bor_t, bor_f, bor_b, b3_ok, dNot_b, dNeg_i, prt_f, prt_t, blc_ok, bit_ok, dTup_ok, dLst_ok, add_ii, sub_ii, mul_l, mul_r, div_ii, mod_ii, add_tt, add_ll, mul_t1i, mul_l1i, lt_ii, le_ii, gt_ii, ge_ii, chn_le, is_bb, isn_bb, is_nn, is_in, isn_nn, isn_in, is_on, isn_on, deq_nn, deq_ni, deq_in, deq_oi, deq_oo, sh_oI, oI_s, oI_n, eq_ok, ne_ok, in_tup, nin_tup, in_lst, nin_lst, sh_int, sh_bl, sh_non, sh_str, sh_ints, deq_ii, deq_bb, deq_ss, deq_tt, deq_ll, deqL_nil, deqL_cons, deqL_nc, deqL_cn, deqL_ints, deqL_pairs, deqL_rows, deq_rr, deq_pp, get_0, get_s, ix_t0, ix_t1, ix_t2, ix_t3, ix_t4, ix_t5, ix_t6, ix_l0, ix_l1, ix_l2, ix_l3, ix_l4, ix_l5, ix_lb, ix_tb, dCut_t, dCut_l, rev_t, rev_l, even_t, odd_t, even_l, odd_l, len_t, len_l, int_b, int_i, tuple_t, tuple_l, list_t, list_l, abs_i, sum_t, sum_l, max_2, min_2, max_3, min_3, all_l, isi_ii, isi_ib, isi_is, isi_it, isi_il, isi_bi, isi_bb, isi_bt, isi_bs, isi_tt, isi_tl, isi_ti, isi_ts, isi_ll, isi_lt, isi_li, isi_ls, isi_ss, isi_si, isi_st, isi_sb, it_t, it_l, it_r1, it_r2, it_et, it_el, it_ztt, it_zll, it_ztl, it_zlt, lcFn_1, lcFn_2, cdR_t, cdR_f, cdR_b, xs_nil, xs_set, xs_own, xs_unp, xs_app, xs_ext, xs_put, kExt_ok, kPut_last, xs_frz, xs_pas, xs_ret, xs_ife, xs_for, kSet_ok, kOwn_ok, kUnp_t, kUnp_l, kApp_ok, kRet_ok, kIf_t, kIf_f, kSeq_n, kSeq_r, kFor_ok, forFn_1, forFn_2, setAll_n, setAll_c, fin_r, fin_n, wipe_n, wipe_c, go_nil, go_cons, kGo_n, kGo_r, List.set_cons_zero, List.set_cons_succ, List.cons_append, List.nil_append, List.length_cons, List.length_nil, List.all_cons, List.all_nil, Bool.and_true, Bool.true_and, Bool.and_false, Bool.false_and, Bool.or_true, Bool.true_or, Bool.or_false, Bool.false_or, Bool.not_true, Bool.not_false, decide_true, decide_false, eq_self, Int.cast_ofNat_Int, beq_self_eq_true, s_far_wide, s_far_turn, s_wide_far, s_wide_turn, s_turn_far, s_turn_wide, List.any_cons, List.any_nil, Int.reduceEq, Int.reduceLT, Int.reduceLE, Int.reduceAdd, Int.reduceSub, Int.reduceMul, Int.reduceNeg, Int.reduceToNat, Bool.decide_eq_true, Bool.false_eq_true, ↓reduceIte, List.length_map, bitsM_len, Nat.zero_add, Nat.reduceAdd, call_cf, hfl, hht, ei]), fm_none]
    simp -implicitDefEqProofs (disch := first | exact sh_int | assumption | omega | (simp -implicitDefEqProofs only [List.length_cons, List.length_nil, List.length_map, List.length_append, List.length_reverse, List.length_take, List.length_drop, List.length_set, List.length_replicate, bitsM_len, bitsL_len]; omega) | (simp -implicitDefEqProofs only [sh_int, sh_oI, sh8_pairs, sh8_rows, sh8_row, sh9_row, sh9_p, sh_bl, sh_non, sh9t, sh9l, sh8t, sh8l, sh7t, sh7l, sh6t, sh6l, sh5t, sh5l, sh4t, sh4l, sh_ints, sh_str, List.all_cons, List.all_nil, List.all_append, List.all_reverse, Bool.and_true, Bool.and_self]; done) | (simp -implicitDefEqProofs only [sh_int, sh_oI, sh8_pairs, sh8_rows, sh8_row, sh9_row, sh9_p, sh_bl, sh_non, sh9t, sh9l, sh8t, sh8l, sh7t, sh7l, sh6t, sh6l, sh5t, sh5l, sh4t, sh4l, sh_ints, sh_str, List.all_cons, List.all_nil, List.all_append, List.all_reverse, Bool.and_true, Bool.and_self]; decide +kernel)) only [ev_var, ev_cst, ev_glb, ev_bin, ev_cmp, ev_neg, ev_not, ev_chn, ev_and, ev_or, ev_idx, ev_cut, ev_stp, ev_tup, ev_lst, ev_call, ev_bi, ev_isi, ev_lc, ev_mth, ev_rpl, ev_kin, ev_kget, ev_sst, ev_lss, evs_nil, evs_cons, b1_ok, b2_ok, bs_ok, bcons_ok, band_t, band_f, band_b, bor_t, bor_f, bor_b, b3_ok, dNot_b, dNeg_i, prt_f, prt_t, blc_ok, bit_ok, dTup_ok, dLst_ok, add_ii, sub_ii, mul_l, mul_r, div_ii, mod_ii, add_tt, add_ll, mul_t1i, mul_l1i, lt_ii, le_ii, gt_ii, ge_ii, chn_le, is_bb, isn_bb, is_nn, is_in, isn_nn, isn_in, is_on, isn_on, deq_nn, deq_ni, deq_in, deq_oi, deq_oo, sh_oI, oI_s, oI_n, eq_ok, ne_ok, in_tup, nin_tup, in_lst, nin_lst, sh_int, sh_bl, sh_non, sh_str, sh_ints, deq_ii, deq_bb, deq_ss, deq_tt, deq_ll, deqL_nil, deqL_cons, deqL_nc, deqL_cn, deqL_ints, deqL_pairs, deqL_rows, deq_rr, deq_pp, get_0, get_s, ix_t0, ix_t1, ix_t2, ix_t3, ix_t4, ix_t5, ix_t6, ix_l0, ix_l1, ix_l2, ix_l3, ix_l4, ix_l5, ix_lb, ix_tb, dCut_t, dCut_l, rev_t, rev_l, even_t, odd_t, even_l, odd_l, len_t, len_l, int_b, int_i, tuple_t, tuple_l, list_t, list_l, abs_i, sum_t, sum_l, max_2, min_2, max_3, min_3, all_l, isi_ii, isi_ib, isi_is, isi_it, isi_il, isi_bi, isi_bb, isi_bt, isi_bs, isi_tt, isi_tl, isi_ti, isi_ts, isi_ll, isi_lt, isi_li, isi_ls, isi_ss, isi_si, isi_st, isi_sb, it_t, it_l, it_r1, it_r2, it_et, it_el, it_ztt, it_zll, it_ztl, it_zlt, lcFn_1, lcFn_2, cdR_t, cdR_f, cdR_b, xs_nil, xs_set, xs_own, xs_unp, xs_app, xs_ext, xs_put, kExt_ok, kPut_last, xs_frz, xs_pas, xs_ret, xs_ife, xs_for, kSet_ok, kOwn_ok, kUnp_t, kUnp_l, kApp_ok, kRet_ok, kIf_t, kIf_f, kSeq_n, kSeq_r, kFor_ok, forFn_1, forFn_2, setAll_n, setAll_c, fin_r, fin_n, wipe_n, wipe_c, kGo_n, kGo_r, List.set_cons_zero, List.set_cons_succ, List.cons_append, List.nil_append, List.length_cons, List.length_nil, List.all_cons, List.all_nil, Bool.and_true, Bool.true_and, Bool.and_false, Bool.false_and, Bool.or_true, Bool.true_or, Bool.or_false, Bool.false_or, Bool.not_true, Bool.not_false, decide_true, decide_false, eq_self, Int.cast_ofNat_Int, beq_self_eq_true, s_far_wide, s_far_turn, s_wide_far, s_wide_turn, s_turn_far, s_turn_wide, List.any_cons, List.any_nil, Int.reduceEq, Int.reduceLT, Int.reduceLE, Int.reduceAdd, Int.reduceSub, Int.reduceMul, Int.reduceNeg, Int.reduceToNat, Bool.decide_eq_true, Bool.false_eq_true, ↓reduceIte, List.length_map, bitsM_len, Nat.zero_add, Nat.reduceAdd, call_cf, it_rows, ei, ebad, els, elr, hni, hfl, mk_c13, hht2]
    rw [lcS_fm (fun _ => none) (by rw [List.length_map]; omega) (fun d hd => by
      obtain ⟨r, hr, rfl⟩ := List.mem_map.mp hd
      obtain ⟨bs, rfl, hl, h1, h2⟩ := hmem r hr
      have hp := flash_par way head gap unit bs h1 h2
      have hp2 : ¬ (((flashL way head gap unit bs).length : Nat) : Int) % 2 = 0 := by omega
      simp -implicitDefEqProofs (disch := first | exact sh_int | assumption | omega | (simp -implicitDefEqProofs only [List.length_cons, List.length_nil, List.length_map, List.length_append, List.length_reverse, List.length_take, List.length_drop, List.length_set, List.length_replicate, bitsM_len, bitsL_len]; omega) | (simp -implicitDefEqProofs only [sh_int, sh_oI, sh8_pairs, sh8_rows, sh8_row, sh9_row, sh9_p, sh_bl, sh_non, sh9t, sh9l, sh8t, sh8l, sh7t, sh7l, sh6t, sh6l, sh5t, sh5l, sh4t, sh4l, sh_ints, sh_str, List.all_cons, List.all_nil, List.all_append, List.all_reverse, Bool.and_true, Bool.and_self]; done) | (simp -implicitDefEqProofs only [sh_int, sh_oI, sh8_pairs, sh8_rows, sh8_row, sh9_row, sh9_p, sh_bl, sh_non, sh9t, sh9l, sh8t, sh8l, sh7t, sh7l, sh6t, sh6l, sh5t, sh5l, sh4t, sh4l, sh_ints, sh_str, List.all_cons, List.all_nil, List.all_append, List.all_reverse, Bool.and_true, Bool.and_self]; decide +kernel)) only [ev_var, ev_cst, ev_glb, ev_bin, ev_cmp, ev_neg, ev_not, ev_chn, ev_and, ev_or, ev_idx, ev_cut, ev_stp, ev_tup, ev_lst, ev_call, ev_bi, ev_isi, ev_lc, ev_mth, ev_rpl, ev_kin, ev_kget, ev_sst, ev_lss, evs_nil, evs_cons, b1_ok, b2_ok, bs_ok, bcons_ok, band_t, band_f, band_b, bor_t, bor_f, bor_b, b3_ok, dNot_b, dNeg_i, prt_f, prt_t, blc_ok, bit_ok, dTup_ok, dLst_ok, add_ii, sub_ii, mul_l, mul_r, div_ii, mod_ii, add_tt, add_ll, mul_t1i, mul_l1i, lt_ii, le_ii, gt_ii, ge_ii, chn_le, is_bb, isn_bb, is_nn, is_in, isn_nn, isn_in, is_on, isn_on, deq_nn, deq_ni, deq_in, deq_oi, deq_oo, sh_oI, oI_s, oI_n, eq_ok, ne_ok, in_tup, nin_tup, in_lst, nin_lst, sh_int, sh_bl, sh_non, sh_str, sh_ints, deq_ii, deq_bb, deq_ss, deq_tt, deq_ll, deqL_nil, deqL_cons, deqL_nc, deqL_cn, deqL_ints, deqL_pairs, deqL_rows, deq_rr, deq_pp, get_0, get_s, ix_t0, ix_t1, ix_t2, ix_t3, ix_t4, ix_t5, ix_t6, ix_l0, ix_l1, ix_l2, ix_l3, ix_l4, ix_l5, ix_lb, ix_tb, dCut_t, dCut_l, rev_t, rev_l, even_t, odd_t, even_l, odd_l, len_t, len_l, int_b, int_i, tuple_t, tuple_l, list_t, list_l, abs_i, sum_t, sum_l, max_2, min_2, max_3, min_3, all_l, isi_ii, isi_ib, isi_is, isi_it, isi_il, isi_bi, isi_bb, isi_bt, isi_bs, isi_tt, isi_tl, isi_ti, isi_ts, isi_ll, isi_lt, isi_li, isi_ls, isi_ss, isi_si, isi_st, isi_sb, it_t, it_l, it_r1, it_r2, it_et, it_el, it_ztt, it_zll, it_ztl, it_zlt, lcFn_1, lcFn_2, cdR_t, cdR_f, cdR_b, xs_nil, xs_set, xs_own, xs_unp, xs_app, xs_ext, xs_put, kExt_ok, kPut_last, xs_frz, xs_pas, xs_ret, xs_ife, xs_for, kSet_ok, kOwn_ok, kUnp_t, kUnp_l, kApp_ok, kRet_ok, kIf_t, kIf_f, kSeq_n, kSeq_r, kFor_ok, forFn_1, forFn_2, setAll_n, setAll_c, fin_r, fin_n, wipe_n, wipe_c, go_nil, go_cons, kGo_n, kGo_r, List.set_cons_zero, List.set_cons_succ, List.cons_append, List.nil_append, List.length_cons, List.length_nil, List.all_cons, List.all_nil, Bool.and_true, Bool.true_and, Bool.and_false, Bool.false_and, Bool.or_true, Bool.true_or, Bool.or_false, Bool.false_or, Bool.not_true, Bool.not_false, decide_true, decide_false, eq_self, Int.cast_ofNat_Int, beq_self_eq_true, s_far_wide, s_far_turn, s_wide_far, s_wide_turn, s_turn_far, s_turn_wide, List.any_cons, List.any_nil, Int.reduceEq, Int.reduceLT, Int.reduceLE, Int.reduceAdd, Int.reduceSub, Int.reduceMul, Int.reduceNeg, Int.reduceToNat, Bool.decide_eq_true, Bool.false_eq_true, ↓reduceIte, List.length_map, bitsM_len, Nat.zero_add, Nat.reduceAdd, call_cf, len_r, hp2]), fm_none]
    simp -implicitDefEqProofs (disch := first | exact sh_int | assumption | omega | (simp -implicitDefEqProofs only [List.length_cons, List.length_nil, List.length_map, List.length_append, List.length_reverse, List.length_take, List.length_drop, List.length_set, List.length_replicate, bitsM_len, bitsL_len]; omega) | (simp -implicitDefEqProofs only [sh_int, sh_oI, sh8_pairs, sh8_rows, sh8_row, sh9_row, sh9_p, sh_bl, sh_non, sh9t, sh9l, sh8t, sh8l, sh7t, sh7l, sh6t, sh6l, sh5t, sh5l, sh4t, sh4l, sh_ints, sh_str, List.all_cons, List.all_nil, List.all_append, List.all_reverse, Bool.and_true, Bool.and_self]; done) | (simp -implicitDefEqProofs only [sh_int, sh_oI, sh8_pairs, sh8_rows, sh8_row, sh9_row, sh9_p, sh_bl, sh_non, sh9t, sh9l, sh8t, sh8l, sh7t, sh7l, sh6t, sh6l, sh5t, sh5l, sh4t, sh4l, sh_ints, sh_str, List.all_cons, List.all_nil, List.all_append, List.all_reverse, Bool.and_true, Bool.and_self]; decide +kernel)) only [ev_var, ev_cst, ev_glb, ev_bin, ev_cmp, ev_neg, ev_not, ev_chn, ev_and, ev_or, ev_idx, ev_cut, ev_stp, ev_tup, ev_lst, ev_call, ev_bi, ev_isi, ev_lc, ev_mth, ev_rpl, ev_kin, ev_kget, ev_sst, ev_lss, evs_nil, evs_cons, b1_ok, b2_ok, bs_ok, bcons_ok, band_t, band_f, band_b, bor_t, bor_f, bor_b, b3_ok, dNot_b, dNeg_i, prt_f, prt_t, blc_ok, bit_ok, dTup_ok, dLst_ok, add_ii, sub_ii, mul_l, mul_r, div_ii, mod_ii, add_tt, add_ll, mul_t1i, mul_l1i, lt_ii, le_ii, gt_ii, ge_ii, chn_le, is_bb, isn_bb, is_nn, is_in, isn_nn, isn_in, is_on, isn_on, deq_nn, deq_ni, deq_in, deq_oi, deq_oo, sh_oI, oI_s, oI_n, eq_ok, ne_ok, in_tup, nin_tup, in_lst, nin_lst, sh_int, sh_bl, sh_non, sh_str, sh_ints, deq_ii, deq_bb, deq_ss, deq_tt, deq_ll, deqL_nil, deqL_cons, deqL_nc, deqL_cn, deqL_ints, deqL_pairs, deqL_rows, deq_rr, deq_pp, get_0, get_s, ix_t0, ix_t1, ix_t2, ix_t3, ix_t4, ix_t5, ix_t6, ix_l0, ix_l1, ix_l2, ix_l3, ix_l4, ix_l5, ix_lb, ix_tb, dCut_t, dCut_l, rev_t, rev_l, even_t, odd_t, even_l, odd_l, len_t, len_l, int_b, int_i, tuple_t, tuple_l, list_t, list_l, abs_i, sum_t, sum_l, max_2, min_2, max_3, min_3, all_l, isi_ii, isi_ib, isi_is, isi_it, isi_il, isi_bi, isi_bb, isi_bt, isi_bs, isi_tt, isi_tl, isi_ti, isi_ts, isi_ll, isi_lt, isi_li, isi_ls, isi_ss, isi_si, isi_st, isi_sb, it_t, it_l, it_r1, it_r2, it_et, it_el, it_ztt, it_zll, it_ztl, it_zlt, lcFn_1, lcFn_2, cdR_t, cdR_f, cdR_b, xs_nil, xs_set, xs_own, xs_unp, xs_app, xs_ext, xs_put, kExt_ok, kPut_last, xs_frz, xs_pas, xs_ret, xs_ife, xs_for, kSet_ok, kOwn_ok, kUnp_t, kUnp_l, kApp_ok, kRet_ok, kIf_t, kIf_f, kSeq_n, kSeq_r, kFor_ok, forFn_1, forFn_2, setAll_n, setAll_c, fin_r, fin_n, wipe_n, wipe_c, kGo_n, kGo_r, List.set_cons_zero, List.set_cons_succ, List.cons_append, List.nil_append, List.length_cons, List.length_nil, List.all_cons, List.all_nil, Bool.and_true, Bool.true_and, Bool.and_false, Bool.false_and, Bool.or_true, Bool.true_or, Bool.or_false, Bool.false_or, Bool.not_true, Bool.not_false, decide_true, decide_false, eq_self, Int.cast_ofNat_Int, beq_self_eq_true, s_far_wide, s_far_turn, s_wide_far, s_wide_turn, s_turn_far, s_turn_wide, List.any_cons, List.any_nil, Int.reduceEq, Int.reduceLT, Int.reduceLE, Int.reduceAdd, Int.reduceSub, Int.reduceMul, Int.reduceNeg, Int.reduceToNat, Bool.decide_eq_true, Bool.false_eq_true, ↓reduceIte, List.length_map, bitsM_len, Nat.zero_add, Nat.reduceAdd, call_cf, e2]
  | false =>
    cases hq : (way == "wide") with
    | true =>
      have hz := hwide hf hq
      subst hz
      simp -implicitDefEqProofs (disch := first | exact sh_int | assumption | omega | (simp -implicitDefEqProofs only [List.length_cons, List.length_nil, List.length_map, List.length_append, List.length_reverse, List.length_take, List.length_drop, List.length_set, List.length_replicate, bitsM_len, bitsL_len]; omega) | (simp -implicitDefEqProofs only [sh_int, sh_oI, sh8_pairs, sh8_rows, sh8_row, sh9_row, sh9_p, sh_bl, sh_non, sh9t, sh9l, sh8t, sh8l, sh7t, sh7l, sh6t, sh6l, sh5t, sh5l, sh4t, sh4l, sh_ints, sh_str, List.all_cons, List.all_nil, List.all_append, List.all_reverse, Bool.and_true, Bool.and_self]; done) | (simp -implicitDefEqProofs only [sh_int, sh_oI, sh8_pairs, sh8_rows, sh8_row, sh9_row, sh9_p, sh_bl, sh_non, sh9t, sh9l, sh8t, sh8l, sh7t, sh7l, sh6t, sh6l, sh5t, sh5l, sh4t, sh4l, sh_ints, sh_str, List.all_cons, List.all_nil, List.all_append, List.all_reverse, Bool.and_true, Bool.and_self]; decide +kernel)) only [ev_var, ev_cst, ev_glb, ev_bin, ev_cmp, ev_neg, ev_not, ev_chn, ev_and, ev_or, ev_idx, ev_cut, ev_stp, ev_tup, ev_lst, ev_call, ev_bi, ev_isi, ev_lc, ev_mth, ev_rpl, ev_kin, ev_kget, ev_sst, ev_lss, evs_nil, evs_cons, b1_ok, b2_ok, bs_ok, bcons_ok, band_t, band_f, band_b, bor_t, bor_f, bor_b, b3_ok, dNot_b, dNeg_i, prt_f, prt_t, blc_ok, bit_ok, dTup_ok, dLst_ok, add_ii, sub_ii, mul_l, mul_r, div_ii, mod_ii, add_tt, add_ll, mul_t1i, mul_l1i, lt_ii, le_ii, gt_ii, ge_ii, chn_le, is_bb, isn_bb, is_nn, is_in, isn_nn, isn_in, is_on, isn_on, deq_nn, deq_ni, deq_in, deq_oi, deq_oo, sh_oI, oI_s, oI_n, eq_ok, ne_ok, in_tup, nin_tup, in_lst, nin_lst, sh_int, sh_bl, sh_non, sh_str, sh_ints, deq_ii, deq_bb, deq_ss, deq_tt, deq_ll, deqL_nil, deqL_cons, deqL_nc, deqL_cn, deqL_ints, deqL_pairs, deqL_rows, deq_rr, deq_pp, get_0, get_s, ix_t0, ix_t1, ix_t2, ix_t3, ix_t4, ix_t5, ix_t6, ix_l0, ix_l1, ix_l2, ix_l3, ix_l4, ix_l5, ix_lb, ix_tb, dCut_t, dCut_l, rev_t, rev_l, even_t, odd_t, even_l, odd_l, len_t, len_l, int_b, int_i, tuple_t, tuple_l, list_t, list_l, abs_i, sum_t, sum_l, max_2, min_2, max_3, min_3, all_l, isi_ii, isi_ib, isi_is, isi_it, isi_il, isi_bi, isi_bb, isi_bt, isi_bs, isi_tt, isi_tl, isi_ti, isi_ts, isi_ll, isi_lt, isi_li, isi_ls, isi_ss, isi_si, isi_st, isi_sb, it_t, it_l, it_r1, it_r2, it_et, it_el, it_ztt, it_zll, it_ztl, it_zlt, lcFn_1, lcFn_2, cdR_t, cdR_f, cdR_b, xs_nil, xs_set, xs_own, xs_unp, xs_app, xs_ext, xs_put, kExt_ok, kPut_last, xs_frz, xs_pas, xs_ret, xs_ife, xs_for, kSet_ok, kOwn_ok, kUnp_t, kUnp_l, kApp_ok, kRet_ok, kIf_t, kIf_f, kSeq_n, kSeq_r, kFor_ok, forFn_1, forFn_2, setAll_n, setAll_c, fin_r, fin_n, wipe_n, wipe_c, kGo_n, kGo_r, List.set_cons_zero, List.set_cons_succ, List.cons_append, List.nil_append, List.length_cons, List.length_nil, List.all_cons, List.all_nil, Bool.and_true, Bool.true_and, Bool.and_false, Bool.false_and, Bool.or_true, Bool.true_or, Bool.or_false, Bool.false_or, Bool.not_true, Bool.not_false, decide_true, decide_false, eq_self, Int.cast_ofNat_Int, beq_self_eq_true, s_far_wide, s_far_turn, s_wide_far, s_wide_turn, s_turn_far, s_turn_wide, List.any_cons, List.any_nil, Int.reduceEq, Int.reduceLT, Int.reduceLE, Int.reduceAdd, Int.reduceSub, Int.reduceMul, Int.reduceNeg, Int.reduceToNat, Bool.decide_eq_true, Bool.false_eq_true, ↓reduceIte, List.length_map, bitsM_len, Nat.zero_add, Nat.reduceAdd, call_cf, ess, mk_0, mk_4, hf, hq, hSZ, it_rows, ei]
      rw [lcS_fm (fun _ => none) (by rw [List.length_map]; omega) (fun d hd => by
        obtain ⟨r, hr, rfl⟩ := List.mem_map.mp hd
        obtain ⟨bs, rfl, hl, _⟩ := hmem r hr
        simp -implicitDefEqProofs (disch := first | exact sh_int | assumption | omega | (simp -implicitDefEqProofs only [List.length_cons, List.length_nil, List.length_map, List.length_append, List.length_reverse, List.length_take, List.length_drop, List.length_set, List.length_replicate, bitsM_len, bitsL_len]; omega) | (simp -implicitDefEqProofs only [sh_int, sh_oI, sh8_pairs, sh8_rows, sh8_row, sh9_row, sh9_p, sh_bl, sh_non, sh9t, sh9l, sh8t, sh8l, sh7t, sh7l, sh6t, sh6l, sh5t, sh5l, sh4t, sh4l, sh_ints, sh_str, List.all_cons, List.all_nil, List.all_append, List.all_reverse, Bool.and_true, Bool.and_self]; done) | (simp -implicitDefEqProofs only [sh_int, sh_oI, sh8_pairs, sh8_rows, sh8_row, sh9_row, sh9_p, sh_bl, sh_non, sh9t, sh9l, sh8t, sh8l, sh7t, sh7l, sh6t, sh6l, sh5t, sh5l, sh4t, sh4l, sh_ints, sh_str, List.all_cons, List.all_nil, List.all_append, List.all_reverse, Bool.and_true, Bool.and_self]; decide +kernel)) only [ev_var, ev_cst, ev_glb, ev_bin, ev_cmp, ev_neg, ev_not, ev_chn, ev_and, ev_or, ev_idx, ev_cut, ev_stp, ev_tup, ev_lst, ev_call, ev_bi, ev_isi, ev_lc, ev_mth, ev_rpl, ev_kin, ev_kget, ev_sst, ev_lss, evs_nil, evs_cons, b1_ok, b2_ok, bs_ok, bcons_ok, band_t, band_f, band_b, bor_t, bor_f, bor_b, b3_ok, dNot_b, dNeg_i, prt_f, prt_t, blc_ok, bit_ok, dTup_ok, dLst_ok, add_ii, sub_ii, mul_l, mul_r, div_ii, mod_ii, add_tt, add_ll, mul_t1i, mul_l1i, lt_ii, le_ii, gt_ii, ge_ii, chn_le, is_bb, isn_bb, is_nn, is_in, isn_nn, isn_in, is_on, isn_on, deq_nn, deq_ni, deq_in, deq_oi, deq_oo, sh_oI, oI_s, oI_n, eq_ok, ne_ok, in_tup, nin_tup, in_lst, nin_lst, sh_int, sh_bl, sh_non, sh_str, sh_ints, deq_ii, deq_bb, deq_ss, deq_tt, deq_ll, deqL_nil, deqL_cons, deqL_nc, deqL_cn, deqL_ints, deqL_pairs, deqL_rows, deq_rr, deq_pp, get_0, get_s, ix_t0, ix_t1, ix_t2, ix_t3, ix_t4, ix_t5, ix_t6, ix_l0, ix_l1, ix_l2, ix_l3, ix_l4, ix_l5, ix_lb, ix_tb, dCut_t, dCut_l, rev_t, rev_l, even_t, odd_t, even_l, odd_l, len_t, len_l, int_b, int_i, tuple_t, tuple_l, list_t, list_l, abs_i, sum_t, sum_l, max_2, min_2, max_3, min_3, all_l, isi_ii, isi_ib, isi_is, isi_it, isi_il, isi_bi, isi_bb, isi_bt, isi_bs, isi_tt, isi_tl, isi_ti, isi_ts, isi_ll, isi_lt, isi_li, isi_ls, isi_ss, isi_si, isi_st, isi_sb, it_t, it_l, it_r1, it_r2, it_et, it_el, it_ztt, it_zll, it_ztl, it_zlt, lcFn_1, lcFn_2, cdR_t, cdR_f, cdR_b, xs_nil, xs_set, xs_own, xs_unp, xs_app, xs_ext, xs_put, kExt_ok, kPut_last, xs_frz, xs_pas, xs_ret, xs_ife, xs_for, kSet_ok, kOwn_ok, kUnp_t, kUnp_l, kApp_ok, kRet_ok, kIf_t, kIf_f, kSeq_n, kSeq_r, kFor_ok, forFn_1, forFn_2, setAll_n, setAll_c, fin_r, fin_n, wipe_n, wipe_c, go_nil, go_cons, kGo_n, kGo_r, List.set_cons_zero, List.set_cons_succ, List.cons_append, List.nil_append, List.length_cons, List.length_nil, List.all_cons, List.all_nil, Bool.and_true, Bool.true_and, Bool.and_false, Bool.false_and, Bool.or_true, Bool.true_or, Bool.or_false, Bool.false_or, Bool.not_true, Bool.not_false, decide_true, decide_false, eq_self, Int.cast_ofNat_Int, beq_self_eq_true, s_far_wide, s_far_turn, s_wide_far, s_wide_turn, s_turn_far, s_turn_wide, List.any_cons, List.any_nil, Int.reduceEq, Int.reduceLT, Int.reduceLE, Int.reduceAdd, Int.reduceSub, Int.reduceMul, Int.reduceNeg, Int.reduceToNat, Bool.decide_eq_true, Bool.false_eq_true, ↓reduceIte, List.length_map, bitsM_len, Nat.zero_add, Nat.reduceAdd, call_cf, hfl, hht, ei]), fm_none]
      simp -implicitDefEqProofs (disch := first | exact sh_int | assumption | omega | (simp -implicitDefEqProofs only [List.length_cons, List.length_nil, List.length_map, List.length_append, List.length_reverse, List.length_take, List.length_drop, List.length_set, List.length_replicate, bitsM_len, bitsL_len]; omega) | (simp -implicitDefEqProofs only [sh_int, sh_oI, sh8_pairs, sh8_rows, sh8_row, sh9_row, sh9_p, sh_bl, sh_non, sh9t, sh9l, sh8t, sh8l, sh7t, sh7l, sh6t, sh6l, sh5t, sh5l, sh4t, sh4l, sh_ints, sh_str, List.all_cons, List.all_nil, List.all_append, List.all_reverse, Bool.and_true, Bool.and_self]; done) | (simp -implicitDefEqProofs only [sh_int, sh_oI, sh8_pairs, sh8_rows, sh8_row, sh9_row, sh9_p, sh_bl, sh_non, sh9t, sh9l, sh8t, sh8l, sh7t, sh7l, sh6t, sh6l, sh5t, sh5l, sh4t, sh4l, sh_ints, sh_str, List.all_cons, List.all_nil, List.all_append, List.all_reverse, Bool.and_true, Bool.and_self]; decide +kernel)) only [ev_var, ev_cst, ev_glb, ev_bin, ev_cmp, ev_neg, ev_not, ev_chn, ev_and, ev_or, ev_idx, ev_cut, ev_stp, ev_tup, ev_lst, ev_call, ev_bi, ev_isi, ev_lc, ev_mth, ev_rpl, ev_kin, ev_kget, ev_sst, ev_lss, evs_nil, evs_cons, b1_ok, b2_ok, bs_ok, bcons_ok, band_t, band_f, band_b, bor_t, bor_f, bor_b, b3_ok, dNot_b, dNeg_i, prt_f, prt_t, blc_ok, bit_ok, dTup_ok, dLst_ok, add_ii, sub_ii, mul_l, mul_r, div_ii, mod_ii, add_tt, add_ll, mul_t1i, mul_l1i, lt_ii, le_ii, gt_ii, ge_ii, chn_le, is_bb, isn_bb, is_nn, is_in, isn_nn, isn_in, is_on, isn_on, deq_nn, deq_ni, deq_in, deq_oi, deq_oo, sh_oI, oI_s, oI_n, eq_ok, ne_ok, in_tup, nin_tup, in_lst, nin_lst, sh_int, sh_bl, sh_non, sh_str, sh_ints, deq_ii, deq_bb, deq_ss, deq_tt, deq_ll, deqL_nil, deqL_cons, deqL_nc, deqL_cn, deqL_ints, deqL_pairs, deqL_rows, deq_rr, deq_pp, get_0, get_s, ix_t0, ix_t1, ix_t2, ix_t3, ix_t4, ix_t5, ix_t6, ix_l0, ix_l1, ix_l2, ix_l3, ix_l4, ix_l5, ix_lb, ix_tb, dCut_t, dCut_l, rev_t, rev_l, even_t, odd_t, even_l, odd_l, len_t, len_l, int_b, int_i, tuple_t, tuple_l, list_t, list_l, abs_i, sum_t, sum_l, max_2, min_2, max_3, min_3, all_l, isi_ii, isi_ib, isi_is, isi_it, isi_il, isi_bi, isi_bb, isi_bt, isi_bs, isi_tt, isi_tl, isi_ti, isi_ts, isi_ll, isi_lt, isi_li, isi_ls, isi_ss, isi_si, isi_st, isi_sb, it_t, it_l, it_r1, it_r2, it_et, it_el, it_ztt, it_zll, it_ztl, it_zlt, lcFn_1, lcFn_2, cdR_t, cdR_f, cdR_b, xs_nil, xs_set, xs_own, xs_unp, xs_app, xs_ext, xs_put, kExt_ok, kPut_last, xs_frz, xs_pas, xs_ret, xs_ife, xs_for, kSet_ok, kOwn_ok, kUnp_t, kUnp_l, kApp_ok, kRet_ok, kIf_t, kIf_f, kSeq_n, kSeq_r, kFor_ok, forFn_1, forFn_2, setAll_n, setAll_c, fin_r, fin_n, wipe_n, wipe_c, kGo_n, kGo_r, List.set_cons_zero, List.set_cons_succ, List.cons_append, List.nil_append, List.length_cons, List.length_nil, List.all_cons, List.all_nil, Bool.and_true, Bool.true_and, Bool.and_false, Bool.false_and, Bool.or_true, Bool.true_or, Bool.or_false, Bool.false_or, Bool.not_true, Bool.not_false, decide_true, decide_false, eq_self, Int.cast_ofNat_Int, beq_self_eq_true, s_far_wide, s_far_turn, s_wide_far, s_wide_turn, s_turn_far, s_turn_wide, List.any_cons, List.any_nil, Int.reduceEq, Int.reduceLT, Int.reduceLE, Int.reduceAdd, Int.reduceSub, Int.reduceMul, Int.reduceNeg, Int.reduceToNat, Bool.decide_eq_true, Bool.false_eq_true, ↓reduceIte, List.length_map, bitsM_len, Nat.zero_add, Nat.reduceAdd, call_cf, it_rows, ei, ebad, els, elr, hni, hfl, mk_c13, hht2]
      rw [lcS_fm (fun _ => none) (by rw [List.length_map]; omega) (fun d hd => by
        obtain ⟨r, hr, rfl⟩ := List.mem_map.mp hd
        obtain ⟨bs, rfl, hl, h1, h2⟩ := hmem r hr
        have hp := flash_par way head gap unit bs h1 h2
        have hp2 : ¬ (((flashL way head gap unit bs).length : Nat) : Int) % 2 = 0 := by omega
        simp -implicitDefEqProofs (disch := first | exact sh_int | assumption | omega | (simp -implicitDefEqProofs only [List.length_cons, List.length_nil, List.length_map, List.length_append, List.length_reverse, List.length_take, List.length_drop, List.length_set, List.length_replicate, bitsM_len, bitsL_len]; omega) | (simp -implicitDefEqProofs only [sh_int, sh_oI, sh8_pairs, sh8_rows, sh8_row, sh9_row, sh9_p, sh_bl, sh_non, sh9t, sh9l, sh8t, sh8l, sh7t, sh7l, sh6t, sh6l, sh5t, sh5l, sh4t, sh4l, sh_ints, sh_str, List.all_cons, List.all_nil, List.all_append, List.all_reverse, Bool.and_true, Bool.and_self]; done) | (simp -implicitDefEqProofs only [sh_int, sh_oI, sh8_pairs, sh8_rows, sh8_row, sh9_row, sh9_p, sh_bl, sh_non, sh9t, sh9l, sh8t, sh8l, sh7t, sh7l, sh6t, sh6l, sh5t, sh5l, sh4t, sh4l, sh_ints, sh_str, List.all_cons, List.all_nil, List.all_append, List.all_reverse, Bool.and_true, Bool.and_self]; decide +kernel)) only [ev_var, ev_cst, ev_glb, ev_bin, ev_cmp, ev_neg, ev_not, ev_chn, ev_and, ev_or, ev_idx, ev_cut, ev_stp, ev_tup, ev_lst, ev_call, ev_bi, ev_isi, ev_lc, ev_mth, ev_rpl, ev_kin, ev_kget, ev_sst, ev_lss, evs_nil, evs_cons, b1_ok, b2_ok, bs_ok, bcons_ok, band_t, band_f, band_b, bor_t, bor_f, bor_b, b3_ok, dNot_b, dNeg_i, prt_f, prt_t, blc_ok, bit_ok, dTup_ok, dLst_ok, add_ii, sub_ii, mul_l, mul_r, div_ii, mod_ii, add_tt, add_ll, mul_t1i, mul_l1i, lt_ii, le_ii, gt_ii, ge_ii, chn_le, is_bb, isn_bb, is_nn, is_in, isn_nn, isn_in, is_on, isn_on, deq_nn, deq_ni, deq_in, deq_oi, deq_oo, sh_oI, oI_s, oI_n, eq_ok, ne_ok, in_tup, nin_tup, in_lst, nin_lst, sh_int, sh_bl, sh_non, sh_str, sh_ints, deq_ii, deq_bb, deq_ss, deq_tt, deq_ll, deqL_nil, deqL_cons, deqL_nc, deqL_cn, deqL_ints, deqL_pairs, deqL_rows, deq_rr, deq_pp, get_0, get_s, ix_t0, ix_t1, ix_t2, ix_t3, ix_t4, ix_t5, ix_t6, ix_l0, ix_l1, ix_l2, ix_l3, ix_l4, ix_l5, ix_lb, ix_tb, dCut_t, dCut_l, rev_t, rev_l, even_t, odd_t, even_l, odd_l, len_t, len_l, int_b, int_i, tuple_t, tuple_l, list_t, list_l, abs_i, sum_t, sum_l, max_2, min_2, max_3, min_3, all_l, isi_ii, isi_ib, isi_is, isi_it, isi_il, isi_bi, isi_bb, isi_bt, isi_bs, isi_tt, isi_tl, isi_ti, isi_ts, isi_ll, isi_lt, isi_li, isi_ls, isi_ss, isi_si, isi_st, isi_sb, it_t, it_l, it_r1, it_r2, it_et, it_el, it_ztt, it_zll, it_ztl, it_zlt, lcFn_1, lcFn_2, cdR_t, cdR_f, cdR_b, xs_nil, xs_set, xs_own, xs_unp, xs_app, xs_ext, xs_put, kExt_ok, kPut_last, xs_frz, xs_pas, xs_ret, xs_ife, xs_for, kSet_ok, kOwn_ok, kUnp_t, kUnp_l, kApp_ok, kRet_ok, kIf_t, kIf_f, kSeq_n, kSeq_r, kFor_ok, forFn_1, forFn_2, setAll_n, setAll_c, fin_r, fin_n, wipe_n, wipe_c, go_nil, go_cons, kGo_n, kGo_r, List.set_cons_zero, List.set_cons_succ, List.cons_append, List.nil_append, List.length_cons, List.length_nil, List.all_cons, List.all_nil, Bool.and_true, Bool.true_and, Bool.and_false, Bool.false_and, Bool.or_true, Bool.true_or, Bool.or_false, Bool.false_or, Bool.not_true, Bool.not_false, decide_true, decide_false, eq_self, Int.cast_ofNat_Int, beq_self_eq_true, s_far_wide, s_far_turn, s_wide_far, s_wide_turn, s_turn_far, s_turn_wide, List.any_cons, List.any_nil, Int.reduceEq, Int.reduceLT, Int.reduceLE, Int.reduceAdd, Int.reduceSub, Int.reduceMul, Int.reduceNeg, Int.reduceToNat, Bool.decide_eq_true, Bool.false_eq_true, ↓reduceIte, List.length_map, bitsM_len, Nat.zero_add, Nat.reduceAdd, call_cf, len_r, hp2]), fm_none]
      simp -implicitDefEqProofs (disch := first | exact sh_int | assumption | omega | (simp -implicitDefEqProofs only [List.length_cons, List.length_nil, List.length_map, List.length_append, List.length_reverse, List.length_take, List.length_drop, List.length_set, List.length_replicate, bitsM_len, bitsL_len]; omega) | (simp -implicitDefEqProofs only [sh_int, sh_oI, sh8_pairs, sh8_rows, sh8_row, sh9_row, sh9_p, sh_bl, sh_non, sh9t, sh9l, sh8t, sh8l, sh7t, sh7l, sh6t, sh6l, sh5t, sh5l, sh4t, sh4l, sh_ints, sh_str, List.all_cons, List.all_nil, List.all_append, List.all_reverse, Bool.and_true, Bool.and_self]; done) | (simp -implicitDefEqProofs only [sh_int, sh_oI, sh8_pairs, sh8_rows, sh8_row, sh9_row, sh9_p, sh_bl, sh_non, sh9t, sh9l, sh8t, sh8l, sh7t, sh7l, sh6t, sh6l, sh5t, sh5l, sh4t, sh4l, sh_ints, sh_str, List.all_cons, List.all_nil, List.all_append, List.all_reverse, Bool.and_true, Bool.and_self]; decide +kernel)) only [ev_var, ev_cst, ev_glb, ev_bin, ev_cmp, ev_neg, ev_not, ev_chn, ev_and, ev_or, ev_idx, ev_cut, ev_stp, ev_tup, ev_lst, ev_call, ev_bi, ev_isi, ev_lc, ev_mth, ev_rpl, ev_kin, ev_kget, ev_sst, ev_lss, evs_nil, evs_cons, b1_ok, b2_ok, bs_ok, bcons_ok, band_t, band_f, band_b, bor_t, bor_f, bor_b, b3_ok, dNot_b, dNeg_i, prt_f, prt_t, blc_ok, bit_ok, dTup_ok, dLst_ok, add_ii, sub_ii, mul_l, mul_r, div_ii, mod_ii, add_tt, add_ll, mul_t1i, mul_l1i, lt_ii, le_ii, gt_ii, ge_ii, chn_le, is_bb, isn_bb, is_nn, is_in, isn_nn, isn_in, is_on, isn_on, deq_nn, deq_ni, deq_in, deq_oi, deq_oo, sh_oI, oI_s, oI_n, eq_ok, ne_ok, in_tup, nin_tup, in_lst, nin_lst, sh_int, sh_bl, sh_non, sh_str, sh_ints, deq_ii, deq_bb, deq_ss, deq_tt, deq_ll, deqL_nil, deqL_cons, deqL_nc, deqL_cn, deqL_ints, deqL_pairs, deqL_rows, deq_rr, deq_pp, get_0, get_s, ix_t0, ix_t1, ix_t2, ix_t3, ix_t4, ix_t5, ix_t6, ix_l0, ix_l1, ix_l2, ix_l3, ix_l4, ix_l5, ix_lb, ix_tb, dCut_t, dCut_l, rev_t, rev_l, even_t, odd_t, even_l, odd_l, len_t, len_l, int_b, int_i, tuple_t, tuple_l, list_t, list_l, abs_i, sum_t, sum_l, max_2, min_2, max_3, min_3, all_l, isi_ii, isi_ib, isi_is, isi_it, isi_il, isi_bi, isi_bb, isi_bt, isi_bs, isi_tt, isi_tl, isi_ti, isi_ts, isi_ll, isi_lt, isi_li, isi_ls, isi_ss, isi_si, isi_st, isi_sb, it_t, it_l, it_r1, it_r2, it_et, it_el, it_ztt, it_zll, it_ztl, it_zlt, lcFn_1, lcFn_2, cdR_t, cdR_f, cdR_b, xs_nil, xs_set, xs_own, xs_unp, xs_app, xs_ext, xs_put, kExt_ok, kPut_last, xs_frz, xs_pas, xs_ret, xs_ife, xs_for, kSet_ok, kOwn_ok, kUnp_t, kUnp_l, kApp_ok, kRet_ok, kIf_t, kIf_f, kSeq_n, kSeq_r, kFor_ok, forFn_1, forFn_2, setAll_n, setAll_c, fin_r, fin_n, wipe_n, wipe_c, kGo_n, kGo_r, List.set_cons_zero, List.set_cons_succ, List.cons_append, List.nil_append, List.length_cons, List.length_nil, List.all_cons, List.all_nil, Bool.and_true, Bool.true_and, Bool.and_false, Bool.false_and, Bool.or_true, Bool.true_or, Bool.or_false, Bool.false_or, Bool.not_true, Bool.not_false, decide_true, decide_false, eq_self, Int.cast_ofNat_Int, beq_self_eq_true, s_far_wide, s_far_turn, s_wide_far, s_wide_turn, s_turn_far, s_turn_wide, List.any_cons, List.any_nil, Int.reduceEq, Int.reduceLT, Int.reduceLE, Int.reduceAdd, Int.reduceSub, Int.reduceMul, Int.reduceNeg, Int.reduceToNat, Bool.decide_eq_true, Bool.false_eq_true, ↓reduceIte, List.length_map, bitsM_len, Nat.zero_add, Nat.reduceAdd, call_cf, e2]
    | false =>
      simp -implicitDefEqProofs (disch := first | exact sh_int | assumption | omega | (simp -implicitDefEqProofs only [List.length_cons, List.length_nil, List.length_map, List.length_append, List.length_reverse, List.length_take, List.length_drop, List.length_set, List.length_replicate, bitsM_len, bitsL_len]; omega) | (simp -implicitDefEqProofs only [sh_int, sh_oI, sh8_pairs, sh8_rows, sh8_row, sh9_row, sh9_p, sh_bl, sh_non, sh9t, sh9l, sh8t, sh8l, sh7t, sh7l, sh6t, sh6l, sh5t, sh5l, sh4t, sh4l, sh_ints, sh_str, List.all_cons, List.all_nil, List.all_append, List.all_reverse, Bool.and_true, Bool.and_self]; done) | (simp -implicitDefEqProofs only [sh_int, sh_oI, sh8_pairs, sh8_rows, sh8_row, sh9_row, sh9_p, sh_bl, sh_non, sh9t, sh9l, sh8t, sh8l, sh7t, sh7l, sh6t, sh6l, sh5t, sh5l, sh4t, sh4l, sh_ints, sh_str, List.all_cons, List.all_nil, List.all_append, List.all_reverse, Bool.and_true, Bool.and_self]; decide +kernel)) only [ev_var, ev_cst, ev_glb, ev_bin, ev_cmp, ev_neg, ev_not, ev_chn, ev_and, ev_or, ev_idx, ev_cut, ev_stp, ev_tup, ev_lst, ev_call, ev_bi, ev_isi, ev_lc, ev_mth, ev_rpl, ev_kin, ev_kget, ev_sst, ev_lss, evs_nil, evs_cons, b1_ok, b2_ok, bs_ok, bcons_ok, band_t, band_f, band_b, bor_t, bor_f, bor_b, b3_ok, dNot_b, dNeg_i, prt_f, prt_t, blc_ok, bit_ok, dTup_ok, dLst_ok, add_ii, sub_ii, mul_l, mul_r, div_ii, mod_ii, add_tt, add_ll, mul_t1i, mul_l1i, lt_ii, le_ii, gt_ii, ge_ii, chn_le, is_bb, isn_bb, is_nn, is_in, isn_nn, isn_in, is_on, isn_on, deq_nn, deq_ni, deq_in, deq_oi, deq_oo, sh_oI, oI_s, oI_n, eq_ok, ne_ok, in_tup, nin_tup, in_lst, nin_lst, sh_int, sh_bl, sh_non, sh_str, sh_ints, deq_ii, deq_bb, deq_ss, deq_tt, deq_ll, deqL_nil, deqL_cons, deqL_nc, deqL_cn, deqL_ints, deqL_pairs, deqL_rows, deq_rr, deq_pp, get_0, get_s, ix_t0, ix_t1, ix_t2, ix_t3, ix_t4, ix_t5, ix_t6, ix_l0, ix_l1, ix_l2, ix_l3, ix_l4, ix_l5, ix_lb, ix_tb, dCut_t, dCut_l, rev_t, rev_l, even_t, odd_t, even_l, odd_l, len_t, len_l, int_b, int_i, tuple_t, tuple_l, list_t, list_l, abs_i, sum_t, sum_l, max_2, min_2, max_3, min_3, all_l, isi_ii, isi_ib, isi_is, isi_it, isi_il, isi_bi, isi_bb, isi_bt, isi_bs, isi_tt, isi_tl, isi_ti, isi_ts, isi_ll, isi_lt, isi_li, isi_ls, isi_ss, isi_si, isi_st, isi_sb, it_t, it_l, it_r1, it_r2, it_et, it_el, it_ztt, it_zll, it_ztl, it_zlt, lcFn_1, lcFn_2, cdR_t, cdR_f, cdR_b, xs_nil, xs_set, xs_own, xs_unp, xs_app, xs_ext, xs_put, kExt_ok, kPut_last, xs_frz, xs_pas, xs_ret, xs_ife, xs_for, kSet_ok, kOwn_ok, kUnp_t, kUnp_l, kApp_ok, kRet_ok, kIf_t, kIf_f, kSeq_n, kSeq_r, kFor_ok, forFn_1, forFn_2, setAll_n, setAll_c, fin_r, fin_n, wipe_n, wipe_c, kGo_n, kGo_r, List.set_cons_zero, List.set_cons_succ, List.cons_append, List.nil_append, List.length_cons, List.length_nil, List.all_cons, List.all_nil, Bool.and_true, Bool.true_and, Bool.and_false, Bool.false_and, Bool.or_true, Bool.true_or, Bool.or_false, Bool.false_or, Bool.not_true, Bool.not_false, decide_true, decide_false, eq_self, Int.cast_ofNat_Int, beq_self_eq_true, s_far_wide, s_far_turn, s_wide_far, s_wide_turn, s_turn_far, s_turn_wide, List.any_cons, List.any_nil, Int.reduceEq, Int.reduceLT, Int.reduceLE, Int.reduceAdd, Int.reduceSub, Int.reduceMul, Int.reduceNeg, Int.reduceToNat, Bool.decide_eq_true, Bool.false_eq_true, ↓reduceIte, List.length_map, bitsM_len, Nat.zero_add, Nat.reduceAdd, call_cf, ess, mk_0, mk_4, hf, hq, it_rows, ei]
      rw [lcS_fm (fun _ => none) (by rw [List.length_map]; omega) (fun d hd => by
        obtain ⟨r, hr, rfl⟩ := List.mem_map.mp hd
        obtain ⟨bs, rfl, hl, _⟩ := hmem r hr
        simp -implicitDefEqProofs (disch := first | exact sh_int | assumption | omega | (simp -implicitDefEqProofs only [List.length_cons, List.length_nil, List.length_map, List.length_append, List.length_reverse, List.length_take, List.length_drop, List.length_set, List.length_replicate, bitsM_len, bitsL_len]; omega) | (simp -implicitDefEqProofs only [sh_int, sh_oI, sh8_pairs, sh8_rows, sh8_row, sh9_row, sh9_p, sh_bl, sh_non, sh9t, sh9l, sh8t, sh8l, sh7t, sh7l, sh6t, sh6l, sh5t, sh5l, sh4t, sh4l, sh_ints, sh_str, List.all_cons, List.all_nil, List.all_append, List.all_reverse, Bool.and_true, Bool.and_self]; done) | (simp -implicitDefEqProofs only [sh_int, sh_oI, sh8_pairs, sh8_rows, sh8_row, sh9_row, sh9_p, sh_bl, sh_non, sh9t, sh9l, sh8t, sh8l, sh7t, sh7l, sh6t, sh6l, sh5t, sh5l, sh4t, sh4l, sh_ints, sh_str, List.all_cons, List.all_nil, List.all_append, List.all_reverse, Bool.and_true, Bool.and_self]; decide +kernel)) only [ev_var, ev_cst, ev_glb, ev_bin, ev_cmp, ev_neg, ev_not, ev_chn, ev_and, ev_or, ev_idx, ev_cut, ev_stp, ev_tup, ev_lst, ev_call, ev_bi, ev_isi, ev_lc, ev_mth, ev_rpl, ev_kin, ev_kget, ev_sst, ev_lss, evs_nil, evs_cons, b1_ok, b2_ok, bs_ok, bcons_ok, band_t, band_f, band_b, bor_t, bor_f, bor_b, b3_ok, dNot_b, dNeg_i, prt_f, prt_t, blc_ok, bit_ok, dTup_ok, dLst_ok, add_ii, sub_ii, mul_l, mul_r, div_ii, mod_ii, add_tt, add_ll, mul_t1i, mul_l1i, lt_ii, le_ii, gt_ii, ge_ii, chn_le, is_bb, isn_bb, is_nn, is_in, isn_nn, isn_in, is_on, isn_on, deq_nn, deq_ni, deq_in, deq_oi, deq_oo, sh_oI, oI_s, oI_n, eq_ok, ne_ok, in_tup, nin_tup, in_lst, nin_lst, sh_int, sh_bl, sh_non, sh_str, sh_ints, deq_ii, deq_bb, deq_ss, deq_tt, deq_ll, deqL_nil, deqL_cons, deqL_nc, deqL_cn, deqL_ints, deqL_pairs, deqL_rows, deq_rr, deq_pp, get_0, get_s, ix_t0, ix_t1, ix_t2, ix_t3, ix_t4, ix_t5, ix_t6, ix_l0, ix_l1, ix_l2, ix_l3, ix_l4, ix_l5, ix_lb, ix_tb, dCut_t, dCut_l, rev_t, rev_l, even_t, odd_t, even_l, odd_l, len_t, len_l, int_b, int_i, tuple_t, tuple_l, list_t, list_l, abs_i, sum_t, sum_l, max_2, min_2, max_3, min_3, all_l, isi_ii, isi_ib, isi_is, isi_it, isi_il, isi_bi, isi_bb, isi_bt, isi_bs, isi_tt, isi_tl, isi_ti, isi_ts, isi_ll, isi_lt, isi_li, isi_ls, isi_ss, isi_si, isi_st, isi_sb, it_t, it_l, it_r1, it_r2, it_et, it_el, it_ztt, it_zll, it_ztl, it_zlt, lcFn_1, lcFn_2, cdR_t, cdR_f, cdR_b, xs_nil, xs_set, xs_own, xs_unp, xs_app, xs_ext, xs_put, kExt_ok, kPut_last, xs_frz, xs_pas, xs_ret, xs_ife, xs_for, kSet_ok, kOwn_ok, kUnp_t, kUnp_l, kApp_ok, kRet_ok, kIf_t, kIf_f, kSeq_n, kSeq_r, kFor_ok, forFn_1, forFn_2, setAll_n, setAll_c, fin_r, fin_n, wipe_n, wipe_c, go_nil, go_cons, kGo_n, kGo_r, List.set_cons_zero, List.set_cons_succ, List.cons_append, List.nil_append, List.length_cons, List.length_nil, List.all_cons, List.all_nil, Bool.and_true, Bool.true_and, Bool.and_false, Bool.false_and, Bool.or_true, Bool.true_or, Bool.or_false, Bool.false_or, Bool.not_true, Bool.not_false, decide_true, decide_false, eq_self, Int.cast_ofNat_Int, beq_self_eq_true, s_far_wide, s_far_turn, s_wide_far, s_wide_turn, s_turn_far, s_turn_wide, List.any_cons, List.any_nil, Int.reduceEq, Int.reduceLT, Int.reduceLE, Int.reduceAdd, Int.reduceSub, Int.reduceMul, Int.reduceNeg, Int.reduceToNat, Bool.decide_eq_true, Bool.false_eq_true, ↓reduceIte, List.length_map, bitsM_len, Nat.zero_add, Nat.reduceAdd, call_cf, hfl, hht, ei]), fm_none]
      simp -implicitDefEqProofs (disch := first | exact sh_int | assumption | omega | (simp -implicitDefEqProofs only [List.length_cons, List.length_nil, List.length_map, List.length_append, List.length_reverse, List.length_take, List.length_drop, List.length_set, List.length_replicate, bitsM_len, bitsL_len]; omega) | (simp -implicitDefEqProofs only [sh_int, sh_oI, sh8_pairs, sh8_rows, sh8_row, sh9_row, sh9_p, sh_bl, sh_non, sh9t, sh9l, sh8t, sh8l, sh7t, sh7l, sh6t, sh6l, sh5t, sh5l, sh4t, sh4l, sh_ints, sh_str, List.all_cons, List.all_nil, List.all_append, List.all_reverse, Bool.and_true, Bool.and_self]; done) | (simp -implicitDefEqProofs only [sh_int, sh_oI, sh8_pairs, sh8_rows, sh8_row, sh9_row, sh9_p, sh_bl, sh_non, sh9t, sh9l, sh8t, sh8l, sh7t, sh7l, sh6t, sh6l, sh5t, sh5l, sh4t, sh4l, sh_ints, sh_str, List.all_cons, List.all_nil, List.all_append, List.all_reverse, Bool.and_true, Bool.and_self]; decide +kernel)) only [ev_var, ev_cst, ev_glb, ev_bin, ev_cmp, ev_neg, ev_not, ev_chn, ev_and, ev_or, ev_idx, ev_cut, ev_stp, ev_tup, ev_lst, ev_call, ev_bi, ev_isi, ev_lc, ev_mth, ev_rpl, ev_kin, ev_kget, ev_sst, ev_lss, evs_nil, evs_cons, b1_ok, b2_ok, bs_ok, bcons_ok, band_t, band_f, band_b, bor_t, bor_f, bor_b, b3_ok, dNot_b, dNeg_i, prt_f, prt_t, blc_ok, bit_ok, dTup_ok, dLst_ok, add_ii, sub_ii, mul_l, mul_r, div_ii, mod_ii, add_tt, add_ll, mul_t1i, mul_l1i, lt_ii, le_ii, gt_ii, ge_ii, chn_le, is_bb, isn_bb, is_nn, is_in, isn_nn, isn_in, is_on, isn_on, deq_nn, deq_ni, deq_in, deq_oi, deq_oo, sh_oI, oI_s, oI_n, eq_ok, ne_ok, in_tup, nin_tup, in_lst, nin_lst, sh_int, sh_bl, sh_non, sh_str, sh_ints, deq_ii, deq_bb, deq_ss, deq_tt, deq_ll, deqL_nil, deqL_cons, deqL_nc, deqL_cn, deqL_ints, deqL_pairs, deqL_rows, deq_rr, deq_pp, get_0, get_s, ix_t0, ix_t1, ix_t2, ix_t3, ix_t4, ix_t5, ix_t6, ix_l0, ix_l1, ix_l2, ix_l3, ix_l4, ix_l5, ix_lb, ix_tb, dCut_t, dCut_l, rev_t, rev_l, even_t, odd_t, even_l, odd_l, len_t, len_l, int_b, int_i, tuple_t, tuple_l, list_t, list_l, abs_i, sum_t, sum_l, max_2, min_2, max_3, min_3, all_l, isi_ii, isi_ib, isi_is, isi_it, isi_il, isi_bi, isi_bb, isi_bt, isi_bs, isi_tt, isi_tl, isi_ti, isi_ts, isi_ll, isi_lt, isi_li, isi_ls, isi_ss, isi_si, isi_st, isi_sb, it_t, it_l, it_r1, it_r2, it_et, it_el, it_ztt, it_zll, it_ztl, it_zlt, lcFn_1, lcFn_2, cdR_t, cdR_f, cdR_b, xs_nil, xs_set, xs_own, xs_unp, xs_app, xs_ext, xs_put, kExt_ok, kPut_last, xs_frz, xs_pas, xs_ret, xs_ife, xs_for, kSet_ok, kOwn_ok, kUnp_t, kUnp_l, kApp_ok, kRet_ok, kIf_t, kIf_f, kSeq_n, kSeq_r, kFor_ok, forFn_1, forFn_2, setAll_n, setAll_c, fin_r, fin_n, wipe_n, wipe_c, kGo_n, kGo_r, List.set_cons_zero, List.set_cons_succ, List.cons_append, List.nil_append, List.length_cons, List.length_nil, List.all_cons, List.all_nil, Bool.and_true, Bool.true_and, Bool.and_false, Bool.false_and, Bool.or_true, Bool.true_or, Bool.or_false, Bool.false_or, Bool.not_true, Bool.not_false, decide_true, decide_false, eq_self, Int.cast_ofNat_Int, beq_self_eq_true, s_far_wide, s_far_turn, s_wide_far, s_wide_turn, s_turn_far, s_turn_wide, List.any_cons, List.any_nil, Int.reduceEq, Int.reduceLT, Int.reduceLE, Int.reduceAdd, Int.reduceSub, Int.reduceMul, Int.reduceNeg, Int.reduceToNat, Bool.decide_eq_true, Bool.false_eq_true, ↓reduceIte, List.length_map, bitsM_len, Nat.zero_add, Nat.reduceAdd, call_cf, it_rows, ei, ebad, els, elr, hni, hfl, mk_c13, hht2]
      rw [lcS_fm (fun _ => none) (by rw [List.length_map]; omega) (fun d hd => by
        obtain ⟨r, hr, rfl⟩ := List.mem_map.mp hd
        obtain ⟨bs, rfl, hl, h1, h2⟩ := hmem r hr
        have hp := flash_par way head gap unit bs h1 h2
        have hp2 : ¬ (((flashL way head gap unit bs).length : Nat) : Int) % 2 = 0 := by omega
        simp -implicitDefEqProofs (disch := first | exact sh_int | assumption | omega | (simp -implicitDefEqProofs only [List.length_cons, List.length_nil, List.length_map, List.length_append, List.length_reverse, List.length_take, List.length_drop, List.length_set, List.length_replicate, bitsM_len, bitsL_len]; omega) | (simp -implicitDefEqProofs only [sh_int, sh_oI, sh8_pairs, sh8_rows, sh8_row, sh9_row, sh9_p, sh_bl, sh_non, sh9t, sh9l, sh8t, sh8l, sh7t, sh7l, sh6t, sh6l, sh5t, sh5l, sh4t, sh4l, sh_ints, sh_str, List.all_cons, List.all_nil, List.all_append, List.all_reverse, Bool.and_true, Bool.and_self]; done) | (simp -implicitDefEqProofs only [sh_int, sh_oI, sh8_pairs, sh8_rows, sh8_row, sh9_row, sh9_p, sh_bl, sh_non, sh9t, sh9l, sh8t, sh8l, sh7t, sh7l, sh6t, sh6l, sh5t, sh5l, sh4t, sh4l, sh_ints, sh_str, List.all_cons, List.all_nil, List.all_append, List.all_reverse, Bool.and_true, Bool.and_self]; decide +kernel)) only [ev_var, ev_cst, ev_glb, ev_bin, ev_cmp, ev_neg, ev_not, ev_chn, ev_and, ev_or, ev_idx, ev_cut, ev_stp, ev_tup, ev_lst, ev_call, ev_bi, ev_isi, ev_lc, ev_mth, ev_rpl, ev_kin, ev_kget, ev_sst, ev_lss, evs_nil, evs_cons, b1_ok, b2_ok, bs_ok, bcons_ok, band_t, band_f, band_b, bor_t, bor_f, bor_b, b3_ok, dNot_b, dNeg_i, prt_f, prt_t, blc_ok, bit_ok, dTup_ok, dLst_ok, add_ii, sub_ii, mul_l, mul_r, div_ii, mod_ii, add_tt, add_ll, mul_t1i, mul_l1i, lt_ii, le_ii, gt_ii, ge_ii, chn_le, is_bb, isn_bb, is_nn, is_in, isn_nn, isn_in, is_on, isn_on, deq_nn, deq_ni, deq_in, deq_oi, deq_oo, sh_oI, oI_s, oI_n, eq_ok, ne_ok, in_tup, nin_tup, in_lst, nin_lst, sh_int, sh_bl, sh_non, sh_str, sh_ints, deq_ii, deq_bb, deq_ss, deq_tt, deq_ll, deqL_nil, deqL_cons, deqL_nc, deqL_cn, deqL_ints, deqL_pairs, deqL_rows, deq_rr, deq_pp, get_0, get_s, ix_t0, ix_t1, ix_t2, ix_t3, ix_t4, ix_t5, ix_t6, ix_l0, ix_l1, ix_l2, ix_l3, ix_l4, ix_l5, ix_lb, ix_tb, dCut_t, dCut_l, rev_t, rev_l, even_t, odd_t, even_l, odd_l, len_t, len_l, int_b, int_i, tuple_t, tuple_l, list_t, list_l, abs_i, sum_t, sum_l, max_2, min_2, max_3, min_3, all_l, isi_ii, isi_ib, isi_is, isi_it, isi_il, isi_bi, isi_bb, isi_bt, isi_bs, isi_tt, isi_tl, isi_ti, isi_ts, isi_ll, isi_lt, isi_li, isi_ls, isi_ss, isi_si, isi_st, isi_sb, it_t, it_l, it_r1, it_r2, it_et, it_el, it_ztt, it_zll, it_ztl, it_zlt, lcFn_1, lcFn_2, cdR_t, cdR_f, cdR_b, xs_nil, xs_set, xs_own, xs_unp, xs_app, xs_ext, xs_put, kExt_ok, kPut_last, xs_frz, xs_pas, xs_ret, xs_ife, xs_for, kSet_ok, kOwn_ok, kUnp_t, kUnp_l, kApp_ok, kRet_ok, kIf_t, kIf_f, kSeq_n, kSeq_r, kFor_ok, forFn_1, forFn_2, setAll_n, setAll_c, fin_r, fin_n, wipe_n, wipe_c, go_nil, go_cons, kGo_n, kGo_r, List.set_cons_zero, List.set_cons_succ, List.cons_append, List.nil_append, List.length_cons, List.length_nil, List.all_cons, List.all_nil, Bool.and_true, Bool.true_and, Bool.and_false, Bool.false_and, Bool.or_true, Bool.true_or, Bool.or_false, Bool.false_or, Bool.not_true, Bool.not_false, decide_true, decide_false, eq_self, Int.cast_ofNat_Int, beq_self_eq_true, s_far_wide, s_far_turn, s_wide_far, s_wide_turn, s_turn_far, s_turn_wide, List.any_cons, List.any_nil, Int.reduceEq, Int.reduceLT, Int.reduceLE, Int.reduceAdd, Int.reduceSub, Int.reduceMul, Int.reduceNeg, Int.reduceToNat, Bool.decide_eq_true, Bool.false_eq_true, ↓reduceIte, List.length_map, bitsM_len, Nat.zero_add, Nat.reduceAdd, call_cf, len_r, hp2]), fm_none]
      simp -implicitDefEqProofs (disch := first | exact sh_int | assumption | omega | (simp -implicitDefEqProofs only [List.length_cons, List.length_nil, List.length_map, List.length_append, List.length_reverse, List.length_take, List.length_drop, List.length_set, List.length_replicate, bitsM_len, bitsL_len]; omega) | (simp -implicitDefEqProofs only [sh_int, sh_oI, sh8_pairs, sh8_rows, sh8_row, sh9_row, sh9_p, sh_bl, sh_non, sh9t, sh9l, sh8t, sh8l, sh7t, sh7l, sh6t, sh6l, sh5t, sh5l, sh4t, sh4l, sh_ints, sh_str, List.all_cons, List.all_nil, List.all_append, List.all_reverse, Bool.and_true, Bool.and_self]; done) | (simp -implicitDefEqProofs only [sh_int, sh_oI, sh8_pairs, sh8_rows, sh8_row, sh9_row, sh9_p, sh_bl, sh_non, sh9t, sh9l, sh8t, sh8l, sh7t, sh7l, sh6t, sh6l, sh5t, sh5l, sh4t, sh4l, sh_ints, sh_str, List.all_cons, List.all_nil, List.all_append, List.all_reverse, Bool.and_true, Bool.and_self]; decide +kernel)) only [ev_var, ev_cst, ev_glb, ev_bin, ev_cmp, ev_neg, ev_not, ev_chn, ev_and, ev_or, ev_idx, ev_cut, ev_stp, ev_tup, ev_lst, ev_call, ev_bi, ev_isi, ev_lc, ev_mth, ev_rpl, ev_kin, ev_kget, ev_sst, ev_lss, evs_nil, evs_cons, b1_ok, b2_ok, bs_ok, bcons_ok, band_t, band_f, band_b, bor_t, bor_f, bor_b, b3_ok, dNot_b, dNeg_i, prt_f, prt_t, blc_ok, bit_ok, dTup_ok, dLst_ok, add_ii, sub_ii, mul_l, mul_r, div_ii, mod_ii, add_tt, add_ll, mul_t1i, mul_l1i, lt_ii, le_ii, gt_ii, ge_ii, chn_le, is_bb, isn_bb, is_nn, is_in, isn_nn, isn_in, is_on, isn_on, deq_nn, deq_ni, deq_in, deq_oi, deq_oo, sh_oI, oI_s, oI_n, eq_ok, ne_ok, in_tup, nin_tup, in_lst, nin_lst, sh_int, sh_bl, sh_non, sh_str, sh_ints, deq_ii, deq_bb, deq_ss, deq_tt, deq_ll, deqL_nil, deqL_cons, deqL_nc, deqL_cn, deqL_ints, deqL_pairs, deqL_rows, deq_rr, deq_pp, get_0, get_s, ix_t0, ix_t1, ix_t2, ix_t3, ix_t4, ix_t5, ix_t6, ix_l0, ix_l1, ix_l2, ix_l3, ix_l4, ix_l5, ix_lb, ix_tb, dCut_t, dCut_l, rev_t, rev_l, even_t, odd_t, even_l, odd_l, len_t, len_l, int_b, int_i, tuple_t, tuple_l, list_t, list_l, abs_i, sum_t, sum_l, max_2, min_2, max_3, min_3, all_l, isi_ii, isi_ib, isi_is, isi_it, isi_il, isi_bi, isi_bb, isi_bt, isi_bs, isi_tt, isi_tl, isi_ti, isi_ts, isi_ll, isi_lt, isi_li, isi_ls, isi_ss, isi_si, isi_st, isi_sb, it_t, it_l, it_r1, it_r2, it_et, it_el, it_ztt, it_zll, it_ztl, it_zlt, lcFn_1, lcFn_2, cdR_t, cdR_f, cdR_b, xs_nil, xs_set, xs_own, xs_unp, xs_app, xs_ext, xs_put, kExt_ok, kPut_last, xs_frz, xs_pas, xs_ret, xs_ife, xs_for, kSet_ok, kOwn_ok, kUnp_t, kUnp_l, kApp_ok, kRet_ok, kIf_t, kIf_f, kSeq_n, kSeq_r, kFor_ok, forFn_1, forFn_2, setAll_n, setAll_c, fin_r, fin_n, wipe_n, wipe_c, kGo_n, kGo_r, List.set_cons_zero, List.set_cons_succ, List.cons_append, List.nil_append, List.length_cons, List.length_nil, List.all_cons, List.all_nil, Bool.and_true, Bool.true_and, Bool.and_false, Bool.false_and, Bool.or_true, Bool.true_or, Bool.or_false, Bool.false_or, Bool.not_true, Bool.not_false, decide_true, decide_false, eq_self, Int.cast_ofNat_Int, beq_self_eq_true, s_far_wide, s_far_turn, s_wide_far, s_wide_turn, s_turn_far, s_turn_wide, List.any_cons, List.any_nil, Int.reduceEq, Int.reduceLT, Int.reduceLE, Int.reduceAdd, Int.reduceSub, Int.reduceMul, Int.reduceNeg, Int.reduceToNat, Bool.decide_eq_true, Bool.false_eq_true, ↓reduceIte, List.length_map, bitsM_len, Nat.zero_add, Nat.reduceAdd, call_cf, e2]
theorem sc_bits_of : FnScope ["maker", "number", "found", "turn"] ["maker", "number"] (defScope (topS 3)) := ⟨rfl, rfl, rfl, by decide +kernel, rfl, by decide +kernel, by decide +kernel⟩
theorem ck_bits_of : (chkSs pg ["maker", "number", "found", "turn"] (defScope (topS 3)) [] f_bits_of.body (defBody (topS 3))).isSome = true := by decide +kernel
theorem sc_number_of : FnScope ["maker", "some", "found", "bit"] ["maker", "some"] (defScope (topS 4)) := ⟨rfl, rfl, rfl, by decide +kernel, rfl, by decide +kernel, by decide +kernel⟩
theorem ck_number_of : (chkSs pg ["maker", "some", "found", "bit"] (defScope (topS 4)) [] f_number_of.body (defBody (topS 4))).isSome = true := by decide +kernel
theorem sc_longest : FnScope ["maker", "way", "head", "gap", "unit", "bits", "low", "slip"] ["maker"] (defScope (topS 5)) := ⟨rfl, rfl, rfl, by decide +kernel, rfl, by decide +kernel, by decide +kernel⟩
theorem ck_longest : (chkSs pg ["maker", "way", "head", "gap", "unit", "bits", "low", "slip"] (defScope (topS 5)) [] f_longest.body (defBody (topS 5))).isSome = true := by decide +kernel
theorem sc_far_times : FnScope ["some", "unit", "found", "bit"] ["some", "unit"] (defScope (topS 7)) := ⟨rfl, rfl, rfl, by decide +kernel, rfl, by decide +kernel, by decide +kernel⟩
theorem ck_far_times : (chkSs pg ["some", "unit", "found", "bit"] (defScope (topS 7)) [] f_far_times.body (defBody (topS 7))).isSome = true := by decide +kernel
theorem sc_wide_times : FnScope ["some", "unit", "found", "bit"] ["some", "unit"] (defScope (topS 8)) := ⟨rfl, rfl, rfl, by decide +kernel, rfl, by decide +kernel, by decide +kernel⟩
theorem ck_wide_times : (chkSs pg ["some", "unit", "found", "bit"] (defScope (topS 8)) [] f_wide_times.body (defBody (topS 8))).isSome = true := by decide +kernel
theorem sc_turn_times : FnScope ["some", "unit", "halves", "bit", "found", "at", "half"] ["some", "unit"] (defScope (topS 9)) := ⟨rfl, rfl, rfl, by decide +kernel, rfl, by decide +kernel, by decide +kernel⟩
theorem ck_turn_times : (chkSs pg ["some", "unit", "halves", "bit", "found", "at", "half"] (defScope (topS 9)) [] f_turn_times.body (defBody (topS 9))).isSome = true := by decide +kernel
theorem sc_flashes : FnScope ["maker", "number", "way", "head", "gap", "unit", "some"] ["maker", "number"] (defScope (topS 10)) := ⟨rfl, rfl, rfl, by decide +kernel, rfl, by decide +kernel, by decide +kernel⟩
theorem ck_flashes : (chkSs pg ["maker", "number", "way", "head", "gap", "unit", "some"] (defScope (topS 10)) [] f_flashes.body (defBody (topS 10))).isSome = true := by decide +kernel
theorem sc_bits_by : FnScope ["times", "short", "long", "time"] ["times", "short", "long"] (defScope (topS 12)) := ⟨rfl, rfl, rfl, by decide +kernel, rfl, by decide +kernel, by decide +kernel⟩
theorem ck_bits_by : (chkSs pg ["times", "short", "long", "time"] (defScope (topS 12)) [] f_bits_by.body (defBody (topS 12))).isSome = true := by decide +kernel
theorem sc_halves_of : FnScope ["times", "unit", "found", "at", "time"] ["times", "unit"] (defScope (topS 13)) := ⟨rfl, rfl, rfl, by decide +kernel, rfl, by decide +kernel, by decide +kernel⟩
theorem ck_halves_of : (chkSs pg ["times", "unit", "found", "at", "time"] (defScope (topS 13)) [] f_halves_of.body (defBody (topS 13))).isSome = true := by decide +kernel
theorem sc_nearest : FnScope ["maker", "row", "way", "head", "gap", "unit", "bits", "low", "slip", "times", "some", "halves"] ["maker", "row"] (defScope (topS 14)) := ⟨rfl, rfl, rfl, by decide +kernel, rfl, by decide +kernel, by decide +kernel⟩
theorem ck_nearest : (chkSs pg ["maker", "row", "way", "head", "gap", "unit", "bits", "low", "slip", "times", "some", "halves"] (defScope (topS 14)) [] f_nearest.body (defBody (topS 14))).isSome = true := by decide +kernel
theorem sc_off : FnScope ["maker", "number", "row", "due", "one", "other"] ["maker", "number", "row"] (defScope (topS 15)) := ⟨rfl, rfl, rfl, by decide +kernel, rfl, by decide +kernel, by decide +kernel⟩
theorem ck_off : (chkSs pg ["maker", "number", "row", "due", "one", "other"] (defScope (topS 15)) [] f_off.body (defBody (topS 15))).isSome = true := by decide +kernel
theorem sc_heard : FnScope ["maker", "row", "number", "many"] ["maker", "row"] (defScope (topS 16)) := ⟨rfl, rfl, rfl, by decide +kernel, rfl, by decide +kernel, by decide +kernel⟩
theorem ck_heard : (chkSs pg ["maker", "row", "number", "many"] (defScope (topS 16)) [] f_heard.body (defBody (topS 16))).isSome = true := by decide +kernel
theorem sc__law_cell_at : FnScope ["script", "k"] ["script", "k"] (defScope (topS 18)) := ⟨rfl, rfl, rfl, by decide +kernel, rfl, by decide +kernel, by decide +kernel⟩
theorem ck__law_cell_at : (chkSs pg ["script", "k"] (defScope (topS 18)) [] f__law_cell_at.body (defBody (topS 18))).isSome = true := by decide +kernel
theorem sc__law_mixed : FnScope ["script", "k", "drawn"] ["script", "k"] (defScope (topS 19)) := ⟨rfl, rfl, rfl, by decide +kernel, rfl, by decide +kernel, by decide +kernel⟩
theorem ck__law_mixed : (chkSs pg ["script", "k", "drawn"] (defScope (topS 19)) [] f__law_mixed.body (defBody (topS 19))).isSome = true := by decide +kernel
theorem sc__law_drawn : FnScope ["number", "k", "drawn"] ["number", "k"] (defScope (topS 20)) := ⟨rfl, rfl, rfl, by decide +kernel, rfl, by decide +kernel, by decide +kernel⟩
theorem ck__law_drawn : (chkSs pg ["number", "k", "drawn"] (defScope (topS 20)) [] f__law_drawn.body (defBody (topS 20))).isSome = true := by decide +kernel
theorem sc__law_maker : FnScope ["number", "most", "way", "unit", "drawn", "head", "gap", "slip"] ["number", "most"] (defScope (topS 21)) := ⟨rfl, rfl, rfl, by decide +kernel, rfl, by decide +kernel, by decide +kernel⟩
theorem ck__law_maker : (chkSs pg ["number", "most", "way", "unit", "drawn", "head", "gap", "slip"] (defScope (topS 21)) [] f__law_maker.body (defBody (topS 21))).isSome = true := by decide +kernel
theorem sc__law_count : FnScope ["maker"] ["maker"] (defScope (topS 22)) := ⟨rfl, rfl, rfl, by decide +kernel, rfl, by decide +kernel, by decide +kernel⟩
theorem ck__law_count : (chkSs pg ["maker"] (defScope (topS 22)) [] f__law_count.body (defBody (topS 22))).isSome = true := by decide +kernel
theorem sc_law : FnScope ["script", "maker", "other", "number", "turned", "row", "rows", "one", "sizes"] ["script"] (defScope (topS 23)) := ⟨rfl, rfl, rfl, by decide +kernel, rfl, by decide +kernel, by decide +kernel⟩
theorem ck_law : (chkSs pg ["script", "maker", "other", "number", "turned", "row", "rows", "one", "sizes"] (defScope (topS 23)) [] f_law.body (defBody (topS 23))).isSome = true := by decide +kernel
theorem all_mk {l : PySem.W.OpenLaw} {w : World} {K : PySem.W.Frag} {h : Heap} {mg : Str → Option Value} {fa : Addr} (X : K.In h) (G : h.Ns mainGlobals mg) (hfa : mg "law" = some (.ref fa))
    {g1 : Addr} {od1 an1 : Option Addr} {sl1 : Array (Option Value)} {oc1 kv1 dc1 pm1 cd1 ct1 : Value}
    {g2 : Addr} {od2 an2 : Option Addr} {sl2 : Array (Option Value)} {oc2 kv2 dc2 pm2 cd2 ct2 : Value}
    {g3 : Addr} {od3 an3 : Option Addr} {sl3 : Array (Option Value)} {oc3 kv3 dc3 pm3 cd3 ct3 : Value}
    {g4 : Addr} {od4 an4 : Option Addr} {sl4 : Array (Option Value)} {oc4 kv4 dc4 pm4 cd4 ct4 : Value}
    {g5 : Addr} {od5 an5 : Option Addr} {sl5 : Array (Option Value)} {oc5 kv5 dc5 pm5 cd5 ct5 : Value}
    {g6 : Addr} {od6 an6 : Option Addr} {sl6 : Array (Option Value)} {oc6 kv6 dc6 pm6 cd6 ct6 : Value}
    {g7 : Addr} {od7 an7 : Option Addr} {sl7 : Array (Option Value)} {oc7 kv7 dc7 pm7 cd7 ct7 : Value}
    {g8 : Addr} {od8 an8 : Option Addr} {sl8 : Array (Option Value)} {oc8 kv8 dc8 pm8 cd8 ct8 : Value}
    {g9 : Addr} {od9 an9 : Option Addr} {sl9 : Array (Option Value)} {oc9 kv9 dc9 pm9 cd9 ct9 : Value}
    {g10 : Addr} {od10 an10 : Option Addr} {sl10 : Array (Option Value)} {oc10 kv10 dc10 pm10 cd10 ct10 : Value}
    {g11 : Addr} {od11 an11 : Option Addr} {sl11 : Array (Option Value)} {oc11 kv11 dc11 pm11 cd11 ct11 : Value}
    {g12 : Addr} {od12 an12 : Option Addr} {sl12 : Array (Option Value)} {oc12 kv12 dc12 pm12 cd12 ct12 : Value}
    {g13 : Addr} {od13 an13 : Option Addr} {sl13 : Array (Option Value)} {oc13 kv13 dc13 pm13 cd13 ct13 : Value}
    {g14 : Addr} {od14 an14 : Option Addr} {sl14 : Array (Option Value)} {oc14 kv14 dc14 pm14 cd14 ct14 : Value}
    {g15 : Addr} {od15 an15 : Option Addr} {sl15 : Array (Option Value)} {oc15 kv15 dc15 pm15 cd15 ct15 : Value}
    {g16 : Addr} {od16 an16 : Option Addr} {sl16 : Array (Option Value)} {oc16 kv16 dc16 pm16 cd16 ct16 : Value}
    {g17 : Addr} {od17 an17 : Option Addr} {sl17 : Array (Option Value)} {oc17 kv17 dc17 pm17 cd17 ct17 : Value}
    {g18 : Addr} {od18 an18 : Option Addr} {sl18 : Array (Option Value)} {oc18 kv18 dc18 pm18 cd18 ct18 : Value}
    {w1 : _}
    {w2 : _}
    (a1 : PySem.W.nsIn K mainGlobals "bits_of" = some (some (.ref g1)))
    (l1 : K.lookup g1 = some ⟨oc1, od1, .func (PySem.W.fnOf "bits_of" "bits_of" (defArgs (topS 3)) (defBody (topS 3)) (defScope (topS 3)) .none kv1 dc1 pm1 an1 cd1 ct1), sl1⟩)
    (c1 : PySem.W.codeIn K cd1 "bits_of" = true) (k1 : PySem.W.keepIn K (.ref g1) = true)
    (a2 : PySem.W.nsIn K mainGlobals "number_of" = some (some (.ref g2)))
    (l2 : K.lookup g2 = some ⟨oc2, od2, .func (PySem.W.fnOf "number_of" "number_of" (defArgs (topS 4)) (defBody (topS 4)) (defScope (topS 4)) .none kv2 dc2 pm2 an2 cd2 ct2), sl2⟩)
    (c2 : PySem.W.codeIn K cd2 "number_of" = true) (k2 : PySem.W.keepIn K (.ref g2) = true)
    (a3 : PySem.W.nsIn K mainGlobals "longest" = some (some (.ref g3)))
    (l3 : K.lookup g3 = some ⟨oc3, od3, .func (PySem.W.fnOf "longest" "longest" (defArgs (topS 5)) (defBody (topS 5)) (defScope (topS 5)) .none kv3 dc3 pm3 an3 cd3 ct3), sl3⟩)
    (c3 : PySem.W.codeIn K cd3 "longest" = true) (k3 : PySem.W.keepIn K (.ref g3) = true)
    (a4 : PySem.W.nsIn K mainGlobals "far_times" = some (some (.ref g4)))
    (l4 : K.lookup g4 = some ⟨oc4, od4, .func (PySem.W.fnOf "far_times" "far_times" (defArgs (topS 7)) (defBody (topS 7)) (defScope (topS 7)) .none kv4 dc4 pm4 an4 cd4 ct4), sl4⟩)
    (c4 : PySem.W.codeIn K cd4 "far_times" = true) (k4 : PySem.W.keepIn K (.ref g4) = true)
    (a5 : PySem.W.nsIn K mainGlobals "wide_times" = some (some (.ref g5)))
    (l5 : K.lookup g5 = some ⟨oc5, od5, .func (PySem.W.fnOf "wide_times" "wide_times" (defArgs (topS 8)) (defBody (topS 8)) (defScope (topS 8)) .none kv5 dc5 pm5 an5 cd5 ct5), sl5⟩)
    (c5 : PySem.W.codeIn K cd5 "wide_times" = true) (k5 : PySem.W.keepIn K (.ref g5) = true)
    (a6 : PySem.W.nsIn K mainGlobals "turn_times" = some (some (.ref g6)))
    (l6 : K.lookup g6 = some ⟨oc6, od6, .func (PySem.W.fnOf "turn_times" "turn_times" (defArgs (topS 9)) (defBody (topS 9)) (defScope (topS 9)) .none kv6 dc6 pm6 an6 cd6 ct6), sl6⟩)
    (c6 : PySem.W.codeIn K cd6 "turn_times" = true) (k6 : PySem.W.keepIn K (.ref g6) = true)
    (a7 : PySem.W.nsIn K mainGlobals "flashes" = some (some (.ref g7)))
    (l7 : K.lookup g7 = some ⟨oc7, od7, .func (PySem.W.fnOf "flashes" "flashes" (defArgs (topS 10)) (defBody (topS 10)) (defScope (topS 10)) .none kv7 dc7 pm7 an7 cd7 ct7), sl7⟩)
    (c7 : PySem.W.codeIn K cd7 "flashes" = true) (k7 : PySem.W.keepIn K (.ref g7) = true)
    (a8 : PySem.W.nsIn K mainGlobals "bits_by" = some (some (.ref g8)))
    (l8 : K.lookup g8 = some ⟨oc8, od8, .func (PySem.W.fnOf "bits_by" "bits_by" (defArgs (topS 12)) (defBody (topS 12)) (defScope (topS 12)) .none kv8 dc8 pm8 an8 cd8 ct8), sl8⟩)
    (c8 : PySem.W.codeIn K cd8 "bits_by" = true) (k8 : PySem.W.keepIn K (.ref g8) = true)
    (a9 : PySem.W.nsIn K mainGlobals "halves_of" = some (some (.ref g9)))
    (l9 : K.lookup g9 = some ⟨oc9, od9, .func (PySem.W.fnOf "halves_of" "halves_of" (defArgs (topS 13)) (defBody (topS 13)) (defScope (topS 13)) .none kv9 dc9 pm9 an9 cd9 ct9), sl9⟩)
    (c9 : PySem.W.codeIn K cd9 "halves_of" = true) (k9 : PySem.W.keepIn K (.ref g9) = true)
    (a10 : PySem.W.nsIn K mainGlobals "nearest" = some (some (.ref g10)))
    (l10 : K.lookup g10 = some ⟨oc10, od10, .func (PySem.W.fnOf "nearest" "nearest" (defArgs (topS 14)) (defBody (topS 14)) (defScope (topS 14)) .none kv10 dc10 pm10 an10 cd10 ct10), sl10⟩)
    (c10 : PySem.W.codeIn K cd10 "nearest" = true) (k10 : PySem.W.keepIn K (.ref g10) = true)
    (a11 : PySem.W.nsIn K mainGlobals "off" = some (some (.ref g11)))
    (l11 : K.lookup g11 = some ⟨oc11, od11, .func (PySem.W.fnOf "off" "off" (defArgs (topS 15)) (defBody (topS 15)) (defScope (topS 15)) .none kv11 dc11 pm11 an11 cd11 ct11), sl11⟩)
    (c11 : PySem.W.codeIn K cd11 "off" = true) (k11 : PySem.W.keepIn K (.ref g11) = true)
    (a12 : PySem.W.nsIn K mainGlobals "heard" = some (some (.ref g12)))
    (l12 : K.lookup g12 = some ⟨oc12, od12, .func (PySem.W.fnOf "heard" "heard" (defArgs (topS 16)) (defBody (topS 16)) (defScope (topS 16)) .none kv12 dc12 pm12 an12 cd12 ct12), sl12⟩)
    (c12 : PySem.W.codeIn K cd12 "heard" = true) (k12 : PySem.W.keepIn K (.ref g12) = true)
    (a13 : PySem.W.nsIn K mainGlobals "_law_cell_at" = some (some (.ref g13)))
    (l13 : K.lookup g13 = some ⟨oc13, od13, .func (PySem.W.fnOf "_law_cell_at" "_law_cell_at" (defArgs (topS 18)) (defBody (topS 18)) (defScope (topS 18)) .none kv13 dc13 pm13 an13 cd13 ct13), sl13⟩)
    (c13 : PySem.W.codeIn K cd13 "_law_cell_at" = true) (k13 : PySem.W.keepIn K (.ref g13) = true)
    (a14 : PySem.W.nsIn K mainGlobals "_law_mixed" = some (some (.ref g14)))
    (l14 : K.lookup g14 = some ⟨oc14, od14, .func (PySem.W.fnOf "_law_mixed" "_law_mixed" (defArgs (topS 19)) (defBody (topS 19)) (defScope (topS 19)) .none kv14 dc14 pm14 an14 cd14 ct14), sl14⟩)
    (c14 : PySem.W.codeIn K cd14 "_law_mixed" = true) (k14 : PySem.W.keepIn K (.ref g14) = true)
    (a15 : PySem.W.nsIn K mainGlobals "_law_drawn" = some (some (.ref g15)))
    (l15 : K.lookup g15 = some ⟨oc15, od15, .func (PySem.W.fnOf "_law_drawn" "_law_drawn" (defArgs (topS 20)) (defBody (topS 20)) (defScope (topS 20)) .none kv15 dc15 pm15 an15 cd15 ct15), sl15⟩)
    (c15 : PySem.W.codeIn K cd15 "_law_drawn" = true) (k15 : PySem.W.keepIn K (.ref g15) = true)
    (a16 : PySem.W.nsIn K mainGlobals "_law_maker" = some (some (.ref g16)))
    (l16 : K.lookup g16 = some ⟨oc16, od16, .func (PySem.W.fnOf "_law_maker" "_law_maker" (defArgs (topS 21)) (defBody (topS 21)) (defScope (topS 21)) .none kv16 dc16 pm16 an16 cd16 ct16), sl16⟩)
    (c16 : PySem.W.codeIn K cd16 "_law_maker" = true) (k16 : PySem.W.keepIn K (.ref g16) = true)
    (a17 : PySem.W.nsIn K mainGlobals "_law_count" = some (some (.ref g17)))
    (l17 : K.lookup g17 = some ⟨oc17, od17, .func (PySem.W.fnOf "_law_count" "_law_count" (defArgs (topS 22)) (defBody (topS 22)) (defScope (topS 22)) .none kv17 dc17 pm17 an17 cd17 ct17), sl17⟩)
    (c17 : PySem.W.codeIn K cd17 "_law_count" = true) (k17 : PySem.W.keepIn K (.ref g17) = true)
    (a18 : PySem.W.nsIn K mainGlobals "law" = some (some (.ref g18)))
    (l18 : K.lookup g18 = some ⟨oc18, od18, .func (PySem.W.fnOf "law" "law" (defArgs (topS 23)) (defBody (topS 23)) (defScope (topS 23)) .none kv18 dc18 pm18 an18 cd18 ct18), sl18⟩)
    (c18 : PySem.W.codeIn K cd18 "law" = true) (k18 : PySem.W.keepIn K (.ref g18) = true)
    (z_len : PySem.W.nsIn K mainGlobals "len" = some none)
    (z_int : PySem.W.nsIn K mainGlobals "int" = some none)
    (z_str : PySem.W.nsIn K mainGlobals "str" = some none)
    (z_tuple : PySem.W.nsIn K mainGlobals "tuple" = some none)
    (z_list : PySem.W.nsIn K mainGlobals "list" = some none)
    (z_sum : PySem.W.nsIn K mainGlobals "sum" = some none)
    (z_max : PySem.W.nsIn K mainGlobals "max" = some none)
    (z_min : PySem.W.nsIn K mainGlobals "min" = some none)
    (z_abs : PySem.W.nsIn K mainGlobals "abs" = some none)
    (z_all : PySem.W.nsIn K mainGlobals "all" = some none)
    (z_sorted : PySem.W.nsIn K mainGlobals "sorted" = some none)
    (z_isinstance : PySem.W.nsIn K mainGlobals "isinstance" = some none)
    (z_range : PySem.W.nsIn K mainGlobals "range" = some none)
    (z_enumerate : PySem.W.nsIn K mainGlobals "enumerate" = some none)
    (z_zip : PySem.W.nsIn K mainGlobals "zip" = some none)
    (z_bool : PySem.W.nsIn K mainGlobals "bool" = some none)
    (z_set : PySem.W.nsIn K mainGlobals "set" = some none)
    (z_repr : PySem.W.nsIn K mainGlobals "repr" = some none)
    (e1 : PySem.W.nsIn K mainGlobals "FAR" = some (some (.str "far" w1)))
    (e2 : PySem.W.nsIn K mainGlobals "WIDE" = some (some (.str "wide" w2)))
    (nl : noLst K = true) :
    ∃ fd : FuncData, (∀ (s : Shared) (v : Value), BindsTo s fd ⟨[v], []⟩ [("script", v)]) ∧ ∀ base : Heap, K.In base → base.Ns mainGlobals mg → FnOk l.prog w K mg base CX0 7 fa fd ["script"] (spL K pg 7) := by
  have e := hfa.symm.trans (PySem.W.mg_of X G a18)
  cases e
  have blt : ∀ x ∈ bltNames, mg x = none := by
    unfold bltNames
    simp only [List.mem_cons, List.not_mem_nil, or_false, forall_eq_or_imp, forall_eq]
    exact ⟨PySem.W.mg_none_of X G z_len, PySem.W.mg_none_of X G z_int, PySem.W.mg_none_of X G z_str, PySem.W.mg_none_of X G z_tuple, PySem.W.mg_none_of X G z_list, PySem.W.mg_none_of X G z_sum, PySem.W.mg_none_of X G z_max, PySem.W.mg_none_of X G z_min, PySem.W.mg_none_of X G z_abs, PySem.W.mg_none_of X G z_all, PySem.W.mg_none_of X G z_sorted, PySem.W.mg_none_of X G z_isinstance, PySem.W.mg_none_of X G z_range, PySem.W.mg_none_of X G z_enumerate, PySem.W.mg_none_of X G z_zip, PySem.W.mg_none_of X G z_bool, PySem.W.mg_none_of X G z_set, PySem.W.mg_none_of X G z_repr⟩
  have glb : ∀ x d, pg.glb.lookup x = some d → ∃ v u, mg x = some u ∧ RelV v u ∧ ∀ O H, Rp K O H d v := by
    intro x d hx
    have hm := lookup_mem hx
    unfold pg at hm
    simp only [List.mem_cons, List.not_mem_nil, or_false, Prod.mk.injEq] at hm
    rcases hm with ⟨rfl, rfl⟩ | ⟨rfl, rfl⟩
    · exact ⟨.str _, _, PySem.W.mg_of X G e1, ⟨_, rfl⟩, fun _ _ => by rw [Rp]⟩
    · exact ⟨.str _, _, PySem.W.mg_of X G e2, ⟨_, rfl⟩, fun _ _ => by rw [Rp]⟩
  have dct : ∀ x kvs, pg.dct.lookup x = some kvs → DctOk K w mg x kvs := by
    intro x kvs hx
    have hm := lookup_mem hx
    unfold pg at hm
    exact nomatch hm
  have rps : ∀ x y, (x, y) ∈ pg.rps → RpsOk pg mg x y := by
    intro x y hm
    unfold pg at hm
    exact nomatch hm
  have ent : ∀ f fn, pg.fns.lookup f = some fn → Ent K mg pg f fn := by
    intro x fn hx
    have hm := lookup_mem hx
    unfold pg at hm
    simp only [List.mem_cons, List.not_mem_nil, or_false, Prod.mk.injEq] at hm
    rcases hm with ⟨rfl, rfl⟩ | ⟨rfl, rfl⟩ | ⟨rfl, rfl⟩ | ⟨rfl, rfl⟩ | ⟨rfl, rfl⟩ | ⟨rfl, rfl⟩ | ⟨rfl, rfl⟩ | ⟨rfl, rfl⟩ | ⟨rfl, rfl⟩ | ⟨rfl, rfl⟩ | ⟨rfl, rfl⟩ | ⟨rfl, rfl⟩ | ⟨rfl, rfl⟩ | ⟨rfl, rfl⟩ | ⟨rfl, rfl⟩ | ⟨rfl, rfl⟩ | ⟨rfl, rfl⟩ | ⟨rfl, rfl⟩
    · exact ent_mk (F := fun_mk (st := topS 3) l1 c1 k1) (PySem.W.mg_of X G a1) sc_bits_of ((fun_mk (st := topS 3) l1 c1 k1).binds (ps := ["maker", "number"]) fun _ _ _ _ _ _ us hl => match us, hl with | [_, _], _ => rfl) rfl rfl rfl ck_bits_of
    · exact ent_mk (F := fun_mk (st := topS 4) l2 c2 k2) (PySem.W.mg_of X G a2) sc_number_of ((fun_mk (st := topS 4) l2 c2 k2).binds (ps := ["maker", "some"]) fun _ _ _ _ _ _ us hl => match us, hl with | [_, _], _ => rfl) rfl rfl rfl ck_number_of
    · exact ent_mk (F := fun_mk (st := topS 5) l3 c3 k3) (PySem.W.mg_of X G a3) sc_longest ((fun_mk (st := topS 5) l3 c3 k3).binds (ps := ["maker"]) fun _ _ _ _ _ _ us hl => match us, hl with | [_], _ => rfl) rfl rfl rfl ck_longest
    · exact ent_mk (F := fun_mk (st := topS 7) l4 c4 k4) (PySem.W.mg_of X G a4) sc_far_times ((fun_mk (st := topS 7) l4 c4 k4).binds (ps := ["some", "unit"]) fun _ _ _ _ _ _ us hl => match us, hl with | [_, _], _ => rfl) rfl rfl rfl ck_far_times
    · exact ent_mk (F := fun_mk (st := topS 8) l5 c5 k5) (PySem.W.mg_of X G a5) sc_wide_times ((fun_mk (st := topS 8) l5 c5 k5).binds (ps := ["some", "unit"]) fun _ _ _ _ _ _ us hl => match us, hl with | [_, _], _ => rfl) rfl rfl rfl ck_wide_times
    · exact ent_mk (F := fun_mk (st := topS 9) l6 c6 k6) (PySem.W.mg_of X G a6) sc_turn_times ((fun_mk (st := topS 9) l6 c6 k6).binds (ps := ["some", "unit"]) fun _ _ _ _ _ _ us hl => match us, hl with | [_, _], _ => rfl) rfl rfl rfl ck_turn_times
    · exact ent_mk (F := fun_mk (st := topS 10) l7 c7 k7) (PySem.W.mg_of X G a7) sc_flashes ((fun_mk (st := topS 10) l7 c7 k7).binds (ps := ["maker", "number"]) fun _ _ _ _ _ _ us hl => match us, hl with | [_, _], _ => rfl) rfl rfl rfl ck_flashes
    · exact ent_mk (F := fun_mk (st := topS 12) l8 c8 k8) (PySem.W.mg_of X G a8) sc_bits_by ((fun_mk (st := topS 12) l8 c8 k8).binds (ps := ["times", "short", "long"]) fun _ _ _ _ _ _ us hl => match us, hl with | [_, _, _], _ => rfl) rfl rfl rfl ck_bits_by
    · exact ent_mk (F := fun_mk (st := topS 13) l9 c9 k9) (PySem.W.mg_of X G a9) sc_halves_of ((fun_mk (st := topS 13) l9 c9 k9).binds (ps := ["times", "unit"]) fun _ _ _ _ _ _ us hl => match us, hl with | [_, _], _ => rfl) rfl rfl rfl ck_halves_of
    · exact ent_mk (F := fun_mk (st := topS 14) l10 c10 k10) (PySem.W.mg_of X G a10) sc_nearest ((fun_mk (st := topS 14) l10 c10 k10).binds (ps := ["maker", "row"]) fun _ _ _ _ _ _ us hl => match us, hl with | [_, _], _ => rfl) rfl rfl rfl ck_nearest
    · exact ent_mk (F := fun_mk (st := topS 15) l11 c11 k11) (PySem.W.mg_of X G a11) sc_off ((fun_mk (st := topS 15) l11 c11 k11).binds (ps := ["maker", "number", "row"]) fun _ _ _ _ _ _ us hl => match us, hl with | [_, _, _], _ => rfl) rfl rfl rfl ck_off
    · exact ent_mk (F := fun_mk (st := topS 16) l12 c12 k12) (PySem.W.mg_of X G a12) sc_heard ((fun_mk (st := topS 16) l12 c12 k12).binds (ps := ["maker", "row"]) fun _ _ _ _ _ _ us hl => match us, hl with | [_, _], _ => rfl) rfl rfl rfl ck_heard
    · exact ent_mk (F := fun_mk (st := topS 18) l13 c13 k13) (PySem.W.mg_of X G a13) sc__law_cell_at ((fun_mk (st := topS 18) l13 c13 k13).binds (ps := ["script", "k"]) fun _ _ _ _ _ _ us hl => match us, hl with | [_, _], _ => rfl) rfl rfl rfl ck__law_cell_at
    · exact ent_mk (F := fun_mk (st := topS 19) l14 c14 k14) (PySem.W.mg_of X G a14) sc__law_mixed ((fun_mk (st := topS 19) l14 c14 k14).binds (ps := ["script", "k"]) fun _ _ _ _ _ _ us hl => match us, hl with | [_, _], _ => rfl) rfl rfl rfl ck__law_mixed
    · exact ent_mk (F := fun_mk (st := topS 20) l15 c15 k15) (PySem.W.mg_of X G a15) sc__law_drawn ((fun_mk (st := topS 20) l15 c15 k15).binds (ps := ["number", "k"]) fun _ _ _ _ _ _ us hl => match us, hl with | [_, _], _ => rfl) rfl rfl rfl ck__law_drawn
    · exact ent_mk (F := fun_mk (st := topS 21) l16 c16 k16) (PySem.W.mg_of X G a16) sc__law_maker ((fun_mk (st := topS 21) l16 c16 k16).binds (ps := ["number", "most"]) fun _ _ _ _ _ _ us hl => match us, hl with | [_, _], _ => rfl) rfl rfl rfl ck__law_maker
    · exact ent_mk (F := fun_mk (st := topS 22) l17 c17 k17) (PySem.W.mg_of X G a17) sc__law_count ((fun_mk (st := topS 22) l17 c17 k17).binds (ps := ["maker"]) fun _ _ _ _ _ _ us hl => match us, hl with | [_], _ => rfl) rfl rfl rfl ck__law_count
    · exact ent_mk (F := fun_mk (st := topS 23) l18 c18 k18) (PySem.W.mg_of X G a18) sc_law ((fun_mk (st := topS 23) l18 c18 k18).binds (ps := ["script"]) fun _ _ _ _ _ _ us hl => match us, hl with | [_], _ => rfl) rfl rfl rfl ck_law
  obtain ⟨a, fd, ps, h1, h2, h3, h4⟩ := all_ok (P := l.prog) (w := w) (base := h) ent glb blt dct rps rfl 7 "law" f_law rfl
  exact ⟨PySem.W.fnOf "law" "law" (defArgs (topS 23)) (defBody (topS 23)) (defScope (topS 23)) .none kv18 dc18 pm18 an18 cd18 ct18, fun s v => .of_eq rfl, fun base _ _ => fnok_law nl (fn_ok (fun_mk (st := topS 23) l18 c18 k18) sc_law (x := "law") (fn := f_law) rfl rfl rfl rfl (chk_get ck_law) glb blt dct rps (all_ok ent glb blt dct rps rfl 6) (fun m r e => nomatch e))⟩
end K14
open PySem PySem.W PyProof.Rows
set_option maxHeartbeats 0 in
theorem PySem.Challenge.cw_lampcodes_k14_whole_from_the_other_end_holds : PySem.Challenge.rw_lampcodes_k14_whole_from_the_other_end.Holds := by
  w_on; o_law; k_head; (case hw => w_witness2)
  k_fill
  refine L2.walk_of (l := PySem.Challenge.rw_lampcodes_k14_whole_from_the_other_end) (n := 63) (k := 7) (x := "script") (CX := fun _ => L2.CX0) (sp := fun w => LC.spL _ K14.pg 7) rfl (by decide) rfl ⟨rfl, by decide, by decide⟩ (fun w h Y => PySem.W.kIn_of Y) ?F (fun _ _ a ns hl hO hS => ⟨a, ns, rfl, hS, hO, K14.law_true ns hl, fun _ => rfl⟩) (fun _ _ _ _ _ h => h)
  case F =>
    intro w mg fa h KX G hmg
    refine' K14.all_mk KX G hmg ?a1 ?l1 ?c1 ?k1 ?a2 ?l2 ?c2 ?k2 ?a3 ?l3 ?c3 ?k3 ?a4 ?l4 ?c4 ?k4 ?a5 ?l5 ?c5 ?k5 ?a6 ?l6 ?c6 ?k6 ?a7 ?l7 ?c7 ?k7 ?a8 ?l8 ?c8 ?k8 ?a9 ?l9 ?c9 ?k9 ?a10 ?l10 ?c10 ?k10 ?a11 ?l11 ?c11 ?k11 ?a12 ?l12 ?c12 ?k12 ?a13 ?l13 ?c13 ?k13 ?a14 ?l14 ?c14 ?k14 ?a15 ?l15 ?c15 ?k15 ?a16 ?l16 ?c16 ?k16 ?a17 ?l17 ?c17 ?k17 ?a18 ?l18 ?c18 ?k18 ?z_len ?z_int ?z_str ?z_tuple ?z_list ?z_sum ?z_max ?z_min ?z_abs ?z_all ?z_sorted ?z_isinstance ?z_range ?z_enumerate ?z_zip ?z_bool ?z_set ?z_repr ?e1 ?e2 ?nl
    (case a1 => k_is); (case l1 => k_is); (case c1 => k_is); (case k1 => k_is); (case a2 => k_is); (case l2 => k_is); (case c2 => k_is); (case k2 => k_is); (case a3 => k_is); (case l3 => k_is); (case c3 => k_is); (case k3 => k_is); (case a4 => k_is); (case l4 => k_is); (case c4 => k_is); (case k4 => k_is); (case a5 => k_is); (case l5 => k_is); (case c5 => k_is); (case k5 => k_is); (case a6 => k_is); (case l6 => k_is); (case c6 => k_is); (case k6 => k_is); (case a7 => k_is); (case l7 => k_is); (case c7 => k_is); (case k7 => k_is); (case a8 => k_is); (case l8 => k_is); (case c8 => k_is); (case k8 => k_is); (case a9 => k_is); (case l9 => k_is); (case c9 => k_is); (case k9 => k_is); (case a10 => k_is); (case l10 => k_is); (case c10 => k_is); (case k10 => k_is); (case a11 => k_is); (case l11 => k_is); (case c11 => k_is); (case k11 => k_is); (case a12 => k_is); (case l12 => k_is); (case c12 => k_is); (case k12 => k_is); (case a13 => k_is); (case l13 => k_is); (case c13 => k_is); (case k13 => k_is); (case a14 => k_is); (case l14 => k_is); (case c14 => k_is); (case k14 => k_is); (case a15 => k_is); (case l15 => k_is); (case c15 => k_is); (case k15 => k_is); (case a16 => k_is); (case l16 => k_is); (case c16 => k_is); (case k16 => k_is); (case a17 => k_is); (case l17 => k_is); (case c17 => k_is); (case k17 => k_is); (case a18 => k_is); (case l18 => k_is); (case c18 => k_is); (case k18 => k_is); (case z_len => k_is); (case z_int => k_is); (case z_str => k_is); (case z_tuple => k_is); (case z_list => k_is); (case z_sum => k_is); (case z_max => k_is); (case z_min => k_is); (case z_abs => k_is); (case z_all => k_is); (case z_sorted => k_is); (case z_isinstance => k_is); (case z_range => k_is); (case z_enumerate => k_is); (case z_zip => k_is); (case z_bool => k_is); (case z_set => k_is); (case z_repr => k_is); (case e1 => k_is); (case e2 => k_is)
    case nl => exact Eq.refl true
