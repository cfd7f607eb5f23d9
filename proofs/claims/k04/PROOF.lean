import PyProof.Rows.All
import Wide.All
import OpenK.AllK
import Wide.FinOn
import HandS.ForMost
import HandS.Strs
import HandS.Set
import PyProof.Rows.SortStr
import PyProof.Rows.SortShellAny
import HandS.SetFor
import HandS.TupAny
import HandS.TupMul
import HandS.Deep
import HandS.IsInst
import HandS.SortInts
import HandS.TupSets
import HandS.Conv
import HandS.TupLen
import HandS.DictComp
import HandS.TupLe
import HandS.WordsDict
import HandS.Text
import HandS.Dict
import PyProof.Rows.CountFlat
import HandS.Property
import HandS.NoneIn
import HandS.Codes
import HandS.Small
import HandS.Call
import KE.KxText
import PySem.Challenge.RW_soonerlater_k04_first_fault_of_a_questio
set_option Elab.async false
set_option linter.all false
set_option maxRecDepth 100000
set_option maxHeartbeats 4000000

/-! Z16: sets of texts: set(xs) of a list or a tuple, sorted of it, its len. -/
namespace Z
open PySem PySem.Spec L2
open PyProof.Rows hiding St

/-! ### what stands there -/
def tkey (e : Int × Value) : Str := match e.2 with
  | .str x _ => x
  | _ => Str.empty
def TGd (w : World) (e : Int × Value) : Prop := ∃ x tk, e.2 = Value.str x tk ∧ e.1 = hashStr w x
/-- the entries and the table of a set with the members M, at most n -/
structure TIn (w : World) (M : Str → Prop) (n : Nat) (es : Array (Int × Value)) (t : SetTable) : Prop where
  good : ∀ e ∈ es.toList, TGd w e
  nodup : (es.toList.map tkey).Nodup
  mem : ∀ k, M k ↔ k ∈ es.toList.map tkey
  few : es.size ≤ n
  fits : t.fits es.size = true
  ris : Ris t.place.toList
  led : w.params.followText "set-order" = true ∨ t.led = true
/-- the set of texts at a -/
def TxSet (w : World) (h : Heap) (a : Addr) (M : Str → Prop) (n : Nat) : Prop := ∃ o es ep t, h.get? a = some o ∧ o.ExactSet ∧ o.data = .set es ep t ∧ TIn w M n es t
section
variable {P : Program} {w : World} {A : Around} {E : Value → Shared → Prop} {s : Shared} {a : Addr} {M : Str → Prop} {n : Nat}
theorem TxSet.keep {h h' : Heap} (R : TxSet w h a M n) (k : ∀ o, h.get? a = some o → h'.get? a = some o) : TxSet w h' a M n := by
  obtain ⟨o, es, ep, t, ho, r⟩ := R
  exact ⟨o, es, ep, t, k o ho, r⟩
theorem TIn.congr {M' : Str → Prop} {es : Array (Int × Value)} {t : SetTable} (R : TIn w M n es t) {m : Nat} (e : ∀ k, M' k ↔ M k) (hm : n ≤ m) : TIn w M' m es t :=
  ⟨R.good, R.nodup, fun k => (e k).trans (R.mem k), Nat.le_trans R.few hm, R.fits, R.ris, R.led⟩
theorem TxSet.congr {h : Heap} {M' : Str → Prop} {m : Nat} (R : TxSet w h a M n) (e : ∀ k, M' k ↔ M k) (hm : n ≤ m) : TxSet w h a M' m := by
  obtain ⟨o, es, ep, t, ho, hx, hd, r⟩ := R
  exact ⟨o, es, ep, t, ho, hx, hd, r.congr e hm⟩
theorem TIn.perm {es es' : Array (Int × Value)} {t t' : SetTable} (R : TIn w M n es t) (p : es'.toList.Perm es.toList) (hf : t'.fits es'.size = true) (hr : Ris t'.place.toList) (hl : t'.led = t.led) : TIn w M n es' t' :=
  ⟨fun e he => R.good e (p.mem_iff.mp he), (p.map tkey).nodup_iff.mpr R.nodup, fun k => (R.mem k).trans (p.map tkey).mem_iff.symm,
    by have := p.length_eq; rw [Array.length_toList, Array.length_toList] at this; rw [this]; exact R.few, hf, hr, R.led.imp id fun z => hl.trans z⟩
theorem tgd_elems {l : List (Int × Value)} (g : ∀ e ∈ l, TGd w e) : ElemsOf (PySem.strKind P w) l := by
  intro e he
  obtain ⟨x, tk, h1, h2⟩ := g e he
  exact ⟨⟨x, by rw [h1]; exact strKind_is _ _ _ _, h2⟩, by rw [h1] <;> rfl⟩
theorem tgd_mem {l : List (Int × Value)} (g : ∀ e ∈ l, TGd w e) (k : Str) : k ∈ l.map tkey ↔ ∃ e ∈ l, (PySem.strKind P w).is k e.2 = true := by
  rw [List.mem_map]
  have one : ∀ e ∈ l, (tkey e = k ↔ (PySem.strKind P w).is k e.2 = true) := by
    intro e he
    obtain ⟨x, tk, h1, _⟩ := g e he
    unfold tkey
    rw [h1]
    constructor
    · rintro rfl
      exact strKind_is _ _ _ _
    · intro q
      exact (PySem.strKind P w).inj _ _ _ (strKind_is _ _ _ tk) q
  exact ⟨fun ⟨e, he, q⟩ => ⟨e, he, (one e he).1 q⟩, fun ⟨e, he, q⟩ => ⟨e, he, (one e he).2 q⟩⟩

/-! ### one put in -/
theorem tset_tail {g : Bool → Sem Unit} (quiet : ∀ (b : Bool) (z : Shared) (R : Unit → Shared → Prop), R () z → wpAny (model P w) A (g b) R E z) {o : PySem.Obj} {es es1 : Array (Int × Value)} {ep : Nat} {t t2 : SetTable}
    (ho : s.heap.get? a = some o) (hex : o.ExactSet) (hd : o.data = .set es ep t) (T : TIn w M n es1 t2) (hn : n < scanBound) {dm : Bool} {R : Option Bool → Shared → Prop}
    (fin : ∀ h', Heap.SameBut a s.heap h' → TxSet w h' a M n → R (some true) { s with heap := h' }) :
    wpAny (model P w) A (do
      storeSet a es1 t2
      if (!dm && t2.tooFull) = true then do
        g (relayAll t2 es1 (SetTable.grown es1.size)).2.2
        storeSet a (relayAll t2 es1 (SetTable.grown es1.size)).1 (relayAll t2 es1 (SetTable.grown es1.size)).2.1
        pure (some true)
      else pure (some true)) R E s := by
  have hb : es1.size < scanBound := Nat.lt_of_le_of_lt T.few hn
  refine wpAny_bind (wpAny_storeSet_of ho hd ?_ (fits_of_scanBound hb))
  have o1 := store_at (es' := es1) (t' := t2) ho hd
  have b1 := Heap.SameBut.update s.heap a (Obj.putSet es1 t2)
  by_cases full : (!dm && t2.tooFull) = true
  · rw [if_pos full]
    have T3 := T.perm (relayAll_perm t2 es1 (SetTable.grown es1.size)) (relayAll_fits t2 es1 (SetTable.grown es1.size)) (relayAll_ris t2 es1 (SetTable.grown es1.size)) (relayAll_led t2 es1 (SetTable.grown es1.size))
    generalize relayAll t2 es1 (SetTable.grown es1.size) = Y at T3 ⊢
    obtain ⟨es2, t3, gv⟩ := Y
    refine wpAny_bind (quiet _ _ _ ?_)
    refine wpAny_bind (wpAny_storeSet_of o1 rfl ?_ (fits_of_scanBound (Nat.lt_of_le_of_lt T3.few hn)))
    exact wpAny_pure (fin _ (b1.trans (Heap.SameBut.update _ a _)) ⟨_, es2, _, t3, store_at (es' := es2) (t' := t3) o1 rfl, hex, rfl, T3⟩)
  · rw [if_neg full]
    exact wpAny_pure (fin _ b1 ⟨_, es1, _, t2, o1, hex, rfl, T⟩)
theorem tset_add {x : Str} {tk : Tok} {Q : Bool → Shared → Prop} (R : TxSet w s.heap a M n) (room : n + 1 < scanBound)
    (fin : ∀ b h', Heap.SameBut a s.heap h' → TxSet w h' a (fun k => M k ∨ k = x) (n + 1) → Q b { s with heap := h' }) :
    wpAny (model P w) A (setAddHashed a (.str x tk) ((PySem.strKind P w).hash x)) Q E s := by
  obtain ⟨o, es, ep, t, ho, hex, hd, T⟩ := R
  have isx : (PySem.strKind P w).is x (.str x tk) = true := strKind_is _ _ _ _
  have hb : es.size < scanBound := Nat.lt_of_le_of_lt T.few (by omega)
  have hel : ElemsOf (PySem.strKind P w) es.toList := tgd_elems T.good
  unfold setAddHashed setAddHashedIn
  refine wpAny_holding (wpAny_bind (wpAny_setState_of ho hd T.fits ?_))
  dsimp only
  rw [byScan_of (x := .str x tk) rfl hb hel]
  simp only [↓reduceIte]
  unfold setAddByScan
  refine wpAny_bind (wpAny_bind (wpAny_rule (wpAny_bind (wpAny_setScan_of isx ho hd T.fits hel ?_))))
  cases hfi : List.findIdx? (fun e => (PySem.strKind P w).is x e.2) es.toList with
  | some j =>
    obtain ⟨hj, pj, _⟩ := List.findIdx?_eq_some_iff_getElem.mp hfi
    have hx : M x := (T.mem x).2 ((tgd_mem (P := P) T.good x).2 ⟨es.toList[j], List.getElem_mem hj, pj⟩)
    exact wpAny_pure (wpAny_pure (fin _ s.heap (Heap.SameBut.refl a s.heap) ⟨o, es, ep, t, ho, hex, hd, T.congr (fun k => ⟨fun z => z.elim id (fun e => e ▸ hx), .inl⟩) (Nat.le_succ n)⟩))
  | none =>
    have hx : x ∉ es.toList.map tkey := fun z => by
      obtain ⟨e, he, q⟩ := (tgd_mem (P := P) T.good x).1 z
      rw [List.findIdx?_eq_none_iff.mp hfi e he] at q
      cases q
    have gw : ∀ (b : Bool) {z : Shared} {R : Unit → Shared → Prop}, R () z → wpAny (model P w) A (match b with
      | true => rule "set.scan.the-table-gave-way"
      | false => pure ()) R E z := fun b z R q => by
        cases b
        · exact wpAny_pure q
        · exact wpAny_rule q
    have pm := layNew_perm t es ((PySem.strKind P w).hash x) (.str x tk)
    have f1 := layNew_fits t es ((PySem.strKind P w).hash x) (.str x tk)
    have r1 := layNew_ris t es ((PySem.strKind P w).hash x) (.str x tk) T.ris
    have l1 := layNew_led t es ((PySem.strKind P w).hash x) (.str x tk)
    dsimp only
    generalize layNew t es ((PySem.strKind P w).hash x) (.str x tk) = Y at pm f1 r1 l1 ⊢
    obtain ⟨es1, t1, dm, gave⟩ := Y
    dsimp only at pm f1 r1 l1 ⊢
    rw [Array.toList_push] at pm
    have pc : es1.toList.Perm (((PySem.strKind P w).hash x, Value.str x tk) :: es.toList) := pm.trans (List.perm_append_singleton _ _)
    have pk : (es1.toList.map tkey).Perm (x :: es.toList.map tkey) := pc.map tkey
    have sz : es1.size = es.size + 1 := by rw [← Array.length_toList, pc.length_eq, List.length_cons, Array.length_toList]
    have T1 : ∀ t' : SetTable, t'.fits es1.size = true → Ris t'.place.toList → t'.led = t.led → TIn w (fun k => M k ∨ k = x) (n + 1) es1 t' := fun t' hf hr hl => by
      refine ⟨fun e he => ?_, pk.nodup_iff.mpr (List.nodup_cons.mpr ⟨hx, T.nodup⟩), fun k => ?_, by rw [sz]; exact Nat.succ_le_succ T.few, hf, hr, T.led.imp id fun z => hl.trans z⟩
      · rcases List.mem_cons.mp (pc.mem_iff.mp he) with z | z
        · exact ⟨x, tk, by rw [z], by rw [z] <;> rfl⟩
        · exact T.good e z
      · rw [pk.mem_iff, List.mem_cons, T.mem k]
        exact Or.comm
    have qu : ∀ (b : Bool) (z : Shared) (R : Unit → Shared → Prop), R () z → wpAny (model P w) A (match b with
      | true => rule "set.scan.the-table-gave-way"
      | false => pure ()) R E z := fun b z R q => gw b q
    refine wpAny_bind (gw _ ?_)
    split
    · refine wpAny_bind ?_
      rw [hashByValue_scannable 8 (x := Value.str x tk) rfl]
      refine wpAny_pure (tset_tail qu ho hex hd (T1 _ ?_ ?_ ?_) room fun h' sb r => wpAny_pure (fin true h' sb r))
      · split
        · exact f1
        · exact SetTable.fits_plain_off f1
      · split <;> exact r1
      · split <;> exact l1
    · refine wpAny_bind (wpAny_pure ?_)
      simp only [↓reduceIte]
      exact tset_tail qu ho hex hd (T1 _ f1 r1 l1) room fun h' sb r => wpAny_pure (fin true h' sb r)
theorem tset_fresh {h : Heap} {led : Bool} (hl : w.params.followText "set-order" = true ∨ led = true) (ho : h.get? a = some { cls := .type "set", dict := none, data := .set #[] 0 (.fresh 0 0 led) }) : TxSet w h a (fun _ => False) 0 :=
  ⟨_, #[], 0, _, ho, ⟨rfl, rfl, rfl⟩, rfl, ⟨fun e he => by simp at he, List.nodup_nil, fun k => by simp, Nat.le_refl _, by rfl, by simp [SetTable.fresh, Ris], hl⟩⟩

/-! ### set.update's loop over texts -/
section
variable {fp wr : List Addr} {G : Array GenState → Array GenState → Prop} {I S : Addr} {m : Nat} {Pv : Nat → Value → Prop} {St : Nat → Shared → Prop} {R : Result → Shared → Prop}
theorem tset_loop (B : WalksS P w A.in1 I fp wr G m Pv St) (out : S ∉ fp) (xs : List Str) (hm : m = xs.length) (few : m + 1 < scanBound) (val : ∀ i v, Pv i v → ∃ x tk, xs[i]? = some x ∧ v = .str x tk) :
    ∀ (k i : Nat) (z : Shared), m = i + k → St i z → TxSet w z.heap S (fun x => x ∈ xs.take i) i →
      (∀ z', Moved (S :: wr) G z z' → TxSet w z'.heap S (fun x => x ∈ xs) m → R (.ok (.ret .none)) z') →
      codeAny (model P w) A (.builtin "set.update.loop" ⟨[.ref S, .ref I], []⟩) R z
  | 0, i, z, hk, st, T, fin => by
    obtain rfl : m = i := by omega
    have hw : S ∉ wr := fun h => out (B.sub _ h)
    refine codeAny_builtin F.entry_set_update_loop ?_
    rw [Around.under_plainId F.plain_set_update_loop _]
    show wpAny _ A.in1 (pyNext (.ref I) >>= _) _ _ z
    refine wpAny_bind (B.done z _ _ st fun z' mv => ?_)
    show wpAny _ A.in1 (ret Value.none) _ _ z'
    refine wpAny_pure (fin z' (mv.mono fun b hb => List.mem_cons_of_mem _ hb) ((T.keep fun o e => mv.heap S o hw e).congr (fun x => ?_) (Nat.le_refl _)))
    rw [List.take_of_length_le (by omega)]
  | k + 1, i, z, hk, st, T, fin => by
    have hw : S ∉ wr := fun h => out (B.sub _ h)
    have up : ∀ b ∈ wr, b ∈ S :: wr := fun b hb => List.mem_cons_of_mem _ hb
    refine codeAny_builtin F.entry_set_update_loop ?_
    rw [Around.under_plainId F.plain_set_update_loop _]
    show wpAny _ A.in1 (pyNext (.ref I) >>= _) _ _ z
    refine wpAny_bind (B.item i z _ _ (by omega) st fun v z' hv st' mv => ?_)
    obtain ⟨x, tk, hx, rfl⟩ := val i v hv
    show wpAny _ A.in1 (holding [Value.str x tk] (setAdd S (.str x tk)) >>= _) _ _ z'
    unfold setAdd
    refine wpAny_bind (wpAny_holding (wpAny_holding (wpAny_bind ((PySem.strKind P w).pyHash (k := x) (strKind_is _ _ _ _) ?_))))
    refine tset_add (s := { z' with toks := z'.toks + 1 }) (T.keep fun o e => mv.heap S o hw e) (by omega) fun b h' sb T2 => ?_
    have T3 : TxSet w h' S (fun y => y ∈ xs.take (i + 1)) (i + 1) := T2.congr (fun y => by
      rw [List.take_succ, hx, List.mem_append]
      simp) (Nat.le_refl _)
    refine wpAny_pure ⟨plainId_quiet F.plain_set_update_loop _, tset_loop B out xs hm few val k (i + 1) _ (by omega) (B.frame _ z' _ _ st' (Nat.le_succ _) fun b hb o e => ?_) T3 fun z2 mv2 T4 => fin z2 (Moved.trans B.gtrans ((mv.mono up).then_heap (Nat.le_succ _) fun b o hb e => ?_) mv2) T4⟩
    · rw [sb.2 b fun q : b = S => out (by rw [← q]; exact hb)]
      exact e
    · rw [sb.2 b fun q : b = S => hb (by rw [q]; exact List.mem_cons_self)]
      exact e
end
end

section
variable {P : Program} {w : World} {A : Around} {E : Value → Shared → Prop} {s : Shared}
abbrev newS (w : World) : PySem.Obj := { cls := .type "set", dict := none, data := .set #[] 0 (.fresh 0 0 (!w.params.followText "set-order")) }
set_option maxHeartbeats 3200000 in
/-- set(xs), xs a list or a tuple of texts -/
theorem tset_call {l : Addr} {items : Array Value} {xs : List Str} {Q : Value → Shared → Prop} (hh : A.handled = none) (hl : s.heap.IsList l items ∨ s.heap.IsTuple l items) (hi : StrsAre items.toList xs) (few : xs.length + 1 < scanBound)
    (h : ∀ h' tk, TxSet w h' s.heap.objs.size (fun x => x ∈ xs) xs.length → (∀ b o, s.heap.get? b = some o → h'.get? b = some o) → Q (.ref s.heap.objs.size) { s with heap := h', toks := tk }) :
    wpAny (model P w) A (call (.type "set") [.ref l]) Q E s := by
  have hsz : items.size = xs.length := by
    have := StrsAre.len_eq hi
    rw [Array.length_toList] at this
    exact this
  obtain ⟨c, tl, hmro⟩ := F.called_set.mro
  have hmade := F.called_set.made
  have hsub := F.called_set.sub
  refine wpAny_call (codeAny_of_tree ?_)
  show wpAny _ _ (callAny (.type "set") _) _ _ _
  refine wpAny_pure ⟨Code.quiet_builtin _ (by decide +kernel), codeAny_builtin F.entry_type_call ?_⟩
  rw [Around.under_plain (weight_type_call_type "set" [.ref l] []) rfl]
  have h1 := F.called_set.notType
  have h2 := F.called_set.canCreate
  have hct := F.typeCall_set_1 (.ref l)
  repeat (any_goals (first | assumption | wp_step))
  refine codeAny_mono (code_set_led1 (.ref l) (E := E) (Q₁ := fun y z => y = .ref s.heap.objs.size ∧ z = { s with heap := s.heap.push (newS w) }) ⟨rfl, rfl⟩) fun r z hr => ?_
  rcases r with er | fl
  · exact hr
  cases fl with
  | ret y =>
    obtain ⟨rfl, rfl⟩ := hr
    have hS : (s.heap.push (newS w)).get? s.heap.objs.size = some (newS w) := Heap.get?_push_size _ rfl
    have hT : Shared.TypeIs { s with heap := s.heap.push (newS w) } (.ref s.heap.objs.size) "set" := ⟨_, hS, rfl⟩
    have hli := F.called_set.init.lookup
    have hbi := F.called_set.init.bind (.ref s.heap.objs.size)
    repeat (any_goals (first | assumption | wp_step))
    refine codeAny_mono (codeAny_call_builtin (R := wants (fun r z => r = .none ∧ ∃ h' tk, z = { s with heap := h', toks := tk } ∧ TxSet w h' s.heap.objs.size (fun x => x ∈ xs) xs.length ∧ (∀ b o, s.heap.get? b = some o → h'.get? b = some o)) E)
      F.called_set.init.plain F.entry_set_init (check_set_init_1 hT ?_)) fun r z hr => ?_
    · have val : ∀ (i : Nat) (v : Value), items[i]? = some v → ∃ x tk, xs[i]? = some x ∧ v = .str x tk := fun i v hv => by
        have hi2 : i < xs.length := by rw [← hsz]; exact (Array.getElem?_eq_some_iff.mp hv).1
        obtain ⟨t, e⟩ := SS.strs_at hi i v (by rw [Array.getElem?_toList]; exact hv)
        exact ⟨xs[i], t, List.getElem?_eq_getElem hi2, by rw [e, List.getD_eq_getElem?_getD, List.getElem?_eq_getElem hi2] <;> rfl⟩
      have hh3 : A.in1.in1.in1.handled = none := by simp [hh]
      have z1 : (s.heap.push (newS w)).objs.size = s.heap.objs.size + 1 := Heap.size_push ..
      have nobody : ∀ {T : String} (fs : Array Value), TxSet w ((s.heap.push (newS w)).push { cls := .type T, data := .fields fs }) s.heap.objs.size (fun x => x ∈ xs.take 0) 0 := fun fs =>
        (tset_fresh (by cases w.params.followText "set-order" <;> simp) (Heap.get?_push_of_some _ hS)).congr (fun x => by simp) (Nat.le_refl _)
      have ending : ∀ {T : String} {fs : Array Value} {fp : List Addr} {GG : Array GenState → Array GenState → Prop} (z' : Shared), (∀ b ∈ fp, s.heap.objs.size ≤ b) → (GG = fun a b => b = a) →
          Moved (s.heap.objs.size :: fp) GG { s with heap := (s.heap.push (newS w)).push { cls := .type T, data := .fields fs } } z' → TxSet w z'.heap s.heap.objs.size (fun x => x ∈ xs) items.size →
          ∃ h' tk, z' = { s with heap := h', toks := tk } ∧ TxSet w h' s.heap.objs.size (fun x => x ∈ xs) xs.length ∧ (∀ b o, s.heap.get? b = some o → h'.get? b = some o) := fun {T fs fp GG} z' hfp hG mv T2 => by
        subst hG
        obtain ⟨h', g2, d', tk', os'⟩ := z'
        have eg : g2 = s.gens := mv.gens
        have ed : d' = s.drawn := mv.drawn
        have eo : os' = s.os := mv.os
        subst eg; subst ed; subst eo
        rw [hsz] at T2
        refine ⟨h', tk', rfl, T2, fun b o e => mv.heap b o (fun hb => ?_) (Heap.get?_push_of_some _ (Heap.get?_push_of_some _ e))⟩
        have hb2 := Heap.lt_size e
        rcases List.mem_cons.mp hb with q | q
        · exact Nat.ne_of_lt hb2 q
        · exact Nat.not_le_of_lt hb2 (hfp b q)
      rcases hl with hl | hl
      · obtain ⟨⟨ocls, odict, odata, oslots⟩, hol, hcl, nl, hdl⟩ := hl
        simp only at hcl hdl
        subst hcl; subst hdl
        have hol' : (s.heap.push (newS w)).get? l = some { cls := .type "list", dict := odict, data := .seq items nl, slots := oslots } := Heap.get?_push_of_some _ hol
        have hsls := F.sub_list_set
        have hslf := F.sub_list_frozenset
        have hne : (Value.type "list" == Value.type "dict") = false := by decide
        have hl1 : (s.heap.push (newS w)).IsList l items := ⟨_, hol', rfl, nl, rfl⟩
        unfold Builtin.«set.__init__» noKeywords Builtin.Frozenset.updateFrom
        generalize hPI : pyIter = PI
        wp_walk
        subst hPI
        refine wpAny_pyIter_list hl1 (wpAny_bind (wpAny_runValue ?_))
        have hlS : l < s.heap.objs.size := Heap.lt_size hol
        have neI : l ≠ (s.heap.push (newS w)).objs.size := by rw [z1]; exact Nat.ne_of_lt (Nat.lt_succ_of_lt hlS)
        refine tset_loop ((Walks.list hh3 _ l neI items).toS) (S := s.heap.objs.size) (by
            rw [z1]
            intro hb
            rcases List.mem_cons.mp hb with q | q
            · exact Nat.ne_of_lt (Nat.lt_succ_self _) q
            · rw [List.mem_singleton.mp q] at hlS; exact Nat.lt_irrefl _ hlS) xs hsz (by rw [hsz]; exact few) val items.size 0 _ (by omega) ⟨⟨_, Heap.get?_push_size _ rfl, rfl, rfl⟩, hl1.push _⟩ (nobody _) fun z' mv T2 => ?_
        obtain ⟨h', tk, rfl, T3, k⟩ := ending z' (fun b hb => by rw [List.mem_singleton.mp hb, z1]; exact Nat.le_succ _) rfl mv T2
        refine wpAny_pure ?_
        show wpAny _ _ (ret Value.none) _ _ _
        exact wpAny_pure ⟨rfl, h', tk, rfl, T3, k⟩
      · obtain ⟨⟨ocls, odict, odata, oslots⟩, hol, hcl, nl, hdl⟩ := hl
        simp only at hcl hdl
        subst hcl; subst hdl
        have hol' : (s.heap.push (newS w)).get? l = some { cls := .type "tuple", dict := odict, data := .seq items nl, slots := oslots } := Heap.get?_push_of_some _ hol
        have hsls := F.sub_tuple_set
        have hslf := F.sub_tuple_frozenset
        have hne : (Value.type "tuple" == Value.type "dict") = false := by decide
        have hl1 : (s.heap.push (newS w)).IsTuple l items := ⟨_, hol', rfl, nl, rfl⟩
        unfold Builtin.«set.__init__» noKeywords Builtin.Frozenset.updateFrom
        generalize hPI : pyIter = PI
        wp_walk
        subst hPI
        refine wpAny_pyIter_tuple hl1 (wpAny_bind (wpAny_runValue ?_))
        have hlS : l < s.heap.objs.size := Heap.lt_size hol
        have neI : l ≠ (s.heap.push (newS w)).objs.size := by rw [z1]; exact Nat.ne_of_lt (Nat.lt_succ_of_lt hlS)
        refine tset_loop ((Walks.tuple hh3 _ l neI items).toS) (S := s.heap.objs.size) (by
            rw [z1]
            intro hb
            rcases List.mem_cons.mp hb with q | q
            · exact Nat.ne_of_lt (Nat.lt_succ_self _) q
            · rw [List.mem_singleton.mp q] at hlS; exact Nat.lt_irrefl _ hlS) xs hsz (by rw [hsz]; exact few) val items.size 0 _ (by omega) ⟨⟨_, Heap.get?_push_size _ rfl, rfl, rfl⟩, hl1.push _⟩ (nobody _) fun z' mv T2 => ?_
        obtain ⟨h', tk, rfl, T3, k⟩ := ending z' (fun b hb => by rw [List.mem_singleton.mp hb, z1]; exact Nat.le_succ _) rfl mv T2
        refine wpAny_pure ?_
        show wpAny _ _ (ret Value.none) _ _ _
        exact wpAny_pure ⟨rfl, h', tk, rfl, T3, k⟩
    · rcases r with er | fl
      · exact hr
      cases fl with
      | ret y =>
        obtain ⟨rfl, h', tk, rfl, T3, k⟩ := hr
        repeat (any_goals (first | assumption | wp_step))
        exact h _ _ T3 k
      | _ => exact hr.elim
  | _ => exact hr.elim
/-- sorted of a set of texts -/
theorem tset_sorted {a : Addr} {M : Str → Prop} {n : Nat} {Q : Value → Shared → Prop} (R : TxSet w s.heap a M n) (hh : A.handled = none) (few : n < scanBound)
    (h : ∀ s' p (out : Array Value) (c : Nat) (ys : List Str), (∀ b o, s.heap.get? b = some o → s'.heap.get? b = some o) → s'.gens = s.gens → s'.os = s.os → s.heap.objs.size ≤ p →
      s'.heap.get? p = some (seqObj "list" out c) → StrsAre out.toList ys → sortedS ys = true → ys.Nodup → (∀ k, k ∈ ys ↔ M k) → ys.length ≤ n → Q (.ref p) s') :
    wpAny (model P w) A (call (.builtin "sorted") [.ref a]) Q E s := by
  obtain ⟨o, es, ep, t, ho, hex, hd, T⟩ := R
  have hb : es.size < scanBound := Nat.lt_of_le_of_lt T.few few
  refine Calls.call_function_entry kind_sorted plain_sorted entry_sorted (args_sorted1 _) ?_
  unfold Builtin.«sorted»
  refine wpAny_bind (m := checkCount "sorted" 1 1 _) (wpAny_pure (wpAny_bind (collect_set (A := A.in1) hh ⟨o, ho, hex.1, hd⟩ T.fits hb T.ris T.led fun s1 vs k1 hz g1 o1 pm => ?_)))
  have toStr : ∀ l : List (Int × Value), (∀ e ∈ l, TGd w e) → ∀ us : List Value, (∀ u ∈ us, u ∈ l.map (·.2)) → StrsAre us (us.map strOf) := fun l hl us => by
    induction us with
    | nil => intro _; exact .nil
    | cons u us ih =>
      intro hu
      obtain ⟨e, he, q⟩ := List.mem_map.mp (hu u List.mem_cons_self)
      obtain ⟨x, tk, h1, _⟩ := hl e he
      have e2 : u = .str x tk := by rw [← q, h1]
      subst e2
      exact .cons x tk (ih fun y hy => hu y (List.mem_cons_of_mem _ hy))
  have hSt : StrsAre vs (vs.map strOf) := toStr es.toList T.good vs fun u hu => pm.mem_iff.mp hu
  have pk : (vs.map strOf).Perm (es.toList.map tkey) := by
    have q := pm.map strOf
    rw [List.map_map] at q
    refine q.trans (List.Perm.of_eq (List.map_congr_left fun e he => ?_))
    obtain ⟨x, tk, h1, _⟩ := T.good e he
    show strOf e.2 = tkey e
    unfold tkey
    rw [h1] <;> rfl
  have hvl : vs.length = es.size := by rw [pm.length_eq, List.length_map, Array.length_toList]
  have hL : vs.length ≤ sizeLine := by rw [hvl]; exact fits_of_scanBound hb
  refine wpAny_bind (wpAny_newList ?_ hL)
  have hoL : (s1.heap.push (seqObj "list" vs.toArray 0)).get? s1.heap.objs.size = some (seqObj "list" vs.toArray 0) := Heap.get?_push_size _ rfl
  refine wpAny_bind (wpAny_holding (wpAny_call_entry slot_list_sort ⟨_, hoL, rfl⟩ entry_list_sort (list_sort_treeKAny strKind_oneLt hoL hSt.keysOf (fun v₁ v₂ rest e => keyKind_strs (by rw [← e]; exact hSt)) hL fun st' hp hs => ⟨_, rfl, ?_⟩) (args_list_sort _)))
  obtain ⟨ys, a1, a2, a3⟩ := sorted_out_str hSt hp hs
  obtain ⟨c, hc⟩ := sortedHeap_at (vs := vs) (out := (arrOf st').map (·.2)) hoL
  have pn : ys.Perm (es.toList.map tkey) := a2.trans pk
  refine wpAny_pure ⟨_, rfl, h _ s1.heap.objs.size _ c ys (fun b u e => ?_) g1 o1 hz hc a1 a3 (pn.nodup_iff.mpr T.nodup) (fun k => by rw [pn.mem_iff, ← T.mem k]) ?_⟩
  · have q := k1 b u e
    have hlt := Heap.lt_size q
    show (sortedHeap (s1.heap.push (seqObj "list" vs.toArray 0)) s1.heap.objs.size vs _).get? b = some u
    rw [sortedHeap_old (Nat.ne_of_lt hlt) (by rw [size_push']; exact Nat.lt_succ_of_lt hlt)]
    exact Heap.get?_push_of_some _ q
  · rw [pn.length_eq, List.length_map, Array.length_toList]
    exact T.few
end
end Z

/-! Z1: a small evaluator. D: values; E, Es, S, B: mini syntax; R: results. -/
namespace Z
open PySem

/-! ### values -/
inductive D where
  | non | bl (b : Bool) | int (i : Int) | str (x : Str)
  | tup (xs : List D) | lst (xs : List D) | dct (kvs : List (D × D))
  | ins (c : Nat) (fs : List (Str × D))
  | kd (fs : List (Str × D))
  | ref (l : Nat)
  | scr (ns : List Int)
  deriving Inhabited

mutual
def D.eqb : D → D → Bool
  | .non, .non => true
  | .bl a, .bl b => a == b
  | .int a, .int b => a == b
  | .str a, .str b => a == b
  | .tup a, .tup b => D.eqL a b
  | .lst a, .lst b => D.eqL a b
  | .dct a, .dct b => D.eqK a b
  | .ins c a, .ins d b => c == d && D.eqF a b
  | .kd a, .kd b => D.eqF a b
  | .ref a, .ref b => a == b
  | .scr a, .scr b => a == b
  | _, _ => false
def D.eqL : List D → List D → Bool
  | [], [] => true
  | x :: xs, y :: ys => D.eqb x y && D.eqL xs ys
  | _, _ => false
def D.eqK : List (D × D) → List (D × D) → Bool
  | [], [] => true
  | (x, u) :: xs, (y, v) :: ys => D.eqb x y && (D.eqb u v && D.eqK xs ys)
  | _, _ => false
def D.eqF : List (Str × D) → List (Str × D) → Bool
  | [], [] => true
  | (x, u) :: xs, (y, v) :: ys => x == y && (D.eqb u v && D.eqF xs ys)
  | _, _ => false
end
mutual
theorem D.eqb_iff : ∀ a b : D, D.eqb a b = true ↔ a = b
  | .non, b => by cases b <;> simp [D.eqb]
  | .bl _, b => by cases b <;> simp [D.eqb]
  | .int _, b => by cases b <;> simp [D.eqb]
  | .str _, b => by cases b <;> simp [D.eqb]
  | .tup a, b => by cases b <;> simp [D.eqb, D.eqL_iff a]
  | .lst a, b => by cases b <;> simp [D.eqb, D.eqL_iff a]
  | .dct a, b => by cases b <;> simp [D.eqb, D.eqK_iff a]
  | .ins _ a, b => by cases b <;> simp [D.eqb, D.eqF_iff a]
  | .kd a, b => by cases b <;> simp [D.eqb, D.eqF_iff a]
  | .ref _, b => by cases b <;> simp [D.eqb]
  | .scr _, b => by cases b <;> simp [D.eqb]
theorem D.eqL_iff : ∀ a b : List D, D.eqL a b = true ↔ a = b
  | [], b => by cases b <;> simp [D.eqL]
  | x :: xs, b => by
    cases b with
    | nil => simp [D.eqL]
    | cons y ys => simp [D.eqL, D.eqb_iff x, D.eqL_iff xs]
theorem D.eqK_iff : ∀ a b : List (D × D), D.eqK a b = true ↔ a = b
  | [], b => by cases b <;> simp [D.eqK]
  | (x, u) :: xs, b => by
    cases b with
    | nil => simp [D.eqK]
    | cons y ys => obtain ⟨y, v⟩ := y; simp [D.eqK, D.eqb_iff x, D.eqb_iff u, D.eqK_iff xs, and_assoc]
theorem D.eqF_iff : ∀ a b : List (Str × D), D.eqF a b = true ↔ a = b
  | [], b => by cases b <;> simp [D.eqF]
  | (x, u) :: xs, b => by
    cases b with
    | nil => simp [D.eqF]
    | cons y ys => obtain ⟨y, v⟩ := y; simp [D.eqF, D.eqb_iff u, D.eqF_iff xs, and_assoc]
end
instance : DecidableEq D := fun a b => decidable_of_iff _ (D.eqb_iff a b)

/-! no refs within -/
mutual
def D.nr : D → Bool
  | .tup xs => D.nrL xs
  | .lst xs => D.nrL xs
  | .dct kvs => D.nrK kvs
  | .ins _ fs => D.nrF fs
  | .kd fs => D.nrF fs
  | .ref _ => false
  | _ => true
def D.nrL : List D → Bool
  | [] => true
  | x :: xs => D.nr x && D.nrL xs
def D.nrK : List (D × D) → Bool
  | [] => true
  | (x, u) :: xs => D.nr x && (D.nr u && D.nrK xs)
def D.nrF : List (Str × D) → Bool
  | [] => true
  | (_, u) :: xs => D.nr u && D.nrF xs
end

/-- an owned object -/
inductive Obj where
  | lst (xs : List D) | dct (kvs : List (D × D)) | ins (c : Nat) (fs : List (Str × D))
  deriving DecidableEq, Inhabited
def Obj.nr : Obj → Bool
  | .lst xs => D.nrL xs
  | .dct kvs => D.nrK kvs
  | .ins _ fs => D.nrF fs
abbrev Store := List (Option Obj)
abbrev Env := List (Option D)

inductive R (α : Type) where
  | ok (a : α) (S : Store) | bad
  deriving Inhabited
def R.bind {α β : Type} (r : R α) (f : α → Store → R β) : R β := match r with
  | .ok a S => f a S
  | .bad => .bad
@[simp] theorem R.ok_bind {α β : Type} (a : α) (S : Store) (f : α → Store → R β) : (R.ok a S).bind f = f a S := rfl
@[simp] theorem R.bad_bind {α β : Type} (f : α → Store → R β) : (R.bad : R α).bind f = .bad := rfl
theorem R.bind_bind {α β γ : Type} (r : R α) (f : α → Store → R β) (g : β → Store → R γ) : (r.bind f).bind g = r.bind fun a S => (f a S).bind g := by cases r <;> rfl
def R.of {α : Type} (o : Option α) (S : Store) : R α := match o with
  | some a => .ok a S
  | none => .bad
@[simp] theorem R.of_some {α : Type} (a : α) (S : Store) : R.of (some a) S = .ok a S := rfl
@[simp] theorem R.of_none {α : Type} (S : Store) : (R.of none S : R α) = .bad := rfl

/-! ### mini syntax -/
inductive BOp where | add | sub | mul | fdiv | mod | pow
  deriving DecidableEq
inductive COp where | eq | ne | lt | le | gt | ge | is | isnot | in_ | notin
  deriving DecidableEq
/-- built-in functions of values -/
inductive Bi where | len | int | str | list | tuple | sorted | sum | all | any | max | min | dict | sortedSet | lenSet
  deriving DecidableEq
/-- methods of built-in types -/
inductive Bm where | append | extend | pop | popAt | get2 | index | join | count
  deriving DecidableEq
/-- isinstance's classes -/
inductive Ty where | str | tuple | list | int | bool
  deriving DecidableEq
/-- how a call's answer is taken: by value (frozen, what it made is dropped), as an owned object, or plainly -/
inductive Md where | val | own | plain
  deriving DecidableEq
inductive Tg where
  | nm (i : Nat) | tp (ts : List Tg)

mutual
inductive E where
  | var (i : Nat) | k (d : D) | gl (x : Str) (d : D)
  | tup (es : Es) | lst (ow : Bool) (es : Es) | dct (ow : Bool) (ks vs : Es)
  | bin (op : BOp) (ow : Bool) (a b : E) | neg (a : E)
  | cmp (op : COp) (a b : E) | chain (op op' : COp) (a b c : E)
  | and (a b : E) | or (a b : E) | not (a : E) | ite (t a b : E)
  | call (f : Nat) (m : Md) (es : Es)
  | mcall (nm : Str) (cf : List (Nat × Nat)) (m : Md) (o : E) (es : Es)
  | make (c f : Nat) (ow : Bool) (es : Es)
  | fld (o : E) (f : Str) | prop (nm : Str) (c f : Nat) (o : E)
  | idx (a i : E) | slc (ow : Bool) (a : E) (lo hi : Es)
  | lc (ow : Bool) (own : List Nat) (elt : E) (tg : Tg) (it : Iy) (cond : Es)
  | lc2 (ow : Bool) (own : List Nat) (elt : E) (tg : Tg) (it : Iy) (own2 : List Nat) (tg2 : Tg) (it2 : Iy)
  | dc (ow : Bool) (own : List Nat) (ke ve : E) (tg : Tg) (it : Iy) (cond : Es)
  | dc2 (ow : Bool) (own : List Nat) (ke ve : E) (tg : Tg) (it : Iy) (own2 : List Nat) (tg2 : Tg) (it2 : Iy)
  | bi (b : Bi) (ow : Bool) (es : Es)
  | bm (m : Bm) (o : E) (es : Es)
  | isi (a : E) (t : Ty)
  | frz (a : E)
inductive Es where
  | nil | cons (e : E) (es : Es)
inductive Iy where
  | seq (e : E) | rng (es : Es) | enum (e : E) | zip (a b : E) | rev (e : E) | keys (e : E)
end
mutual
inductive S where
  | asg (tg : Tg) (e : E) | setF (o : E) (f : Str) (e : E) | setI (o i e : E)
  | aug (i : Nat) (op : BOp) (e : E) | augF (o : E) (f : Str) (op : BOp) (e : E)
  | del (o i : E) | expr (e : E) | ret (e : E) | retN | pass | cont
  | raise
  | if_ (t : E) (a b : B) | for_ (tg : Tg) (it : Iy) (b : B) | while_ (t : E) (b : B)
  | frzv (s : S) (i : Nat)
inductive B where
  | nil | cons (s : S) (b : B)
end

/-! ### values' operations -/
def pdL (f : D → Option PyData) : List D → Option (List PyData)
  | [] => some []
  | x :: xs => match f x, pdL f xs with
    | some d, some ds => some (d :: ds)
    | _, _ => none
mutual
def pd : D → Option PyData
  | .non => some .none
  | .bl b => some (.bool b)
  | .int i => some (.int i)
  | .str x => some (.str x)
  | .tup xs => (pds xs).map .tuple
  | .lst xs => (pds xs).map .list
  | _ => none
def pds : List D → Option (List PyData)
  | [] => some []
  | x :: xs => match pd x, pds xs with
    | some d, some ds => some (d :: ds)
    | _, _ => none
end
/-- keys: ints, texts -/
def kFlat : D → Option L2.Key
  | .int i => some (.inl i)
  | .str x => some (.inr x)
  | _ => none
def getK (kvs : List (D × D)) (k : D) : Option D := (kvs.find? fun p => decide (p.1 = k)).map (·.2)
def putD (kvs : List (D × D)) (k v : D) : List (D × D) :=
  if kvs.any (fun p => decide (p.1 = k)) then kvs.map fun p => if p.1 = k then (p.1, v) else p else kvs ++ [(k, v)]
def delD (kvs : List (D × D)) (k : D) : List (D × D) := kvs.filter fun p => decide (p.1 ≠ k)
def putAll (kvs more : List (D × D)) : List (D × D) := more.foldl (fun acc p => putD acc p.1 p.2) kvs
/-- the kind of a dict's keys -/
def flatKeys (kvs : List (D × D)) : Bool := kvs.all fun p => (kFlat p.1).isSome
def flatD : D → Bool
  | .non => true
  | .bl _ => true
  | .int _ => true
  | .str _ => true
  | _ => false
/-- dicts that are the same: flat keys, flat values -/
def dictEq : D → D → Option Bool
  | .dct ks, .dct ls => if decide (ks.length = ls.length) && (flatKeys ks && (flatKeys ls && ks.all fun p => flatD p.2 && decide (getK ls p.1 = some p.2))) then some true else none
  | _, _ => none
/-- a == b -/
def pyEq (a b : D) : Option Bool := match pd a, pd b with
  | some x, some y => if SeqAt.shaped x && SeqAt.shaped y then some (PyData.eqv x y) else none
  | _, _ => dictEq a b
/-- k1, v1, k2, v2, .. -/
def pairUp : List D → Option (List (D × D))
  | [] => some []
  | k :: v :: r => (pairUp r).map ((k, v) :: ·)
  | _ => none
/-- (k1, v1), (k2, v2), .. -/
def pairsOf : List D → Option (List (D × D))
  | [] => some []
  | .tup [k, v] :: r => (pairsOf r).map ((k, v) :: ·)
  | _ => none
def okKey (kvs : List (D × D)) (k : D) : Bool := (kFlat k).isSome

def objAt (S : Store) (l : Nat) : Option Obj := (S[l]?).join
def lstOf (S : Store) : D → Option (List D)
  | .lst xs => some xs
  | .ref l => match objAt S l with
    | some (.lst xs) => some xs
    | _ => none
  | _ => none
def seqOf (S : Store) : D → Option (List D)
  | .tup xs => some xs
  | .scr ns => some (ns.map .int)
  | d => lstOf S d
def dctOf (S : Store) : D → Option (List (D × D))
  | .dct xs => some xs
  | .ref l => match objAt S l with
    | some (.dct xs) => some xs
    | _ => none
  | _ => none
def insOf (S : Store) : D → Option (Nat × List (Str × D))
  | .ins c fs => some (c, fs)
  | .ref l => match objAt S l with
    | some (.ins c fs) => some (c, fs)
    | _ => none
  | _ => none
def mkL (ow : Bool) (xs : List D) (S : Store) : R D :=
  if xs.length ≤ sizeLine then (if ow then .ok (.ref S.length) (S ++ [some (.lst xs)]) else .ok (.lst xs) S) else .bad
def mkD (ow : Bool) (kvs : List (D × D)) (S : Store) : R D :=
  if kvs.length ≤ sizeLine then (if ow then .ok (.ref S.length) (S ++ [some (.dct kvs)]) else .ok (.dct kvs) S) else .bad
def cut {α : Type} (xs : List α) (lo hi : Option Int) : List α := (xs.drop (HT.sIx xs.length 0 lo)).take (HT.sIx xs.length xs.length hi - HT.sIx xs.length 0 lo)

def cMul (i j : Int) : Bool := (decide (-(2 ^ 64) < i) && decide (i < 2 ^ 64)) || (decide (-(2 ^ 64) < j) && decide (j < 2 ^ 64))
def binV (op : BOp) (ow : Bool) (a b : D) (S : Store) : R D := match op, a, b with
  | .add, .int i, .int j => .ok (.int (i + j)) S
  | .sub, .int i, .int j => .ok (.int (i - j)) S
  | .mul, .int i, .int j => if cMul i j then .ok (.int (i * j)) S else .bad
  | .fdiv, .int i, .int j => if 0 < j ∧ j < 1073741824 then .ok (.int (i / j)) S else .bad
  | .mod, .int i, .int j => if 0 < j then .ok (.int (i % j)) S else .bad
  | .pow, .int i, .int j => if 0 ≤ j ∧ j ≤ 1000000 ∧ i.natAbs < 2 ^ 64 then .ok (.int (i ^ j.toNat)) S else .bad
  | .add, .str x, .str y => if x.length + y.length ≤ sizeLine then .ok (.str (x ++ y)) S else .bad
  | .add, .tup xs, .tup ys => if xs.length + ys.length ≤ sizeLine then .ok (.tup (xs ++ ys)) S else .bad
  | .mul, .tup xs, .int j => if xs ≠ [] ∧ 2 ≤ j ∧ j ≤ 1000 ∧ xs.length ≤ 1000 then .ok (.tup (List.replicate j.toNat xs).flatten) S else .bad
  | .add, a, b => match lstOf S a, lstOf S b with
    | some xs, some ys => mkL ow (xs ++ ys) S
    | _, _ => .bad
  | _, _, _ => .bad
def inV (a b : D) (S : Store) : Option Bool := match b with
  | .str z => match a with
    | .str x => match x.cps.toList with
      | [c] => some (decide (c ∈ z.cps.toList))
      | _ => none
    | _ => none
  | .kd fs => match a with
    | .str x => some (fs.lookup x).isSome
    | _ => none
  | b => match dctOf S b with
    | some kvs => if okKey kvs a then some (getK kvs a).isSome else none
    | none => match b with
      | .tup xs => if flatD a && xs.all flatD then (match pd a, pds xs with
        | some d, some ds => some (ds.any fun z => PyData.eqv z d)
        | _, _ => none) else none
      | b => match lstOf S b with
        | some xs => match pd a, pds xs with
          | some d, some ds => if SeqAt.shaped d && SeqAt.shaped (.list ds) then some (ds.any fun z => PyData.eqv z d) else none
          | _, _ => none
        | none => none
def cmpV (op : COp) (a b : D) (S : Store) : Option Bool := match op with
  | .eq => pyEq a b
  | .ne => (pyEq a b).map (!·)
  | .is => match b with
    | .non => some (decide (a = .non))
    | .bl y => match a with
      | .bl x => some (decide (x = y))
      | _ => none
    | _ => none
  | .isnot => match b with
    | .non => some (!decide (a = .non))
    | .bl y => match a with
      | .bl x => some (!decide (x = y))
      | _ => none
    | _ => none
  | .in_ => inV a b S
  | .notin => (inV a b S).map (!·)
  | .lt => match a, b with
    | .int i, .int j => some (decide (i < j))
    | _, _ => none
  | .le => match a, b with
    | .int i, .int j => some (decide (i ≤ j))
    | _, _ => none
  | .gt => match a, b with
    | .int i, .int j => some (decide (j < i))
    | _, _ => none
  | .ge => match a, b with
    | .int i, .int j => some (decide (j ≤ i))
    | _, _ => none
/-- truth -/
def truV (a : D) (S : Store) : Option Bool := match a with
  | .bl b => some b
  | .int i => some (i != 0)
  | .str x => if x.length ≤ sizeLine then some (x.length != 0) else none
  | .non => some false
  | .tup xs => some (!xs.isEmpty)
  | .lst xs => some (!xs.isEmpty)
  | .dct xs => some (!xs.isEmpty)
  | .ref l => match objAt S l with
    | some (.lst xs) => some (!xs.isEmpty)
    | some (.dct xs) => some (!xs.isEmpty)
    | _ => none
  | _ => none
def idxV (a i : D) (S : Store) : Option D := match a, i with
  | .str z, .int j => if z.length ≤ sizeLine then (L2.atI z.cps.toList j).map fun c => .str ⟨#[c]⟩ else none
  | .kd fs, .str x => fs.lookup x
  | a, i => match seqOf S a with
    | some xs => match i with
      | .int j => L2.atI xs j
      | _ => none
    | none => match dctOf S a with
      | some kvs => if okKey kvs i then getK kvs i else none
      | none => none
def slcV (ow : Bool) (a : D) (lo hi : Option Int) (S : Store) : R D := match a with
  | .str z => if z.length ≤ sizeLine then .ok (.str ⟨(cut z.cps.toList lo hi).toArray⟩) S else .bad
  | .tup xs => .ok (.tup (cut xs lo hi)) S
  | a => match lstOf S a with
    | some xs => mkL ow (cut xs lo hi) S
    | none => .bad

/-! sorting: ints, texts, tuples of ints, pairs of a text and a tuple of ints, pairs of an int and such -/
def ltL {α : Type} (lt : α → α → Bool) [DecidableEq α] : List α → List α → Bool
  | [], [] => false
  | [], _ :: _ => true
  | _ :: _, [] => false
  | x :: xs, y :: ys => if x = y then ltL lt xs ys else lt x y
mutual
def ltD : D → D → Bool
  | .int i, .int j => decide (i < j)
  | .str x, .str y => PySem.Spec.ltCps x.cps.toList y.cps.toList
  | .tup xs, .tup ys => ltDs xs ys
  | _, _ => false
def ltDs : List D → List D → Bool
  | [], [] => false
  | [], _ :: _ => true
  | _ :: _, [] => false
  | x :: xs, y :: ys => if x = y then ltDs xs ys else ltD x y
end
def insD (x : D) : List D → List D
  | [] => [x]
  | y :: ys => if ltD x y then x :: y :: ys else y :: insD x ys
def sortD : List D → List D
  | [] => []
  | x :: xs => insD x (sortD xs)
def allInt : List D → Option (List Int)
  | [] => some []
  | .int i :: r => (allInt r).map (i :: ·)
  | _ => none
def allStr : List D → Option (List Str)
  | [] => some []
  | .str i :: r => (allStr r).map (i :: ·)
  | _ => none
def allBl : List D → Option (List Bool)
  | [] => some []
  | .bl i :: r => (allBl r).map (i :: ·)
  | _ => none
def intsT : D → Bool
  | .tup xs => (allInt xs).isSome
  | _ => false
def factT : D → Bool
  | .tup [.str _, .tup xs] => (allInt xs).isSome
  | _ => false
def nfactT : D → Bool
  | .tup [.int _, d] => factT d
  | _ => false
/-- what may be sorted -/
def sortable (xs : List D) : Bool := (allInt xs).isSome || (allStr xs).isSome
def keysOf (S : Store) (d : D) : Option (List D) := (dctOf S d).map fun kvs => kvs.map (·.1)
def dedup : List D → List D
  | [] => []
  | x :: xs => x :: (dedup xs).filter fun y => decide (y ≠ x)

def biV (b : Bi) (ow : Bool) (as : List D) (S : Store) : R D := match b, as with
  | .len, [d] => match d with
    | .str x => if x.length ≤ sizeLine then .ok (.int x.length) S else .bad
    | d => match seqOf S d with
      | some xs => .ok (.int xs.length) S
      | none => match dctOf S d with
        | some xs => .ok (.int xs.length) S
        | none => .bad
  | .int, [d] => match d with
    | .int i => .ok (.int i) S
    | .bl b => .ok (.int (if b then 1 else 0)) S
    | _ => .bad
  | .str, [d] => match d with
    | .int i => if i.natAbs.log2 < 1920 then .ok (.str (toString i : String)) S else .bad
    | _ => .bad
  | .list, [d] => match seqOf S d with
    | some xs => mkL ow xs S
    | none => match keysOf S d with
      | some ks => mkL ow ks S
      | none => .bad
  | .tuple, [d] => match seqOf S d with
    | some xs => .ok (.tup xs) S
    | none => .bad
  | .sorted, [d] => match lstOf S d with
    | some xs => if sortable xs then mkL ow (sortD xs) S else .bad
    | none => .bad
  | .sum, [d] => match lstOf S d with
    | some xs => match allInt xs with
      | some ns => .ok (.int ns.sum) S
      | none => .bad
    | none => .bad
  | .all, [d] => match lstOf S d with
    | some xs => match allBl xs with
      | some ns => .ok (.bl (ns.all id)) S
      | none => .bad
    | none => .bad
  | .any, [d] => match lstOf S d with
    | some xs => match allBl xs with
      | some ns => .ok (.bl (ns.any id)) S
      | none => .bad
    | none => .bad
  | .max, [.int i, .int j] => .ok (.int (if j > i then j else i)) S
  | .min, [.int i, .int j] => .ok (.int (if j < i then j else i)) S
  | .max, [d] => match lstOf S d with
    | some xs => match allInt xs with
      | some (n :: ns) => .ok (.int (ns.foldl max n)) S
      | _ => .bad
    | none => .bad
  | .dict, [d] => match dctOf S d with
    | some kvs => mkD ow kvs S
    | none => match lstOf S d with
      | some xs => match pairsOf xs with
        | some kvs => if flatKeys kvs then mkD ow (putAll [] kvs) S else .bad
        | none => .bad
      | none => .bad
  | .sortedSet, [d] => match seqOf S d with
    | some xs => match allStr xs with
      | some _ => if xs.length < 4000 then mkL ow (sortD (dedup xs)) S else .bad
      | none => .bad
    | none => .bad
  | .lenSet, [d] => match seqOf S d with
    | some xs => match allStr xs with
      | some _ => if xs.length < 4000 then .ok (.int (dedup xs).length) S else .bad
      | none => .bad
    | none => .bad
  | _, _ => .bad

def bmV (m : Bm) (o : D) (as : List D) (S : Store) : R D := match m, o, as with
  | .append, .ref l, [d] => match objAt S l with
    | some (.lst xs) => if xs.length < sizeLine then .ok .non (S.set l (some (.lst (xs ++ [d])))) else .bad
    | _ => .bad
  | .extend, .ref l, [d] => match objAt S l, lstOf S d with
    | some (.lst xs), some ys => if xs.length + ys.length ≤ sizeLine then .ok .non (S.set l (some (.lst (xs ++ ys)))) else .bad
    | _, _ => .bad
  | .pop, .ref l, [] => match objAt S l with
    | some (.lst xs) => match xs[xs.length - 1]? with
      | some y => .ok y (S.set l (some (.lst xs.dropLast)))
      | none => .bad
    | _ => .bad
  | .popAt, .ref l, [.int i] => match objAt S l with
    | some (.lst xs) => if 0 ≤ i ∧ i < 2 ^ 62 then (match xs[i.toNat]? with
      | some y => .ok y (S.set l (some (.lst (xs.eraseIdx i.toNat))))
      | none => .bad) else .bad
    | _ => .bad
  | .get2, .kd fs, [.str x, z] => .ok ((fs.lookup x).getD z) S
  | .get2, o, [k, z] => match dctOf S o with
    | some kvs => if okKey kvs k then .ok ((getK kvs k).getD z) S else .bad
    | none => .bad
  | .index, o, [d] => match lstOf S o, d with
    | some xs, .str x => match allStr xs with
      | some ns => match ns.idxOf? x with
        | some j => .ok (.int j) S
        | none => .bad
      | none => .bad
    | _, _ => .bad
  | .count, o, [d] => match lstOf S o, d with
    | some xs, .str x => match allStr xs with
      | some ns => .ok (.int (PySem.Spec.countIn (.str x) (ns.map PyData.str))) S
      | none => .bad
    | _, _ => .bad
  | .join, .str z, [d] => match lstOf S d with
    | some xs => match allStr xs with
      | some ns => if (ns.map (·.length)).sum + z.length * ns.length ≤ 16777216 then .ok (.str (PySem.Txt.join z ns)) S else .bad
      | none => .bad
    | none => .bad
  | _, _, _ => .bad
/-- the receiver's type -/
def bmT (m : Bm) (x : D) (S : Store) : Bool := match m, x with
  | .join, .str _ => true
  | .append, .ref l => (lstOf S (.ref l)).isSome
  | .extend, .ref l => (lstOf S (.ref l)).isSome
  | .pop, .ref l => (lstOf S (.ref l)).isSome
  | .popAt, .ref l => (lstOf S (.ref l)).isSome
  | .index, x => (lstOf S x).isSome
  | .count, x => (lstOf S x).isSome
  | .get2, .kd _ => true
  | .get2, x => (dctOf S x).isSome
  | _, _ => false
def isiV (a : D) (t : Ty) (S : Store) : Option Bool := match t, a with
  | .str, .str _ => some true
  | .tuple, .tup _ => some true
  | .list, .lst _ => some true
  | .list, .ref l => match objAt S l with
    | some (.lst _) => some true
    | _ => none
  | .int, .int _ => some true
  | .int, .bl _ => some true
  | .bool, .bl _ => some true
  | _, .non => some false
  | _, .bl _ => some false
  | _, .int _ => some false
  | _, .str _ => some false
  | _, .tup _ => some false
  | _, .lst _ => some false
  | _, _ => none

/-! freezing: an owned object by value -/
mutual
def frzD : Nat → Store → D → Option (D × Store)
  | 0, S, .ref _ => none
  | n + 1, S, .ref l => match objAt S l with
    | some (.lst xs) => (frzL n (S.set l none) xs).map fun p => (.lst p.1, p.2)
    | some (.dct kvs) => (frzK n (S.set l none) kvs).map fun p => (.dct p.1, p.2)
    | some (.ins c fs) => (frzF n (S.set l none) fs).map fun p => (.ins c p.1, p.2)
    | none => none
  | _, S, d => some (d, S)
def frzL : Nat → Store → List D → Option (List D × Store)
  | _, S, [] => some ([], S)
  | n, S, x :: xs => match frzD n S x with
    | some (y, S1) => (frzL n S1 xs).map fun p => (y :: p.1, p.2)
    | none => none
def frzK : Nat → Store → List (D × D) → Option (List (D × D) × Store)
  | _, S, [] => some ([], S)
  | n, S, (k, x) :: xs => match frzD n S x with
    | some (y, S1) => (frzK n S1 xs).map fun p => ((k, y) :: p.1, p.2)
    | none => none
def frzF : Nat → Store → List (Str × D) → Option (List (Str × D) × Store)
  | _, S, [] => some ([], S)
  | n, S, (k, x) :: xs => match frzD n S x with
    | some (y, S1) => (frzF n S1 xs).map fun p => ((k, y) :: p.1, p.2)
    | none => none
end
def FRZ : Nat := 4
/-- what stood before and was changed holds no refs -/
def okOld : Store → Store → Bool
  | [], _ => true
  | _ :: _, [] => false
  | a :: S, b :: S' => (decide (a = b) || (match b with
    | some o => o.nr
    | none => true)) && okOld S S'
/-- a call's end, by its mode -/
def endV (m : Md) (S : Store) (r : R D) : R D := match m with
  | .plain => r
  | .val => match r with
    | .ok d S' => match frzD FRZ S' d with
      | some (d', S'') => if d'.nr && okOld S S'' then .ok d' (S''.take S.length) else .bad
      | none => .bad
    | .bad => .bad
  | .own => match r with
    | .ok (.ref l) S' => match objAt S' l with
      | some o => if S.length ≤ l && (o.nr && okOld S S') then .ok (.ref S.length) (S'.take S.length ++ [some o]) else .bad
      | none => .bad
    | _ => .bad

/-! ### the evaluator -/
abbrev CallT := Nat → List D → Store → R D
inductive Fl where
  | nx (σ : Env) | ret (d : D) | ct (σ : Env)
  deriving Inhabited
mutual
def asg : Tg → D → Env → Option Env
  | .nm i, d, σ => if i < σ.length then some (σ.set i (some d)) else none
  | .tp ts, .tup ds, σ => asgs ts ds σ
  | .tp ts, .lst ds, σ => asgs ts ds σ
  | .tp _, _, _ => none
def asgs : List Tg → List D → Env → Option Env
  | [], [], σ => some σ
  | t :: ts, d :: ds, σ => match asg t d σ with
    | some σ1 => asgs ts ds σ1
    | none => none
  | _, _, _ => none
end
def wipeE (σ : Env) : List Nat → Env
  | [] => σ
  | v :: vs => (wipeE σ vs).set v none
def mapR {β : Type} (f : D → Store → R (List β)) : List D → Store → R (List β)
  | [], S => .ok [] S
  | x :: xs, S => (f x S).bind fun ys S1 => (mapR f xs S1).bind fun zs S2 => .ok (ys ++ zs) S2
def forR (f : D → Env → Store → R Fl) : List D → Env → Store → R Fl
  | [], σ, S => .ok (.nx σ) S
  | x :: xs, σ, S => (f x σ S).bind fun fl S1 => match fl with
    | .nx σ1 => forR f xs σ1 S1
    | .ct σ1 => forR f xs σ1 S1
    | .ret d => .ok (.ret d) S1
def whR (c : Env → Store → R Bool) (f : Env → Store → R Fl) : Nat → Env → Store → R Fl
  | 0, _, _ => .bad
  | n + 1, σ, S => (c σ S).bind fun b S1 => if b then (f σ S1).bind fun fl S2 => (match fl with
    | .nx σ1 => whR c f n σ1 S2
    | .ct σ1 => whR c f n σ1 S2
    | .ret d => .ok (.ret d) S2) else .ok (.nx σ) S1
/-- the most turns of a while -/
def TURNS : Nat := 1000000
def enumV (n : Nat) : List D → List D
  | [] => []
  | x :: xs => .tup [.int n, x] :: enumV (n + 1) xs
def rngV (lo : Int) (n : Nat) : List D := (List.range n).map fun (i : Nat) => .int (lo + (i : Int))
/-- the items that a for walks -/
def seqV (d : D) : Option (List D) := match d with
  | .tup xs => some xs
  | .lst xs => some xs
  | .scr ns => some (ns.map .int)
  | .str z => some (z.cps.toList.map fun c => .str ⟨#[c]⟩)
  | _ => none
def small62 (i : Int) : Bool := decide (-(2 ^ 62) ≤ i) && decide (i < 2 ^ 62)
def rngOf : List D → Option (List D)
  | [.int j] => if small62 j then some (rngV 0 j.toNat) else none
  | [.int i, .int j] => if small62 i && small62 j then some (rngV i (j - i).toNat) else none
  | [.int i, .int j, .int (-1)] => if small62 i && small62 j then some ((List.range (i - j).toNat).map fun (k : Nat) => .int (i - (k : Int))) else none
  | _ => none
def lkF (fs : List (Str × D)) (f : Str) : Option D := fs.lookup f
def putF (f : Str) (v : D) : List (Str × D) → List (Str × D)
  | [] => [(f, v)]
  | (g, w) :: r => if g = f then (g, v) :: r else (g, w) :: putF f v r

/-- the answer as a value, or (t) its truth -/
def fin (t : Bool) (r : R D) : R D := if t then r.bind fun x S => (R.of (truV x S) S).bind fun b S1 => .ok (.bl b) S1 else r
@[simp] theorem fin_false (r : R D) : fin false r = r := rfl
def isBl (r : R D) (f : Bool → Store → R D) : R D := r.bind fun x S => match x with
  | .bl b => f b S
  | _ => .bad
@[simp] theorem isBl_ok (b : Bool) (S : Store) (f : Bool → Store → R D) : isBl (.ok (.bl b) S) f = f b S := rfl
mutual
def ev (C : CallT) (σ : Env) : E → Bool → Store → R D
  | .and a b, t, S => isBl (ev C σ a t S) fun c S1 => if c then ev C σ b t S1 else .ok (.bl false) S1
  | .or a b, t, S => isBl (ev C σ a t S) fun c S1 => if c then .ok (.bl true) S1 else ev C σ b t S1
  | .not a, t, S => if t then isBl (ev C σ a true S) fun c S1 => .ok (.bl (!c)) S1
      else (ev C σ a false S).bind fun x S1 => (R.of (truV x S1) S1).bind fun c S2 => .ok (.bl (!c)) S2
  | .var i, t, S => fin t (match σ[i]? with
    | some (some d) => .ok d S
    | _ => .bad)
  | .k d, t, S => fin t (.ok d S)
  | .gl _ d, t, S => fin t (.ok d S)
  | .tup es, t, S => fin t ((evs C σ es S).bind fun ds S1 => if ds.length ≤ sizeLine then .ok (.tup ds) S1 else .bad)
  | .lst ow es, t, S => fin t ((evs C σ es S).bind fun ds S1 => mkL ow ds S1)
  | .dct ow ks _, t, S => fin t ((evs C σ ks S).bind fun ds S1 => match pairUp ds with
    | some kvs => if flatKeys kvs && decide (kvs.length ≤ 15) then mkD ow (putAll [] kvs) S1 else .bad
    | none => .bad)
  | .bin op ow a b, t, S => fin t ((ev C σ a false S).bind fun x S1 => (ev C σ b false S1).bind fun y S2 => binV op ow x y S2)
  | .neg a, t, S => fin t ((ev C σ a false S).bind fun x S1 => match x with
    | .int i => .ok (.int (-i)) S1
    | _ => .bad)
  | .cmp op a b, t, S => fin t ((ev C σ a false S).bind fun x S1 => (ev C σ b false S1).bind fun y S2 => (R.of (cmpV op x y S2) S2).bind fun c S3 => .ok (.bl c) S3)
  | .chain op op' a b c, t, S => fin t ((ev C σ a false S).bind fun x S1 => (ev C σ b false S1).bind fun y S2 => (R.of (cmpV op x y S2) S2).bind fun t S3 =>
      if t then (ev C σ c false S3).bind fun z S4 => (R.of (cmpV op' y z S4) S4).bind fun u S5 => .ok (.bl u) S5 else .ok (.bl false) S3)
  | .ite c a b, t, S => isBl (ev C σ c true S) fun c S1 => if c then ev C σ a t S1 else ev C σ b t S1
  | .call f m es, t, S => fin t ((evs C σ es S).bind fun ds S1 => endV m S1 (C f ds S1))
  | .mcall nm cf m o es, t, S => fin t ((ev C σ o false S).bind fun x S1 => match insOf S1 x with
    | some (c, fs) => if (lkF fs nm).isNone then (evs C σ es S1).bind fun ds S2 => match cf.lookup c with
      | some f => endV m S2 (C f (x :: ds) S2)
      | none => .bad else .bad
    | none => .bad)
  | .make c f ow es, t, S => fin t ((evs C σ es S).bind fun ds S1 =>
      if ow then (C f (.ref S1.length :: ds) (S1 ++ [some (.ins c [])])).bind fun d S2 => if d = .non then .ok (.ref S1.length) S2 else .bad
      else endV .val S1 ((C f (.ref S1.length :: ds) (S1 ++ [some (.ins c [])])).bind fun d S2 => if d = .non then .ok (.ref S1.length) S2 else .bad))
  | .fld o f, t, S => fin t ((ev C σ o false S).bind fun x S1 => match insOf S1 x with
    | some (_, fs) => R.of (lkF fs f) S1
    | none => .bad)
  | .prop _ c f o, t, S => fin t ((ev C σ o false S).bind fun x S1 => match insOf S1 x with
    | some (d, _) => if d = c then endV .val S1 (C f [x] S1) else .bad
    | none => .bad)
  | .idx a i, t, S => fin t ((ev C σ a false S).bind fun x S1 => (ev C σ i false S1).bind fun y S2 => R.of (idxV x y S2) S2)
  | .slc ow a lo hi, t, S => fin t ((ev C σ a false S).bind fun x S1 => (evo C σ lo S1).bind fun l S2 => (evo C σ hi S2).bind fun h S3 => slcV ow x l h S3)
  | .lc ow own elt tg it cond, t, S => fin t ((evI C σ it S).bind fun ds S1 => (mapR (fun d S2 => match asg tg d (wipeE σ own) with
      | some σ1 => (evC C σ1 cond S2).bind fun b S3 => if b then (ev C σ1 elt false S3).bind fun y S4 => .ok [y] S4 else .ok [] S3
      | none => .bad) ds S1).bind fun ys S2 => mkL ow ys S2)
  | .lc2 ow own elt tg it own2 tg2 it2, t, S => fin t ((evI C σ it S).bind fun ds S1 => (mapR (fun d S2 => match asg tg d (wipeE σ own) with
      | some σ1 => (evI C σ1 it2 S2).bind fun es S3 => mapR (fun e S4 => match asg tg2 e (wipeE σ1 own2) with
        | some σ2 => (ev C σ2 elt false S4).bind fun y S5 => .ok [y] S5
        | none => .bad) es S3
      | none => .bad) ds S1).bind fun ys S2 => mkL ow ys S2)
  | .dc ow own ke ve tg it cond, t, S => fin t ((evI C σ it S).bind fun ds S1 => (mapR (fun d S2 => match asg tg d (wipeE σ own) with
      | some σ1 => (evC C σ1 cond S2).bind fun b S3 => if b then (ev C σ1 ke false S3).bind fun k S4 => (ev C σ1 ve false S4).bind fun v S5 => .ok [(k, v)] S5 else .ok [] S3
      | none => .bad) ds S1).bind fun kvs S2 => if flatKeys kvs && decide (kvs.length ≤ sizeLine) then mkD ow (putAll [] kvs) S2 else .bad)
  | .dc2 ow own ke ve tg it own2 tg2 it2, t, S => fin t ((evI C σ it S).bind fun ds S1 => (mapR (fun d S2 => match asg tg d (wipeE σ own) with
      | some σ1 => (evI C σ1 it2 S2).bind fun es S3 => mapR (fun e S4 => match asg tg2 e (wipeE σ1 own2) with
        | some σ2 => (ev C σ2 ke false S4).bind fun k S5 => (ev C σ2 ve false S5).bind fun v S6 => .ok [(k, v)] S6
        | none => .bad) es S3
      | none => .bad) ds S1).bind fun kvs S2 => if flatKeys kvs then mkD ow (putAll [] kvs) S2 else .bad)
  | .bi b ow es, t, S => fin t ((evs C σ es S).bind fun ds S1 => biV b ow ds S1)
  | .bm m o es, t, S => fin t ((ev C σ o false S).bind fun x S1 => if bmT m x S1 then (evs C σ es S1).bind fun ds S2 => bmV m x ds S2 else .bad)
  | .isi a c, t, S => fin t ((ev C σ a false S).bind fun x S1 => (R.of (isiV x c S1) S1).bind fun b S2 => .ok (.bl b) S2)
  | .frz a, t, S => fin t ((ev C σ a false S).bind fun x S1 => match frzD FRZ S1 x with
    | some (d, S2) => .ok d S2
    | none => .bad)
def evs (C : CallT) (σ : Env) : Es → Store → R (List D)
  | .nil, S => .ok [] S
  | .cons e es, S => (ev C σ e false S).bind fun d S1 => (evs C σ es S1).bind fun ds S2 => .ok (d :: ds) S2
def evo (C : CallT) (σ : Env) : Es → Store → R (Option Int)
  | .nil, S => .ok none S
  | .cons e _, S => (ev C σ e false S).bind fun d S1 => match d with
    | .int i => .ok (some i) S1
    | _ => .bad
def evC (C : CallT) (σ : Env) : Es → Store → R Bool
  | .nil, S => .ok true S
  | .cons e _, S => (ev C σ e true S).bind fun d S1 => match d with
    | .bl b => .ok b S1
    | _ => .bad
def evI (C : CallT) (σ : Env) : Iy → Store → R (List D)
  | .seq e, S => (ev C σ e false S).bind fun x S1 => R.of (seqV x) S1
  | .rng es, S => (evs C σ es S).bind fun ds S1 => R.of (rngOf ds) S1
  | .enum e, S => (ev C σ e false S).bind fun x S1 => match x with
    | .lst xs => .ok (enumV 0 xs) S1
    | _ => .bad
  | .zip a b, S => (ev C σ a false S).bind fun x S1 => (ev C σ b false S1).bind fun y S2 => match x, y with
    | .lst xs, .lst ys => .ok ((xs.zip ys).map fun p => .tup [p.1, p.2]) S2
    | .tup xs, .tup ys => .ok ((xs.zip ys).map fun p => .tup [p.1, p.2]) S2
    | _, _ => .bad
  | .keys e, S => (ev C σ e false S).bind fun x S1 => match x with
    | .dct kvs => .ok (kvs.map (·.1)) S1
    | _ => .bad
  | .rev e, S => (ev C σ e false S).bind fun x S1 => match x with
    | .lst xs => .ok xs.reverse S1
    | .tup xs => .ok xs.reverse S1
    | _ => .bad
end

/-- target = value, an attribute, an item -/
def setFV (o : D) (f : Str) (v : D) (S : Store) : Option Store := match o with
  | .ref l => match objAt S l with
    | some (.ins c fs) => if fs.length < 900 then some (S.set l (some (.ins c (putF f v fs)))) else none
    | _ => none
  | _ => none
def setIV (o i v : D) (S : Store) : Option Store := match o with
  | .ref l => match objAt S l with
    | some (.lst xs) => match i with
      | .int j => (L2.ixN xs.length j).map fun k => S.set l (some (.lst (xs.set k v)))
      | _ => none
    | some (.dct kvs) => if okKey kvs i && decide (kvs.length < sizeLine) then some (S.set l (some (.dct (putD kvs i v)))) else none
    | _ => none
  | _ => none
def delIV (o i : D) (S : Store) : Option Store := match o with
  | .ref l => match objAt S l with
    | some (.dct kvs) => if okKey kvs i && (getK kvs i).isSome then some (S.set l (some (.dct (delD kvs i)))) else none
    | _ => none
  | _ => none
/-- a statement's answer -/
def nxt (o : Option Env) (S : Store) : R Fl := match o with
  | some σ => .ok (.nx σ) S
  | none => .bad
mutual
def evS (C : CallT) : S → Env → Store → R Fl
  | .asg tg e, σ, S => (ev C σ e false S).bind fun d S1 => nxt (asg tg d σ) S1
  | .setF o f e, σ, S => (ev C σ e false S).bind fun v S1 => (ev C σ o false S1).bind fun x S2 => match setFV x f v S2 with
    | some S3 => .ok (.nx σ) S3
    | none => .bad
  | .setI o i e, σ, S => (ev C σ e false S).bind fun v S1 => (ev C σ o false S1).bind fun x S2 => (ev C σ i false S2).bind fun y S3 => match setIV x y v S3 with
    | some S4 => .ok (.nx σ) S4
    | none => .bad
  | .aug i op e, σ, S => match σ[i]? with
    | some (some (.int a)) => (ev C σ e false S).bind fun y S1 => match op, y with
      | .add, .int b => .ok (.nx (σ.set i (some (.int (a + b))))) S1
      | _, _ => .bad
    | _ => .bad
  | .augF o f op e, σ, S => (ev C σ o false S).bind fun x S1 => match insOf S1 x with
    | some (c, fs) => match lkF fs f with
      | some (.int a) => (ev C σ e false S1).bind fun y S2 => match op, y with
        | .add, .int b => if (insOf S2 x).map (·.1) = some c then (match setFV x f (.int (a + b)) S2 with
          | some S3 => .ok (.nx σ) S3
          | none => .bad) else .bad
        | _, _ => .bad
      | _ => .bad
    | none => .bad
  | .del o i, σ, S => (ev C σ o false S).bind fun x S1 => (ev C σ i false S1).bind fun y S2 => match delIV x y S2 with
    | some S3 => .ok (.nx σ) S3
    | none => .bad
  | .expr e, σ, S => (ev C σ e false S).bind fun _ S1 => .ok (.nx σ) S1
  | .ret e, σ, S => (ev C σ e false S).bind fun d S1 => .ok (.ret d) S1
  | .retN, _, S => .ok (.ret .non) S
  | .pass, σ, S => .ok (.nx σ) S
  | .cont, σ, S => .ok (.ct σ) S
  | .raise, _, _ => .bad
  | .if_ t a b, σ, S => (ev C σ t true S).bind fun d S1 => match d with
    | .bl c => if c then evB C a σ S1 else evB C b σ S1
    | _ => .bad
  | .for_ tg it b, σ, S => (evI C σ it S).bind fun ds S1 => forR (fun d σ1 S2 => match asg tg d σ1 with
    | some σ2 => evB C b σ2 S2
    | none => .bad) ds σ S1
  | .while_ t b, σ, S => whR (fun σ1 S1 => (ev C σ1 t true S1).bind fun d S2 => match d with
    | .bl c => .ok c S2
    | _ => .bad) (fun σ1 S1 => evB C b σ1 S1) TURNS σ S
  | .frzv s i, σ, S => (evS C s σ S).bind fun fl S1 => match fl with
    | .nx σ1 => (match σ1[i]? with
      | some (some x) => match frzD FRZ S1 x with
        | some (d, S2) => .ok (.nx (σ1.set i (some d))) S2
        | none => .bad
      | _ => .bad)
    | fl => .ok fl S1
def evB (C : CallT) : B → Env → Store → R Fl
  | .nil, σ, S => .ok (.nx σ) S
  | .cons s b, σ, S => (evS C s σ S).bind fun fl S1 => match fl with
    | .nx σ1 => evB C b σ1 S1
    | fl => .ok fl S1
end

/-- a def: how many parameters, how many names, its body -/
structure Fn where
  np : Nat
  n : Nat
  body : B
def endF (r : R Fl) : R D := r.bind fun fl S => match fl with
  | .ret d => .ok d S
  | .nx _ => .ok .non S
  | .ct _ => .bad
def startE (fn : Fn) (ds : List D) : Env := ds.map some ++ List.replicate (fn.n - fn.np) none
def runFn (C : CallT) (fn : Fn) (ds : List D) (S : Store) : R D := if ds.length = fn.np then endF (evB C fn.body (startE fn ds) S) else .bad
def callN (T : Nat → Option Fn) : Nat → CallT
  | 0 => fun _ _ _ => .bad
  | n + 1 => fun f ds S => match T f with
    | some fn => runFn (callN T n) fn ds S
    | none => .bad
end Z

/-! Z2: how the evaluator's values, stores and slots stand in the hand layer's heap. -/
namespace Z
open PySem PySem.Spec L2
open PyProof.Rows hiding St

/-- what is fixed: the program, the world, the written part, the module's names, the classes -/
structure Fx where
  P : Program
  w : World
  K : PySem.W.Frag
  mg : Str → Option Value
  base : Heap
  cl : Nat → Option Addr

/-- a dict of the written part, keys texts -/
def KW (W : Fx) (a : Addr) (us : List (Str × V)) : Prop := (∃ es n, W.K.lookup a = some ⟨.type "dict", none, .dict es n, #[]⟩ ∧ PySem.W.KeysLit W.w.params es.toList ∧ (a == sysModules) = false) ∧
  ∀ z : Str, match us.lookup z with
    | none => PySem.W.nsIn W.K a z = some none
    | some v => ∃ u, PySem.W.nsIn W.K a z = some (some u) ∧ RelV v u
mutual
/-- the value d stands as v: ρ gives the owned objects' places, F what is frozen -/
inductive RD (W : Fx) (ρ : List Addr) (F : Hp) : D → V → Prop
  | non : RD W ρ F .non .non
  | bl (b : Bool) : RD W ρ F (.bl b) (.bl b)
  | int (i : Int) : RD W ρ F (.int i) (.int i)
  | str (x : Str) : RD W ρ F (.str x) (.str x)
  | tup {a : Addr} {ds : List D} {vs : List V} : SqT W.K F a vs → RDs W ρ F ds vs → RD W ρ F (.tup ds) (.ref a)
  | lst {a : Addr} {ds : List D} {vs : List V} : Rd F a (.lst vs) → RDs W ρ F ds vs → RD W ρ F (.lst ds) (.ref a)
  | dK {a : Addr} {kvs : List (D × D)} {us : List (Key × V)} : Rd F a (.dK us) → RDK W ρ F kvs us → RD W ρ F (.dct kvs) (.ref a)
  | ins {a C dx : Addr} {c : Nat} {fs : List (Str × D)} {us : List (Str × V)} : W.cl c = some C → F a = some (.ins C dx us) → RDF W ρ F fs us → RD W ρ F (.ins c fs) (.ref a)
  | kd {a : Addr} {fs : List (Str × D)} {us : List (Str × V)} : KW W a us → RDF W ρ F fs us → RD W ρ F (.kd fs) (.ref a)
  | ref {l : Nat} {a : Addr} : ρ[l]? = some a → RD W ρ F (.ref l) (.ref a)
  | scr {a : Addr} {ns : List Int} : SqL W.K F a (ns.map V.int) → RD W ρ F (.scr ns) (.ref a)
inductive RDs (W : Fx) (ρ : List Addr) (F : Hp) : List D → List V → Prop
  | nil : RDs W ρ F [] []
  | cons {d : D} {v : V} {ds : List D} {vs : List V} : RD W ρ F d v → RDs W ρ F ds vs → RDs W ρ F (d :: ds) (v :: vs)
inductive RDK (W : Fx) (ρ : List Addr) (F : Hp) : List (D × D) → List (Key × V) → Prop
  | nil : RDK W ρ F [] []
  | cons {k d : D} {j : Key} {v : V} {ds : List (D × D)} {vs : List (Key × V)} : kFlat k = some j → RD W ρ F d v → RDK W ρ F ds vs → RDK W ρ F ((k, d) :: ds) ((j, v) :: vs)
inductive RDF (W : Fx) (ρ : List Addr) (F : Hp) : List (Str × D) → List (Str × V) → Prop
  | nil : RDF W ρ F [] []
  | cons {f : Str} {d : D} {v : V} {ds : List (Str × D)} {vs : List (Str × V)} : RD W ρ F d v → RDF W ρ F ds vs → RDF W ρ F ((f, d) :: ds) ((f, v) :: vs)
end

/-- what a lock does not hide -/
def Plain : HO → Prop
  | .frz _ _ => False
  | _ => True
/-- more owned, more frozen -/
structure Ext (ρ : List Addr) (F : Hp) (ρ' : List Addr) (F' : Hp) : Prop where
  loc : ∀ (l : Nat) (a : Addr), ρ[l]? = some a → ρ'[l]? = some a
  rd : ∀ a u, Plain u → Rd F a u → Rd F' a u
  ins : ∀ a C dx fs, F a = some (.ins C dx fs) → F' a = some (.ins C dx fs)
  frz : ∀ a o u, F a = some (.frz o u) → F' a = some (.frz o u)
theorem Ext.refl {ρ : List Addr} {F : Hp} : Ext ρ F ρ F := ⟨fun _ _ h => h, fun _ _ _ h => h, fun _ _ _ _ h => h, fun _ _ _ h => h⟩
theorem Ext.trans {ρ ρ1 ρ2 : List Addr} {F F1 F2 : Hp} (a : Ext ρ F ρ1 F1) (b : Ext ρ1 F1 ρ2 F2) : Ext ρ F ρ2 F2 :=
  ⟨fun l x h => b.loc l x (a.loc l x h), fun x u k h => b.rd x u k (a.rd x u k h), fun x C dx fs h => b.ins x C dx fs (a.ins x C dx fs h), fun x o u h => b.frz x o u (a.frz x o u h)⟩
theorem SqT.sub {K : PySem.W.Frag} {F F' : Hp} (h : ∀ a u, Plain u → Rd F a u → Rd F' a u) {a : Addr} {vs : List V} : SqT K F a vs → SqT K F' a vs
  | .inl q => .inl (h a _ trivial q)
  | .inr q => .inr q
theorem SqL.sub {K : PySem.W.Frag} {F F' : Hp} (h : ∀ a u, Plain u → Rd F a u → Rd F' a u) {a : Addr} {vs : List V} : SqL K F a vs → SqL K F' a vs
  | .inl q => .inl (h a _ trivial q)
  | .inr q => .inr q

section
variable {W : Fx} {ρ ρ' : List Addr} {F F' : Hp}
mutual
theorem RD.mono (e : Ext ρ F ρ' F') : ∀ {d : D} {v : V}, RD W ρ F d v → RD W ρ' F' d v
  | .non, _, h => by cases h; exact .non
  | .bl _, _, h => by cases h; exact .bl _
  | .int _, _, h => by cases h; exact .int _
  | .str _, _, h => by cases h; exact .str _
  | .tup ds, _, h => by cases h with | tup a b => exact .tup (SqT.sub e.rd a) (RDs.mono e b)
  | .lst ds, _, h => by cases h with | lst a b => exact .lst (e.rd _ _ trivial a) (RDs.mono e b)
  | .dct kvs, _, h => by cases h with | dK a b => exact .dK (e.rd _ _ trivial a) (RDK.mono e b)
  | .ins c fs, _, h => by cases h with | ins a b c => exact .ins a (e.ins _ _ _ _ b) (RDF.mono e c)
  | .kd fs, _, h => by cases h with | kd a c => exact .kd a (RDF.mono e c)
  | .ref l, _, h => by cases h with | ref a => exact .ref (e.loc _ _ a)
  | .scr l, _, h => by cases h with | scr a => exact .scr (SqL.sub e.rd a)
theorem RDs.mono (e : Ext ρ F ρ' F') : ∀ {ds : List D} {vs : List V}, RDs W ρ F ds vs → RDs W ρ' F' ds vs
  | [], _, h => by cases h; exact .nil
  | d :: ds, _, h => by cases h with | cons a b => exact .cons (RD.mono e a) (RDs.mono e b)
theorem RDK.mono (e : Ext ρ F ρ' F') : ∀ {ds : List (D × D)} {vs : List (Key × V)}, RDK W ρ F ds vs → RDK W ρ' F' ds vs
  | [], _, h => by cases h; exact .nil
  | (k, d) :: ds, _, h => by cases h with | cons q a b => exact .cons q (RD.mono e a) (RDK.mono e b)
theorem RDF.mono (e : Ext ρ F ρ' F') : ∀ {ds : List (Str × D)} {vs : List (Str × V)}, RDF W ρ F ds vs → RDF W ρ' F' ds vs
  | [], _, h => by cases h; exact .nil
  | (k, d) :: ds, _, h => by cases h with | cons a b => exact .cons (RD.mono e a) (RDF.mono e b)
end
/-! without refs the owned places don't matter -/
mutual
theorem RD.nr : ∀ {d : D} {v : V}, D.nr d = true → RD W ρ F d v → RD W ρ' F d v
  | .non, _, _, h => by cases h; exact .non
  | .bl _, _, _, h => by cases h; exact .bl _
  | .int _, _, _, h => by cases h; exact .int _
  | .str _, _, _, h => by cases h; exact .str _
  | .tup ds, _, n, h => by cases h with | tup a b => exact .tup a (RDs.nr n b)
  | .lst ds, _, n, h => by cases h with | lst a b => exact .lst a (RDs.nr n b)
  | .dct kvs, _, n, h => by cases h with | dK a b => exact .dK a (RDK.nr n b)
  | .ins c fs, _, n, h => by cases h with | ins a b c => exact .ins a b (RDF.nr n c)
  | .kd fs, _, n, h => by cases h with | kd a c => exact .kd a (RDF.nr n c)
  | .ref l, _, n, h => by cases n
  | .scr l, _, n, h => by cases h with | scr a => exact .scr a
theorem RDs.nr : ∀ {ds : List D} {vs : List V}, D.nrL ds = true → RDs W ρ F ds vs → RDs W ρ' F ds vs
  | [], _, _, h => by cases h; exact .nil
  | d :: ds, _, n, h => by
    simp only [D.nrL, Bool.and_eq_true] at n
    cases h with | cons a b => exact .cons (RD.nr n.1 a) (RDs.nr n.2 b)
theorem RDK.nr : ∀ {ds : List (D × D)} {vs : List (Key × V)}, D.nrK ds = true → RDK W ρ F ds vs → RDK W ρ' F ds vs
  | [], _, _, h => by cases h; exact .nil
  | (k, d) :: ds, _, n, h => by
    simp only [D.nrK, Bool.and_eq_true] at n
    cases h with | cons q a b => exact .cons q (RD.nr n.2.1 a) (RDK.nr n.2.2 b)
theorem RDF.nr : ∀ {ds : List (Str × D)} {vs : List (Str × V)}, D.nrF ds = true → RDF W ρ F ds vs → RDF W ρ' F ds vs
  | [], _, _, h => by cases h; exact .nil
  | (k, d) :: ds, _, n, h => by
    simp only [D.nrF, Bool.and_eq_true] at n
    cases h with | cons a b => exact .cons (RD.nr n.1 a) (RDF.nr n.2 b)
end
/-! as data -/
mutual
theorem RD.dp {H : Hp} (sub : ∀ a u, Plain u → Rd F a u → Rd H a u) : ∀ {d : D} {v : V} {x : PyData}, RD W ρ F d v → pd d = some x → Dp W.K H v x
  | .non, _, _, h, e => by cases h; cases e; exact .non
  | .bl _, _, _, h, e => by cases h; cases e; exact .bl _
  | .int _, _, _, h, e => by cases h; cases e; exact .int _
  | .str _, _, _, h, e => by cases h; cases e; exact .str _
  | .tup ds, _, _, h, e => by
    simp only [pd, Option.map_eq_some_iff] at e
    obtain ⟨xs, e, rfl⟩ := e
    cases h with | tup a b => exact .tup (SqT.sub sub a) (RDs.dp sub b e)
  | .lst ds, _, _, h, e => by
    simp only [pd, Option.map_eq_some_iff] at e
    obtain ⟨xs, e, rfl⟩ := e
    cases h with | lst a b => exact .lst (.inl (sub _ _ trivial a)) (RDs.dp sub b e)
  | .dct _, _, _, _, e => by cases e
  | .ins _ _, _, _, _, e => by cases e
  | .kd _, _, _, _, e => by cases e
  | .ref _, _, _, _, e => by cases e
  | .scr _, _, _, _, e => by cases e
theorem RDs.dp {H : Hp} (sub : ∀ a u, Plain u → Rd F a u → Rd H a u) : ∀ {ds : List D} {vs : List V} {xs : List PyData}, RDs W ρ F ds vs → pds ds = some xs → DpAll W.K H vs xs
  | [], _, _, h, e => by cases h; cases e; exact .nil
  | d :: ds, _, _, h, e => by
    simp only [pds] at e
    cases h with
    | cons a b =>
      split at e
      · rename_i x xs e1 e2
        cases e
        exact .cons (RD.dp sub a e1) (RDs.dp sub b e2)
      · cases e
end
theorem RDs.length : ∀ {ds : List D} {vs : List V}, RDs W ρ F ds vs → ds.length = vs.length
  | [], _, h => by cases h; rfl
  | d :: ds, _, h => by cases h with | cons a b => simp [RDs.length b]
theorem RDs.get : ∀ {ds : List D} {vs : List V} {i : Nat} {d : D}, RDs W ρ F ds vs → ds[i]? = some d → ∃ v, vs[i]? = some v ∧ RD W ρ F d v
  | _, _, _, _, .nil, e => by simp at e
  | _, _, 0, _, .cons r _, e => by simp at e; subst e; exact ⟨_, rfl, r⟩
  | _, _, i + 1, _, .cons _ t, e => by
    obtain ⟨u, h1, h2⟩ := RDs.get (i := i) t (by simpa using e)
    exact ⟨u, by simpa using h1, h2⟩
theorem RDs.get' : ∀ {ds : List D} {vs : List V} {i : Nat} {v : V}, RDs W ρ F ds vs → vs[i]? = some v → ∃ d, ds[i]? = some d ∧ RD W ρ F d v
  | _, _, _, _, .nil, e => by simp at e
  | _, _, 0, _, .cons r _, e => by simp at e; subst e; exact ⟨_, rfl, r⟩
  | _, _, i + 1, _, .cons _ t, e => by
    obtain ⟨u, h1, h2⟩ := RDs.get' (i := i) t (by simpa using e)
    exact ⟨u, by simpa using h1, h2⟩
theorem RDs.append : ∀ {xs ys : List D} {us vs : List V}, RDs W ρ F xs us → RDs W ρ F ys vs → RDs W ρ F (xs ++ ys) (us ++ vs)
  | _, _, _, _, .nil, s => s
  | _, _, _, _, .cons r t, s => .cons r (RDs.append t s)
theorem RDs.take : ∀ {xs : List D} {us : List V} (n : Nat), RDs W ρ F xs us → RDs W ρ F (xs.take n) (us.take n)
  | _, _, 0, _ => .nil
  | _, _, _ + 1, .nil => .nil
  | _, _, n + 1, .cons r t => .cons r (RDs.take n t)
theorem RDs.drop : ∀ {xs : List D} {us : List V} (n : Nat), RDs W ρ F xs us → RDs W ρ F (xs.drop n) (us.drop n)
  | _, _, 0, r => r
  | _, _, _ + 1, .nil => .nil
  | _, _, n + 1, .cons _ t => RDs.drop n t
theorem RDs.set {d : D} {v : V} (r : RD W ρ F d v) : ∀ {xs : List D} {us : List V} (i : Nat), RDs W ρ F xs us → RDs W ρ F (xs.set i d) (us.set i v)
  | _, _, _, .nil => .nil
  | _, _, 0, .cons _ t => .cons r t
  | _, _, i + 1, .cons q t => .cons q (RDs.set r i t)
theorem RDs.dropLast {xs : List D} {us : List V} (h : RDs W ρ F xs us) : RDs W ρ F xs.dropLast us.dropLast := by
  rw [List.dropLast_eq_take, List.dropLast_eq_take, h.length]; exact h.take _
theorem RDs.eraseIdx {xs : List D} {us : List V} (h : RDs W ρ F xs us) (i : Nat) : RDs W ρ F (xs.eraseIdx i) (us.eraseIdx i) := by
  rw [List.eraseIdx_eq_take_drop_succ, List.eraseIdx_eq_take_drop_succ]; exact (h.take _).append (h.drop _)
theorem RDs.reverse : ∀ {xs : List D} {us : List V}, RDs W ρ F xs us → RDs W ρ F xs.reverse us.reverse
  | _, _, .nil => .nil
  | _, _, .cons r t => by simp only [List.reverse_cons]; exact (RDs.reverse t).append (.cons r .nil)
theorem RDs.ints : ∀ {xs : List D} {us : List V} {ns : List Int}, RDs W ρ F xs us → allInt xs = some ns → us = ns.map V.int ∧ xs = ns.map D.int
  | [], _, _, h, e => by cases h; cases e; exact ⟨rfl, rfl⟩
  | d :: ds, _, _, h, e => by
    cases h with
    | cons a b =>
      cases d <;> simp only [allInt, Option.map_eq_some_iff, reduceCtorEq] at e
      obtain ⟨ms, e, rfl⟩ := e
      obtain ⟨e1, e2⟩ := RDs.ints b e
      cases a
      exact ⟨by rw [e1]; rfl, by rw [e2]; rfl⟩
theorem RDs.strs : ∀ {xs : List D} {us : List V} {ns : List Str}, RDs W ρ F xs us → allStr xs = some ns → us = ns.map V.str ∧ xs = ns.map D.str
  | [], _, _, h, e => by cases h; cases e; exact ⟨rfl, rfl⟩
  | d :: ds, _, _, h, e => by
    cases h with
    | cons a b =>
      cases d <;> simp only [allStr, Option.map_eq_some_iff, reduceCtorEq] at e
      obtain ⟨ms, e, rfl⟩ := e
      obtain ⟨e1, e2⟩ := RDs.strs b e
      cases a
      exact ⟨by rw [e1]; rfl, by rw [e2]; rfl⟩
theorem RDs.bls : ∀ {xs : List D} {us : List V} {ns : List Bool}, RDs W ρ F xs us → allBl xs = some ns → us = ns.map V.bl
  | [], _, _, h, e => by cases h; cases e; rfl
  | d :: ds, _, _, h, e => by
    cases h with
    | cons a b =>
      cases d <;> simp only [allBl, Option.map_eq_some_iff, reduceCtorEq] at e
      obtain ⟨ms, e, rfl⟩ := e
      cases a
      rw [RDs.bls b e]; rfl
end

/-- an owned object as it is tracked -/
def OR (W : Fx) (ρ : List Addr) (F : Hp) : Obj → HO → Prop
  | .lst xs, .lst vs => RDs W ρ F xs vs
  | .dct kvs, .dK us => RDK W ρ F kvs us
  | .ins c fs, .ins C _ us => W.cl c = some C ∧ RDF W ρ F fs us
  | _, _ => False
theorem OR.mono {W : Fx} {ρ ρ' : List Addr} {F F' : Hp} (e : Ext ρ F ρ' F') {o : Obj} {u : HO} (h : OR W ρ F o u) : OR W ρ' F' o u := by
  cases o <;> cases u <;> first | exact h.elim | skip
  · exact RDs.mono e h
  · exact RDK.mono e h
  · exact ⟨h.1, RDF.mono e h.2⟩
theorem OR.nr {W : Fx} {ρ ρ' : List Addr} {F : Hp} {o : Obj} {u : HO} (n : o.nr = true) (h : OR W ρ F o u) : OR W ρ' F o u := by
  cases o <;> cases u <;> first | exact h.elim | skip
  · exact RDs.nr n h
  · exact RDK.nr n h
  · exact ⟨h.1, RDF.nr n h.2⟩
/-- the store stands in the heap -/
structure StOk (W : Fx) (G : Hp) (ρ : List Addr) (F : Hp) (S : Store) (H : Hp) : Prop where
  len : ρ.length = S.length
  sub : ∀ a u, F a = some u → H a = some u
  live : ∀ l o, objAt S l = some o → ∃ a u, ρ[l]? = some a ∧ H a = some u ∧ OR W ρ F o u ∧ F a = none
  guard : ∀ a u, G a = some u → H a = some u ∧ F a = none ∧ ∀ l o, objAt S l = some o → ρ[l]? ≠ some a
  inj : ∀ l l' o o' a, objAt S l = some o → objAt S l' = some o' → ρ[l]? = some a → ρ[l']? = some a → l = l'
theorem StOk.rd {W : Fx} {G : Hp} {ρ : List Addr} {F : Hp} {S : Store} {H : Hp} (s : StOk W G ρ F S H) : ∀ a u, Plain u → Rd F a u → Rd H a u
  | a, u, _, .inl h => .inl (s.sub a _ h)
  | a, u, _, .inr ⟨o, h⟩ => .inr ⟨o, s.sub a _ h⟩
/-- the slots -/
def RS (W : Fx) (ρ : List Addr) (F : Hp) (σ' : Env) (σ : St) : Prop := σ'.length = σ.length ∧ ∀ (i : Nat) (d : D), σ'[i]? = some (some d) → ∃ v, σ[i]? = some (some v) ∧ RD W ρ F d v
theorem RS.mono {W : Fx} {ρ ρ' : List Addr} {F F' : Hp} (e : Ext ρ F ρ' F') {σ' : Env} {σ : St} (h : RS W ρ F σ' σ) : RS W ρ' F' σ' σ :=
  ⟨h.1, fun i d q => let ⟨v, a, b⟩ := h.2 i d q; ⟨v, a, b.mono e⟩⟩
theorem RS.set {W : Fx} {ρ : List Addr} {F : Hp} {σ' : Env} {σ : St} (h : RS W ρ F σ' σ) (i : Nat) {d : D} {v : V} (r : RD W ρ F d v) : RS W ρ F (σ'.set i (some d)) (σ.set i (some v)) := by
  refine ⟨by simp [h.1], fun j e q => ?_⟩
  by_cases hj : i = j
  · subst hj
    have hl : i < σ'.length := by
      by_cases hl : i < σ'.length
      · exact hl
      · rw [List.getElem?_eq_none (by simpa using hl)] at q; cases q
    rw [List.getElem?_set_self hl] at q
    cases q
    exact ⟨v, by rw [List.getElem?_set_self (by rw [← h.1]; exact hl)], r⟩
  · rw [List.getElem?_set_ne hj] at q
    rw [List.getElem?_set_ne hj]
    exact h.2 j e q
theorem RS.wipe {W : Fx} {ρ : List Addr} {F : Hp} {σ' : Env} {σ : St} (h : RS W ρ F σ' σ) : ∀ vs : List Nat, RS W ρ F (wipeE σ' vs) (L2.wipe σ vs)
  | [] => h
  | v :: vs => by
    have ih := RS.wipe h vs
    refine ⟨by simp [wipeE, L2.wipe, ih.1], fun j e q => ?_⟩
    unfold wipeE at q
    unfold L2.wipe
    by_cases hj : v = j
    · subst hj
      by_cases hl : v < (wipeE σ' vs).length
      · rw [List.getElem?_set_self hl] at q; cases q
      · rw [List.getElem?_eq_none (by simpa using hl)] at q; cases q
    · rw [List.getElem?_set_ne hj] at q
      rw [List.getElem?_set_ne hj]
      exact ih.2 j e q
/-- what is wanted of an evaluation's end -/
def Post {α β : Type} (RA : List Addr → Hp → α → β → Prop) (W : Fx) (G : Hp) (ρ : List Addr) (F : Hp) (r : R α) (Q : β → Hp → Prop) : Prop := match r with
  | .ok a S' => ∀ ρ' F' b H', Ext ρ F ρ' F' → StOk W G ρ' F' S' H' → RA ρ' F' a b → Q b H'
  | .bad => False
theorem Post.mono {α β : Type} {RA : List Addr → Hp → α → β → Prop} {W : Fx} {G : Hp} {ρ ρ' : List Addr} {F F' : Hp} {r : R α} {Q : β → Hp → Prop} (e : Ext ρ F ρ' F') (h : Post RA W G ρ F r Q) : Post RA W G ρ' F' r Q := by
  cases r with
  | bad => exact h
  | ok a S => exact fun ρ2 F2 b H2 e2 s q => h ρ2 F2 b H2 (e.trans e2) s q
/-- the predicate transformer of an evaluation -/
def tX {α β : Type} (RA : List Addr → Hp → α → β → Prop) (W : Fx) (f : Env → Store → R α) : St → Hp → (β → Hp → Prop) → Prop := fun σ H Q =>
  ∃ G ρ F σ' S, StOk W G ρ F S H ∧ RS W ρ F σ' σ ∧ Post RA W G ρ F (f σ' S) Q
theorem tX.mk {α β γ δ : Type} {RA : List Addr → Hp → α → β → Prop} {RB : List Addr → Hp → γ → δ → Prop} {W : Fx} {G : Hp} {ρ : List Addr} {F : Hp} {σ' : Env} {σ : St} {S : Store} {H : Hp} {f : Env → Store → R α} {g : α → Store → R γ} {Q : δ → Hp → Prop} {Q' : β → Hp → Prop}
    (s : StOk W G ρ F S H) (r : RS W ρ F σ' σ) (p : Post RB W G ρ F ((f σ' S).bind g) Q)
    (k : ∀ ρ2 F2 a S2 b H2, Ext ρ F ρ2 F2 → StOk W G ρ2 F2 S2 H2 → RS W ρ2 F2 σ' σ → RA ρ2 F2 a b → Post RB W G ρ2 F2 (g a S2) Q → Q' b H2) : tX RA W f σ H Q' := by
  refine ⟨G, ρ, F, σ', S, s, r, ?_⟩
  cases h : f σ' S with
  | bad => rw [h] at p; exact p.elim
  | ok a S2 =>
    rw [h] at p
    exact fun ρ2 F2 b H2 e s2 q => k ρ2 F2 a S2 b H2 e s2 (r.mono e) q (p.mono e)
abbrev Rv (W : Fx) : List Addr → Hp → D → V → Prop := RD W
abbrev tE (W : Fx) (f : Env → Store → R D) : TE := tX (RD W) W f
def RB : List Addr → Hp → D → Bool → Prop := fun _ _ d b => d = .bl b
abbrev tT (W : Fx) (f : Env → Store → R D) : TT := tX RB W f
abbrev tAs (W : Fx) (f : Env → Store → R (List D)) : TA := tX (RDs W) W f
/-- an end at once -/
theorem Post.fin {α β : Type} {RA : List Addr → Hp → α → β → Prop} {W : Fx} {G : Hp} {ρ : List Addr} {F : Hp} {a : α} {b : β} {S : Store} {H : Hp} {Q : β → Hp → Prop} (p : Post RA W G ρ F (.ok a S) Q) (s : StOk W G ρ F S H) (r : RA ρ F a b) : Q b H :=
  p ρ F b H .refl s r

theorem PE.imp {X : Cx} {e : Expr} {t t' : TE} (h : PE X e t) (i : ∀ σ H Q, t' σ H Q → t σ H Q) : PE X e t' := ⟨fun pins s σ H Q I q => h.run pins s σ H Q I (i _ _ _ q)⟩
theorem PT.imp {X : Cx} {e : Expr} {t t' : TT} (h : PT X e t) (i : ∀ σ H Q, t' σ H Q → t σ H Q) : PT X e t' := ⟨fun pins s σ H Q I q => h.run pins s σ H Q I (i _ _ _ q)⟩
theorem PW.imp {X : Cx} {e : Expr} {t t' : TT} (h : PW X e t) (i : ∀ σ H Q, t' σ H Q → t σ H Q) : PW X e t' := ⟨fun wh pins s σ H Q I q => h.run wh pins s σ H Q I (i _ _ _ q)⟩
theorem PA.imp {X : Cx} {es : List Expr} {t t' : TA} (h : PA X es t) (i : ∀ σ H Q, t' σ H Q → t σ H Q) : PA X es t' := ⟨fun po pins s σ H Q I q => h.run po pins s σ H Q I (i _ _ _ q)⟩
theorem PS.imp {X : Cx} {st : Stmt} {t t' : TS} (h : PS X st t) (i : ∀ D σ H, t' D σ H → t D σ H) : PS X st t' := ⟨fun pins s σ H D I q => h.run pins s σ H D I (i _ _ _ q)⟩
theorem PSs.imp {X : Cx} {st : List Stmt} {t t' : TS} (h : PSs X st t) (i : ∀ D σ H, t' D σ H → t D σ H) : PSs X st t' := ⟨fun pins s σ H D I q => h.run pins s σ H D I (i _ _ _ q)⟩
end Z

/-! Z3: the store's steps: new objects, changes, freezing, a call's end. -/
namespace Z
open PySem PySem.Spec L2
open PyProof.Rows hiding St

theorem objAt_lt {S : Store} {l : Nat} {o : Obj} (h : objAt S l = some o) : l < S.length := by
  unfold objAt at h
  by_cases hl : l < S.length
  · exact hl
  · rw [List.getElem?_eq_none (by omega)] at h; cases h
theorem objAt_iff {S : Store} {l : Nat} {o : Obj} : objAt S l = some o ↔ S[l]? = some (some o) := by
  unfold objAt
  cases S[l]? with
  | none => simp
  | some x => cases x <;> simp
theorem objAt_append {S : Store} {o : Obj} {l : Nat} {u : Obj} (h : objAt (S ++ [some o]) l = some u) : (l < S.length ∧ objAt S l = some u) ∨ (l = S.length ∧ u = o) := by
  rw [objAt_iff] at h
  by_cases hl : l < S.length
  · rw [List.getElem?_append_left hl] at h
    exact .inl ⟨hl, objAt_iff.mpr h⟩
  · rw [List.getElem?_append_right (by omega)] at h
    by_cases he : l = S.length
    · subst he
      simp at h
      exact .inr ⟨rfl, h.symm⟩
    · have : ([some o] : Store)[l - S.length]? = none := List.getElem?_eq_none (by simp; omega)
      rw [this] at h; cases h
theorem objAt_set {S : Store} {x : Option Obj} {l k : Nat} {u : Obj} (h : objAt (S.set l x) k = some u) : (k = l ∧ x = some u) ∨ (k ≠ l ∧ objAt S k = some u) := by
  rw [objAt_iff] at h
  by_cases hk : l = k
  · subst hk
    by_cases hl : l < S.length
    · rw [List.getElem?_set_self hl] at h
      exact .inl ⟨rfl, by simpa using h⟩
    · rw [List.getElem?_eq_none (by simpa using hl)] at h; cases h
  · rw [List.getElem?_set_ne hk] at h
    exact .inr ⟨fun e => hk e.symm, objAt_iff.mpr h⟩

section
variable {W : Fx} {G : Hp} {ρ : List Addr} {F : Hp} {S : Store} {H : Hp} {p : Addr} {o : Obj} {u : HO}
/-- a new owned object -/
theorem StOk.alloc (s : StOk W G ρ F S H) (hp : H p = none) (r : OR W ρ F o u) : StOk W G (ρ ++ [p]) F (S ++ [some o]) (upd H p u) ∧ Ext ρ F (ρ ++ [p]) F := by
  have e : Ext ρ F (ρ ++ [p]) F := ⟨fun l a h => by rw [List.getElem?_append_left (List.getElem?_eq_some_iff.mp h).1]; exact h, fun _ _ _ h => h, fun _ _ _ _ h => h, fun _ _ _ h => h⟩
  have hF : F p = none := by
    cases q : F p with
    | none => rfl
    | some x => have := s.sub p x q; rw [hp] at this; cases this
  have old : ∀ {l : Nat} {a : Addr}, l < S.length → (ρ ++ [p])[l]? = some a → ρ[l]? = some a := fun {l a} hl h => by
    rw [List.getElem?_append_left (by rw [s.len]; exact hl)] at h; exact h
  have new : ∀ {a : Addr}, (ρ ++ [p])[S.length]? = some a → a = p := fun {a} h => by
    rw [List.getElem?_append_right (by rw [s.len]; exact Nat.le_refl _), s.len] at h
    simpa using h.symm
  refine ⟨⟨by simp [s.len], fun a x h => ?_, fun l x h => ?_, fun a x h => ?_, fun l l' x x' a h h' q q' => ?_⟩, e⟩
  · have hx := s.sub a x h
    rw [upd_ne (ne_of_none hx hp)]; exact hx
  · rcases objAt_append h with ⟨hl, h⟩ | ⟨rfl, rfl⟩
    · obtain ⟨a, y, h1, h2, h3, h4⟩ := s.live l x h
      exact ⟨a, y, e.loc l a h1, by rw [upd_ne (ne_of_none h2 hp)]; exact h2, h3.mono e, h4⟩
    · exact ⟨p, u, by rw [← s.len]; simp, upd_same, r.mono e, hF⟩
  · obtain ⟨g1, g2, g3⟩ := s.guard a x h
    refine ⟨by rw [upd_ne (ne_of_none g1 hp)]; exact g1, g2, fun l y hy z => ?_⟩
    rcases objAt_append hy with ⟨hl, k⟩ | ⟨rfl, rfl⟩
    · exact g3 l y k (old hl z)
    · rw [new z, hp] at g1; cases g1
  · rcases objAt_append h with ⟨hl, k⟩ | ⟨rfl, rfl⟩ <;> rcases objAt_append h' with ⟨hl', k'⟩ | ⟨rfl, rfl⟩
    · exact s.inj l l' x x' a k k' (old hl q) (old hl' q')
    · obtain ⟨b, y, h1, h2, _⟩ := s.live l x k
      have e1 := new q'
      have e2 := (old hl q).symm.trans h1
      rw [e1] at e2
      rw [← Option.some.inj e2, hp] at h2; cases h2
    · obtain ⟨b, y, h1, h2, _⟩ := s.live l' x' k'
      have e1 := new q
      have e2 := (old hl' q').symm.trans h1
      rw [e1] at e2
      rw [← Option.some.inj e2, hp] at h2; cases h2
    · rfl
/-- a new frozen object -/
theorem StOk.cold (s : StOk W G ρ F S H) (hp : H p = none) : StOk W G ρ (upd F p u) S (upd H p u) ∧ Ext ρ F ρ (upd F p u) := by
  have hF : F p = none := by
    cases q : F p with
    | none => rfl
    | some x => have := s.sub p x q; rw [hp] at this; cases this
  have e : Ext ρ F ρ (upd F p u) := by
    refine ⟨fun _ _ h => h, fun a x _ h => ?_, fun a C dx fs h => by rw [upd_ne (ne_of_none h hF)]; exact h, fun a o x h => by rw [upd_ne (ne_of_none h hF)]; exact h⟩
    rcases h with h | ⟨y, h⟩
    · exact .inl (by rw [upd_ne (ne_of_none h hF)]; exact h)
    · exact .inr ⟨y, by rw [upd_ne (ne_of_none h hF)]; exact h⟩
  refine ⟨⟨s.len, fun a x h => ?_, fun l x h => ?_, fun a x h => ?_, s.inj⟩, e⟩
  · by_cases ha : a = p
    · subst ha; rw [upd_same] at h ⊢; exact h
    · rw [upd_ne ha] at h ⊢; exact s.sub a x h
  · obtain ⟨a, y, h1, h2, h3, h4⟩ := s.live l x h
    have ha : a ≠ p := ne_of_none h2 hp
    exact ⟨a, y, h1, by rw [upd_ne ha]; exact h2, h3.mono e, by rw [upd_ne ha]; exact h4⟩
  · obtain ⟨g1, g2, g3⟩ := s.guard a x h
    have ha : a ≠ p := ne_of_none g1 hp
    exact ⟨by rw [upd_ne ha]; exact g1, by rw [upd_ne ha]; exact g2, g3⟩
/-- an owned object is changed -/
theorem StOk.put {l : Nat} {a : Addr} {o' : Obj} (s : StOk W G ρ F S H) (h : objAt S l = some o') (hl : ρ[l]? = some a) (r : OR W ρ F o u) : StOk W G ρ F (S.set l (some o)) (upd H a u) := by
  obtain ⟨a', y, h1, h2, h3, h4⟩ := s.live l o' h
  have ea : a' = a := Option.some.inj (h1.symm.trans hl)
  subst ea
  have dd : ∀ {j : Nat} {z : Obj}, objAt (S.set l (some o)) j = some z → ∃ z', objAt S j = some z' := fun {j z} q => by
    rcases objAt_set q with ⟨rfl, _⟩ | ⟨_, q⟩
    · exact ⟨_, h⟩
    · exact ⟨_, q⟩
  refine ⟨by simp [s.len], fun b x q => ?_, fun k x q => ?_, fun b x q => ?_, fun k k' x x' b q q' e e' => ?_⟩
  · have hb : b ≠ a' := fun e => by subst e; rw [h4] at q; cases q
    rw [upd_ne hb]; exact s.sub b x q
  · rcases objAt_set q with ⟨rfl, e⟩ | ⟨hk, q⟩
    · cases e
      exact ⟨a', u, hl, upd_same, r, h4⟩
    · obtain ⟨b, z, k1, k2, k3, k4⟩ := s.live k x q
      have hb : b ≠ a' := fun e => by
        subst e
        exact hk (s.inj k l x o' b q h k1 hl)
      exact ⟨b, z, k1, by rw [upd_ne hb]; exact k2, k3, k4⟩
  · obtain ⟨g1, g2, g3⟩ := s.guard b x q
    have hb : b ≠ a' := fun e => by
      rw [e] at g3
      exact g3 l o' h hl
    refine ⟨by rw [upd_ne hb]; exact g1, g2, fun j z hz => ?_⟩
    obtain ⟨z', hz'⟩ := dd hz
    exact g3 j z' hz'
  · obtain ⟨z, hz⟩ := dd q
    obtain ⟨z', hz'⟩ := dd q'
    exact s.inj k k' z z' b hz hz' e e'
/-- an owned object is frozen -/
theorem StOk.freeze {l : Nat} {a : Addr} {o' : Obj} (s : StOk W G ρ F S H) (h : objAt S l = some o') (hl : ρ[l]? = some a) (hu : H a = some u) : StOk W G ρ (upd F a u) (S.set l none) H ∧ Ext ρ F ρ (upd F a u) := by
  obtain ⟨a', y, h1, h2, h3, h4⟩ := s.live l o' h
  have ea : a' = a := Option.some.inj (h1.symm.trans hl)
  subst ea
  have e : Ext ρ F ρ (upd F a' u) := by
    refine ⟨fun _ _ h => h, fun b x _ q => ?_, fun b C dx fs q => by rw [upd_ne (ne_of_none q h4)]; exact q, fun b o x q => by rw [upd_ne (ne_of_none q h4)]; exact q⟩
    rcases q with q | ⟨y, q⟩
    · exact .inl (by rw [upd_ne (ne_of_none q h4)]; exact q)
    · exact .inr ⟨y, by rw [upd_ne (ne_of_none q h4)]; exact q⟩
  refine ⟨⟨by simp [s.len], fun b x q => ?_, fun k x q => ?_, fun b x q => ?_, fun k k' x x' b q q' => ?_⟩, e⟩
  · by_cases hb : b = a'
    · subst hb; rw [upd_same] at q; rw [hu]; exact q
    · rw [upd_ne hb] at q; exact s.sub b x q
  · rcases objAt_set q with ⟨_, q⟩ | ⟨hk, q⟩
    · cases q
    · obtain ⟨b, z, k1, k2, k3, k4⟩ := s.live k x q
      have hb : b ≠ a' := fun e => by
        subst e
        exact hk (s.inj k l x o' b q h k1 hl)
      exact ⟨b, z, k1, k2, k3.mono e, by rw [upd_ne hb]; exact k4⟩
  · obtain ⟨g1, g2, g3⟩ := s.guard b x q
    have hb : b ≠ a' := fun e => by
      rw [e] at g3
      exact g3 l o' h hl
    refine ⟨g1, by rw [upd_ne hb]; exact g2, fun j z hz => ?_⟩
    rcases objAt_set hz with ⟨_, hz⟩ | ⟨_, hz⟩
    · cases hz
    · exact g3 j z hz
  · rcases objAt_set q with ⟨_, q⟩ | ⟨_, q⟩
    · cases q
    · rcases objAt_set q' with ⟨_, q'⟩ | ⟨_, q'⟩
      · cases q'
      · exact s.inj k k' x x' b q q'
/-- a frozen dict is locked for good -/
theorem StOk.lock {us : List (Key × V)} {od : PySem.Obj} (s : StOk W G ρ F S H) (h : F p = some (.dK us)) : StOk W G ρ (upd F p (.frz od (.dK us))) S (upd H p (.frz od (.dK us))) ∧ Ext ρ F ρ (upd F p (.frz od (.dK us))) := by
  have e : Ext ρ F ρ (upd F p (.frz od (.dK us))) := by
    refine ⟨fun _ _ h => h, fun b x pl q => ?_, fun b C dx fs q => ?_, fun b o x q => ?_⟩
    · by_cases hb : b = p
      · subst hb
        rcases q with q | ⟨y, q⟩
        · rw [h] at q; cases q; exact .inr ⟨od, upd_same⟩
        · rw [h] at q; cases q
      · rcases q with q | ⟨y, q⟩
        · exact .inl (by rw [upd_ne hb]; exact q)
        · exact .inr ⟨y, by rw [upd_ne hb]; exact q⟩
    · have hb : b ≠ p := fun z => by subst z; rw [h] at q; cases q
      rw [upd_ne hb]; exact q
    · have hb : b ≠ p := fun z => by subst z; rw [h] at q; cases q
      rw [upd_ne hb]; exact q
  refine ⟨⟨s.len, fun b x q => ?_, fun k x q => ?_, fun b x q => ?_, s.inj⟩, e⟩
  · by_cases hb : b = p
    · subst hb; rw [upd_same] at q ⊢; exact q
    · rw [upd_ne hb] at q ⊢; exact s.sub b x q
  · obtain ⟨b, z, k1, k2, k3, k4⟩ := s.live k x q
    have hb : b ≠ p := fun z => by subst z; rw [h] at k4; cases k4
    exact ⟨b, z, k1, by rw [upd_ne hb]; exact k2, k3.mono e, by rw [upd_ne hb]; exact k4⟩
  · obtain ⟨g1, g2, g3⟩ := s.guard b x q
    have hb : b ≠ p := fun z => by subst z; rw [h] at g2; cases g2
    exact ⟨by rw [upd_ne hb]; exact g1, by rw [upd_ne hb]; exact g2, g3⟩
end

section
variable {W : Fx} {G : Hp} {ρ : List Addr} {H : Hp}
mutual
theorem frzD_ok : ∀ (n : Nat) {S S' : Store} {F : Hp} {d d' : D} {v : V}, frzD n S d = some (d', S') → StOk W G ρ F S H → RD W ρ F d v → ∃ F', Ext ρ F ρ F' ∧ StOk W G ρ F' S' H ∧ RD W ρ F' d' v
  | 0, S, S', F, d, d', v, h, s, r => by
    cases d <;> simp [frzD] at h <;> (obtain ⟨rfl, rfl⟩ := h; exact ⟨F, .refl, s, r⟩)
  | n + 1, S, S', F, d, d', v, h, s, r => by
    cases d with
    | ref l =>
      cases r with
      | ref hl =>
        rename_i a
        simp only [frzD] at h
        cases q : objAt S l with
        | none => rw [q] at h; cases h
        | some o =>
          rw [q] at h
          obtain ⟨a', u, h1, h2, h3, h4⟩ := s.live l o q
          obtain rfl : a' = a := Option.some.inj (h1.symm.trans hl)
          obtain ⟨s1, e1⟩ := s.freeze q hl h2
          cases o with
          | lst xs =>
            simp only [Option.map_eq_some_iff] at h
            obtain ⟨p, h, e⟩ := h
            cases e
            cases u <;> try exact h3.elim
            rename_i us
            obtain ⟨F', e2, s2, r2⟩ := frzL_ok n h s1 (RDs.mono e1 h3)
            exact ⟨F', e1.trans e2, s2, .lst (e2.rd _ _ trivial (.inl upd_same)) r2⟩
          | dct kvs =>
            simp only [Option.map_eq_some_iff] at h
            obtain ⟨p, h, e⟩ := h
            cases e
            cases u <;> try exact h3.elim
            obtain ⟨F', e2, s2, r2⟩ := frzK_ok n h s1 (RDK.mono e1 h3)
            exact ⟨F', e1.trans e2, s2, .dK (e2.rd _ _ trivial (.inl upd_same)) r2⟩
          | ins c fs =>
            simp only [Option.map_eq_some_iff] at h
            obtain ⟨p, h, e⟩ := h
            cases e
            cases u <;> try exact h3.elim
            obtain ⟨F', e2, s2, r2⟩ := frzF_ok n h s1 (RDF.mono e1 h3.2)
            exact ⟨F', e1.trans e2, s2, .ins h3.1 (e2.ins _ _ _ _ upd_same) r2⟩
    | _ =>
      simp only [frzD, Option.some.injEq, Prod.mk.injEq] at h
      obtain ⟨rfl, rfl⟩ := h
      exact ⟨F, .refl, s, r⟩
theorem frzL_ok : ∀ (n : Nat) {S S' : Store} {F : Hp} {ds ds' : List D} {vs : List V}, frzL n S ds = some (ds', S') → StOk W G ρ F S H → RDs W ρ F ds vs → ∃ F', Ext ρ F ρ F' ∧ StOk W G ρ F' S' H ∧ RDs W ρ F' ds' vs
  | n, S, S', F, [], ds', vs, h, s, r => by
    simp only [frzL, Option.some.injEq, Prod.mk.injEq] at h
    obtain ⟨rfl, rfl⟩ := h
    exact ⟨F, .refl, s, r⟩
  | n, S, S', F, d :: ds, ds', vs, h, s, r => by
    cases r with
    | cons a b =>
      simp only [frzL] at h
      split at h
      · rename_i y S1 h1
        simp only [Option.map_eq_some_iff] at h
        obtain ⟨p, h, e⟩ := h
        cases e
        obtain ⟨F1, e1, s1, r1⟩ := frzD_ok n h1 s a
        obtain ⟨F2, e2, s2, r2⟩ := frzL_ok n h s1 (RDs.mono e1 b)
        exact ⟨F2, e1.trans e2, s2, .cons (r1.mono e2) r2⟩
      · cases h
theorem frzK_ok : ∀ (n : Nat) {S S' : Store} {F : Hp} {ds ds' : List (D × D)} {vs : List (Key × V)}, frzK n S ds = some (ds', S') → StOk W G ρ F S H → RDK W ρ F ds vs → ∃ F', Ext ρ F ρ F' ∧ StOk W G ρ F' S' H ∧ RDK W ρ F' ds' vs
  | n, S, S', F, [], ds', vs, h, s, r => by
    simp only [frzK, Option.some.injEq, Prod.mk.injEq] at h
    obtain ⟨rfl, rfl⟩ := h
    exact ⟨F, .refl, s, r⟩
  | n, S, S', F, (k, d) :: ds, ds', vs, h, s, r => by
    cases r with
    | cons q a b =>
      simp only [frzK] at h
      split at h
      · rename_i y S1 h1
        simp only [Option.map_eq_some_iff] at h
        obtain ⟨p, h, e⟩ := h
        cases e
        obtain ⟨F1, e1, s1, r1⟩ := frzD_ok n h1 s a
        obtain ⟨F2, e2, s2, r2⟩ := frzK_ok n h s1 (RDK.mono e1 b)
        exact ⟨F2, e1.trans e2, s2, .cons q (r1.mono e2) r2⟩
      · cases h
theorem frzF_ok : ∀ (n : Nat) {S S' : Store} {F : Hp} {ds ds' : List (Str × D)} {vs : List (Str × V)}, frzF n S ds = some (ds', S') → StOk W G ρ F S H → RDF W ρ F ds vs → ∃ F', Ext ρ F ρ F' ∧ StOk W G ρ F' S' H ∧ RDF W ρ F' ds' vs
  | n, S, S', F, [], ds', vs, h, s, r => by
    simp only [frzF, Option.some.injEq, Prod.mk.injEq] at h
    obtain ⟨rfl, rfl⟩ := h
    exact ⟨F, .refl, s, r⟩
  | n, S, S', F, (k, d) :: ds, ds', vs, h, s, r => by
    cases r with
    | cons a b =>
      simp only [frzF] at h
      split at h
      · rename_i y S1 h1
        simp only [Option.map_eq_some_iff] at h
        obtain ⟨p, h, e⟩ := h
        cases e
        obtain ⟨F1, e1, s1, r1⟩ := frzD_ok n h1 s a
        obtain ⟨F2, e2, s2, r2⟩ := frzF_ok n h s1 (RDF.mono e1 b)
        exact ⟨F2, e1.trans e2, s2, .cons (r1.mono e2) r2⟩
      · cases h
end
end

/-! refs below n -/
mutual
def D.bd (n : Nat) : D → Bool
  | .tup xs => D.bdL n xs
  | .lst xs => D.bdL n xs
  | .dct kvs => D.bdK n kvs
  | .ins _ fs => D.bdF n fs
  | .kd fs => D.bdF n fs
  | .ref l => decide (l < n)
  | _ => true
def D.bdL (n : Nat) : List D → Bool
  | [] => true
  | x :: xs => D.bd n x && D.bdL n xs
def D.bdK (n : Nat) : List (D × D) → Bool
  | [] => true
  | (_, u) :: xs => D.bd n u && D.bdK n xs
def D.bdF (n : Nat) : List (Str × D) → Bool
  | [] => true
  | (_, u) :: xs => D.bd n u && D.bdF n xs
end
section
variable {W : Fx} {ρ ρ' : List Addr} {F F' : Hp}
mutual
theorem RD.bd : ∀ {d : D} {v : V}, RD W ρ F d v → D.bd ρ.length d = true
  | .non, _, h => rfl
  | .bl _, _, h => rfl
  | .int _, _, h => rfl
  | .str _, _, h => rfl
  | .tup ds, _, h => by cases h with | tup a b => exact RDs.bd b
  | .lst ds, _, h => by cases h with | lst a b => exact RDs.bd b
  | .dct kvs, _, h => by cases h with | dK a b => exact RDK.bd b
  | .ins c fs, _, h => by cases h with | ins a b c => exact RDF.bd c
  | .kd fs, _, h => by cases h with | kd a c => exact RDF.bd c
  | .ref l, _, h => by cases h with | ref a => exact decide_eq_true (List.getElem?_eq_some_iff.mp a).1
  | .scr _, _, h => rfl
theorem RDs.bd : ∀ {ds : List D} {vs : List V}, RDs W ρ F ds vs → D.bdL ρ.length ds = true
  | [], _, h => rfl
  | d :: ds, _, h => by cases h with | cons a b => simp [D.bdL, RD.bd a, RDs.bd b]
theorem RDK.bd : ∀ {ds : List (D × D)} {vs : List (Key × V)}, RDK W ρ F ds vs → D.bdK ρ.length ds = true
  | [], _, h => rfl
  | (k, d) :: ds, _, h => by cases h with | cons q a b => simp [D.bdK, RD.bd a, RDK.bd b]
theorem RDF.bd : ∀ {ds : List (Str × D)} {vs : List (Str × V)}, RDF W ρ F ds vs → D.bdF ρ.length ds = true
  | [], _, h => rfl
  | (k, d) :: ds, _, h => by cases h with | cons a b => simp [D.bdF, RD.bd a, RDF.bd b]
end
mutual
theorem RD.back (e : ∀ (l : Nat) (a : Addr), l < ρ.length → ρ'[l]? = some a → ρ[l]? = some a) : ∀ {d : D} {v : V}, D.bd ρ.length d = true → RD W ρ' F d v → RD W ρ F d v
  | .non, _, _, h => by cases h; exact .non
  | .bl _, _, _, h => by cases h; exact .bl _
  | .int _, _, _, h => by cases h; exact .int _
  | .str _, _, _, h => by cases h; exact .str _
  | .tup ds, _, n, h => by cases h with | tup a b => exact .tup a (RDs.back e n b)
  | .lst ds, _, n, h => by cases h with | lst a b => exact .lst a (RDs.back e n b)
  | .dct kvs, _, n, h => by cases h with | dK a b => exact .dK a (RDK.back e n b)
  | .ins c fs, _, n, h => by cases h with | ins a b c => exact .ins a b (RDF.back e n c)
  | .kd fs, _, n, h => by cases h with | kd a c => exact .kd a (RDF.back e n c)
  | .ref l, _, n, h => by cases h with | ref a => exact .ref (e l _ (of_decide_eq_true n) a)
  | .scr _, _, n, h => by cases h with | scr a => exact .scr a
theorem RDs.back (e : ∀ (l : Nat) (a : Addr), l < ρ.length → ρ'[l]? = some a → ρ[l]? = some a) : ∀ {ds : List D} {vs : List V}, D.bdL ρ.length ds = true → RDs W ρ' F ds vs → RDs W ρ F ds vs
  | [], _, _, h => by cases h; exact .nil
  | d :: ds, _, n, h => by
    simp only [D.bdL, Bool.and_eq_true] at n
    cases h with | cons a b => exact .cons (RD.back e n.1 a) (RDs.back e n.2 b)
theorem RDK.back (e : ∀ (l : Nat) (a : Addr), l < ρ.length → ρ'[l]? = some a → ρ[l]? = some a) : ∀ {ds : List (D × D)} {vs : List (Key × V)}, D.bdK ρ.length ds = true → RDK W ρ' F ds vs → RDK W ρ F ds vs
  | [], _, _, h => by cases h; exact .nil
  | (k, d) :: ds, _, n, h => by
    simp only [D.bdK, Bool.and_eq_true] at n
    cases h with | cons q a b => exact .cons q (RD.back e n.1 a) (RDK.back e n.2 b)
theorem RDF.back (e : ∀ (l : Nat) (a : Addr), l < ρ.length → ρ'[l]? = some a → ρ[l]? = some a) : ∀ {ds : List (Str × D)} {vs : List (Str × V)}, D.bdF ρ.length ds = true → RDF W ρ' F ds vs → RDF W ρ F ds vs
  | [], _, _, h => by cases h; exact .nil
  | (k, d) :: ds, _, n, h => by
    simp only [D.bdF, Bool.and_eq_true] at n
    cases h with | cons a b => exact .cons (RD.back e n.1 a) (RDF.back e n.2 b)
end
end
def Obj.bd (n : Nat) : Obj → Bool
  | .lst xs => D.bdL n xs
  | .dct kvs => D.bdK n kvs
  | .ins _ fs => D.bdF n fs
theorem OR.bd {W : Fx} {ρ : List Addr} {F : Hp} {o : Obj} {u : HO} (h : OR W ρ F o u) : o.bd ρ.length = true := by
  cases o <;> cases u <;> first | exact h.elim | skip
  · exact RDs.bd h
  · exact RDK.bd h
  · exact RDF.bd h.2
theorem OR.back {W : Fx} {ρ ρ' : List Addr} {F : Hp} (e : ∀ (l : Nat) (a : Addr), l < ρ.length → ρ'[l]? = some a → ρ[l]? = some a) {o : Obj} {u : HO} (n : o.bd ρ.length = true) (h : OR W ρ' F o u) : OR W ρ F o u := by
  cases o <;> cases u <;> first | exact h.elim | skip
  · exact RDs.back e n h
  · exact RDK.back e n h
  · exact ⟨h.1, RDF.back e n h.2⟩

/-! ### a call's end -/
theorem okOld_at : ∀ {S S' : Store} {l : Nat} {o : Obj}, okOld S S' = true → l < S.length → objAt S' l = some o → objAt S l = some o ∨ o.nr = true
  | [], _, _, _, _, h, _ => by cases h
  | a :: S, [], _, _, h, _, _ => by cases h
  | a :: S, b :: S', 0, o, h, _, q => by
    simp only [okOld, Bool.and_eq_true, Bool.or_eq_true, decide_eq_true_eq] at h
    have q' : b = some o := by rw [objAt_iff] at q; simpa using q
    subst q'
    rcases h.1 with e | e
    · left; rw [objAt_iff]; simp [e]
    · exact .inr e
  | a :: S, b :: S', l + 1, o, h, hl, q => by
    simp only [okOld, Bool.and_eq_true] at h
    have q' : objAt S' l = some o := by rw [objAt_iff] at q ⊢; simpa using q
    rcases okOld_at h.2 (by simpa using hl) q' with e | e
    · left; rw [objAt_iff] at e ⊢; simpa using e
    · exact .inr e
theorem okOld_len : ∀ {S S' : Store}, okOld S S' = true → S.length ≤ S'.length
  | [], _, _ => Nat.zero_le _
  | _ :: _, [], h => by cases h
  | _ :: S, _ :: S', h => by
    simp only [okOld, Bool.and_eq_true] at h
    exact Nat.succ_le_succ (okOld_len h.2)
theorem objAt_take {S : Store} {n l : Nat} {o : Obj} (h : objAt (S.take n) l = some o) : l < n ∧ objAt S l = some o := by
  have hl := objAt_lt h
  rw [List.length_take] at hl
  have : l < n := by omega
  rw [objAt_iff] at h ⊢
  rw [List.getElem?_take_of_lt this] at h
  exact ⟨this, h⟩
section
variable {W : Fx} {G : Hp} {ρ ρ' : List Addr} {F F' : Hp} {S S' : Store} {H H' : Hp}
/-- what was made within a call is dropped -/
theorem StOk.drop (s : StOk W G ρ F S H) (s' : StOk W G ρ' F' S' H') (e : Ext ρ F ρ' F') (ok : okOld S S' = true) : StOk W G ρ F' (S'.take S.length) H' ∧ Ext ρ F ρ F' := by
  have e2 : Ext ρ F ρ F' := ⟨fun _ _ h => h, e.rd, e.ins, e.frz⟩
  have hl := okOld_len ok
  have back : ∀ {l : Nat} {a : Addr}, l < S.length → ρ'[l]? = some a → ρ[l]? = some a := fun {l a} hl h => by
    have : l < ρ.length := by rw [s.len]; exact hl
    have h0 : ρ[l]? = some ρ[l] := List.getElem?_eq_getElem this
    have h1 := e.loc l _ h0
    rw [h] at h1
    rw [h0, Option.some.inj h1]
  refine ⟨⟨by rw [s.len, List.length_take]; omega, s'.sub, fun l o h => ?_, fun a x h => ?_, fun l l' o o' a h h' q q' => ?_⟩, e2⟩
  · obtain ⟨hlt, h⟩ := objAt_take h
    obtain ⟨a, u, h1, h2, h3, h4⟩ := s'.live l o h
    refine ⟨a, u, back hlt h1, h2, ?_, h4⟩
    rcases okOld_at ok hlt h with q | q
    · obtain ⟨b, y, k1, k2, k3, k4⟩ := s.live l o q
      exact OR.back (fun l a hl h => back (by rw [← s.len]; exact hl) h) k3.bd h3
    · exact h3.nr q
  · obtain ⟨g1, g2, g3⟩ := s'.guard a x h
    refine ⟨g1, g2, fun l y hy z => ?_⟩
    exact g3 l y (objAt_take hy).2 (e.loc l a z)
  · obtain ⟨hlt, h⟩ := objAt_take h
    obtain ⟨hlt', h'⟩ := objAt_take h'
    exact s'.inj l l' o o' a h h' (e.loc l a q) (e.loc l' a q')
end

/-- .. as the caller wants it -/
theorem endV_ok {W : Fx} {G : Hp} {m : Md} {ρ : List Addr} {F : Hp} {S : Store} {H : Hp} {r : R D} {Q : V → Hp → Prop} (s : StOk W G ρ F S H) (p : Post (RD W) W G ρ F (endV m S r) Q) : Post (RD W) W G ρ F r Q := by
  cases m with
  | plain => exact p
  | val =>
    simp only [endV] at p
    cases r with
    | bad => exact p
    | ok d S' =>
      intro ρ' F' v H' e s' rd
      simp only at p
      cases h : frzD FRZ S' d with
      | none => rw [h] at p; exact p.elim
      | some q =>
        obtain ⟨d', S''⟩ := q
        rw [h] at p
        simp only at p
        split at p
        · rename_i c
          simp only [Bool.and_eq_true] at c
          obtain ⟨F'', e2, s2, r2⟩ := frzD_ok FRZ h s' rd
          obtain ⟨s3, e3⟩ := s.drop s2 (e.trans e2) c.2
          exact p ρ F'' v H' e3 s3 (r2.nr c.1)
        · exact p.elim
  | own =>
    simp only [endV] at p
    cases r with
    | bad => exact p
    | ok d S' =>
      intro ρ' F' v H' e s' rd
      cases d with
      | ref l =>
        simp only at p
        cases q : objAt S' l with
        | none => rw [q] at p; exact p.elim
        | some o =>
          rw [q] at p
          simp only at p
          split at p
          · rename_i c
            simp only [Bool.and_eq_true, decide_eq_true_eq] at c
            obtain ⟨s3, e3⟩ := s.drop s' e c.2.2
            obtain ⟨a, u, h1, h2, h3, h4⟩ := s'.live l o q
            cases rd with
            | ref hl =>
              rename_i a'
              obtain rfl : a = a' := Option.some.inj (h1.symm.trans hl)
              -- the answer is owned anew
              have hlen : (S'.take S.length).length = S.length := by have := okOld_len c.2.2; rw [List.length_take]; omega
              have ex : Ext ρ F' (ρ ++ [a]) F' := ⟨fun l a h => by rw [List.getElem?_append_left (List.getElem?_eq_some_iff.mp h).1]; exact h, fun _ _ _ h => h, fun _ _ _ _ h => h, fun _ _ _ h => h⟩
              have old : ∀ {k : Nat} {b : Addr}, k < S.length → (ρ ++ [a])[k]? = some b → ρ[k]? = some b := fun {k b} hk h => by
                rw [List.getElem?_append_left (by rw [s.len]; exact hk)] at h; exact h
              have new : ∀ {b : Addr}, (ρ ++ [a])[S.length]? = some b → b = a := fun {b} h => by
                rw [List.getElem?_append_right (by rw [s.len]; exact Nat.le_refl _), s.len] at h
                simpa using h.symm
              have s4 : StOk W G (ρ ++ [a]) F' (S'.take S.length ++ [some o]) H' := by
                refine ⟨by simp [s.len, hlen], s'.sub, fun k x hk => ?_, fun b x hb => ?_, fun k k' x x' b hk hk' g g' => ?_⟩
                · rcases objAt_append hk with ⟨hlt, hk⟩ | ⟨rfl, rfl⟩
                  · obtain ⟨b, y, g1, g2, g3, g4⟩ := s3.live k x hk
                    exact ⟨b, y, ex.loc k b g1, g2, g3.mono ex, g4⟩
                  · refine ⟨a, u, ?_, h2, h3.nr c.2.1, h4⟩
                    rw [hlen, ← s.len]; simp
                · obtain ⟨g1, g2, g3⟩ := s'.guard b x hb
                  refine ⟨g1, g2, fun k y hy z => ?_⟩
                  rcases objAt_append hy with ⟨hlt, h5⟩ | ⟨rfl, rfl⟩
                  · obtain ⟨hlt', h6⟩ := objAt_take h5
                    exact g3 k y h6 (e.loc k b (old hlt' z))
                  · rw [hlen] at z
                    rw [new z] at g3
                    exact g3 l y q hl
                · have key : ∀ {j : Nat} {z : Obj}, objAt (S'.take S.length) j = some z → (ρ ++ [a])[j]? = some a → False := fun {j z} hj g => by
                    obtain ⟨hlt, hj'⟩ := objAt_take hj
                    have g1 := e.loc j a (old hlt g)
                    have := s'.inj j l z o a hj' q g1 hl
                    omega
                  rcases objAt_append hk with ⟨hlt, h5⟩ | ⟨rfl, rfl⟩ <;> rcases objAt_append hk' with ⟨hlt', h6⟩ | ⟨rfl, rfl⟩
                  · exact s3.inj k k' x x' b h5 h6 (old (by omega) g) (old (by omega) g')
                  · rw [hlen] at g'
                    rw [new g'] at g
                    exact (key h5 g).elim
                  · rw [hlen] at g
                    rw [new g] at g'
                    exact (key h6 g').elim
                  · rfl
              refine p (ρ ++ [a]) F' (.ref a) H' (e3.trans ex) s4 (.ref ?_)
              rw [← s.len]; simp
          · exact p.elim
      | _ => exact p.elim
end Z

/-! Z4: operators and built-in functions by value. -/
namespace Z
open PySem PySem.Spec L2
open PyProof.Rows hiding St

section
variable {X : Cx} {W : Fx} {G : Hp} {ρ : List Addr} {F : Hp} {S : Store} {H : Hp}
theorem Rd.lstM {pins : List (Addr × PySem.Obj)} {σ : St} {H : Hp} {s : Shared} {l : Addr} {xs : List V} (I : Inv X pins σ H s) (h : Rd H l (.lst xs)) : xs.length ≤ sizeLine ∧ ∃ (its : List Value) (n : Nat), Vals xs its ∧ xs.length = its.length ∧ s.heap.get? l = some { cls := .type "list", data := .seq its.toArray n } := by
  obtain ⟨z, its, n, r, e⟩ := h.ok I.hok
  exact ⟨z, its, n, r, r.length, e⟩
/-- list + list -/
def rCatL : R2 := fun x y H Q => ∃ l b xs zs, x = .ref l ∧ y = .ref b ∧ Rd H l (.lst xs) ∧ Rd H b (.lst zs) ∧ xs.length + zs.length ≤ sizeLine ∧ ∀ p, H p = none → Q (.ref p) (upd H p (.lst (xs ++ zs)))
theorem op_catL : OpR X (binaryOp .Add) rCatL := by
  intro pins s σ H x y v u Q I rx ry h
  obtain ⟨l, b, xs, zs, rfl, rfl, hH, hB, hz, q⟩ := h
  cases rx
  cases ry
  obtain ⟨z, its, n, r, hl, e⟩ := Rd.lstM I hH
  obtain ⟨z2, its2, n2, r2, hl2, e2⟩ := Rd.lstM I hB
  refine PySem.P.add_list e e2 ?_ (by rw [List.size_toArray, List.size_toArray]; omega)
  have ea : its.toArray ++ its2.toArray = (its ++ its2).toArray := by simp
  rw [ea]
  exact ⟨.ref _, _, I.lnew (t' := s.toks) (r.append r2) (by rw [List.length_append]; omega), rfl, q _ I.fresh⟩

/-! ### the store's readings -/
theorem lstOf_ok {d : D} {v : V} {xs : List D} (s : StOk W G ρ F S H) (r : RD W ρ F d v) (e : lstOf S d = some xs) : ∃ a vs, v = .ref a ∧ Rd H a (.lst vs) ∧ RDs W ρ F xs vs := by
  cases d with
  | lst ys => cases e; cases r with | lst a b => exact ⟨_, _, rfl, s.rd _ _ trivial a, b⟩
  | ref l =>
    simp only [lstOf] at e
    cases q : objAt S l with
    | none => rw [q] at e; cases e
    | some o =>
      rw [q] at e
      cases o <;> cases e
      cases r with
      | ref hl =>
        obtain ⟨a, u, h1, h2, h3, _⟩ := s.live l _ q
        cases u <;> try exact h3.elim
        exact ⟨_, _, rfl, .inl (by rw [← Option.some.inj (h1.symm.trans hl)]; exact h2), h3⟩
  | _ => cases e
theorem RDs.scr {W : Fx} {ρ : List Addr} {F : Hp} : ∀ ns : List Int, RDs W ρ F (ns.map .int) (ns.map V.int)
  | [] => .nil
  | n :: ns => .cons (.int n) (RDs.scr ns)
theorem seqOf_ok {d : D} {v : V} {xs : List D} (s : StOk W G ρ F S H) (r : RD W ρ F d v) (e : seqOf S d = some xs) : ∃ a vs, v = .ref a ∧ (SqL W.K H a vs ∨ SqT W.K H a vs) ∧ RDs W ρ F xs vs := by
  by_cases ht : ∃ ys, d = .tup ys
  · obtain ⟨ys, rfl⟩ := ht
    cases e
    cases r with | tup a b => exact ⟨_, _, rfl, .inr (SqT.sub s.rd a), b⟩
  · by_cases hs : ∃ ys, d = .scr ys
    · obtain ⟨ys, rfl⟩ := hs
      cases e
      cases r with
      | scr a => exact ⟨_, _, rfl, .inl (SqL.sub s.rd a), RDs.scr ys⟩
    have e' : lstOf S d = some xs := by
      cases d <;> first | exact e | exact absurd ⟨_, rfl⟩ ht | exact absurd ⟨_, rfl⟩ hs
    obtain ⟨a, vs, h1, h2, h3⟩ := lstOf_ok s r e'
    exact ⟨a, vs, h1, .inl (.inl h2), h3⟩
theorem dctOf_ok {d : D} {v : V} {kvs : List (D × D)} (s : StOk W G ρ F S H) (r : RD W ρ F d v) (e : dctOf S d = some kvs) :
    ∃ a us, v = .ref a ∧ Rd H a (.dK us) ∧ RDK W ρ F kvs us := by
  cases d with
  | dct ys =>
    cases e
    cases r with | dK a b => exact ⟨_, _, rfl, s.rd _ _ trivial a, b⟩
  | ref l =>
    simp only [dctOf] at e
    cases q : objAt S l with
    | none => rw [q] at e; cases e
    | some o =>
      rw [q] at e
      cases o <;> cases e
      cases r with
      | ref hl =>
        obtain ⟨a, u, h1, h2, h3, _⟩ := s.live l _ q
        have ea := Option.some.inj (h1.symm.trans hl)
        cases u <;> try exact h3.elim
        exact ⟨_, _, rfl, .inl (by rw [← ea]; exact h2), h3⟩
  | _ => cases e
theorem insOf_ok {d : D} {v : V} {c : Nat} {fs : List (Str × D)} (s : StOk W G ρ F S H) (r : RD W ρ F d v) (e : insOf S d = some (c, fs)) :
    ∃ a C dx us, v = .ref a ∧ H a = some (.ins C dx us) ∧ W.cl c = some C ∧ RDF W ρ F fs us := by
  cases d with
  | ins c' fs' =>
    cases e
    cases r with
    | ins a b c => exact ⟨_, _, _, _, rfl, s.sub _ _ b, a, c⟩
  | ref l =>
    simp only [insOf] at e
    cases q : objAt S l with
    | none => rw [q] at e; cases e
    | some o =>
      rw [q] at e
      cases o <;> cases e
      cases r with
      | ref hl =>
        obtain ⟨a, u, h1, h2, h3, _⟩ := s.live l _ q
        have ea := Option.some.inj (h1.symm.trans hl)
        cases u <;> try exact h3.elim
        exact ⟨_, _, _, _, rfl, (by rw [← ea]; exact h2), h3.1, h3.2⟩
  | _ => cases e
/-- a new list is the answer -/
theorem mkL_ok {ow : Bool} {xs : List D} {vs : List V} {Q : V → Hp → Prop} (s : StOk W G ρ F S H) (r : RDs W ρ F xs vs) (p : Post (RD W) W G ρ F (mkL ow xs S) Q) :
    vs.length ≤ sizeLine ∧ ∀ a, H a = none → Q (.ref a) (upd H a (.lst vs)) := by
  unfold mkL at p
  split at p
  · rename_i hz
    refine ⟨by rw [← r.length]; exact hz, fun a ha => ?_⟩
    cases ow with
    | true =>
      obtain ⟨s1, e1⟩ := s.alloc (o := .lst xs) (u := .lst vs) ha r
      exact p _ _ (.ref a) _ e1 s1 (.ref (by rw [← s.len]; simp))
    | false =>
      obtain ⟨s1, e1⟩ := s.cold (u := .lst vs) ha
      exact p _ _ (.ref a) _ e1 s1 (.lst (.inl upd_same) (r.mono e1))
  · exact p.elim
/-- a new tuple is the answer -/
theorem mkT_ok {xs : List D} {vs : List V} {Q : V → Hp → Prop} (s : StOk W G ρ F S H) (r : RDs W ρ F xs vs) (p : Post (RD W) W G ρ F (.ok (.tup xs) S) Q) : ∀ a, H a = none → Q (.ref a) (upd H a (.tup vs)) := fun a ha => by
  obtain ⟨s1, e1⟩ := s.cold (u := .tup vs) ha
  exact p _ _ (.ref a) _ e1 s1 (.tup (.inl (.inl upd_same)) (r.mono e1))

theorem cut_ok {xs : List D} {vs : List V} (r : RDs W ρ F xs vs) (lo hi : Option Int) : RDs W ρ F (cut xs lo hi) (cutV vs lo hi) := by
  unfold cut cutV
  rw [r.length]
  exact (r.drop _).take _
end
def BOp.py : BOp → Operator
  | .add => .Add | .sub => .Sub | .mul => .Mult | .fdiv => .FloorDiv | .mod => .Mod | .pow => .Pow
def COp.py : COp → CmpOp
  | .eq => .Eq | .ne => .NotEq | .lt => .Lt | .le => .LtE | .gt => .Gt | .ge => .GtE | .is => .Is | .isnot => .IsNot | .in_ => .In | .notin => .NotIn
/-- an operator's answer by the evaluator, as a rule's wish -/
def rE (W : Fx) (f : D → D → Store → R D) : R2 := fun x y H Q => ∃ G ρ F S d e, StOk W G ρ F S H ∧ RD W ρ F d x ∧ RD W ρ F e y ∧ Post (RD W) W G ρ F (f d e S) Q
theorem OpR.imp {X : Cx} {f : Value → Value → Sem Value} {r r' : R2} (h : OpR X f r) (i : ∀ x y H Q, r' x y H Q → r x y H Q) : OpR X f r' := fun pins s σ H x y v u Q I rx ry q => h pins s σ H x y v u Q I rx ry (i _ _ _ _ q)
theorem CallR.imp {X : Cx} {f : Value} {r r' : List V → Hp → VK → Prop} (h : CallR X f r) (i : ∀ xs H Q, r' xs H Q → r xs H Q) : CallR X f r' := fun pins s σ H xs us Q I rs q => h pins s σ H xs us Q I rs (i _ _ _ q)
theorem OpR.none {X : Cx} {f : Value → Value → Sem Value} : OpR X f (fun _ _ _ _ => False) := fun _ _ _ _ _ _ _ _ _ _ _ _ h => h.elim
section
variable {X : Cx} {W : Fx}
theorem bin_ok (hK : X.K = W.K) (op : BOp) (ow : Bool) : OpR X (binaryOp op.py) (rE W (binV op ow)) := by
  cases op with
  | add =>
    refine OpR.imp (op_add.or (op_add_str.or (op_catA.or op_catL))) fun x y H Q h => ?_
    obtain ⟨G, ρ, F, S, d, e, s, rx, ry, p⟩ := h
    rw [hK]
    have lists : (∃ xs ys, lstOf S d = some xs ∧ lstOf S e = some ys ∧ Post (RD W) W G ρ F (mkL ow (xs ++ ys) S) Q) → rCatL x y H Q := fun ⟨xs, ys, e1, e2, p⟩ => by
      obtain ⟨a, vs, rfl, h1, h2⟩ := lstOf_ok s rx e1
      obtain ⟨b, us, rfl, h3, h4⟩ := lstOf_ok s ry e2
      obtain ⟨hz, q⟩ := mkL_ok s (h2.append h4) p
      exact ⟨a, b, vs, us, rfl, rfl, h1, h3, by rw [← List.length_append]; exact hz, q⟩
    by_cases hi : (∃ i, d = .int i) ∧ ∃ j, e = .int j
    · obtain ⟨⟨i, rfl⟩, j, rfl⟩ := hi
      cases rx; cases ry
      exact .inl ⟨i, j, rfl, rfl, p.fin s (.int _)⟩
    · by_cases hs : (∃ i, d = .str i) ∧ ∃ j, e = .str j
      · obtain ⟨⟨i, rfl⟩, j, rfl⟩ := hs
        cases rx; cases ry
        simp only [binV] at p
        split at p
        · rename_i hz
          exact .inr (.inl ⟨i, j, rfl, rfl, hz, p.fin s (.str _)⟩)
        · exact p.elim
      · by_cases ht : (∃ i, d = .tup i) ∧ ∃ j, e = .tup j
        · obtain ⟨⟨xs, rfl⟩, ys, rfl⟩ := ht
          simp only [binV] at p
          split at p
          · rename_i hz
            cases rx with
            | tup a1 b1 =>
              cases ry with
              | tup a2 b2 =>
                rename_i p1 v1 p2 v2
                refine .inr (.inr (.inl ⟨_, _, v1, v2, rfl, rfl, SqT.sub s.rd a1, SqT.sub s.rd a2, by rw [← b1.length, ← b2.length]; exact hz, fun hx => ?_, fun hx hy => ?_, fun _ _ => ?_⟩))
                · subst hx
                  cases b1
                  exact p.fin s (.tup a2 b2)
                · subst hy
                  cases b2
                  rw [List.append_nil] at p
                  exact p.fin s (.tup a1 b1)
                · exact mkT_ok s (b1.append b2) p
          · exact p.elim
        · refine .inr (.inr (.inr (lists ?_)))
          have p' : Post (RD W) W G ρ F (match lstOf S d, lstOf S e with
            | some xs, some ys => mkL ow (xs ++ ys) S
            | _, _ => .bad) Q := by
            cases d <;> cases e <;> first | exact p | exact absurd ⟨⟨_, rfl⟩, _, rfl⟩ hi | exact absurd ⟨⟨_, rfl⟩, _, rfl⟩ hs | exact absurd ⟨⟨_, rfl⟩, _, rfl⟩ ht
          split at p'
          · rename_i xs ys e1 e2
            exact ⟨xs, ys, e1, e2, p'⟩
          · exact p'.elim
  | sub =>
    refine OpR.imp op_sub fun x y H Q h => ?_
    obtain ⟨G, ρ, F, S, d, e, s, rx, ry, p⟩ := h
    cases d <;> cases e <;> first | exact p.elim | skip
    cases rx; cases ry
    exact ⟨_, _, rfl, rfl, p.fin s (.int _)⟩
  | mul =>
    refine OpR.imp (op_mul.or op_repT) fun x y H Q h => ?_
    obtain ⟨G, ρ, F, S, d, e, s, rx, ry, p⟩ := h
    rw [hK]
    by_cases hi : (∃ i, d = .int i) ∧ ∃ j, e = .int j
    · obtain ⟨⟨i, rfl⟩, j, rfl⟩ := hi
      cases rx; cases ry
      simp only [binV] at p
      split at p
      · rename_i c
        refine .inl ⟨_, _, rfl, rfl, ?_, p.fin s (.int _)⟩
        simp only [cMul, Bool.or_eq_true, Bool.and_eq_true, decide_eq_true_eq] at c
        exact c
      · exact p.elim
    · right
      cases d <;> first | exact p.elim | exact absurd ⟨⟨_, rfl⟩, _, rfl⟩ hi | (cases e <;> first | exact p.elim | exact absurd ⟨⟨_, rfl⟩, _, rfl⟩ hi | skip)
      rename_i xs j
      simp only [binV] at p
      split at p
      · rename_i c
        cases rx with
        | tup a b =>
          cases ry
          rename_i p1 vs
          refine ⟨_, _, vs, rfl, rfl, SqT.sub s.rd a, ?_, c.2.1, c.2.2.1, by rw [← b.length]; exact c.2.2.2, mkT_ok s ?_ p⟩
          · intro e; subst e; cases b; exact c.1 rfl
          · generalize j.toNat = n
            induction n with
            | zero => exact .nil
            | succ n ih => rw [List.replicate_succ, List.replicate_succ, List.flatten_cons, List.flatten_cons]; exact b.append ih
      · exact p.elim
  | fdiv =>
    refine OpR.imp op_fdiv fun x y H Q h => ?_
    obtain ⟨G, ρ, F, S, d, e, s, rx, ry, p⟩ := h
    cases d <;> cases e <;> first | exact p.elim | skip
    cases rx; cases ry
    simp only [binV] at p
    split at p
    · rename_i c
      exact ⟨_, _, rfl, rfl, c, p.fin s (.int _)⟩
    · exact p.elim
  | mod =>
    refine OpR.imp op_mod fun x y H Q h => ?_
    obtain ⟨G, ρ, F, S, d, e, s, rx, ry, p⟩ := h
    cases d <;> cases e <;> first | exact p.elim | skip
    cases rx; cases ry
    simp only [binV] at p
    split at p
    · rename_i c
      exact ⟨_, _, rfl, rfl, c, p.fin s (.int _)⟩
    · exact p.elim
  | pow =>
    refine OpR.imp op_pow fun x y H Q h => ?_
    obtain ⟨G, ρ, F, S, d, e, s, rx, ry, p⟩ := h
    cases d <;> cases e <;> first | exact p.elim | skip
    cases rx; cases ry
    simp only [binV] at p
    split at p
    · rename_i c
      exact ⟨_, _, rfl, rfl, c, p.fin s (.int _)⟩
    · exact p.elim
/-- a == b -/
theorem pyEq_ok {G : Hp} {ρ : List Addr} {F : Hp} {S : Store} {H : Hp} {d e : D} {x y : V} {b : Bool} (s : StOk W G ρ F S H) (rx : RD W ρ F d x) (ry : RD W ρ F e y) (h : pyEq d e = some b) :
    (∃ u v, Dp W.K H x u ∧ Dp W.K H y v ∧ SeqAt.shaped u = true ∧ SeqAt.shaped v = true ∧ b = PyData.eqv u v) ∨ dictEq d e = some b := by
  unfold pyEq at h
  split at h
  · rename_i u v h1 h2
    split at h
    · rename_i c
      simp only [Bool.and_eq_true] at c
      cases h
      exact .inl ⟨u, v, rx.dp s.rd h1, ry.dp s.rd h2, c.1, c.2, rfl⟩
    · cases h
  · exact .inr h
end

/-! ### dicts -/
theorem kFlat_V {W : Fx} {ρ : List Addr} {F : Hp} {k : D} {j : Key} {y : V} (e : kFlat k = some j) (r : RD W ρ F k y) : y = kV j := by
  cases k <;> cases e <;> cases r <;> rfl
theorem kFlat_inj {k k' : D} {j : Key} (e : kFlat k = some j) (e' : kFlat k' = some j) : k = k' := by
  cases k <;> cases e <;> cases k' <;> cases e' <;> rfl
section
variable {W : Fx} {ρ : List Addr} {F : Hp}
theorem RDK.any {k : D} {j : Key} (e : kFlat k = some j) : ∀ {kvs : List (D × D)} {us : List (Key × V)}, RDK W ρ F kvs us → (kvs.any fun p => decide (p.1 = k)) = us.any fun p => decide (p.1 = j)
  | [], _, h => by cases h; rfl
  | (k', d) :: r, _, h => by
    cases h with
    | cons q a b =>
      rename_i j' v vs
      rw [List.any_cons, List.any_cons, RDK.any e b]
      congr 1
      by_cases hk : k' = k
      · subst hk; rw [e] at q; cases q; simp
      · have : j' ≠ j := fun z => hk (kFlat_inj (z ▸ q) e)
        simp [hk, this]
theorem RDK.get {k : D} {j : Key} (e : kFlat k = some j) : ∀ {kvs : List (D × D)} {us : List (Key × V)}, RDK W ρ F kvs us → (getK kvs k = none ∧ valV us j = none) ∨ ∃ d v, getK kvs k = some d ∧ valV us j = some v ∧ RD W ρ F d v
  | [], _, h => by cases h; exact .inl ⟨rfl, rfl⟩
  | (k', d) :: r, _, h => by
    cases h with
    | cons q a b =>
      rename_i j' v vs
      by_cases hk : k' = k
      · subst hk
        rw [e] at q; cases q
        exact .inr ⟨d, v, by simp [getK], by simp [valV], a⟩
      · have hj : j' ≠ j := fun z => hk (kFlat_inj (z ▸ q) e)
        have e1 : getK ((k', d) :: r) k = getK r k := by simp [getK, hk]
        have e2 : valV ((j', v) :: vs) j = valV vs j := valV_neg hj
        rw [e1, e2]
        exact RDK.get e b
theorem RDK.eqs {ls : List (D × D)} {vs : List (Key × V)} (hl : RDK W ρ F ls vs) : ∀ {ks : List (D × D)} {us : List (Key × V)}, RDK W ρ F ks us → (ks.all fun p => flatD p.2 && decide (getK ls p.1 = some p.2)) = true → ∀ p ∈ us, valV vs p.1 = some p.2 ∧ flatB p.2 = true
  | [], _, h, _, p, hp => by cases h; cases hp
  | (k', d) :: r, _, h, e, p, hp => by
    cases h with
    | cons q a b =>
      rename_i j' v ws
      rw [List.all_cons, Bool.and_eq_true, Bool.and_eq_true, decide_eq_true_eq] at e
      obtain ⟨⟨e1, e2⟩, e3⟩ := e
      rcases List.mem_cons.mp hp with rfl | hp
      · rcases RDK.get q hl with ⟨g, _⟩ | ⟨d2, v2, g1, g2, g3⟩
        · rw [g] at e2; cases e2
        · rw [g1] at e2
          cases e2
          have : v2 = v ∧ flatB v = true := by
            cases d <;> first | (cases e1; done) | skip
            all_goals (cases a; cases g3; exact ⟨rfl, rfl⟩)
          rw [this.1] at g2
          exact ⟨g2, this.2⟩
      · exact RDK.eqs hl b e3 p hp
theorem RDK.length : ∀ {kvs : List (D × D)} {us : List (Key × V)}, RDK W ρ F kvs us → kvs.length = us.length
  | [], _, h => by cases h; rfl
  | _ :: r, _, h => by cases h with | cons q a b => simp [RDK.length b]
theorem RDK.append : ∀ {xs ys : List (D × D)} {us vs : List (Key × V)}, RDK W ρ F xs us → RDK W ρ F ys vs → RDK W ρ F (xs ++ ys) (us ++ vs)
  | _, _, _, _, .nil, s => s
  | _, _, _, _, .cons q r t, s => .cons q r (RDK.append t s)
theorem RDK.repl {k d : D} {j : Key} {v : V} (e : kFlat k = some j) (rd : RD W ρ F d v) : ∀ {kvs : List (D × D)} {us : List (Key × V)}, RDK W ρ F kvs us →
    RDK W ρ F (kvs.map fun p => if p.1 = k then (p.1, d) else p) (us.map fun p => if p.1 = j then (p.1, v) else p)
  | [], _, h => by cases h; exact .nil
  | (k', d') :: r, _, h => by
    cases h with
    | cons q a b =>
      rename_i j' v' vs
      rw [List.map_cons, List.map_cons]
      by_cases hk : k' = k
      · subst hk
        rw [e] at q; cases q
        simp only [if_true]
        exact .cons e rd (RDK.repl e rd b)
      · have hj : j' ≠ j := fun z => hk (kFlat_inj (z ▸ q) e)
        simp only [if_neg hk, if_neg hj]
        exact .cons q a (RDK.repl e rd b)
theorem RDK.put {k d : D} {j : Key} {v : V} (e : kFlat k = some j) (rd : RD W ρ F d v) {kvs : List (D × D)} {us : List (Key × V)} (h : RDK W ρ F kvs us) : RDK W ρ F (putD kvs k d) (putK us j v) := by
  unfold putD putK
  rw [h.any e]
  split
  · exact h.repl e rd
  · exact h.append (.cons e rd .nil)
theorem RDK.putAll : ∀ {more : List (D × D)} {ms : List (Key × V)} {kvs : List (D × D)} {us : List (Key × V)}, RDK W ρ F more ms → RDK W ρ F kvs us → RDK W ρ F (Z.putAll kvs more) (mergeK us ms)
  | _, _, _, _, .nil, g => g
  | _, _, _, _, .cons q a b, g => by have h := RDK.putAll b (g.put q a); exact h
theorem RDK.drop {k : D} {j : Key} (e : kFlat k = some j) : ∀ {kvs : List (D × D)} {us : List (Key × V)}, RDK W ρ F kvs us → RDK W ρ F (delD kvs k) (dropK us j)
  | [], _, h => by cases h; exact .nil
  | (k', d) :: r, _, h => by
    cases h with
    | cons q a b =>
      rename_i j' v vs
      unfold delD dropK
      rw [List.filter_cons, List.filter_cons]
      by_cases hk : k' = k
      · subst hk
        rw [e] at q; cases q
        simp only [ne_eq, not_true_eq_false, decide_false, Bool.false_eq_true, if_false]
        exact RDK.drop e b
      · have hj : j' ≠ j := fun z => hk (kFlat_inj (z ▸ q) e)
        simp only [ne_eq, hk, hj, not_false_eq_true, decide_true, if_true]
        exact .cons q a (RDK.drop e b)
theorem RDK.keys : ∀ {kvs : List (D × D)} {us : List (Key × V)}, RDK W ρ F kvs us → RDs W ρ F (kvs.map (·.1)) (us.map fun kv => kV kv.1)
  | [], _, h => by cases h; exact .nil
  | (k, d) :: r, _, h => by
    cases h with
    | cons q a b =>
      refine .cons ?_ (RDK.keys b)
      cases k <;> cases q
      · exact .int _
      · exact .str _
/-- a new dict is the answer -/
theorem mkD_ok {G : Hp} {S : Store} {H : Hp} {ow : Bool} {kvs : List (D × D)} {us : List (Key × V)} {Q : V → Hp → Prop} (s : StOk W G ρ F S H) (r : RDK W ρ F kvs us) (p : Post (RD W) W G ρ F (mkD ow kvs S) Q) :
    us.length ≤ sizeLine ∧ ∀ a, H a = none → Q (.ref a) (upd H a (.dK us)) := by
  unfold mkD at p
  split at p
  · rename_i hz
    refine ⟨by rw [← r.length]; exact hz, fun a ha => ?_⟩
    cases ow with
    | true =>
      obtain ⟨s1, e1⟩ := s.alloc (o := .dct kvs) (u := .dK us) ha r
      exact p _ _ (.ref a) _ e1 s1 (.ref (by rw [← s.len]; simp))
    | false =>
      obtain ⟨s1, e1⟩ := s.cold (u := .dK us) ha
      exact p _ _ (.ref a) _ e1 s1 (.dK (.inl upd_same) (r.mono e1))
  · exact p.elim
end
end Z

/-! Z5: comparisons, truth, subscripts, slices, built-in functions and methods by value. -/
namespace Z
open PySem PySem.Spec L2
open PyProof.Rows hiding St
section
variable {X : Cx} {W : Fx}
/-! ### comparisons -/
def rC (W : Fx) (f : D → D → Store → Option Bool) : R2 := fun x y H Q => ∃ G ρ F S d e b, StOk W G ρ F S H ∧ RD W ρ F d x ∧ RD W ρ F e y ∧ f d e S = some b ∧ Q (.bl b) H
theorem RD.isNon {ρ : List Addr} {F : Hp} {d : D} {x : V} (r : RD W ρ F d x) : decide (d = .non) = decide (x = .non) := by
  cases r <;> simp
theorem flat_eqv {ρ : List Addr} {F : Hp} {d e : D} {x y : V} {u v : PyData} (fd : flatD d = true) (fe : flatD e = true) (rx : RD W ρ F d x) (ry : RD W ρ F e y) (hd : pd d = some u) (he : pd e = some v) :
    flatV x = true ∧ flatV y = true ∧ PyData.eqv u v = L2.eqV x y := by
  cases d <;> first | (cases fd; done) | skip
  all_goals (cases rx; cases hd; cases e <;> first | (cases fe; done) | skip)
  all_goals (cases ry; cases he; refine ⟨rfl, rfl, ?_⟩; simp [PyData.eqv, L2.eqV])
theorem flat_any {ρ : List Addr} {F : Hp} {a : D} {x : V} {u : PyData} (fa : flatD a = true) (rx : RD W ρ F a x) (hu : pd a = some u) : ∀ {ds : List D} {vs : List V} {us : List PyData}, ds.all flatD = true → RDs W ρ F ds vs → pds ds = some us →
    vs.all flatV = true ∧ (us.any fun z => PyData.eqv z u) = L2.inV x vs
  | [], _, _, _, h, e => by cases h; cases e; exact ⟨rfl, rfl⟩
  | d :: ds, _, _, f, h, e => by
    rw [List.all_cons, Bool.and_eq_true] at f
    simp only [pds] at e
    cases h with
    | cons r t =>
      split at e
      · rename_i z zs e1 e2
        cases e
        obtain ⟨h1, _, h2⟩ := flat_eqv f.1 fa r rx e1 hu
        obtain ⟨h3, h4⟩ := flat_any fa rx hu f.2 t e2
        refine ⟨by rw [List.all_cons, h1, h3]; rfl, ?_⟩
        unfold L2.inV at h4 ⊢
        rw [List.any_cons, List.any_cons, h2, h4]
      · cases e
theorem op_inDict (hu : X.A.units + 1 < cLine) : OpR X (compareOp .In) (fun x y H Q => ∃ a o, y = .ref a ∧ DGet H a x o ∧ Q (.bl o.isSome) H) := by
  intro pins s σ H x y v u Q I rx ry h
  obtain ⟨a, o, rfl, g, q⟩ := h
  cases ry
  exact d_in hu I g rx fun s' I' => ⟨.bl _, H, I', rfl, q⟩
theorem op_notInDict (hu : X.A.units + 1 < cLine) : OpR X (compareOp .NotIn) (fun x y H Q => ∃ a o, y = .ref a ∧ DGet H a x o ∧ Q (.bl (!o.isSome)) H) := by
  intro pins s σ H x y v u Q I rx ry h
  obtain ⟨a, o, rfl, g, q⟩ := h
  cases ry
  exact d_notIn hu I g rx fun s' I' => ⟨.bl _, H, I', rfl, q⟩
theorem RDF.lookup {ρ : List Addr} {F : Hp} (f : Str) : ∀ {fs : List (Str × D)} {us : List (Str × V)}, RDF W ρ F fs us → (fs.lookup f = none ∧ us.lookup f = none) ∨ ∃ d v, fs.lookup f = some d ∧ us.lookup f = some v ∧ RD W ρ F d v
  | [], _, h => by cases h; exact .inl ⟨rfl, rfl⟩
  | (g, d) :: r, _, h => by
    cases h with
    | cons a b =>
      rename_i v vs
      rw [List.lookup_cons, List.lookup_cons]
      cases f == g with
      | true => exact .inr ⟨d, v, rfl, rfl, a⟩
      | false => exact RDF.lookup f b
theorem RDF.lookup_isSome {ρ : List Addr} {F : Hp} {f : Str} {fs : List (Str × D)} {us : List (Str × V)} (h : RDF W ρ F fs us) : (fs.lookup f).isSome = (us.lookup f).isSome := by
  rcases h.lookup f with ⟨e1, e2⟩ | ⟨_, _, e1, e2, _⟩ <;> rw [e1, e2] <;> rfl
theorem KW.at {a : Addr} {us : List (Str × V)} (h : KW W a us) (z : Str) : ∃ r, PySem.W.nsIn W.K a z = some r ∧ r.isSome = (us.lookup z).isSome ∧ ∀ v, us.lookup z = some v → ∃ u, r = some u ∧ RelV v u := by
  have q := h.2 z
  cases e : us.lookup z with
  | none => rw [e] at q; exact ⟨none, q, rfl, fun v k => nomatch k⟩
  | some v =>
    rw [e] at q
    obtain ⟨u, h1, h2⟩ := q
    exact ⟨some u, h1, rfl, fun v' k => ⟨u, rfl, by cases k; exact h2⟩⟩
theorem op_inKW (hK : X.K = W.K) (hw : X.w = W.w) : OpR X (compareOp .In) (fun x y H Q => ∃ a us z, y = .ref a ∧ KW W a us ∧ x = .str z ∧ Q (.bl (us.lookup z).isSome) H) := by
  intro pins s σ H x y v u Q I rx ry h
  obtain ⟨a, us, z, rfl, k, rfl, q⟩ := h
  obtain ⟨r, h1, h2, _⟩ := k.at z
  obtain ⟨⟨es, n, h3, h4, h5⟩, _⟩ := k
  rw [← hK] at h1 h3
  rw [← hw] at h4
  exact op_in_kd (es := es) (n := n) ⟨h3, h4, h5⟩ pins s σ H _ _ v u Q I rx ry ⟨z, r, rfl, rfl, h1, by rw [h2]; exact q⟩
theorem op_notInKW (hK : X.K = W.K) (hw : X.w = W.w) : OpR X (compareOp .NotIn) (fun x y H Q => ∃ a us z, y = .ref a ∧ KW W a us ∧ x = .str z ∧ Q (.bl (!(us.lookup z).isSome)) H) := by
  intro pins s σ H x y v u Q I rx ry h
  obtain ⟨a, us, z, rfl, k, rfl, q⟩ := h
  obtain ⟨r, h1, h2, _⟩ := k.at z
  obtain ⟨⟨es, n, h3, h4, h5⟩, _⟩ := k
  rw [← hK] at h1 h3
  rw [← hw] at h4
  exact op_notIn_kd (es := es) (n := n) ⟨h3, h4, h5⟩ pins s σ H _ _ v u Q I rx ry ⟨z, r, rfl, rfl, h1, by rw [h2]; exact q⟩
/-- what stands where: for in, not in -/
theorem inV_ok {G : Hp} {ρ : List Addr} {F : Hp} {S : Store} {H : Hp} {d e : D} {x y : V} {b : Bool} (s : StOk W G ρ F S H) (rx : RD W ρ F d x) (ry : RD W ρ F e y) (h : inV d e S = some b) :
    (∃ (c : Nat) (z : Str), x = .str ⟨#[c]⟩ ∧ y = .str z ∧ b = decide (c ∈ z.cps.toList)) ∨
    (∃ a o, y = .ref a ∧ DGet H a x o ∧ b = o.isSome) ∨
    (∃ a us z, y = .ref a ∧ KW W a us ∧ x = .str z ∧ b = (us.lookup z).isSome) ∨
    (∃ p xs, y = .ref p ∧ (SqL W.K H p xs ∨ SqT W.K H p xs) ∧ flatV x = true ∧ xs.all flatV = true ∧ b = L2.inV x xs) ∨
    (∃ u us, Dp W.K H x u ∧ Dp W.K H y (.list us) ∧ SeqAt.shaped u = true ∧ SeqAt.shaped (.list us) = true ∧ b = us.any fun z => PyData.eqv z u) := by
  by_cases hs : ∃ z, e = .str z
  · obtain ⟨z, rfl⟩ := hs
    cases ry
    cases d <;> first | (cases h; done) | skip
    rename_i w
    cases rx
    simp only [inV] at h
    split at h
    · rename_i c hc
      cases h
      refine .inl ⟨c, z, ?_, rfl, rfl⟩
      have : w = ⟨#[c]⟩ := by
        obtain ⟨cps⟩ := w
        have h2 : cps = #[c] := by
          apply Array.toList_inj.mp
          rw [hc]
        rw [h2]
      rw [this]
    · cases h
  · by_cases hk : ∃ fs, e = .kd fs
    · obtain ⟨fs, rfl⟩ := hk
      cases d <;> first | (cases h; done) | skip
      cases h
      cases rx
      cases ry with
      | kd a c => exact .inr (.inr (.inl ⟨_, _, _, rfl, a, rfl, by rw [c.lookup_isSome]⟩))
    have h' : (match dctOf S e with
      | some kvs => if okKey kvs d then some (getK kvs d).isSome else none
      | none => match e with
        | .tup xs => if flatD d && xs.all flatD then (match pd d, pds xs with
          | some d, some ds => some (ds.any fun z => PyData.eqv z d)
          | _, _ => none) else none
        | b => match lstOf S b with
          | some xs => match pd d, pds xs with
            | some d, some ds => if SeqAt.shaped d && SeqAt.shaped (.list ds) then some (ds.any fun z => PyData.eqv z d) else none
            | _, _ => none
          | none => none) = some b := by
      cases e <;> first | exact h | exact absurd ⟨_, rfl⟩ hs | exact absurd ⟨_, rfl⟩ hk
    cases hd : dctOf S e with
    | some kvs =>
      rw [hd] at h'
      simp only at h'
      split at h'
      · rename_i ok
        cases h'
        obtain ⟨a, us, rfl, h1, h2⟩ := dctOf_ok s ry hd
        obtain ⟨j, hj⟩ : ∃ j, kFlat d = some j := Option.isSome_iff_exists.mp ok
        refine .inr (.inl ⟨a, valV us j, rfl, .inl ⟨us, j, h1, kFlat_V hj rx, rfl⟩, ?_⟩)
        rcases h2.get hj with ⟨e1, e2⟩ | ⟨_, _, e1, e2, _⟩ <;> rw [e1, e2] <;> rfl
      · cases h'
    | none =>
      rw [hd] at h'
      by_cases ht : ∃ xs, e = .tup xs
      · obtain ⟨xs, rfl⟩ := ht
        simp only at h'
        split at h'
        · rename_i f
          rw [Bool.and_eq_true] at f
          split at h'
          · rename_i u us e1 e2
            cases h'
            cases ry with
            | tup a r =>
              obtain ⟨h3, h4⟩ := flat_any f.1 rx e1 f.2 r e2
              refine .inr (.inr (.inr (.inl ⟨_, _, rfl, .inr (SqT.sub s.rd a), ?_, h3, h4⟩)))
              cases d <;> first | (cases f.1; done) | (cases rx; rfl)
          · cases h'
        · cases h'
      · have h2 : (match lstOf S e with
          | some xs => match pd d, pds xs with
            | some d, some ds => if SeqAt.shaped d && SeqAt.shaped (.list ds) then some (ds.any fun z => PyData.eqv z d) else none
            | _, _ => none
          | none => none) = some b := by
          cases e <;> first | exact h' | exact absurd ⟨_, rfl⟩ ht
        cases hl : lstOf S e with
        | none => rw [hl] at h2; cases h2
        | some xs =>
          rw [hl] at h2
          simp only at h2
          split at h2
          · rename_i u us e1 e2
            split at h2
            · rename_i c
              rw [Bool.and_eq_true] at c
              cases h2
              obtain ⟨a, vs, rfl, h3, h4⟩ := lstOf_ok s ry hl
              exact .inr (.inr (.inr (.inr ⟨u, us, rx.dp s.rd e1, .lst (.inl h3) (RDs.dp s.rd h4 e2), c.1, c.2, rfl⟩)))
            · cases h2
          · cases h2
theorem dictEq_ok {G : Hp} {ρ : List Addr} {F : Hp} {S : Store} {H : Hp} {d e : D} {x y : V} {b : Bool} (s : StOk W G ρ F S H) (rx : RD W ρ F d x) (ry : RD W ρ F e y) (h : dictEq d e = some b) :
    b = true ∧ ∃ a a' ks ls, x = .ref a ∧ y = .ref a' ∧ Rd H a (.dK ks) ∧ Rd H a' (.dK ls) ∧ ks.length = ls.length ∧ ∀ p ∈ ks, valV ls p.1 = some p.2 ∧ flatB p.2 = true := by
  cases d <;> first | (cases h; done) | skip
  cases e <;> first | (cases h; done) | skip
  simp only [dictEq] at h
  split at h
  · rename_i c
    simp only [Bool.and_eq_true, decide_eq_true_eq] at c
    cases h
    cases rx with
    | dK a1 t1 =>
      cases ry with
      | dK a2 t2 =>
        exact ⟨rfl, _, _, _, _, rfl, rfl, s.rd _ _ trivial a1, s.rd _ _ trivial a2, by rw [← RDK.length t1, ← RDK.length t2]; exact c.1, RDK.eqs t2 t1 c.2.2.2⟩
  · cases h
def rEqZ (ne : Bool) : R2 := fun x y H Q => ∃ a b ks ls, x = .ref a ∧ y = .ref b ∧ Rd H a (.dK ks) ∧ Rd H b (.dK ls) ∧ ks.length = ls.length ∧ (∀ p ∈ ks, valV ls p.1 = some p.2 ∧ flatB p.2 = true) ∧ Q (.bl (!ne)) H
theorem op_eq_dictZ (hu : X.A.units < cLine) : OpR X (compareOp .Eq) (rEqZ false) := by
  intro pins s σ H x y v u Q I rx ry h
  obtain ⟨a, b, ks, ls, rfl, rfl, ea, eb, hlen, hp, q⟩ := h
  obtain rfl : v = Value.ref a := rx
  obtain rfl : u = Value.ref b := ry
  obtain ⟨_, ya, va, ra, da⟩ := (show ObjOk X.prog X.w H s.heap a (.dK ks) from ea.ok I.hok)
  obtain ⟨_, yb, vb, rb, db⟩ := (show ObjOk X.prog X.w H s.heap b (.dK ls) from eb.ok I.hok)
  have hl : va.length = vb.length := by rw [← ra.length, ← rb.length]; exact hlen
  exact PySem.W.keq_eq (knd := mixKind X.prog X.w) (r := true) ya yb da db hu (fun _ => hits_all rb ra hp) (fin_bl I q (by simp [hl]))
theorem op_ne_dictZ (hu : X.A.units < cLine) : OpR X (compareOp .NotEq) (rEqZ true) := by
  intro pins s σ H x y v u Q I rx ry h
  obtain ⟨a, b, ks, ls, rfl, rfl, ea, eb, hlen, hp, q⟩ := h
  obtain rfl : v = Value.ref a := rx
  obtain rfl : u = Value.ref b := ry
  obtain ⟨_, ya, va, ra, da⟩ := (show ObjOk X.prog X.w H s.heap a (.dK ks) from ea.ok I.hok)
  obtain ⟨_, yb, vb, rb, db⟩ := (show ObjOk X.prog X.w H s.heap b (.dK ls) from eb.ok I.hok)
  have hl : va.length = vb.length := by rw [← ra.length, ← rb.length]; exact hlen
  exact PySem.W.keq_ne (knd := mixKind X.prog X.w) (r := true) ya yb da db hu (fun _ => hits_all rb ra hp) (fin_bl I q (by simp [hl]))
theorem OpR.orZ {f : Value → Value → Sem Value} {r r' : R2} (h : OpR X f r) (h' : OpR X f r') : OpR X f (fun x y H Q => r x y H Q ∨ r' x y H Q) :=
  fun pins s σ H x y v u Q I rx ry q => q.elim (h pins s σ H x y v u Q I rx ry) (h' pins s σ H x y v u Q I rx ry)
theorem cmp_ok (hK : X.K = W.K) (hw : X.w = W.w) (hu : X.A.units + 65 < cLine) (op : COp) : OpR X (compareOp op.py) (rC W (cmpV op)) := by
  cases op with
  | eq =>
    refine OpR.imp (OpR.orZ (op_eqD (by omega)) (op_eq_dictZ (by omega))) fun x y H Q h => ?_
    obtain ⟨G, ρ, F, S, d, e, b, s, rx, ry, p, q⟩ := h
    rcases pyEq_ok s rx ry p with ⟨u, v, h1, h2, h3, h4, rfl⟩ | hd
    · exact .inl ⟨u, v, by rw [hK]; exact h1, by rw [hK]; exact h2, h3, h4, q⟩
    · obtain ⟨rfl, a, a', ks, ls, rfl, rfl, h1, h2, h3, h4⟩ := dictEq_ok s rx ry hd
      exact .inr ⟨a, a', ks, ls, rfl, rfl, h1, h2, h3, h4, q⟩
  | ne =>
    refine OpR.imp (OpR.orZ (op_neD (by omega)) (op_ne_dictZ (by omega))) fun x y H Q h => ?_
    obtain ⟨G, ρ, F, S, d, e, b, s, rx, ry, p, q⟩ := h
    simp only [cmpV, Option.map_eq_some_iff] at p
    obtain ⟨c, p, rfl⟩ := p
    rcases pyEq_ok s rx ry p with ⟨u, v, h1, h2, h3, h4, rfl⟩ | hd
    · exact .inl ⟨u, v, by rw [hK]; exact h1, by rw [hK]; exact h2, h3, h4, q⟩
    · obtain ⟨rfl, a, a', ks, ls, rfl, rfl, h1, h2, h3, h4⟩ := dictEq_ok s rx ry hd
      exact .inr ⟨a, a', ks, ls, rfl, rfl, h1, h2, h3, h4, q⟩
  | lt =>
    refine OpR.imp op_lt fun x y H Q h => ?_
    obtain ⟨G, ρ, F, S, d, e, b, s, rx, ry, p, q⟩ := h
    cases d <;> cases e <;> first | (cases p; done) | skip
    cases rx; cases ry; cases p
    exact ⟨_, _, rfl, rfl, q⟩
  | le =>
    refine OpR.imp op_le fun x y H Q h => ?_
    obtain ⟨G, ρ, F, S, d, e, b, s, rx, ry, p, q⟩ := h
    cases d <;> cases e <;> first | (cases p; done) | skip
    cases rx; cases ry; cases p
    exact ⟨_, _, rfl, rfl, q⟩
  | gt =>
    refine OpR.imp op_gt fun x y H Q h => ?_
    obtain ⟨G, ρ, F, S, d, e, b, s, rx, ry, p, q⟩ := h
    cases d <;> cases e <;> first | (cases p; done) | skip
    cases rx; cases ry; cases p
    exact ⟨_, _, rfl, rfl, q⟩
  | ge =>
    refine OpR.imp op_ge fun x y H Q h => ?_
    obtain ⟨G, ρ, F, S, d, e, b, s, rx, ry, p, q⟩ := h
    cases d <;> cases e <;> first | (cases p; done) | skip
    cases rx; cases ry; cases p
    exact ⟨_, _, rfl, rfl, q⟩
  | is =>
    refine OpR.imp (op_isN.or op_is_bl) fun x y H Q h => ?_
    obtain ⟨G, ρ, F, S, d, e, b, s, rx, ry, p, q⟩ := h
    cases e <;> first | (cases p; done) | skip
    · cases ry; cases p
      exact .inl ⟨rfl, by rw [← rx.isNon]; exact q⟩
    · cases d <;> first | (cases p; done) | skip
      cases rx; cases ry; cases p
      exact .inr ⟨_, _, rfl, rfl, q⟩
  | isnot =>
    refine OpR.imp (op_notN.or op_isnot_bl) fun x y H Q h => ?_
    obtain ⟨G, ρ, F, S, d, e, b, s, rx, ry, p, q⟩ := h
    cases e <;> first | (cases p; done) | skip
    · cases ry; cases p
      exact .inl ⟨rfl, by rw [← rx.isNon]; exact q⟩
    · cases d <;> first | (cases p; done) | skip
      cases rx; cases ry; cases p
      exact .inr ⟨_, _, rfl, rfl, q⟩
  | in_ =>
    refine OpR.imp (op_in_sign.or ((op_inDict (by omega)).or ((op_inKW (W := W) hK hw).or (op_in_seq.or (op_inD (by omega)))))) fun x y H Q h => ?_
    obtain ⟨G, ρ, F, S, d, e, b, s, rx, ry, p, q⟩ := h
    rw [hK]
    rcases inV_ok s rx ry p with ⟨c, z, rfl, rfl, rfl⟩ | ⟨a, o, rfl, g, rfl⟩ | ⟨a, us, z, rfl, k, rfl, rfl⟩ | ⟨a, xs, rfl, h1, h2, h3, rfl⟩ | ⟨u, us, h1, h2, h3, h4, rfl⟩
    · exact .inl ⟨c, z, rfl, rfl, q⟩
    · exact .inr (.inl ⟨a, o, rfl, g, q⟩)
    · exact .inr (.inr (.inl ⟨a, us, z, rfl, k, rfl, q⟩))
    · exact .inr (.inr (.inr (.inl ⟨a, xs, rfl, h1, h2, h3, q⟩)))
    · exact .inr (.inr (.inr (.inr ⟨u, us, h1, h2, h3, h4, q⟩)))
  | notin =>
    refine OpR.imp (op_notIn_sign.or ((op_notInDict (by omega)).or ((op_notInKW (W := W) hK hw).or (op_notIn_seq.or (op_notInD (by omega)))))) fun x y H Q h => ?_
    obtain ⟨G, ρ, F, S, d, e, b, s, rx, ry, p, q⟩ := h
    rw [hK]
    simp only [cmpV, Option.map_eq_some_iff] at p
    obtain ⟨c, p, rfl⟩ := p
    rcases inV_ok s rx ry p with ⟨c, z, rfl, rfl, rfl⟩ | ⟨a, o, rfl, g, rfl⟩ | ⟨a, us, z, rfl, k, rfl, rfl⟩ | ⟨a, xs, rfl, h1, h2, h3, rfl⟩ | ⟨u, us, h1, h2, h3, h4, rfl⟩
    · exact .inl ⟨c, z, rfl, rfl, q⟩
    · exact .inr (.inl ⟨a, o, rfl, g, q⟩)
    · exact .inr (.inr (.inl ⟨a, us, z, rfl, k, rfl, q⟩))
    · exact .inr (.inr (.inr (.inl ⟨a, xs, rfl, h1, h2, h3, q⟩)))
    · exact .inr (.inr (.inr (.inr ⟨u, us, h1, h2, h3, h4, q⟩)))

/-! ### truth -/
theorem tru_dict : TruR X (fun x H Q => ∃ a us, x = .ref a ∧ Rd H a (.dK us) ∧ Q (!us.isEmpty) H) := by
  intro pins s σ H x v Q I rx h
  obtain ⟨a, us, rfl, e, q⟩ := h
  cases rx
  exact d_truth I e fun s' I' => ⟨H, I', q⟩
theorem truV_ok {G : Hp} {ρ : List Addr} {F : Hp} {S : Store} {H : Hp} {d : D} {x : V} {b : Bool} (s : StOk W G ρ F S H) (r : RD W ρ F d x) (h : truV d S = some b) : TruV W.K x H b ∨ ∃ a us, x = .ref a ∧ Rd H a (.dK us) ∧ b = !us.isEmpty := by
  have em : ∀ {ds : List D} {vs : List V}, RDs W ρ F ds vs → ds.isEmpty = vs.isEmpty := fun h => by cases h <;> rfl
  have emK : ∀ {ds : List (D × D)} {vs : List (Key × V)}, RDK W ρ F ds vs → ds.isEmpty = vs.isEmpty := fun h => by cases h <;> rfl
  cases d with
  | non => cases r; cases h; exact .inl rfl
  | bl => cases r; cases h; exact .inl rfl
  | int => cases r; cases h; exact .inl rfl
  | str z =>
    cases r
    simp only [truV] at h
    split at h
    · rename_i hz
      cases h
      refine .inl ⟨hz, ?_⟩
      cases z.length <;> simp <;> omega
    · cases h
  | tup xs =>
    cases r with
    | tup a t =>
      cases h
      exact .inl (.inr (.inl ⟨_, SqT.sub s.rd a, by rw [em t]⟩))
  | lst xs =>
    cases r with
    | lst a t =>
      cases h
      exact .inl (.inl ⟨_, .inl (s.rd _ _ trivial a), by rw [em t]⟩)
  | dct xs =>
    cases r with
    | dK a t =>
      cases h
      exact .inr ⟨_, _, rfl, s.rd _ _ trivial a, by rw [emK t]⟩
  | ref l =>
    simp only [truV] at h
    cases q : objAt S l with
    | none => rw [q] at h; cases h
    | some o =>
      rw [q] at h
      cases o with
      | lst xs =>
        cases h
        obtain ⟨a, vs, rfl, h1, h2⟩ := lstOf_ok s r (show lstOf S (.ref l) = some xs by simp [lstOf, q])
        exact .inl (.inl ⟨vs, .inl h1, by rw [em h2]⟩)
      | dct xs =>
        cases h
        obtain ⟨a, vs, rfl, h1, h2⟩ := dctOf_ok s r (show dctOf S (.ref l) = some xs by simp [dctOf, q])
        exact .inr ⟨a, vs, rfl, h1, by rw [emK h2]⟩
      | ins c fs => cases h
  | _ => cases h
def rT (W : Fx) (f : D → Store → Option Bool) : V → Hp → (Bool → Hp → Prop) → Prop := fun x H Q => ∃ G ρ F S d b, StOk W G ρ F S H ∧ RD W ρ F d x ∧ f d S = some b ∧ Q b H
theorem tru_E (hK : X.K = W.K) : TruR X (rT W truV) := by
  intro pins s σ H x v Q I rx h
  obtain ⟨G, ρ, F, S, d, b, st, r, e, q⟩ := h
  rcases truV_ok st r e with h | ⟨a, us, rfl, h1, rfl⟩
  · exact tru_ok pins s σ H x v Q I rx ⟨b, by rw [hK]; exact h, q⟩
  · exact tru_dict pins s σ H _ v Q I rx ⟨a, us, rfl, h1, q⟩

/-! ### subscripts -/
theorem ix_dict (hu : X.A.units + 1 < cLine) : IxR X (fun x y H Q => ∃ a v, x = .ref a ∧ DGet H a y (some v) ∧ Q v H) := by
  intro value slice pins s σ H x y v u Q I rx ry h hs
  obtain ⟨a, r, rfl, g, q⟩ := h
  obtain rfl : v = Value.ref a := rx
  exact tail_any (dict_typeIs I g) slot_dict_getitem.lookup (d_getItem hu I g ry fun w' s3 I3 rw' => ⟨r, H, I3, rw', q⟩) hs
theorem ix_KW (hK : X.K = W.K) (hw : X.w = W.w) : IxR X (fun x y H Q => ∃ a us z v, x = .ref a ∧ KW W a us ∧ y = .str z ∧ us.lookup z = some v ∧ Q v H) := by
  intro value slice pins s σ H x y v u Q I rx ry h hs
  obtain ⟨a, us, z, r, rfl, k, rfl, e, q⟩ := h
  obtain ⟨r0, h1, h2, h3⟩ := k.at z
  obtain ⟨u0, rfl, ru⟩ := h3 r e
  obtain ⟨⟨es, n, h4, h5, h6⟩, _⟩ := k
  rw [← hK] at h1 h4
  rw [← hw] at h5
  exact ix_kdict value slice pins s σ H _ _ v u Q I rx ry ⟨a, z, r, rfl, rfl, ⟨es, n, u0, h4, h5, h1, ru⟩, q⟩ hs
theorem IxR.imp {X : Cx} {r r' : R2} (h : IxR X r) (i : ∀ x y H Q, r' x y H Q → r x y H Q) : IxR X r' := fun value slice pins s σ H x y v u Q I rx ry q hs => h value slice pins s σ H x y v u Q I rx ry (i _ _ _ _ q) hs
theorem ixN_at {α : Type} {xs : List α} {i : Int} {x : α} (h : atI xs i = some x) : ∃ j, ixN xs.length i = some j ∧ xs[j]? = some x := by
  unfold atI at h
  cases e : ixN xs.length i with
  | none => rw [e] at h; cases h
  | some j => rw [e] at h; exact ⟨j, rfl, h⟩
theorem RDs.atI {ρ : List Addr} {F : Hp} {ds : List D} {vs : List V} {i : Int} {d : D} (r : RDs W ρ F ds vs) (h : L2.atI ds i = some d) : ∃ v, L2.atI vs i = some v ∧ RD W ρ F d v := by
  obtain ⟨j, h1, h2⟩ := ixN_at h
  obtain ⟨v, h3, h4⟩ := r.get h2
  refine ⟨v, ?_, h4⟩
  unfold L2.atI
  rw [← r.length, h1]
  exact h3
theorem idx_ok (hK : X.K = W.K) (hw : X.w = W.w) (hu : X.A.units + 1 < cLine) : IxR X (rE W fun a i S => R.of (idxV a i S) S) := by
  refine IxR.imp (ix_seq.or ((ix_dict hu).or (ix_KW hK hw))) fun x y H Q h => ?_
  obtain ⟨G, ρ, F, S, d, e, s, rx, ry, p⟩ := h
  rw [hK]
  replace p : Post (RD W) W G ρ F (R.of (idxV d e S) S) Q := p
  cases hd : idxV d e S with
  | none => rw [hd] at p; exact p.elim
  | some z =>
    rw [hd] at p
    have fin : ∀ {v : V}, RD W ρ F z v → Q v H := fun r => p.fin s r
    by_cases hs : ∃ w j, d = .str w ∧ e = .int j
    · obtain ⟨w, j, rfl, rfl⟩ := hs
      cases rx; cases ry
      simp only [idxV] at hd
      split at hd
      · rename_i hz
        simp only [Option.map_eq_some_iff] at hd
        obtain ⟨c, hc, rfl⟩ := hd
        exact .inl (.inr (.inr ⟨w, j, c, rfl, rfl, hz, hc, fin (.str _)⟩))
      · cases hd
    · by_cases hk : ∃ fs w, d = .kd fs ∧ e = .str w
      · obtain ⟨fs, w, rfl, rfl⟩ := hk
        cases ry
        cases rx with
        | kd a c =>
          rcases c.lookup w with ⟨e1, _⟩ | ⟨d', v, e1, e2, r⟩
          · simp only [idxV] at hd; rw [e1] at hd; cases hd
          · simp only [idxV] at hd; rw [e1] at hd; cases hd
            exact .inr (.inr ⟨_, _, w, v, rfl, a, rfl, e2, fin r⟩)
      · have hd' : (match seqOf S d with
          | some xs => match e with
            | .int j => L2.atI xs j
            | _ => none
          | none => match dctOf S d with
            | some kvs => if okKey kvs e then getK kvs e else none
            | none => none) = some z := by
          revert hd
          cases d <;> cases e <;> first | exact id | exact fun _ => absurd ⟨_, _, rfl, rfl⟩ hs | exact fun _ => absurd ⟨_, _, rfl, rfl⟩ hk
        cases hq : seqOf S d with
        | some xs =>
          rw [hq] at hd'
          simp only at hd'
          cases e <;> first | (cases hd'; done) | skip
          rename_i j
          cases ry
          obtain ⟨a, vs, rfl, h1, h2⟩ := seqOf_ok s rx hq
          obtain ⟨v, h3, h4⟩ := h2.atI hd'
          rcases h1 with h1 | h1
          · exact .inl (.inl ⟨a, vs, j, v, rfl, rfl, h1, h3, fin h4⟩)
          · exact .inl (.inr (.inl ⟨a, vs, j, v, rfl, rfl, h1, h3, fin h4⟩))
        | none =>
          rw [hq] at hd'
          simp only at hd'
          cases hc : dctOf S d with
          | none => rw [hc] at hd'; cases hd'
          | some kvs =>
            rw [hc] at hd'
            simp only at hd'
            split at hd'
            · rename_i ok
              obtain ⟨a, us, rfl, h1, h2⟩ := dctOf_ok s rx hc
              obtain ⟨j, hj⟩ : ∃ j, kFlat e = some j := Option.isSome_iff_exists.mp ok
              rcases h2.get hj with ⟨e1, _⟩ | ⟨d', v, e1, e2, r⟩
              · rw [e1] at hd'; cases hd'
              · rw [e1] at hd'; cases hd'
                exact .inr (.inl ⟨a, v, rfl, .inl ⟨us, j, h1, kFlat_V hj ry, e2.symm⟩, fin r⟩)
            · cases hd'
theorem slc_ok (hK : X.K = W.K) (ow : Bool) : SlR X (fun x lo hi H Q => ∃ G ρ F S d, StOk W G ρ F S H ∧ RD W ρ F d x ∧ Post (RD W) W G ρ F (slcV ow d lo hi S) Q) := by
  have all := sl_str (X := X) |>.or (sl_tupA (X := X) |>.or (sl_list (X := X)))
  intro pins s σ H x v vl vu lo hi sl Q I rx hs pl pu h
  refine all pins s σ H x v vl vu lo hi sl Q I rx hs pl pu ?_
  obtain ⟨G, ρ, F, S, d, st, r, p⟩ := h
  rw [hK]
  by_cases h1 : ∃ z, d = .str z
  · obtain ⟨z, rfl⟩ := h1
    cases r
    simp only [slcV] at p
    split at p
    · rename_i hz
      exact .inl ⟨z, rfl, hz, p.fin st (.str _)⟩
    · exact p.elim
  · by_cases h2 : ∃ z, d = .tup z
    · obtain ⟨xs, rfl⟩ := h2
      cases r with
      | tup a t =>
        rename_i vs
        refine .inr (.inl ⟨_, vs, rfl, SqT.sub st.rd a, fun hw => ?_, fun _ => mkT_ok st (cut_ok t lo hi) p⟩)
        have e : cut xs lo hi = xs := by
          unfold cut
          rw [t.length, hw.1, hw.2, ← t.length]
          simp
        simp only [slcV, e] at p
        exact p.fin st (.tup a t)
    · have p' : Post (RD W) W G ρ F (match lstOf S d with
        | some xs => mkL ow (cut xs lo hi) S
        | none => .bad) Q := by
        cases d <;> first | exact p | exact absurd ⟨_, rfl⟩ h1 | exact absurd ⟨_, rfl⟩ h2
      split at p'
      · rename_i xs e
        obtain ⟨a, vs, rfl, h3, h4⟩ := lstOf_ok st r e
        exact .inr (.inr ⟨a, vs, rfl, .inl h3, (mkL_ok st (cut_ok h4 lo hi) p').2⟩)
      · exact p'.elim
end
end Z

/-! Z6: built-in functions by value. -/
namespace Z
open PySem PySem.Spec L2
open PyProof.Rows hiding St
/-! ### sorting -/
def insI (x : Int) : List Int → List Int
  | [] => [x]
  | y :: ys => if x < y then x :: y :: ys else y :: insI x ys
def srtI : List Int → List Int
  | [] => []
  | x :: xs => insI x (srtI xs)
theorem insI_D (x : Int) : ∀ ys : List Int, insD (.int x) (ys.map D.int) = (insI x ys).map D.int
  | [] => rfl
  | y :: ys => by
    simp only [List.map_cons, insD, insI, ltD]
    by_cases h : x < y
    · simp [h]
    · simp only [h, decide_false, Bool.false_eq_true, if_false, List.map_cons]; rw [insI_D x ys]
theorem srtI_D : ∀ ys : List Int, sortD (ys.map D.int) = (srtI ys).map D.int
  | [] => rfl
  | y :: ys => by simp only [List.map_cons, sortD, srtI]; rw [srtI_D ys, insI_D]
theorem insI_perm (x : Int) : ∀ ys : List Int, (insI x ys).Perm (x :: ys)
  | [] => .refl _
  | y :: ys => by
    unfold insI
    split
    · exact .refl _
    · exact ((insI_perm x ys).cons y).trans (.swap x y ys)
theorem srtI_perm : ∀ ys : List Int, (srtI ys).Perm ys
  | [] => .refl _
  | y :: ys => (insI_perm y _).trans ((srtI_perm ys).cons y)
theorem insI_srt (x : Int) : ∀ ys : List Int, ys.Pairwise (· ≤ ·) → (insI x ys).Pairwise (· ≤ ·)
  | [], _ => by simp [insI]
  | y :: ys, h => by
    unfold insI
    have h1 := List.pairwise_cons.mp h
    split
    · rename_i c
      refine List.pairwise_cons.mpr ⟨fun z hz => ?_, h⟩
      rcases List.mem_cons.mp hz with rfl | hz
      · omega
      · have := h1.1 z hz; omega
    · rename_i c
      refine List.pairwise_cons.mpr ⟨fun z hz => ?_, insI_srt x ys h1.2⟩
      rcases List.mem_cons.mp ((insI_perm x ys).mem_iff.mp hz) with rfl | hz
      · omega
      · exact h1.1 z hz
theorem srtI_srt : ∀ ys : List Int, (srtI ys).Pairwise (· ≤ ·)
  | [] => .nil
  | y :: ys => insI_srt y _ (srtI_srt ys)
theorem srtI_uniq {ns ms : List Int} (p : ms.Perm ns) (h : ms.Pairwise (· ≤ ·)) : ms = srtI ns :=
  List.Perm.eq_of_pairwise (le := (· ≤ ·)) (fun a b _ _ h1 h2 => Int.le_antisymm h1 h2) h (srtI_srt ns) (p.trans (srtI_perm ns).symm)

/-! texts -/
def ltS (x y : Str) : Bool := ltCps x.cps.toList y.cps.toList
theorem ltCps_irrefl : ∀ a : List Nat, ltCps a a = false
  | [] => rfl
  | a :: r => by simp [ltCps, ltCps_irrefl r]
theorem ltCps_trans : ∀ {a b c : List Nat}, ltCps a b = true → ltCps b c = true → ltCps a c = true
  | [], [], _, h, _ => by cases h
  | [], _ :: _, [], _, h => by cases h
  | [], _ :: _, _ :: _, _, _ => rfl
  | _ :: _, [], _, h, _ => by cases h
  | _ :: _, _ :: _, [], _, h => by cases h
  | x :: a, y :: b, z :: c, h1, h2 => by
    simp only [ltCps, Bool.or_eq_true, decide_eq_true_eq, Bool.and_eq_true, beq_iff_eq] at h1 h2 ⊢
    rcases h1 with h1 | ⟨e1, h1⟩ <;> rcases h2 with h2 | ⟨e2, h2⟩
    · exact .inl (by omega)
    · exact .inl (by omega)
    · exact .inl (by omega)
    · exact .inr ⟨e1.trans e2, ltCps_trans h1 h2⟩
theorem ltCps_tri : ∀ {a b : List Nat}, ltCps a b = false → ltCps b a = false → a = b
  | [], [], _, _ => rfl
  | [], _ :: _, h, _ => by cases h
  | _ :: _, [], _, h => by cases h
  | x :: a, y :: b, h1, h2 => by
    simp only [ltCps, Bool.or_eq_false_iff, decide_eq_false_iff_not, Bool.and_eq_false_imp, beq_iff_eq] at h1 h2
    have e : x = y := by omega
    subst e
    rw [ltCps_tri (h1.2 rfl) (h2.2 rfl)]
theorem leS_trans {a b c : Str} (h1 : ltS b a = false) (h2 : ltS c b = false) : ltS c a = false := by
  unfold ltS at *
  cases h : ltCps c.cps.toList a.cps.toList with
  | false => rfl
  | true =>
    by_cases e : ltCps a.cps.toList b.cps.toList = true
    · rw [ltCps_trans h e] at h2; cases h2
    · have e' : ltCps a.cps.toList b.cps.toList = false := by simpa using e
      rw [ltCps_tri e' h1] at h
      rw [h] at h2; cases h2
theorem leS_anti {a b : Str} (h1 : ltS b a = false) (h2 : ltS a b = false) : a = b := by
  have := ltCps_tri h2 h1
  cases a; cases b
  simp only [Str.mk.injEq]
  exact Array.toList_inj.mp this
def insS (x : Str) : List Str → List Str
  | [] => [x]
  | y :: ys => if ltS x y then x :: y :: ys else y :: insS x ys
def srtS : List Str → List Str
  | [] => []
  | x :: xs => insS x (srtS xs)
theorem insS_D (x : Str) : ∀ ys : List Str, insD (.str x) (ys.map D.str) = (insS x ys).map D.str
  | [] => rfl
  | y :: ys => by
    simp only [List.map_cons, insD, insS, ltD]
    show (if ltS x y then _ else _) = _
    by_cases h : ltS x y = true
    · simp [h]
    · simp only [h, Bool.false_eq_true, if_false, List.map_cons]; rw [insS_D x ys]
theorem srtS_D : ∀ ys : List Str, sortD (ys.map D.str) = (srtS ys).map D.str
  | [] => rfl
  | y :: ys => by simp only [List.map_cons, sortD, srtS]; rw [srtS_D ys, insS_D]
theorem insS_perm (x : Str) : ∀ ys : List Str, (insS x ys).Perm (x :: ys)
  | [] => .refl _
  | y :: ys => by
    unfold insS
    split
    · exact .refl _
    · exact ((insS_perm x ys).cons y).trans (.swap x y ys)
theorem srtS_perm : ∀ ys : List Str, (srtS ys).Perm ys
  | [] => .refl _
  | y :: ys => (insS_perm y _).trans ((srtS_perm ys).cons y)
theorem ltS_asymm {x y : Str} (c : ltS x y = true) : ltS y x = false := by
  cases h : ltS y x with
  | false => rfl
  | true =>
    have h1 := ltCps_irrefl x.cps.toList
    rw [ltCps_trans c h] at h1; cases h1
theorem insS_srt (x : Str) : ∀ ys : List Str, ys.Pairwise (fun a b => ltS b a = false) → (insS x ys).Pairwise (fun a b => ltS b a = false)
  | [], _ => by simp [insS]
  | y :: ys, h => by
    unfold insS
    have h1 := List.pairwise_cons.mp h
    split
    · rename_i c
      refine List.pairwise_cons.mpr ⟨fun z hz => ?_, h⟩
      rcases List.mem_cons.mp hz with rfl | hz
      · exact ltS_asymm c
      · exact leS_trans (ltS_asymm c) (h1.1 z hz)
    · rename_i c
      refine List.pairwise_cons.mpr ⟨fun z hz => ?_, insS_srt x ys h1.2⟩
      rcases List.mem_cons.mp ((insS_perm x ys).mem_iff.mp hz) with rfl | hz
      · simpa using c
      · exact h1.1 z hz
theorem srtS_srt : ∀ ys : List Str, (srtS ys).Pairwise (fun a b => ltS b a = false)
  | [] => .nil
  | y :: ys => insS_srt y _ (srtS_srt ys)
theorem sortedS_pw : ∀ ys : List Str, sortedS ys = true → ys.Pairwise (fun a b => ltS b a = false) := by
  have key : ∀ (ys : List Str) (p : Str), risingS p ys = true → (p :: ys).Pairwise (fun a b => ltS b a = false) := by
    intro ys
    induction ys with
    | nil => intro p _; simp
    | cons y ys ih =>
      intro p h
      simp only [risingS, Bool.and_eq_true, Bool.not_eq_true'] at h
      have h2 := ih y h.2
      refine List.pairwise_cons.mpr ⟨fun z hz => ?_, h2⟩
      rcases List.mem_cons.mp hz with rfl | hz
      · exact h.1
      · exact leS_trans h.1 ((List.pairwise_cons.mp h2).1 z hz)
  intro ys h
  cases ys with
  | nil => exact .nil
  | cons y ys => exact key ys y h
theorem srtS_uniq {ns ms : List Str} (p : ms.Perm ns) (h : sortedS ms = true) : ms = srtS ns :=
  List.Perm.eq_of_pairwise (le := fun a b => ltS b a = false) (fun a b _ _ h1 h2 => leS_anti h1 h2) (sortedS_pw ms h) (srtS_srt ns) (p.trans (srtS_perm ns).symm)

section
variable {X : Cx} {W : Fx}
def rF (W : Fx) (f : List D → Store → R D) : List V → Hp → VK → Prop := fun xs H Q => ∃ G ρ F S ds, StOk W G ρ F S H ∧ RDs W ρ F ds xs ∧ Post (RD W) W G ρ F (f ds S) Q
theorem RDs.one {ρ : List Addr} {F : Hp} {d : D} {xs : List V} (h : RDs W ρ F [d] xs) : ∃ x, xs = [x] ∧ RD W ρ F d x := by
  cases h with | cons a b => cases b; exact ⟨_, rfl, a⟩
theorem RDs.two {ρ : List Addr} {F : Hp} {d e : D} {xs : List V} (h : RDs W ρ F [d, e] xs) : ∃ x y, xs = [x, y] ∧ RD W ρ F d x ∧ RD W ρ F e y := by
  cases h with | cons a b => cases b with | cons b c => cases c; exact ⟨_, _, rfl, a, b⟩
theorem CallR.no {f : Value} : CallR X f (fun _ _ _ => False) := fun _ _ _ _ _ _ _ _ _ h => h.elim
theorem call_lenDR : CallR X (.builtin "len") (fun xs H Q => ∃ a us, xs = [.ref a] ∧ Rd H a (.dK us) ∧ Q (.int us.length) H) := by
  intro pins s σ H xs us Q I r h
  obtain ⟨a, kvs, rfl, e, q⟩ := h
  obtain ⟨u, rfl, rx⟩ := vals1 r
  cases rx
  exact d_len I e fun t s' I' => ⟨.int _, H, I', ⟨t, rfl⟩, q⟩
theorem len_ok (hK : X.K = W.K) (ow : Bool) : CallR X (.builtin "len") (rF W (biV .len ow)) := by
  refine CallR.imp (call_len_str.or (call_len_seq.or call_lenDR)) fun xs H Q h => ?_
  obtain ⟨G, ρ, F, S, ds, s, r, p⟩ := h
  rw [hK]
  cases ds with
  | nil => exact p.elim
  | cons d ds =>
    cases ds with
    | cons _ _ => exact p.elim
    | nil =>
      obtain ⟨x, rfl, rx⟩ := r.one
      by_cases hs : ∃ z, d = .str z
      · obtain ⟨z, rfl⟩ := hs
        cases rx
        simp only [biV] at p
        split at p
        · rename_i hz
          exact .inl ⟨z, rfl, hz, p.fin s (.int _)⟩
        · exact p.elim
      · have p' : Post (RD W) W G ρ F (match seqOf S d with
          | some xs => .ok (.int xs.length) S
          | none => match dctOf S d with
            | some xs => .ok (.int xs.length) S
            | none => .bad) Q := by
          cases d <;> first | exact p | exact absurd ⟨_, rfl⟩ hs
        cases e : seqOf S d with
        | some ys =>
          rw [e] at p'
          obtain ⟨a, vs, rfl, h1, h2⟩ := seqOf_ok s rx e
          exact .inr (.inl ⟨a, vs, rfl, h1, by rw [← h2.length]; exact p'.fin s (.int _)⟩)
        | none =>
          rw [e] at p'
          simp only at p'
          cases e2 : dctOf S d with
          | none => rw [e2] at p'; exact p'.elim
          | some ys =>
            rw [e2] at p'
            obtain ⟨a, vs, rfl, h1, h2⟩ := dctOf_ok s rx e2
            exact .inr (.inr ⟨a, vs, rfl, h1, by rw [← h2.length]; exact p'.fin s (.int _)⟩)
theorem int_ok (ow : Bool) : CallR X (.type "int") (rF W (biV .int ow)) := by
  refine CallR.imp call_int1 fun xs H Q h => ?_
  obtain ⟨G, ρ, F, S, ds, s, r, p⟩ := h
  cases ds with
  | nil => exact p.elim
  | cons d ds =>
    cases ds with
    | cons _ _ => exact p.elim
    | nil =>
      obtain ⟨x, rfl, rx⟩ := r.one
      cases d <;> first | exact p.elim | skip
      · cases rx; exact .inr ⟨_, rfl, p.fin s (.int _)⟩
      · cases rx; exact .inl ⟨_, rfl, p.fin s (.int _)⟩
theorem str_ok (ow : Bool) : CallR X (.type "str") (rF W (biV .str ow)) := by
  refine CallR.imp call_str_int fun xs H Q h => ?_
  obtain ⟨G, ρ, F, S, ds, s, r, p⟩ := h
  cases ds with
  | nil => exact p.elim
  | cons d ds =>
    cases ds with
    | cons _ _ => exact p.elim
    | nil =>
      obtain ⟨x, rfl, rx⟩ := r.one
      cases d <;> first | exact p.elim | skip
      cases rx
      simp only [biV] at p
      split at p
      · rename_i c
        exact ⟨_, rfl, c, p.fin s (.str _)⟩
      · exact p.elim
theorem list_ok (hK : X.K = W.K) (hc : X.calm = true) (ow : Bool) : CallR X (.type "list") (rF W (biV .list ow)) := by
  refine CallR.imp (call_list_of.or (call_listD hc)) fun xs H Q h => ?_
  obtain ⟨G, ρ, F, S, ds, s, r, p⟩ := h
  rw [hK]
  cases ds with
  | nil => exact p.elim
  | cons d ds =>
    cases ds with
    | cons _ _ => exact p.elim
    | nil =>
      obtain ⟨x, rfl, rx⟩ := r.one
      simp only [biV] at p
      cases e : seqOf S d with
      | some ys =>
        rw [e] at p
        obtain ⟨a, vs, rfl, h1, h2⟩ := seqOf_ok s rx e
        exact .inl ⟨a, vs, rfl, h1, (mkL_ok s h2 p).2⟩
      | none =>
        rw [e] at p
        simp only at p
        cases e2 : dctOf S d with
        | none => simp only [keysOf, e2, Option.map_none] at p; exact p.elim
        | some ys =>
          simp only [keysOf, e2, Option.map_some] at p
          obtain ⟨a, us, rfl, h1, h2⟩ := dctOf_ok s rx e2
          exact .inr ⟨a, us, rfl, h1, (mkL_ok s h2.keys p).2⟩
theorem tuple_ok (hK : X.K = W.K) (ow : Bool) : CallR X (.type "tuple") (rF W (biV .tuple ow)) := by
  refine CallR.imp call_tuple_of fun xs H Q h => ?_
  obtain ⟨G, ρ, F, S, ds, s, r, p⟩ := h
  rw [hK]
  cases ds with
  | nil => exact p.elim
  | cons d ds =>
    cases ds with
    | cons _ _ => exact p.elim
    | nil =>
      obtain ⟨x, rfl, rx⟩ := r.one
      simp only [biV] at p
      cases e : seqOf S d with
      | none => rw [e] at p; exact p.elim
      | some ys =>
        rw [e] at p
        by_cases ht : ∃ zs, d = .tup zs
        · obtain ⟨zs, rfl⟩ := ht
          cases e
          cases rx with
          | tup a t => exact ⟨_, _, rfl, .inr ⟨SqT.sub s.rd a, p.fin s (.tup a t)⟩⟩
        · by_cases hs : ∃ zs, d = .scr zs
          · obtain ⟨zs, rfl⟩ := hs
            cases e
            cases rx with
            | scr a => exact ⟨_, _, rfl, .inl ⟨SqL.sub s.rd a, mkT_ok s (RDs.scr zs) p⟩⟩
          have e' : lstOf S d = some ys := by
            cases d <;> first | exact e | exact absurd ⟨_, rfl⟩ ht | exact absurd ⟨_, rfl⟩ hs
          obtain ⟨a, vs, rfl, h1, h2⟩ := lstOf_ok s rx e'
          exact ⟨a, vs, rfl, .inl ⟨.inl h1, mkT_ok s h2 p⟩⟩
/-- sorted(xs), texts, any number -/
def rSortedSA (K : PySem.W.Frag) : List V → Hp → VK → Prop := fun vs H Q => ∃ (a : Addr) (xs : List Str), vs = [V.ref a] ∧ SqL K H a (xs.map V.str) ∧ ∀ (ys : List Str) (p : Addr), ys.Perm xs → sortedS ys = true → H p = none → Q (.ref p) (upd H p (.lst (ys.map V.str)))
theorem cr_sortedSA {X : Cx} : CallR X (.builtin "sorted") (rSortedSA X.K) := by
  intro pins s σ H vs us Q I r h
  obtain ⟨a, xs, rfl, hs, q⟩ := h
  obtain ⟨its, rv, hl, hz⟩ := I.list hs
  rw [Vals.ref1 r]
  have hlen0 := rv.length
  refine PyProof.Rows.sorted_strsAny hl.isList rv.strs (by rw [← hlen0]; exact hz) fun out ys h1 h2 h3 => ?_
  obtain ⟨ep, he'⟩ := PyProof.Rows.sortedAll_at s.heap its out
  have hlen : (ys.map V.str).length ≤ sizeLine := by
    rw [List.length_map] at hz ⊢
    rw [h2.length_eq]
    exact hz
  exact ⟨.ref _, upd H (s.heap.objs.size + 1) (.lst (ys.map V.str)), I.laid (t' := s.toks) (fun _ _ => PyProof.Rows.sortedAll_old) (Nat.le_succ _) ⟨hlen, out.toList, ep, vals_of_strs h1, he'⟩, rfl, q ys _ h2 h3 (I.hok.fresh (Nat.le_succ _))⟩
theorem sorted_ok (hK : X.K = W.K) (ow : Bool) : CallR X (.builtin "sorted") (rF W (biV .sorted ow)) := by
  refine CallR.imp (cr_sortedI.or cr_sortedSA) fun xs H Q h => ?_
  obtain ⟨G, ρ, F, S, ds, s, r, p⟩ := h
  rw [hK]
  cases ds with
  | nil => exact p.elim
  | cons d ds =>
    cases ds with
    | cons _ _ => exact p.elim
    | nil =>
      obtain ⟨x, rfl, rx⟩ := r.one
      simp only [biV] at p
      cases e : lstOf S d with
      | none => rw [e] at p; exact p.elim
      | some ys =>
        rw [e] at p
        simp only at p
        split at p
        · rename_i c
          obtain ⟨a, vs, rfl, h1, h2⟩ := lstOf_ok s rx e
          cases hi : allInt ys with
          | some ns =>
            obtain ⟨rfl, rfl⟩ := h2.ints hi
            refine .inl ⟨a, ns, rfl, .inl h1, fun ns' b hp hs hb => ?_⟩
            rw [srtI_uniq hp hs]
            rw [srtI_D] at p
            refine (mkL_ok s ?_ p).2 b hb
            generalize srtI ns = ms
            induction ms with
            | nil => exact .nil
            | cons m ms ih => exact .cons (.int _) ih
          | none =>
            simp only [sortable, hi, Option.isSome_none, Bool.false_or] at c
            obtain ⟨ns, hs⟩ := Option.isSome_iff_exists.mp c
            obtain ⟨rfl, rfl⟩ := h2.strs hs
            refine .inr ⟨a, ns, rfl, .inl h1, fun ns' b hp hs hb => ?_⟩
            rw [srtS_uniq hp hs]
            rw [srtS_D] at p
            refine (mkL_ok s ?_ p).2 b hb
            generalize srtS ns = ms
            induction ms with
            | nil => exact .nil
            | cons m ms ih => exact .cons (.str _) ih
        · exact p.elim
theorem sum_ok (hK : X.K = W.K) (hc : X.calm = true) (ow : Bool) : CallR X (.builtin "sum") (rF W (biV .sum ow)) := by
  refine CallR.imp (cr_sum hc) fun xs H Q h => ?_
  obtain ⟨G, ρ, F, S, ds, s, r, p⟩ := h
  rw [hK]
  cases ds with
  | nil => exact p.elim
  | cons d ds =>
    cases ds with
    | cons _ _ => exact p.elim
    | nil =>
      obtain ⟨x, rfl, rx⟩ := r.one
      simp only [biV] at p
      cases e : lstOf S d with
      | none => rw [e] at p; exact p.elim
      | some ys =>
        rw [e] at p
        simp only at p
        obtain ⟨a, vs, rfl, h1, h2⟩ := lstOf_ok s rx e
        cases hi : allInt ys with
        | none => rw [hi] at p; exact p.elim
        | some ns =>
          rw [hi] at p
          obtain ⟨rfl, rfl⟩ := h2.ints hi
          exact ⟨a, ns, rfl, .inl h1, p.fin s (.int _)⟩
theorem all_ok (hK : X.K = W.K) (hc : X.calm = true) (ow : Bool) : CallR X (.builtin "all") (rF W (biV .all ow)) := by
  refine CallR.imp (cr_all hc) fun xs H Q h => ?_
  obtain ⟨G, ρ, F, S, ds, s, r, p⟩ := h
  rw [hK]
  cases ds with
  | nil => exact p.elim
  | cons d ds =>
    cases ds with
    | cons _ _ => exact p.elim
    | nil =>
      obtain ⟨x, rfl, rx⟩ := r.one
      simp only [biV] at p
      cases e : lstOf S d with
      | none => rw [e] at p; exact p.elim
      | some ys =>
        rw [e] at p
        simp only at p
        obtain ⟨a, vs, rfl, h1, h2⟩ := lstOf_ok s rx e
        cases hi : allBl ys with
        | none => rw [hi] at p; exact p.elim
        | some ns =>
          rw [hi] at p
          obtain rfl := h2.bls hi
          exact ⟨a, ns, rfl, .inl h1, p.fin s (.bl _)⟩
theorem any_ok (hK : X.K = W.K) (hc : X.calm = true) (ow : Bool) : CallR X (.builtin "any") (rF W (biV .any ow)) := by
  refine CallR.imp (cr_any hc) fun xs H Q h => ?_
  obtain ⟨G, ρ, F, S, ds, s, r, p⟩ := h
  rw [hK]
  cases ds with
  | nil => exact p.elim
  | cons d ds =>
    cases ds with
    | cons _ _ => exact p.elim
    | nil =>
      obtain ⟨x, rfl, rx⟩ := r.one
      simp only [biV] at p
      cases e : lstOf S d with
      | none => rw [e] at p; exact p.elim
      | some ys =>
        rw [e] at p
        simp only at p
        obtain ⟨a, vs, rfl, h1, h2⟩ := lstOf_ok s rx e
        cases hi : allBl ys with
        | none => rw [hi] at p; exact p.elim
        | some ns =>
          rw [hi] at p
          obtain rfl := h2.bls hi
          exact ⟨a, ns, rfl, .inl h1, p.fin s (.bl _)⟩

theorem max_ok (hK : X.K = W.K) (hc : X.calm = true) (ow : Bool) : CallR X (.builtin "max") (rF W (biV .max ow)) := by
  refine CallR.imp ((call_max2 hc).or (cr_max hc)) fun xs H Q h => ?_
  obtain ⟨G, ρ, F, S, ds, s, r, p⟩ := h
  rw [hK]
  cases ds with
  | nil => exact p.elim
  | cons d ds =>
    cases ds with
    | cons e ds =>
      cases ds with
      | cons _ _ => cases d <;> cases e <;> exact p.elim
      | nil =>
        cases d <;> cases e <;> first | exact p.elim | skip
        obtain ⟨x, y, rfl, rx, ry⟩ := r.two
        cases rx; cases ry
        exact .inl ⟨_, _, rfl, p.fin s (.int _)⟩
    | nil =>
      obtain ⟨x, rfl, rx⟩ := r.one
      simp only [biV] at p
      cases e : lstOf S d with
      | none => rw [e] at p; exact p.elim
      | some ys =>
        rw [e] at p
        simp only at p
        obtain ⟨a, vs, rfl, h1, h2⟩ := lstOf_ok s rx e
        cases hi : allInt ys with
        | none => rw [hi] at p; exact p.elim
        | some ns =>
          rw [hi] at p
          obtain ⟨rfl, rfl⟩ := h2.ints hi
          cases ns with
          | nil => exact p.elim
          | cons n ns =>
            refine .inr ⟨a, n :: ns, rfl, .inl h1, by simp, fun m hm hle => ?_⟩
            have key : ∀ (ns : List Int) (n : Int), n ≤ ns.foldl max n ∧ (∀ y ∈ ns, y ≤ ns.foldl max n) ∧ (ns.foldl max n = n ∨ ns.foldl max n ∈ ns) := by
              intro ns
              induction ns with
              | nil => intro n; simp
              | cons k ns ih =>
                intro n
                obtain ⟨h1, h2, h3⟩ := ih (max n k)
                simp only [List.foldl_cons]
                refine ⟨by omega, fun y hy => ?_, ?_⟩
                · rcases List.mem_cons.mp hy with rfl | hy
                  · omega
                  · exact h2 y hy
                · rcases h3 with h3 | h3
                  · by_cases hk : n ≤ k
                    · right; rw [h3]; rw [Int.max_eq_right hk]; exact List.mem_cons_self
                    · left; rw [h3]; omega
                  · exact .inr (List.mem_cons_of_mem _ h3)
            obtain ⟨k1, k2, k3⟩ := key ns n
            have e : m = ns.foldl max n := by
              have h4 : m ≤ ns.foldl max n := by
                rcases List.mem_cons.mp hm with rfl | hm
                · exact k1
                · exact k2 m hm
              have h5 : ns.foldl max n ≤ m := hle _ (by rcases k3 with k3 | k3; rw [k3]; exact List.mem_cons_self; exact List.mem_cons_of_mem _ k3)
              omega
            rw [e]
            exact p.fin s (.int _)
theorem min_ok (hc : X.calm = true) (ow : Bool) : CallR X (.builtin "min") (rF W (biV .min ow)) := by
  refine CallR.imp (call_min2 hc) fun xs H Q h => ?_
  obtain ⟨G, ρ, F, S, ds, s, r, p⟩ := h
  cases ds with
  | nil => exact p.elim
  | cons d ds =>
    cases ds with
    | nil => cases d <;> exact p.elim
    | cons e ds =>
      cases ds with
      | cons _ _ => cases d <;> cases e <;> exact p.elim
      | nil =>
        cases d <;> cases e <;> first | exact p.elim | skip
        obtain ⟨x, y, rfl, rx, ry⟩ := r.two
        cases rx; cases ry
        exact ⟨_, _, rfl, p.fin s (.int _)⟩
theorem CallR.or {f : Value} {r r' : List V → Hp → VK → Prop} (h : CallR X f r) (h' : CallR X f r') : CallR X f (fun xs H Q => r xs H Q ∨ r' xs H Q) := fun pins s σ H xs us Q I rs q => q.elim (h pins s σ H xs us Q I rs) (h' pins s σ H xs us Q I rs)
theorem kFlat_kV {ρ : List Addr} {F : Hp} {k : D} {j : Key} {v : V} (h : kFlat k = some j) (r : RD W ρ F k v) : v = kV j := by
  cases k <;> first | (cases h; done) | skip
  · cases h; cases r; rfl
  · cases h; cases r; rfl
/-- pairs as the model's dict(..) wants them -/
theorem pairsOf_ok {G : Hp} {ρ : List Addr} {F : Hp} {S : Store} {H : Hp} (s : StOk W G ρ F S H) : ∀ {xs : List D} {vs : List V} {kvs : List (D × D)}, pairsOf xs = some kvs → flatKeys kvs = true → RDs W ρ F xs vs →
    ∃ (ps : List Addr) (us : List (Key × V)), vs = ps.map V.ref ∧ Paired (fun p kv => SqT W.K H p [kV kv.1, kv.2]) ps us ∧ RDK W ρ F kvs us
  | [], _, _, e, _, r => by
    cases r; cases e
    exact ⟨[], [], rfl, .nil, .nil⟩
  | d :: xs, _, kvs, e, hf, r => by
    cases r with
    | cons a b =>
      cases d <;> first | (cases e; done) | skip
      rename_i ds
      match ds, e with
      | [k, v], e =>
        simp only [pairsOf, Option.map_eq_some_iff] at e
        obtain ⟨kvs', e', rfl⟩ := e
        simp only [flatKeys, List.all_cons, Bool.and_eq_true] at hf
        obtain ⟨j, hj⟩ := Option.isSome_iff_exists.mp hf.1
        obtain ⟨ps, us, h1, h2, h3⟩ := pairsOf_ok (kvs := kvs') s e' hf.2 b
        cases a with
        | tup ha hb =>
          cases hb with
          | cons rk hb =>
            cases hb with
            | cons rv hb =>
              cases hb
              have ek := kFlat_kV hj rk
              subst ek
              exact ⟨_ :: ps, (j, _) :: us, by rw [List.map_cons, h1], .cons (SqT.sub s.rd ha) h2, .cons hj rv h3⟩
theorem dict_ok (hK : X.K = W.K) (hcalm : X.calm = true) (ow : Bool) : CallR X (.type "dict") (rF W (biV .dict ow)) := by
  refine CallR.imp (call_dictD.or (call_dictP hcalm)) fun xs H Q h => ?_
  obtain ⟨G, ρ, F, S, ds, s, r, p⟩ := h
  cases ds with
  | nil => exact p.elim
  | cons d ds =>
    cases ds with
    | cons _ _ => exact p.elim
    | nil =>
      obtain ⟨x, rfl, rx⟩ := r.one
      simp only [biV] at p
      cases e : dctOf S d with
      | none =>
        simp only [e] at p
        cases e2 : lstOf S d with
        | none => simp only [e2] at p; exact p.elim
        | some ys =>
          simp only [e2] at p
          cases e3 : pairsOf ys with
          | none => simp only [e3] at p; exact p.elim
          | some kvs =>
            simp only [e3] at p
            split at p
            · rename_i hf
              obtain ⟨a, vs, rfl, h1, h2⟩ := lstOf_ok s rx e2
              obtain ⟨ps, us, rfl, h3, h4⟩ := pairsOf_ok s e3 hf h2
              exact .inr ⟨a, ps, us, rfl, .inl h1, by rw [hK]; exact h3, (mkD_ok s (RDK.putAll h4 .nil) p).2⟩
            · exact p.elim
      | some ys =>
        simp only [e] at p
        obtain ⟨a, us, rfl, h1, h2⟩ := dctOf_ok s rx e
        exact .inl ⟨a, us, rfl, h1, (mkD_ok s h2 p).2⟩

/-! ### methods of lists and texts -/
def rM (W : Fx) (m : Bm) : V → List V → Hp → VK → Prop := fun x xs H Q => ∃ G ρ F S d ds, StOk W G ρ F S H ∧ RD W ρ F d x ∧ RDs W ρ F ds xs ∧ Post (RD W) W G ρ F (bmV m d ds S) Q
theorem MtR.imp {X : Cx} {id : String} {r r' : V → List V → Hp → VK → Prop} (h : MtR X id r) (i : ∀ x xs H Q, r' x xs H Q → r x xs H Q) : MtR X id r' := fun pins s σ H x xs v us Q I rx rs q => h pins s σ H x xs v us Q I rx rs (i _ _ _ _ q)
theorem live_lst {G : Hp} {ρ : List Addr} {F : Hp} {S : Store} {H : Hp} {l : Nat} {x : V} {xs : List D} (s : StOk W G ρ F S H) (r : RD W ρ F (.ref l) x) (q : objAt S l = some (.lst xs)) :
    ∃ a vs, x = .ref a ∧ ρ[l]? = some a ∧ H a = some (.lst vs) ∧ RDs W ρ F xs vs := by
  cases r with
  | ref hl =>
    obtain ⟨a, u, h1, h2, h3, _⟩ := s.live l _ q
    cases u <;> try exact h3.elim
    have ea := Option.some.inj (h1.symm.trans hl)
    exact ⟨a, _, by rw [ea], h1, h2, h3⟩
theorem mt_scount : MtR X "list.count" (fun x xs H Q => ∃ (p : Addr) (ns : List Str) (k : Str), x = .ref p ∧ xs = [.str k] ∧ SqL X.K H p (ns.map V.str) ∧ Q (.int (PySem.Spec.countIn (.str k) (ns.map PyData.str))) H) := by
  intro pins s σ H x xs v us Q I rx rxs h
  obtain ⟨p, ns, k, rfl, rfl, hs, q⟩ := h
  cases rx
  obtain ⟨u, rfl, ru⟩ := rxs.one
  obtain ⟨t, rfl⟩ := ru
  obtain ⟨its, rv, ⟨⟨cls, dd, data, sl⟩, n, ho, hc, hdn, hd⟩, hlen⟩ := I.list hs
  simp only at hc hd
  subst hc hd
  refine PyProof.Rows.count_list_strs (vs := its) ⟨_, ho, rfl, n, rfl⟩ (strs_of_vals rv) ?_
  exact ⟨.int _, H, I.tok _, ⟨s.toks, rfl⟩, q⟩
theorem count_ok (hK : X.K = W.K) : MtR X "list.count" (rM W .count) := by
  refine MtR.imp mt_scount fun x xs H Q h => ?_
  obtain ⟨G, ρ, F, S, d, ds, s, rx, rs, p⟩ := h
  cases ds with
  | nil => exact p.elim
  | cons e ds =>
    cases ds with
    | cons _ _ => exact p.elim
    | nil =>
      obtain ⟨y, rfl, ry⟩ := rs.one
      simp only [bmV] at p
      cases q : lstOf S d with
      | none => rw [q] at p; exact p.elim
      | some zs =>
        rw [q] at p
        cases e <;> first | exact p.elim | skip
        rename_i w
        simp only at p
        cases q2 : allStr zs with
        | none => rw [q2] at p; exact p.elim
        | some ns =>
          rw [q2] at p
          obtain ⟨a, vs, rfl, h1, h2⟩ := lstOf_ok s rx q
          obtain ⟨rfl, _⟩ := RDs.strs h2 q2
          cases ry
          exact ⟨a, ns, w, rfl, rfl, .inl h1, p.fin s (.int _)⟩
theorem append_ok : MtR X "list.append" (rM W .append) := by
  refine MtR.imp mt_append fun x xs H Q h => ?_
  obtain ⟨G, ρ, F, S, d, ds, s, rx, rs, p⟩ := h
  cases d <;> first | exact p.elim | skip
  rename_i l
  cases ds with
  | nil => exact p.elim
  | cons e ds =>
    cases ds with
    | cons _ _ => exact p.elim
    | nil =>
      obtain ⟨y, rfl, ry⟩ := rs.one
      simp only [bmV] at p
      cases q : objAt S l with
      | none => rw [q] at p; exact p.elim
      | some o =>
        rw [q] at p
        cases o <;> first | exact p.elim | skip
        rename_i zs
        simp only at p
        split at p
        · rename_i hz
          obtain ⟨a, vs, rfl, h1, h2, h3⟩ := live_lst s rx q
          exact ⟨a, vs, y, rfl, rfl, h2, by rw [← h3.length]; exact hz, p.fin (s.put q h1 (o := .lst (zs ++ [e])) (u := .lst (vs ++ [y])) (h3.append (.cons ry .nil))) .non⟩
        · exact p.elim
theorem mt_extendL : MtM X "list.extend" (fun x vs H Q => ∃ l b xs zs, x = .ref l ∧ vs = [.ref b] ∧ H l = some (.lst xs) ∧ Rd H b (.lst zs) ∧ xs.length + zs.length ≤ sizeLine ∧ Q .non (upd H l (.lst (xs ++ zs)))) := by
  intro pins s σ H x vs v us Q I rx rv h
  obtain ⟨l, b, xs, zs, rfl, rfl, hH, hB, hz, q⟩ := h
  cases rx
  obtain ⟨u, rfl, ru⟩ := rv.one
  cases ru
  obtain ⟨z, its, n, r, hl, e⟩ := I.lstM hH
  obtain ⟨z2, its2, n2, r2, hl2, e2⟩ := Rd.lstM I hB
  have hsz : its.toArray.size + its2.toArray.size ≤ sizeLine := by rw [List.size_toArray, List.size_toArray]; omega
  have hlong : ¬ (!its.toArray.isEmpty && Builtin.List.listTooLong (its.toArray.size + its2.toArray.size)) = true := by
    rw [notLongL hsz, Bool.and_false]
    exact Bool.false_ne_true
  refine call_meets F.slot_list_extend ⟨_, e, rfl⟩ F.entry_list_extend (F.args_list_extend_2 _ _)
    (AutoSeq1.list_extend_list_list_0 l its.toArray n b its2.toArray n2 hlong (by rw [List.size_toArray]; omega) (by omega)) ⟨e, e2, ?_⟩
  refine ⟨.non, _, I.lset (its' := its ++ its2) hH e (by simp) (r.append r2) ?_, rfl, q⟩
  rw [List.length_append]
  omega
theorem extend_ok : MtR X "list.extend" (rM W .extend) := by
  refine MtR.imp mt_extendL fun x xs H Q h => ?_
  obtain ⟨G, ρ, F, S, d, ds, s, rx, rs, p⟩ := h
  cases d <;> first | exact p.elim | skip
  rename_i l
  cases ds with
  | nil => exact p.elim
  | cons e ds =>
    cases ds with
    | cons _ _ => exact p.elim
    | nil =>
      obtain ⟨y, rfl, ry⟩ := rs.one
      simp only [bmV] at p
      cases q : objAt S l with
      | none => rw [q] at p; exact p.elim
      | some o =>
        rw [q] at p
        cases o <;> first | exact p.elim | skip
        rename_i zs
        cases e2 : lstOf S e with
        | none => rw [e2] at p; exact p.elim
        | some ws =>
          rw [e2] at p
          simp only at p
          split at p
          · rename_i hz
            obtain ⟨a, vs, rfl, h1, h2, h3⟩ := live_lst s rx q
            obtain ⟨b, us, rfl, h4, h5⟩ := lstOf_ok s ry e2
            exact ⟨a, b, vs, us, rfl, rfl, h2, h4, by rw [← h3.length, ← h5.length]; exact hz, p.fin (s.put q h1 (o := .lst (zs ++ ws)) (u := .lst (vs ++ us)) (h3.append h5)) .non⟩
          · exact p.elim
theorem pop_ok : MtR X "list.pop" (rM W .pop) := by
  refine MtR.imp mt_pop fun x xs H Q h => ?_
  obtain ⟨G, ρ, F, S, d, ds, s, rx, rs, p⟩ := h
  cases d <;> first | exact p.elim | skip
  rename_i l
  cases ds with
  | cons _ _ => exact p.elim
  | nil =>
    cases rs
    simp only [bmV] at p
    cases q : objAt S l with
    | none => rw [q] at p; exact p.elim
    | some o =>
      rw [q] at p
      cases o <;> first | exact p.elim | skip
      rename_i zs
      simp only at p
      split at p
      · rename_i y hy
        obtain ⟨a, vs, rfl, h1, h2, h3⟩ := live_lst s rx q
        obtain ⟨v, h4, h5⟩ := h3.get hy
        rw [h3.length] at h4
        exact ⟨a, vs, v, rfl, rfl, h2, h4, p.fin (s.put q h1 (o := .lst zs.dropLast) (u := .lst vs.dropLast) h3.dropLast) h5⟩
      · exact p.elim
theorem popAt_ok : MtR X "list.pop" (rM W .popAt) := by
  refine MtR.imp mt_popAt fun x xs H Q h => ?_
  obtain ⟨G, ρ, F, S, d, ds, s, rx, rs, p⟩ := h
  cases d <;> first | exact p.elim | skip
  rename_i l
  cases ds with
  | nil => exact p.elim
  | cons e ds =>
    cases ds with
    | cons _ _ => cases e <;> exact p.elim
    | nil =>
      cases e <;> first | exact p.elim | skip
      rename_i i
      obtain ⟨y, rfl, ry⟩ := rs.one
      cases ry
      simp only [bmV] at p
      cases q : objAt S l with
      | none => rw [q] at p; exact p.elim
      | some o =>
        rw [q] at p
        cases o <;> first | exact p.elim | skip
        rename_i zs
        simp only at p
        split at p
        · rename_i hi
          split at p
          · rename_i y hy
            obtain ⟨a, vs, rfl, h1, h2, h3⟩ := live_lst s rx q
            obtain ⟨v, h4, h5⟩ := h3.get hy
            have hlt : i.toNat < vs.length := (List.getElem?_eq_some_iff.mp h4).1
            exact ⟨a, vs, i, i.toNat, v, rfl, rfl, h2, by omega, by omega, seqIndex_of hi.1 (by omega), h4, p.fin (s.put q h1 (o := .lst (zs.eraseIdx i.toNat)) (u := .lst (vs.eraseIdx i.toNat)) (h3.eraseIdx _)) h5⟩
          · exact p.elim
        · exact p.elim
theorem join_ok (hK : X.K = W.K) : MtR X "str.join" (rM W .join) := by
  refine MtR.imp mt_join fun x xs H Q h => ?_
  obtain ⟨G, ρ, F, S, d, ds, s, rx, rs, p⟩ := h
  rw [hK]
  cases d <;> first | exact p.elim | skip
  rename_i z
  cases ds with
  | nil => exact p.elim
  | cons e ds =>
    cases ds with
    | cons _ _ => exact p.elim
    | nil =>
      obtain ⟨y, rfl, ry⟩ := rs.one
      cases rx
      simp only [bmV] at p
      cases e2 : lstOf S e with
      | none => rw [e2] at p; exact p.elim
      | some ws =>
        rw [e2] at p
        simp only at p
        cases e3 : allStr ws with
        | none => rw [e3] at p; exact p.elim
        | some ns =>
          rw [e3] at p
          simp only at p
          split at p
          · rename_i hz
            obtain ⟨b, us, rfl, h4, h5⟩ := lstOf_ok s ry e2
            obtain ⟨rfl, rfl⟩ := h5.strs e3
            exact ⟨z, b, ns, rfl, rfl, .inl (.inl h4), by rw [Nat.mul_comm]; exact hz, p.fin s (.str _)⟩
          · exact p.elim
end
end Z

/-! Z17: sets of texts and dict.get over the hand layer. -/
namespace Z
open PySem PySem.Spec L2
open PyProof.Rows hiding St

def TxSetO (w : World) (a : Addr) (M : Str → Prop) (n : Nat) : HO := .ext fun h => TxSet w h a M n
theorem tsetO_new {P : Program} {w : World} {H : Hp} {h : Heap} {a : Addr} {M : Str → Prop} {n : Nat} (R : TxSet w h a M n) : ObjOk P w H h a (TxSetO w a M n) := by
  have ⟨o, _, _, _, ho, _⟩ := R
  exact ⟨R, ⟨o, ho⟩, fun h1 h2 p k => TxSet.keep p k⟩
def rSetS (K : PySem.W.Frag) (w : World) : List V → Hp → VK → Prop := fun vs H Q => ∃ (l : Addr) (xs : List Str), vs = [V.ref l] ∧ (SqL K H l (xs.map V.str) ∨ SqT K H l (xs.map V.str)) ∧ xs.length + 1 < scanBound ∧
  ∀ a, H a = none → Q (.ref a) (upd H a (TxSetO w a (fun x => x ∈ xs) xs.length))
def rSortedTS (w : World) : List V → Hp → VK → Prop := fun vs H Q => ∃ (a : Addr) (M : Str → Prop) (n : Nat), vs = [V.ref a] ∧ H a = some (TxSetO w a M n) ∧ n < scanBound ∧
  ∀ (ys : List Str) (p : Addr), sortedS ys = true → ys.Nodup → (∀ k, k ∈ ys ↔ M k) → ys.length ≤ n → H p = none → Q (.ref p) (upd H p (.lst (ys.map V.str)))
def rLenTS (w : World) : List V → Hp → VK → Prop := fun vs H Q => ∃ (a : Addr) (M : Str → Prop) (n : Nat) (ys : List Str), vs = [V.ref a] ∧ H a = some (TxSetO w a M n) ∧ n < scanBound ∧ ys.Nodup ∧ (∀ k, k ∈ ys ↔ M k) ∧ Q (.int ys.length) H
section
variable {X : Cx}
theorem cr_setS (hc : X.calm = true) : CallR X (.type "set") (rSetS X.K X.w) := by
  intro pins s σ H vs us Q I r h
  obtain ⟨l, xs, rfl, hs, few, q⟩ := h
  rw [Vals.ref1 r]
  have hn : H s.heap.objs.size = none := I.hok.fresh (Nat.le_refl _)
  have go : ∀ h' tk, TxSet X.w h' s.heap.objs.size (fun x => x ∈ xs) xs.length → (∀ b o, s.heap.get? b = some o → h'.get? b = some o) → EP X pins σ Q (.ref s.heap.objs.size) { s with heap := h', toks := tk } := fun h' tk R k =>
    ⟨.ref s.heap.objs.size, upd H s.heap.objs.size (TxSetO X.w s.heap.objs.size (fun x => x ∈ xs) xs.length), I.laid (t' := tk) k (Nat.le_refl _) (tsetO_new R), rfl, q _ hn⟩
  rcases hs with hs | hs
  · obtain ⟨its, rv, pl, hz⟩ := I.list hs
    exact tset_call (I.ok.hd hc) (.inl pl.isList) (by simpa using strsAre_of rv) few go
  · obtain ⟨its, rv, pl, hz⟩ := I.tuple hs
    exact tset_call (I.ok.hd hc) (.inr pl) (by simpa using strsAre_of rv) few go
theorem cr_sortedTS (hc : X.calm = true) : CallR X (.builtin "sorted") (rSortedTS X.w) := by
  intro pins s σ H vs us Q I r h
  obtain ⟨a, M, n, rfl, ha, few, q⟩ := h
  have R : TxSet X.w s.heap a M n := (I.hok a _ ha).1
  rw [Vals.ref1 r]
  refine tset_sorted R (I.ok.hd hc) few fun s' p out c ys k g o hp hg hS hso hnd hm hle => ?_
  have hlen : (ys.map V.str).length ≤ sizeLine := by
    rw [List.length_map]
    exact fits_of_scanBound (Nat.lt_of_le_of_lt hle few)
  have hn : H p = none := I.hok.fresh hp
  have J : Inv X pins σ (upd H p (.lst (ys.map V.str))) { s with heap := s'.heap, gens := s'.gens, drawn := s'.drawn, toks := s'.toks } :=
    I.call (ch := []) (Un.laid k hp hn) (I.hok.laid k hp ⟨hlen, out.toList, c, vals_of_strs hS, hg⟩) (by rw [g]; exact I.bare) (fun _ z => nomatch z)
  have e : s' = { s with heap := s'.heap, gens := s'.gens, drawn := s'.drawn, toks := s'.toks } := by
    cases s'
    cases s
    cases o
    rfl
  rw [e]
  exact ⟨.ref p, _, J, rfl, q ys p hso hnd hm hle hn⟩
theorem cr_lenTS : CallR X (.builtin "len") (rLenTS X.w) := by
  intro pins s σ H vs us Q I r h
  obtain ⟨a, M, n, ys, rfl, ha, few, hnd, hm, q⟩ := h
  have R : TxSet X.w s.heap a M n := (I.hok a _ ha).1
  rw [Vals.ref1 r]
  obtain ⟨o, es, ep, t, ho, hex, hd, T⟩ := R
  have e : es.size = ys.length := by
    have p : (es.toList.map tkey).Perm ys := (List.perm_ext_iff_of_nodup T.nodup hnd).mpr fun k => (T.mem k).symm.trans (hm k).symm
    have := p.length_eq
    rw [List.length_map, Array.length_toList] at this
    exact this
  have hb := T.few
  refine call_len_set ho hex hd T.fits (by unfold scanBound at few; omega) ⟨.int ys.length, H, I.tok _, ⟨_, by rw [e]⟩, q⟩
end
/-! ### d.get(k, x), d a dict that stands or a written one -/
section
variable {X : Cx} {W : Fx} {o e f : Expr} {apos cpos : Pos} {td ty tx : TE}
def tGet2 (W : Fx) (td ty tx : TE) : TE := fun σ H Q => td σ H fun x H1 => ∃ a, x = .ref a ∧ ((IsD H1 a ∧ ty σ H1 fun y H2 => tx σ H2 fun z H3 => ∃ ov, DGet H3 a y ov ∧ Q (ov.getD z) H3) ∨
  ∃ us, KW W a us ∧ ty σ H1 fun y H2 => tx σ H2 fun z H3 => ∃ k, y = .str k ∧ Q ((us.lookup k).getD z) H3)
theorem pe_get2 (hK : X.K = W.K) (hw : X.w = W.w) (hu : X.A.units + 1 < cLine) (ho : PE X o td) (he : PE X e ty) (hf : PE X f tx) (m : M2 X o "get" apos e f cpos) : PE X (.Call (.Attribute o "get" apos) [e, f] [] cpos) (tGet2 W td ty tx) := by
  refine ⟨fun pins s σ H Q I h => ?_⟩
  refine wpAny_Call_method m.base m.few m.line PySem.F.plainAttrs_dict PySem.F.slot_dict_get PySem.F.type_dict_get (thn (ho.run pins s σ H _ I h) fun u s1 ⟨x, H1, I1, rx, a, ex, q1⟩ => ?_)
  subst ex
  obtain rfl : u = Value.ref a := rx
  rcases q1 with ⟨d, q1⟩ | ⟨us, kw, q1⟩
  · obtain ⟨t1, t2, _⟩ := isD_at I1 d
    refine ⟨t1, t2, ?_⟩
    rw [m.trees]
    refine Calls.callWith_builtin rfl (Calls.evalArgs_plain (Calls.spliced_cons (thn (he.run pins s1 σ H1 _ I1 q1) fun iv s2 ⟨y, H2, I2, ry, q2⟩ =>
      Calls.spliced_cons (thn (hf.run pins s2 σ H2 _ I2 q2) fun fv s3 ⟨z, H3, I3, rz, ov, g, q3⟩ => Calls.spliced_nil (d_get2 hu I3 g ry rz fun w' s4 I4 rw' => ⟨_, H3, I4, rw', q3⟩)))))
  · have kw' := kw
    obtain ⟨⟨es, n, h1, h2, low⟩, _⟩ := kw'
    rw [← hK] at h1
    rw [← hw] at h2
    have hm1 := PySem.W.mapOf_K (prog := X.prog) (w := X.w) I1.kIn h1 h2
    refine ⟨hm1.typeIs, hm1.noDict, ?_⟩
    rw [m.trees]
    refine Calls.callWith_builtin rfl (Calls.evalArgs_plain (Calls.spliced_cons (thn (he.run pins s1 σ H1 _ I1 q1) fun iv s2 ⟨y, H2, I2, ry, q2⟩ =>
      Calls.spliced_cons (thn (hf.run pins s2 σ H2 _ I2 q2) fun fv s3 ⟨z, H3, I3, rz, k, ek, q3⟩ => Calls.spliced_nil ?_))))
    subst ek
    obtain ⟨tk, rfl⟩ := (show ∃ t, iv = Value.str k t from ry)
    have hm := PySem.W.mapOf_K (prog := X.prog) (w := X.w) I3.kIn h1 h2
    obtain ⟨r, g1, g2, g3⟩ := kw.at k
    rw [← hK] at g1
    refine call_meetsIn PySem.F.slot_dict_get hm.typeIs PySem.F.entry_dict_get (PySem.F.args_dict_get_3 _ _ _) (meets_dict_get_default (PySem.strKind X.prog X.w) a (strKind_is X.prog X.w k tk) low fv) ⟨_, hm, ⟨_, H3, I3.tok _, ?_, q3⟩⟩
    rw [PySem.W.find_K h1 g1]
    cases e : us.lookup k with
    | none =>
      rw [e] at g2
      cases r with
      | none => exact rz
      | some u => cases g2
    | some v =>
      obtain ⟨u, rfl, hu⟩ := g3 v e
      exact hu
end
end Z

/-! Z7: which Python a mini term stands for. -/
namespace Z
open PySem PySem.Spec L2
open PyProof.Rows hiding St

/-- what a module's name holds -/
inductive GI where
  | fn (f : Nat) | cls (c f : Nat) | val (d : D) | blt
  | mth (nm : Str) (cf : List (Nat × Nat)) | fldn (nm : Str) | prp (nm : Str) (c f : Nat)
/-- a place in the text: the slots' names, the scope, the module's names, methods, properties, fields -/
structure Ctx where
  N : List Str
  sc : Scope
  g : List (Str × GI)
  cm : Option Scope := none
def Ctx.gl (c : Ctx) (x : Str) : Option GI := match c.sc.names.lookup x with
  | some .globalImplicit => c.g.lookup x
  | _ => none
def Ctx.isFn (c : Ctx) (x : Str) (f : Nat) : Bool := !(x == ("__debug__" : Str)) && (match c.gl x with
  | some (.fn g) => f == g
  | _ => false)
def Ctx.isBlt (c : Ctx) (x : Str) : Bool := !(x == ("__debug__" : Str)) && (!(x == ("__name__" : Str)) && (match c.gl x with
  | some .blt => true
  | _ => false))
def Ctx.isVal (c : Ctx) (x : Str) (d : D) : Bool := !(x == ("__debug__" : Str)) && (match c.gl x with
  | some (.val e) => D.eqb d e
  | _ => false)
def Ctx.isCls (c : Ctx) (x : Str) (k f : Nat) : Bool := !(x == ("__debug__" : Str)) && (match c.gl x with
  | some (.cls k' f') => decide (k = k') && decide (f = f')
  | _ => false)
def Ctx.hasM (c : Ctx) (nm : Str) (cf : List (Nat × Nat)) : Bool := match c.g.lookup (("<m>" : Str) ++ nm) with
  | some (.mth n' cf') => decide (nm = n') && decide (cf = cf')
  | _ => false
def Ctx.hasF (c : Ctx) (f : Str) : Bool := match c.g.lookup (("<f>" : Str) ++ f) with
  | some (.fldn f') => decide (f = f')
  | _ => false
def Ctx.hasP (c : Ctx) (nm : Str) (k f : Nat) : Bool := match c.g.lookup (("<p>" : Str) ++ nm) with
  | some (.prp n' k' f') => decide (nm = n') && (decide (k = k') && decide (f = f'))
  | _ => false
def Ctx.vis (c : Ctx) (x : Str) : Bool := match c.sc.names.lookup x with
  | some .local => true
  | some .cell => true
  | some .free => true
  | _ => false
def Ctx.loc (c : Ctx) (x : Str) : Bool := match c.sc.names.lookup x with
  | some .local => true
  | some .cell => true
  | _ => false
def Ctx.isVar (c : Ctx) (i : Nat) (x : Str) : Bool := (match c.N[i]? with
  | some y => y == x
  | none => false) && (c.vis x && (!(x == ("__debug__" : Str)) && !(x == ("__classdict__" : Str))))
def Ctx.isLoc (c : Ctx) (i : Nat) (x : Str) : Bool := (match c.N[i]? with
  | some y => y == x
  | none => false) && (c.loc x && (match c.cm with
  | none => true
  | some s => c.sc.names.lookup x == some .local || s.names.lookup x == some .cell))

/-! taking Python apart -/
def unName : Expr → Option (Str × Pos)
  | .Name x p => some (x, p)
  | _ => none
theorem unName_eq {e : Expr} {x : Str} {p : Pos} (h : unName e = some (x, p)) : e = .Name x p := by
  cases e <;> first | (cases h; done) | (cases h; rfl)
def unConst : Expr → Option (Const × Nat × Pos)
  | .Constant c k p => some (c, k, p)
  | _ => none
theorem unConst_eq {e : Expr} {x : Const} {k : Nat} {p : Pos} (h : unConst e = some (x, k, p)) : e = .Constant x k p := by
  cases e <;> first | (cases h; done) | (cases h; rfl)
def unTup : Expr → Option (List Expr × Nat × Pos)
  | .Tuple es k p => some (es, k, p)
  | _ => none
theorem unTup_eq {e : Expr} {x : List Expr} {k : Nat} {p : Pos} (h : unTup e = some (x, k, p)) : e = .Tuple x k p := by
  cases e <;> first | (cases h; done) | (cases h; rfl)
def unList : Expr → Option (List Expr × Pos)
  | .List es p => some (es, p)
  | _ => none
theorem unList_eq {e : Expr} {x : List Expr} {p : Pos} (h : unList e = some (x, p)) : e = .List x p := by
  cases e <;> first | (cases h; done) | (cases h; rfl)
def unBin : Expr → Option (Expr × Operator × Expr × Pos)
  | .BinOp a o b p => some (a, o, b, p)
  | _ => none
theorem unBin_eq {e a b : Expr} {o : Operator} {p : Pos} (h : unBin e = some (a, o, b, p)) : e = .BinOp a o b p := by
  cases e <;> first | (cases h; done) | (cases h; rfl)
def unUn : Expr → Option (UnaryOp × Expr × Pos)
  | .UnaryOp o a p => some (o, a, p)
  | _ => none
theorem unUn_eq {e a : Expr} {o : UnaryOp} {p : Pos} (h : unUn e = some (o, a, p)) : e = .UnaryOp o a p := by
  cases e <;> first | (cases h; done) | (cases h; rfl)
def unCmp : Expr → Option (Expr × List CmpOp × List Expr × Pos)
  | .Compare a o b p => some (a, o, b, p)
  | _ => none
theorem unCmp_eq {e a : Expr} {b : List Expr} {o : List CmpOp} {p : Pos} (h : unCmp e = some (a, o, b, p)) : e = .Compare a o b p := by
  cases e <;> first | (cases h; done) | (cases h; rfl)
def unBool : Expr → Option (PySem.BoolOp × List Expr × Pos)
  | .BoolOp o a p => some (o, a, p)
  | _ => none
theorem unBool_eq {e : Expr} {a : List Expr} {o : PySem.BoolOp} {p : Pos} (h : unBool e = some (o, a, p)) : e = .BoolOp o a p := by
  cases e <;> first | (cases h; done) | (cases h; rfl)
def unIf : Expr → Option (Expr × Expr × Expr × Pos)
  | .IfExp t a b p => some (t, a, b, p)
  | _ => none
theorem unIf_eq {e t a b : Expr} {p : Pos} (h : unIf e = some (t, a, b, p)) : e = .IfExp t a b p := by
  cases e <;> first | (cases h; done) | (cases h; rfl)
/-- f(..), f a name, no keywords -/
def unCall : Expr → Option (Str × Pos × List Expr × Pos)
  | .Call (.Name x q) es [] p => some (x, q, es, p)
  | _ => none
theorem unCall_eq {e : Expr} {x : Str} {q p : Pos} {es : List Expr} (h : unCall e = some (x, q, es, p)) : e = .Call (.Name x q) es [] p := by
  cases e with
  | Call f es kw p =>
    cases f with
    | Name x q =>
      cases kw with
      | nil => cases h; rfl
      | cons _ _ => cases h
    | _ => cases h
  | _ => cases h
/-- o.m(..), no keywords -/
def unMeth : Expr → Option (Expr × Str × Pos × List Expr × Pos)
  | .Call (.Attribute o m q) es [] p => some (o, m, q, es, p)
  | _ => none
theorem unMeth_eq {e o : Expr} {x : Str} {q p : Pos} {es : List Expr} (h : unMeth e = some (o, x, q, es, p)) : e = .Call (.Attribute o x q) es [] p := by
  cases e with
  | Call f es kw p =>
    cases f with
    | Attribute o x q =>
      cases kw with
      | nil => cases h; rfl
      | cons _ _ => cases h
    | _ => cases h
  | _ => cases h
def unSub : Expr → Option (Expr × Expr × Pos)
  | .Subscript a i p => some (a, i, p)
  | _ => none
theorem unSub_eq {e a i : Expr} {p : Pos} (h : unSub e = some (a, i, p)) : e = .Subscript a i p := by
  cases e <;> first | (cases h; done) | (cases h; rfl)
def unSlice : Expr → Option (Option Expr × Option Expr × Pos)
  | .Slice l h none p => some (l, h, p)
  | _ => none
theorem unSlice_eq {e : Expr} {l u : Option Expr} {p : Pos} (h : unSlice e = some (l, u, p)) : e = .Slice l u none p := by
  cases e with
  | Slice l u s p => cases s <;> first | (cases h; done) | (cases h; rfl)
  | _ => cases h
def unAttr : Expr → Option (Expr × Str × Pos)
  | .Attribute o f p => some (o, f, p)
  | _ => none
theorem unAttr_eq {e o : Expr} {f : Str} {p : Pos} (h : unAttr e = some (o, f, p)) : e = .Attribute o f p := by
  cases e <;> first | (cases h; done) | (cases h; rfl)
def unDict : Expr → Option (List (Option Expr) × List Expr × Pos)
  | .Dict ks vs p => some (ks, vs, p)
  | _ => none
theorem unDict_eq {e : Expr} {ks : List (Option Expr)} {vs : List Expr} {p : Pos} (h : unDict e = some (ks, vs, p)) : e = .Dict ks vs p := by
  cases e <;> first | (cases h; done) | (cases h; rfl)
def unLC : Expr → Option (Expr × List Comprehension × Scope × Pos)
  | .ListComp e g s p => some (e, g, s, p)
  | _ => none
theorem unLC_eq {e a : Expr} {g : List Comprehension} {s : Scope} {p : Pos} (h : unLC e = some (a, g, s, p)) : e = .ListComp a g s p := by
  cases e <;> first | (cases h; done) | (cases h; rfl)
def unDC : Expr → Option (Expr × Expr × List Comprehension × Scope × Pos)
  | .DictComp k v g s p => some (k, v, g, s, p)
  | _ => none
theorem unDC_eq {e a b : Expr} {g : List Comprehension} {s : Scope} {p : Pos} (h : unDC e = some (a, b, g, s, p)) : e = .DictComp a b g s p := by
  cases e <;> first | (cases h; done) | (cases h; rfl)
def noStar : Expr → Bool
  | .Starred _ _ => false
  | _ => true
def noSlice : Expr → Bool
  | .Slice _ _ _ _ => false
  | _ => true
def noSet : Expr → Bool
  | .Set _ _ _ => false
  | _ => true
def noComp : Expr → Bool
  | .ListComp _ _ _ _ => false
  | .SetComp _ _ _ _ => false
  | .DictComp _ _ _ _ _ => false
  | _ => true
/-- tested by its value -/
def plainT : Expr → Bool
  | .UnaryOp .Not _ _ => false
  | .BoolOp _ _ _ => false
  | .IfExp _ _ _ _ => false
  | .Compare _ _ _ _ => false
  | _ => true
theorem plainT_of {e : Expr} {env : PySem.Env} (h : plainT e = true) (whole : Sem Value) : isTrue e env whole = (do let v ← whole; standAt e.pos; holding [v] (truthy v)) := by
  cases e with
  | UnaryOp o a p => cases o <;> first | (cases h; done) | rfl
  | _ => first | (cases h; done) | rfl
/-- not super() -/
def noSup : Expr → Bool
  | .Call (.Name _ _) [] [] _ => false
  | _ => true
theorem star_of {e : Expr} {es : List Expr} {env : PySem.Env} (h : noStar e = true) : starEach (e :: es) env = (false, eval e env) :: starEach es env := by
  cases e <;> first | (cases h; done) | rfl
theorem plain_of {e : Expr} (h : noSlice e = true) : PlainIx e := by
  intro o i
  cases e <;> first | (cases h; done) | rfl
theorem fold_of {e : Expr} {env : PySem.Env} (h : noSet e = true) : ∀ x, foldedSetIterable e env x = pure x := by
  intro x
  cases e <;> first | (cases h; done) | rfl
theorem swap_of {e : Expr} {t : Option Expr} {l : Nat} {env : PySem.Env} (h : noComp e = true) : swapsWith e t l env = pure false := by
  cases e <;> first | (cases h; done) | rfl
theorem base_of {e : Expr} {f : Str} {env : PySem.Env} (h : noSup e = true) : attributeBase e f env (eval e env) = eval e env := by
  cases e with
  | Call f es kw p =>
    cases f with
    | Name x q =>
      cases es with
      | nil => cases kw <;> first | (cases h; done) | rfl
      | cons _ _ => rfl
    | _ => rfl
  | _ => rfl
theorem any_of : ∀ {es : List Expr} {env : PySem.Env} {pos : Pos}, es.all noStar = true → (backTo pos (starEach es env)).any (·.1) = false
  | [], _, _, _ => rfl
  | e :: es, env, pos, h => by
    rw [List.all_cons, Bool.and_eq_true] at h
    rw [star_of h.1]
    unfold backTo
    rw [List.map_cons, List.any_cons]
    exact any_of h.2

def Bi.nm : Bi → Str
  | .len => "len" | .int => "int" | .str => "str" | .list => "list" | .tuple => "tuple" | .sorted => "sorted" | .sum => "sum" | .all => "all" | .any => "any" | .max => "max" | .min => "min" | .dict => "dict" | .sortedSet => "sorted" | .lenSet => "len"
def Bi.plain : Bi → Bool
  | .sortedSet => false
  | .lenSet => false
  | _ => true
def Bm.nm : Bm → Str
  | .append => "append" | .extend => "extend" | .pop => "pop" | .popAt => "pop" | .get2 => "get" | .index => "index" | .join => "join" | .count => "count"
def isConst : D → Const → Bool
  | .non, .none => true
  | .bl b, .bool c => b == c
  | .int i, .int j => i == j
  | .str x, .str y => x == y
  | _, _ => false
mutual
def isTg (c : Ctx) : Tg → Expr → Bool
  | .nm i, e => match unName e with
    | some (x, _) => c.isLoc i x
    | none => false
  | .tp ts, e => match unTup e with
    | some (es, _, _) => isTgs c ts es
    | none => false
def isTgs (c : Ctx) : List Tg → List Expr → Bool
  | [], [] => true
  | t :: ts, e :: es => noStar e && (isTg c t e && isTgs c ts es)
  | _, _ => false
end
mutual
/-- the slots that a target stores -/
def tgIx : Tg → List Nat
  | .nm i => [i]
  | .tp ts => tgsIx ts
def tgsIx : List Tg → List Nat
  | [] => []
  | t :: ts => tgIx t ++ tgsIx ts
end
def Ctx.inner (c : Ctx) (sc : Scope) : Ctx := { c with sc := relS sc c.sc, cm := some sc }
def ownP (c : Ctx) (own : List Nat) : List (Str × Nat) := own.map fun i => (c.N.getD i default, i)
mutual
def isE (c : Ctx) : E → Expr → Bool
  | .var i, e => match unName e with
    | some (x, _) => c.isVar i x
    | none => false
  | .k d, e => match unConst e with
    | some (x, _, _) => isConst d x
    | none => false
  | .gl x d, e => match unName e with
    | some (y, _) => y == x && c.isVal x d
    | none => false
  | .tup es, e => match unTup e with
    | some (xs, _, _) => isEs c es xs
    | none => false
  | .lst _ es, e => match unList e with
    | some (xs, _) => isEs c es xs
    | none => false
  | .dct _ ks _, e => match unDict e with
    | some (keys, vals, _) => isP c ks keys vals && decide (keys.length ≤ 15)
    | none => false
  | .bin op _ a b, e => match unBin e with
    | some (x, o, y, _) => decide (o = op.py) && (isE c a x && isE c b y)
    | none => false
  | .neg a, e => match unUn e with
    | some (.USub, x, _) => isE c a x
    | _ => false
  | .cmp op a b, e => match unCmp e with
    | some (x, [o], [y], _) => decide (o = op.py) && (!(behindInMarks o y) && (isE c a x && isE c b y))
    | _ => false
  | .chain op op' a b d, e => match unCmp e with
    | some (x, [o, o'], [y, z], _) => decide (o = op.py) && (decide (o' = op'.py) && (!(lastMarks [o, o'] [y, z]) && (isE c a x && (isE c b y && isE c d z))))
    | _ => false
  | .and a b, e => match unBool e with
    | some (.And, [x, y], _) => isE c a x && isE c b y
    | some (.And, x :: y :: z :: r, p) => isE c a x && isE c b (.BoolOp .And (y :: z :: r) p)
    | _ => false
  | .or a b, e => match unBool e with
    | some (.Or, [x, y], _) => isE c a x && isE c b y
    | some (.Or, x :: y :: z :: r, p) => isE c a x && isE c b (.BoolOp .Or (y :: z :: r) p)
    | _ => false
  | .not a, e => match unUn e with
    | some (.Not, x, _) => isE c a x
    | _ => false
  | .ite t a b, e => match unIf e with
    | some (z, x, y, _) => isE c t z && (isE c a x && isE c b y)
    | none => false
  | .call f _ es, e => match unCall e with
    | some (x, _, xs, _) => c.isFn x f && isEs c es xs
    | none => false
  | .mcall nm cf _ o es, e => match unMeth e with
    | some (x, y, q, xs, p) => y == nm && (c.hasM nm cf && (noSup x && (decide (q.endLine = p.line) && (isE c o x && (isEs c es xs && decide (xs.length < 20))))))
    | none => false
  | .make k f _ es, e => match unCall e with
    | some (x, _, xs, _) => c.isCls x k f && isEs c es xs
    | none => false
  | .fld o f, e => match unAttr e with
    | some (x, y, _) => y == f && (c.hasF f && (noSup x && isE c o x))
    | none => false
  | .prop nm k f o, e => match unAttr e with
    | some (x, y, _) => y == nm && (c.hasP nm k f && (noSup x && isE c o x))
    | none => false
  | .idx a i, e => match unSub e with
    | some (x, y, _) => noSlice y && (isE c a x && isE c i y)
    | none => false
  | .slc _ a lo hi, e => match unSub e with
    | some (x, y, _) => match unSlice y with
      | some (l, h, _) => isE c a x && (isO c lo l && isO c hi h)
      | none => false
    | none => false
  | .lc _ own elt tg it cond, e => match unLC e with
    | some (x, [⟨t, i, ifs, 0⟩], sc, _) => noSet i && (isI c it t i && (blkC c.N c.sc sc (ownP c own) && (isTg (c.inner sc) tg t && ((tgIx tg).all (fun j => own.contains j) && (isE (c.inner sc) elt x && isC (c.inner sc) cond ifs)))))
    | _ => false
  | .lc2 _ own elt tg it own2 tg2 it2, e => match unLC e with
    | some (x, [⟨t, i, [], 0⟩, ⟨t2, i2, [], 0⟩], sc, _) => noSet i && (noSet i2 && (isI c it t i && (blkC c.N c.sc sc (ownP c own) && (isTg (c.inner sc) tg t && ((tgIx tg).all (fun j => own.contains j) && (isI (c.inner sc) it2 t2 i2 && (isTg (c.inner sc) tg2 t2 && ((tgIx tg2).all (fun j => own2.contains j) && (own2.all (fun j => own.contains j) && isE (c.inner sc) elt x)))))))))
    | _ => false
  | .bi b _ es, e => if b.plain then (match unCall e with
    | some (x, _, xs, _) => x == b.nm && (c.isBlt x && isEs c es xs)
    | none => false) else (match unCall e with
    | some (x, _, [y], _) => x == b.nm && (c.isBlt x && (match unCall y with
      | some (z, _, [w], _) => z == ("set" : Str) && (c.isBlt z && isEs c es [w])
      | _ => false))
    | _ => false)
  | .bm m o es, e => match unMeth e with
    | some (x, y, q, xs, p) => (!(m == Bm.index) && !(m == Bm.index)) && (y == m.nm && (noSup x && (decide (q.endLine = p.line) && (isE c o x && (isEs c es xs && (if m == Bm.get2 then decide (xs.length = 2) else decide (xs.length < 20)))))))
    | none => false
  | .isi a t, e => match unCall e with
    | some (x, _, [y, z], _) => x == ("isinstance" : Str) && (c.isBlt x && (noStar y && (isE c a y && (match unName z with
      | some (w, _) => c.isBlt w && (w == (match t with
        | .str => ("str" : Str) | .tuple => "tuple" | .list => "list" | .int => "int" | .bool => "bool"))
      | none => false))))
    | _ => false
  | .dc _ own ke ve tg it cond, e => match unDC e with
    | some (x, y, [⟨t, i, ifs, 0⟩], sc, _) => noSet i && (isI c it t i && (blkC c.N c.sc sc (ownP c own) && (isTg (c.inner sc) tg t && ((tgIx tg).all (fun j => own.contains j) && (isE (c.inner sc) ke x && (isE (c.inner sc) ve y && isC (c.inner sc) cond ifs))))))
    | _ => false
  | .frz a, e => plainT e && isE c a e
  | _, _ => false
def isEs (c : Ctx) : Es → List Expr → Bool
  | .nil, [] => true
  | .cons a es, x :: xs => noStar x && (isE c a x && isEs c es xs)
  | _, _ => false
def isP (c : Ctx) : Es → List (Option Expr) → List Expr → Bool
  | .nil, [], [] => true
  | .cons k (.cons v r), some x :: ks, y :: vs => isE c k x && (isE c v y && isP c r ks vs)
  | _, _, _ => false
def isO (c : Ctx) : Es → Option Expr → Bool
  | .nil, none => true
  | .cons a .nil, some x => isE c a x
  | _, _ => false
def isC (c : Ctx) : Es → List Expr → Bool
  | .nil, [] => true
  | .cons a .nil, [x] => isE c a x
  | _, _ => false
def isI (c : Ctx) : Iy → Expr → Expr → Bool
  | .seq a, _, x => isE c a x
  | .rng es, _, x => match unCall x with
    | some (f, _, xs, _) => f == ("range" : Str) && (c.isBlt f && (isEs c es xs && (decide (0 < xs.length) && decide (xs.length < 4))))
    | none => false
  | .keys a, _, x => isE c a x
  | _, _, _ => false
end
end Z

/-! Z8: expressions. -/
namespace Z
open PySem PySem.Spec L2
open PyProof.Rows hiding St

/-- a def's promise: what the evaluator answers, if it ends well -/
def spF (W : Fx) (C : CallT) (f : Nat) : Sp := fun vs H Q _ => ∃ G ρ F S ds, StOk W G ρ F S H ∧ RDs W ρ F ds vs ∧ Post (RD W) W G ρ F (C f ds S) Q
/-- the def f stands at fa and keeps its promise, with room for k calls -/
def FOk (W : Fx) (C : CallT) (k f : Nat) (fa : Addr) : Prop := PySem.W.keepIn W.K (.ref fa) = true ∧ ∃ (fd : FuncData) (ps : List Str), Binds W.K fd ps [] ∧ FnOk W.P W.w W.K W.mg W.base CX0 k fa fd ps (spF W C f)
/-- what the module's names hold -/
def GOk (W : Fx) (C : CallT) (k : Nat) (g : List (Str × GI)) : Prop := ∀ x gi, g.lookup x = some gi → match gi with
  | .fn f => ∃ fa, W.mg x = some (.ref fa) ∧ FOk W C k f fa
  | .cls cl f => ∃ A fa, W.cl cl = some A ∧ W.mg x = some (.ref A) ∧ Mk W.K A fa ∧ FOk W C k f fa
  | .mth nm cf => ∀ p ∈ cf, ∃ A, W.cl p.1 = some A ∧ Cls W.K A ∧ ∃ fa, Meth W.K A nm fa ∧ FOk W C k p.2 fa
  | .fldn f => ∀ c A, W.cl c = some A → Cls W.K A ∧ NoAttr W.K A f
  | .prp nm cl f => ∃ A, W.cl cl = some A ∧ Cls W.K A ∧ ∃ p fa, PropOf W.K A nm p fa ∧ FOk W C k f fa
  | .val d => ∃ u v, W.mg x = some u ∧ RelV v u ∧ RD W [] (fun _ => none) d v
  | .blt => W.mg x = none
/-- where one stands -/
structure CxOk (W : Fx) (c : Ctx) (k : Nat) (X : Cx) : Prop where
  N : X.N = c.N
  nd : X.N.Nodup
  sc : X.env.scope = c.sc
  P : X.prog = W.P
  w : X.w = W.w
  K : X.K = W.K
  mg : X.mg = W.mg
  base : X.base = W.base
  calm : X.calm = true
  room : Room (k + 1) X.A
  fn : ∀ x, match c.cm with
    | none => X.fn x = true
    | some s => X.fn x = (s.names.lookup x == some .cell)
section
variable {W : Fx} {c : Ctx} {k : Nat} {X : Cx}
theorem CxOk.inner (h : CxOk W c k X) {s : Shared} {H : Hp} {sc : Scope} {C : Addr} {cl : List (Str × Addr)} {fp : List Addr} : CxOk W (c.inner sc) k (X.blk s H sc (compEnvC sc cl C X.env) fp) := by
  refine ⟨h.N, h.nd, ?_, h.P, h.w, h.K, h.mg, h.base, h.calm, h.room, fun _ => rfl⟩
  show relS sc X.env.scope = relS sc c.sc
  rw [h.sc]
theorem CxOk.var (h : CxOk W c k X) {i : Nat} {x : Str} (q : c.isVar i x = true) : X.N[i]? = some x ∧ Vis X.env.scope x ∧ (x == ("__debug__" : Str)) = false ∧ (x == ("__classdict__" : Str)) = false := by
  unfold Ctx.isVar at q
  simp only [Bool.and_eq_true, Bool.not_eq_true'] at q
  obtain ⟨q1, q2, q3, q4⟩ := q
  refine ⟨?_, ?_, q3, q4⟩
  · rw [h.N]
    cases e : c.N[i]? with
    | none => rw [e] at q1; cases q1
    | some y => rw [e] at q1; rw [beq_iff_eq.mp q1]
  · unfold Ctx.vis at q2
    rw [h.sc]
    split at q2 <;> first | (cases q2; done) | skip
    · rename_i e; exact .inl e
    · rename_i e; exact .inr (.inl e)
    · rename_i e; exact .inr (.inr e)
theorem CxOk.locv (h : CxOk W c k X) {i : Nat} {x : Str} (q : c.isLoc i x = true) : X.N[i]? = some x ∧ Loc X.env.scope x ∧ (X.fn x = true ∨ X.env.scope.names.lookup x = some .local) := by
  unfold Ctx.isLoc at q
  simp only [Bool.and_eq_true] at q
  obtain ⟨q1, q2, q3⟩ := q
  have hf := h.fn x
  refine ⟨?_, ?_, ?_⟩
  rotate_left 2
  · cases e : c.cm with
    | none => rw [e] at hf; exact .inl hf
    | some s =>
      rw [e] at hf q3
      simp only [Bool.or_eq_true] at q3
      rcases q3 with z | z
      · exact .inr (by rw [h.sc]; exact beq_iff_eq.mp z)
      · exact .inl (by rw [hf]; exact z)
  · rw [h.N]
    cases e : c.N[i]? with
    | none => rw [e] at q1; cases q1
    | some y => rw [e] at q1; rw [beq_iff_eq.mp q1]
  · unfold Ctx.loc at q2
    rw [h.sc]
    split at q2 <;> first | (cases q2; done) | skip
    · rename_i e; exact .inl e
    · rename_i e; exact .inr e
theorem CxOk.gl (h : CxOk W c k X) {x : Str} {gi : GI} (q : c.gl x = some gi) : Gl X x ∧ c.g.lookup x = some gi := by
  unfold Ctx.gl at q
  split at q
  · rename_i e
    refine ⟨?_, q⟩
    show X.env.scope.names.lookup x = some .globalImplicit
    rw [h.sc]; exact e
  · cases q
theorem CxOk.blt (h : CxOk W c k X) {C : CallT} (g : GOk W C k c.g) {x : Str} (q : c.isBlt x = true) : Gl X x ∧ X.mg x = none ∧ x ≠ "__name__" ∧ (x == ("__debug__" : Str)) = false := by
  unfold Ctx.isBlt at q
  simp only [Bool.and_eq_true, Bool.not_eq_true'] at q
  obtain ⟨q1, q2, q3⟩ := q
  split at q3
  · rename_i e
    obtain ⟨h1, h2⟩ := h.gl e
    have := g _ _ h2
    exact ⟨h1, by rw [h.mg]; exact this, fun z => by rw [z] at q2; simp at q2, q1⟩
  · cases q3
end

/-- what a walk gives, turn by turn -/
structure IW (W : Fx) (ρ : List Addr) (F : Hp) (ds : List D) (J : It) : Prop where
  go : ∀ i G ρ' F' S H, i < ds.length → Ext ρ F ρ' F' → StOk W G ρ' F' S H → J.go i H
  stop : ∀ G ρ' F' S H, Ext ρ F ρ' F' → StOk W G ρ' F' S H → J.stop ds.length H
  yld : ∀ i d G ρ' F' S H x H', ds[i]? = some d → Ext ρ F ρ' F' → StOk W G ρ' F' S H → J.yld i H x H' → ∃ F'', Ext ρ' F' ρ' F'' ∧ StOk W G ρ' F'' S H' ∧ RD W ρ' F'' d x
theorem IW.mono {W : Fx} {ρ ρ1 : List Addr} {F F1 : Hp} {ds : List D} {J : It} (h : IW W ρ F ds J) (e : Ext ρ F ρ1 F1) : IW W ρ1 F1 ds J :=
  ⟨fun i G ρ' F' S H hi x => h.go i G ρ' F' S H hi (e.trans x), fun G ρ' F' S H x => h.stop G ρ' F' S H (e.trans x), fun i d G ρ' F' S H y H' q x => h.yld i d G ρ' F' S H y H' q (e.trans x)⟩
abbrev tI (W : Fx) (f : Env → Store → R (List D)) : TI := tX (IW W) W f
theorem PI.imp {X : Cx} {tg it : Expr} {t t' : TI} (h : PI X tg it t) (i : ∀ σ H R, t' σ H R → t σ H R) : PI X tg it t' := ⟨fun pins s σ H R I q => h.run pins s σ H R I (i _ _ _ q)⟩
theorem PI.or {X : Cx} {tg it : Expr} {t t' : TI} (h : PI X tg it t) (h' : PI X tg it t') : PI X tg it (fun σ H R => t σ H R ∨ t' σ H R) := ⟨fun pins s σ H R I q => q.elim (h.run pins s σ H R I) (h'.run pins s σ H R I)⟩
section
variable {W : Fx} {ρ : List Addr} {F : Hp}
theorem iw_list {a : Addr} {ds : List D} {vs : List V} (h : Rd F a (.lst vs)) (r : RDs W ρ F ds vs) : IW W ρ F ds (Itl W.K a) := by
  have sq : ∀ {G ρ' F' S H}, Ext ρ F ρ' F' → StOk W G ρ' F' S H → SqL W.K H a vs := fun e s => .inl (s.rd _ _ trivial (e.rd _ _ trivial h))
  refine ⟨fun i G ρ' F' S H hi e s => ?_, fun G ρ' F' S H e s => ⟨vs, sq e s, by rw [r.length]; exact Nat.le_refl _⟩, fun i d G ρ' F' S H x H' hd e s y => ?_⟩
  · obtain ⟨v, h1, _⟩ := r.get (List.getElem?_eq_getElem hi)
    exact ⟨vs, v, sq e s, h1⟩
  · obtain ⟨v, h1, h2⟩ := r.get hd
    have h3 := y.2 vs (sq e s)
    rw [h1] at h3
    cases h3
    exact ⟨F', .refl, by rw [y.1]; exact s, h2.mono e⟩
theorem iw_scr {a : Addr} {ds : List D} {vs : List V} (h : SqL W.K F a vs) (r : RDs W ρ F ds vs) : IW W ρ F ds (Itl W.K a) := by
  have sq : ∀ {G ρ' F' S H}, Ext ρ F ρ' F' → StOk W G ρ' F' S H → SqL W.K H a vs := fun e s => SqL.sub s.rd (SqL.sub e.rd h)
  refine ⟨fun i G ρ' F' S H hi e s => ?_, fun G ρ' F' S H e s => ⟨vs, sq e s, by rw [r.length]; exact Nat.le_refl _⟩, fun i d G ρ' F' S H x H' hd e s y => ?_⟩
  · obtain ⟨v, h1, _⟩ := r.get (List.getElem?_eq_getElem hi)
    exact ⟨vs, v, sq e s, h1⟩
  · obtain ⟨v, h1, h2⟩ := r.get hd
    have h3 := y.2 vs (sq e s)
    rw [h1] at h3
    cases h3
    exact ⟨F', .refl, by rw [y.1]; exact s, h2.mono e⟩
theorem iw_tup {a : Addr} {ds : List D} {vs : List V} (h : SqT W.K F a vs) (r : RDs W ρ F ds vs) : IW W ρ F ds (Itt W.K a) := by
  have sq : ∀ {G ρ' F' S H}, Ext ρ F ρ' F' → StOk W G ρ' F' S H → SqT W.K H a vs := fun e s => SqT.sub s.rd (SqT.sub e.rd h)
  refine ⟨fun i G ρ' F' S H hi e s => ?_, fun G ρ' F' S H e s => ⟨vs, sq e s, by rw [r.length]; exact Nat.le_refl _⟩, fun i d G ρ' F' S H x H' hd e s y => ?_⟩
  · obtain ⟨v, h1, _⟩ := r.get (List.getElem?_eq_getElem hi)
    exact ⟨vs, v, sq e s, h1⟩
  · obtain ⟨v, h1, h2⟩ := r.get hd
    have h3 := y.2 vs (sq e s)
    rw [h1] at h3
    cases h3
    exact ⟨F', .refl, by rw [y.1]; exact s, h2.mono e⟩
theorem iw_str {z : Str} : IW W ρ F (z.cps.toList.map fun c => .str ⟨#[c]⟩) (Its z) := by
  refine ⟨fun i G ρ' F' S H hi e s => ?_, fun G ρ' F' S H e s => ?_, fun i d G ρ' F' S H x H' hd e s y => ?_⟩
  · show i < z.cps.size; simpa using hi
  · show z.cps.size ≤ _
    simp
  · obtain ⟨h1, c, h2, h3⟩ := y
    refine ⟨F', .refl, by rw [h1]; exact s, ?_⟩
    rw [List.getElem?_map] at hd
    have h4 : z.cps.toList[i]? = some c := by simpa using h2
    rw [h4] at hd
    cases hd
    rw [h3]
    exact .str _
theorem iw_range {lo : Int} {n : Nat} : IW W ρ F (rngV lo n) (Itr lo n) := by
  refine ⟨fun i G ρ' F' S H hi e s => ?_, fun G ρ' F' S H e s => ?_, fun i d G ρ' F' S H x H' hd e s y => ?_⟩
  · show i < n; simpa [rngV] using hi
  · show n ≤ _
    simp [rngV]
  · obtain ⟨h1, h2⟩ := y
    refine ⟨F', .refl, by rw [h1]; exact s, ?_⟩
    unfold rngV at hd
    rw [List.getElem?_map] at hd
    have hi : i < n := by
      by_cases hi : i < n
      · exact hi
      · rw [List.getElem?_eq_none (by simpa using hi)] at hd; cases hd
    rw [List.getElem?_range hi] at hd
    cases hd
    rw [h2]
    exact .int _
end

/-! ### the pieces -/
section
variable {W : Fx} {X : Cx}
theorem both {e : Expr} {f : Env → Store → R D} (hK : X.K = W.K) (h : PE X e (tE W f)) (he : ∀ whole, isTrue e X.env whole = (do let v ← whole; standAt e.pos; holding [v] (truthy v))) :
    PE X e (tE W fun σ S => fin false (f σ S)) ∧ PT X e (tT W fun σ S => fin true (f σ S)) := by
  refine ⟨h, ?_⟩
  refine ⟨fun pins s σ H Q I hq => ?_⟩
  obtain ⟨G, ρ, F, σ', S, st, r, p⟩ := hq
  refine isTrue_plain (thn (h.run pins s σ H (fun x H' => rT W truV x H' Q) I ?_) fun v s1 ⟨x, H1, I1, r1, q1⟩ => tru_E hK pins s1 σ H1 x v Q I1 r1 q1) (he _)
  refine tX.mk (RB := RB) (g := fun x S => (R.of (truV x S) S).bind fun b S1 => .ok (.bl b) S1) st r p fun ρ2 F2 d S2 x H2 e2 s2 _ rd p2 => ?_
  cases hb : truV d S2 with
  | none => rw [hb] at p2; exact p2.elim
  | some b =>
    rw [hb] at p2
    exact ⟨G, ρ2, F2, S2, d, b, s2, rd, hb, p2.fin s2 rfl⟩
theorem tE_bin {fa fb : Env → Store → R D} {op : D → D → Store → R D} {σ : St} {H : Hp} {Q : VK} (h : tE W (fun σ S => (fa σ S).bind fun x S1 => (fb σ S1).bind fun y S2 => op x y S2) σ H Q) : tOp (rE W op) (tE W fa) (tE W fb) σ H Q := by
  obtain ⟨G, ρ, F, σ', S, s, r, p⟩ := h
  exact tX.mk s r p fun ρ2 F2 a S2 x H2 e2 s2 r2 ra p2 => tX.mk s2 r2 p2 fun ρ3 F3 b S3 y H3 e3 s3 r3 rb p3 => ⟨G, ρ3, F3, S3, a, b, s3, ra.mono e3, rb, p3⟩
theorem tE_cmp {fa fb : Env → Store → R D} {op : D → D → Store → Option Bool} {σ : St} {H : Hp} {Q : VK} (h : tE W (fun σ S => (fa σ S).bind fun x S1 => (fb σ S1).bind fun y S2 => (R.of (op x y S2) S2).bind fun c S3 => .ok (.bl c) S3) σ H Q) : tOp (rC W op) (tE W fa) (tE W fb) σ H Q := by
  obtain ⟨G, ρ, F, σ', S, s, r, p⟩ := h
  refine tX.mk s r p fun ρ2 F2 a S2 x H2 e2 s2 r2 ra p2 => tX.mk s2 r2 p2 fun ρ3 F3 b S3 y H3 e3 s3 r3 rb p3 => ?_
  cases hb : op a b S3 with
  | none => rw [hb] at p3; exact p3.elim
  | some k =>
    rw [hb] at p3
    exact ⟨G, ρ3, F3, S3, a, b, k, s3, ra.mono e3, rb, hb, p3.fin s3 (.bl _)⟩
theorem pe_k {e : Expr} {d : D} {x : Const} (h : isConst d x = true) {k : Nat} {p : Pos} : PE X (.Constant x k p) (tE W fun _ S => .ok d S) := by
  have fin : ∀ {v : V} {σ : St} {H : Hp} {Q : VK}, (∀ ρ F, RD W ρ F d v) → tE W (fun _ S => .ok d S) σ H Q → tC v σ H Q := fun r ⟨G, ρ, F, σ', S, s, _, q⟩ => q.fin s (r ρ F)
  cases d <;> cases x <;> first | (cases h; done) | skip
  · exact PE.imp pe_non fun σ H Q q => fin (fun _ _ => .non) q
  · cases beq_iff_eq.mp h; exact PE.imp pe_bl fun σ H Q q => fin (fun _ _ => .bl _) q
  · cases beq_iff_eq.mp h; exact PE.imp pe_int fun σ H Q q => fin (fun _ _ => .int _) q
  · cases beq_iff_eq.mp h; exact PE.imp pe_str fun σ H Q q => fin (fun _ _ => .str _) q
theorem isBl_eq (r : R D) (f : Bool → Store → R D) : isBl r f = r.bind fun x S => match x with
  | .bl b => f b S
  | _ => .bad := rfl
/-- a test's step -/
theorem tT_mk {γ δ : Type} {RC : List Addr → Hp → γ → δ → Prop} {G : Hp} {ρ : List Addr} {F : Hp} {σ' : Env} {σ : St} {S : Store} {H : Hp} {f : Env → Store → R D} {g : D → Store → R γ} {Q : δ → Hp → Prop} {Q' : Bool → Hp → Prop}
    (s : StOk W G ρ F S H) (r : RS W ρ F σ' σ) (p : Post RC W G ρ F ((f σ' S).bind g) Q)
    (k : ∀ ρ2 F2 b S2 H2, Ext ρ F ρ2 F2 → StOk W G ρ2 F2 S2 H2 → RS W ρ2 F2 σ' σ → Post RC W G ρ2 F2 (g (.bl b) S2) Q → Q' b H2) : tT W f σ H Q' :=
  tX.mk s r p fun ρ2 F2 a S2 b H2 e2 s2 r2 ra p2 => by
    cases (show a = .bl b from ra)
    exact k ρ2 F2 b S2 H2 e2 s2 r2 p2
end
end Z

/-! Z9: targets, walks, comprehensions. -/
namespace Z
open PySem PySem.Spec L2
open PyProof.Rows hiding St

/-! ### targets -/
inductive SetBy (is : List Nat) (σ : St) : St → Prop
  | refl : SetBy is σ σ
  | step {σ1 : St} {i : Nat} {v : V} : SetBy is σ σ1 → i ∈ is → SetBy is σ (σ1.set i (some v))
theorem SetBy.mono {is js : List Nat} {σ σ1 : St} (h : SetBy is σ σ1) (m : ∀ i ∈ is, i ∈ js) : SetBy js σ σ1 := by
  induction h with
  | refl => exact .refl
  | step _ hi ih => exact .step ih (m _ hi)
theorem SetBy.trans {is : List Nat} {σ σ1 σ2 : St} (h : SetBy is σ σ1) (h2 : SetBy is σ1 σ2) : SetBy is σ σ2 := by
  induction h2 with
  | refl => exact h
  | step _ hi ih => exact .step ih hi
theorem wipe_set {σ : St} {i : Nat} {x : Option V} : ∀ {vs : List Nat}, i ∈ vs → wipe (σ.set i x) vs = wipe σ vs
  | v :: vs, h => by
    unfold wipe
    by_cases hi : i ∈ vs
    · rw [wipe_set hi]
    · have e : i = v := by
        rcases List.mem_cons.mp h with e | e
        · exact e
        · exact absurd e hi
      subst e
      have key : ∀ vs : List Nat, i ∉ vs → wipe (σ.set i x) vs = (wipe σ vs).set i x := by
        intro vs
        induction vs with
        | nil => intro _; rfl
        | cons w ws ih =>
          intro hn
          simp only [List.mem_cons, not_or] at hn
          show (wipe (σ.set i x) ws).set w none = ((wipe σ ws).set w none).set i x
          rw [ih hn.2, List.set_comm _ _ hn.1]
      rw [key vs hi, List.set_set]
theorem wipe_wipe {σ : St} : ∀ {vs ws : List Nat}, (∀ i ∈ vs, i ∈ ws) → wipe (wipe σ vs) ws = wipe σ ws
  | [], _, _ => rfl
  | v :: vs, ws, h => by
    show wipe ((wipe σ vs).set v none) ws = _
    rw [wipe_set (h v List.mem_cons_self), wipe_wipe fun i hi => h i (List.mem_cons_of_mem _ hi)]
theorem SetBy.wipe {is : List Nat} {σ σ1 : St} (h : SetBy is σ σ1) {vs : List Nat} (m : ∀ i ∈ is, i ∈ vs) : L2.wipe σ1 vs = L2.wipe σ vs := by
  induction h with
  | refl => rfl
  | step _ hi ih => rw [wipe_set (m _ hi), ih]
/-- a target's wish -/
def gT (W : Fx) (tg : Tg) : TG := fun v σ H Q => ∃ G ρ F σ' S d σ1, StOk W G ρ F S H ∧ RS W ρ F σ' σ ∧ RD W ρ F d v ∧ asg tg d σ' = some σ1 ∧ ∀ σ2, RS W ρ F σ1 σ2 → SetBy (tgIx tg) σ σ2 → Q σ2 H
def gTs (W : Fx) (ts : List Tg) : TGs := fun vs σ H Q => ∃ G ρ F σ' S ds σ1, StOk W G ρ F S H ∧ RS W ρ F σ' σ ∧ RDs W ρ F ds vs ∧ asgs ts ds σ' = some σ1 ∧ ∀ σ2, RS W ρ F σ1 σ2 → SetBy (tgsIx ts) σ σ2 → Q σ2 H
theorem PG.imp {X : Cx} {e : Expr} {t t' : TG} (h : PG X e t) (i : ∀ v σ H Q, t' v σ H Q → t v σ H Q) : PG X e t' := ⟨fun pins s σ H v u Q I r q => h.run pins s σ H v u Q I r (i _ _ _ _ q)⟩
theorem PGs.imp {X : Cx} {e : List Expr} {t t' : TGs} (h : PGs X e t) (i : ∀ v σ H Q, t' v σ H Q → t v σ H Q) : PGs X e t' := ⟨fun pins s σ H v u Q I r q => h.run pins s σ H v u Q I r (i _ _ _ _ q)⟩
theorem asgs_len : ∀ {ts : List Tg} {ds : List D} {σ σ1 : Env}, asgs ts ds σ = some σ1 → ts.length = ds.length
  | [], [], _, _, _ => rfl
  | [], _ :: _, _, _, h => by cases h
  | _ :: _, [], _, _, h => by cases h
  | t :: ts, d :: ds, σ, σ1, h => by
    simp only [asgs] at h
    split at h
    · rw [List.length_cons, List.length_cons, asgs_len h]
    · cases h
theorem assignEach_star {e : Expr} {es : List Expr} {env : PySem.Env} (h : noStar e = true) : ∃ t, assignEach (e :: es) env = (false, t) :: assignEach es env ∧ t = assign e env := by
  cases e <;> first | (cases h; done) | exact ⟨_, rfl, rfl⟩
theorem isTgs_star {c : Ctx} : ∀ {ts : List Tg} {es : List Expr}, isTgs c ts es = true → ts.length = es.length ∧ es.all noStar = true
  | [], [], _ => ⟨rfl, rfl⟩
  | [], _ :: _, h => by cases h
  | _ :: _, [], h => by cases h
  | t :: ts, e :: es, h => by
    simp only [isTgs, Bool.and_eq_true] at h
    obtain ⟨h1, h2⟩ := isTgs_star h.2.2
    exact ⟨by simp [h1], by simp [h.1, h2]⟩
theorem assignEach_len : ∀ {es : List Expr} {env : PySem.Env}, es.all noStar = true → (assignEach es env).length = es.length ∧ (assignEach es env).findIdx? (·.1) = none
  | [], _, _ => ⟨rfl, rfl⟩
  | e :: es, env, h => by
    rw [List.all_cons, Bool.and_eq_true] at h
    obtain ⟨t, e1, _⟩ := assignEach_star (es := es) (env := env) h.1
    obtain ⟨h2, h3⟩ := assignEach_len (es := es) (env := env) h.2
    rw [e1]
    refine ⟨by simp [h2], ?_⟩
    rw [List.findIdx?_cons, h3]
    rfl
section
variable {W : Fx} {c : Ctx} {k : Nat}
mutual
theorem pg_T {X : Cx} (cx : CxOk W c k X) : ∀ {tg : Tg} {e : Expr}, isTg c tg e = true → PG X e (gT W tg)
  | .nm i, e, h => by
    simp only [isTg] at h
    split at h
    · rename_i x p e1
      obtain rfl := unName_eq e1
      obtain ⟨h1, h2, hf'⟩ := cx.locv h
      refine PG.imp (pg_name cx.nd h1 h2 hf') fun v σ H Q q => ?_
      obtain ⟨G, ρ, F, σ', S, d, σ1, s, r, rd, ha, q⟩ := q
      simp only [asg] at ha
      split at ha
      · cases ha
        exact q _ (r.set i rd) (.step .refl (by simp [tgIx]))
      · cases ha
    · cases h
  | .tp ts, e, h => by
    simp only [isTg] at h
    split at h
    · rename_i es kk p e1
      obtain rfl := unTup_eq e1
      obtain ⟨h1, h2⟩ := isTgs_star h
      obtain ⟨h3, h4⟩ := assignEach_len (env := X.env) h2
      refine ⟨fun pins s σ H v u Q I rv q => ?_⟩
      obtain ⟨G, ρ, F, σ', S, d, σ1, st, r, rd, ha, q⟩ := q
      cases d <;> first | (cases ha; done) | skip
      · rename_i ds
        simp only [asg] at ha
        cases rd with
        | tup a t =>
          refine (pg_tup cx.calm (pgs_T cx h) (n := ts.length) (by rw [h3, h1]) h4).run pins s σ H _ u Q I rv ?_
          refine ⟨_, _, rfl, by rw [cx.K]; exact SqT.sub st.rd a, by rw [← t.length, asgs_len ha], G, ρ, F, σ', S, ds, σ1, st, r, t, ha, fun σ2 r2 b => q σ2 r2 ?_⟩
          simpa [tgIx] using b
      · rename_i ds
        simp only [asg] at ha
        cases rd with
        | lst a t =>
          refine (pg_unl cx.calm (pgs_T cx h) (n := ts.length) (by rw [h3, h1]) h4).run pins s σ H _ u Q I rv ?_
          refine ⟨_, _, rfl, by rw [cx.K]; exact .inl (st.rd _ _ trivial a), by rw [← t.length, asgs_len ha], G, ρ, F, σ', S, ds, σ1, st, r, t, ha, fun σ2 r2 b => q σ2 r2 ?_⟩
          simpa [tgIx] using b
    · cases h
theorem pgs_T {X : Cx} (cx : CxOk W c k X) : ∀ {ts : List Tg} {es : List Expr}, isTgs c ts es = true → PGs X es (gTs W ts)
  | [], [], _ => by
    refine PGs.imp pgs_nil fun vs σ H Q q => ?_
    obtain ⟨G, ρ, F, σ', S, ds, σ1, s, r, rd, ha, q⟩ := q
    cases ds with
    | nil => cases ha; cases rd; exact ⟨rfl, q _ r .refl⟩
    | cons _ _ => cases ha
  | [], _ :: _, h => by cases h
  | _ :: _, [], h => by cases h
  | t :: ts, e :: es, h => by
    simp only [isTgs, Bool.and_eq_true] at h
    obtain ⟨h1, h2, h3⟩ := h
    obtain ⟨u, e1, e2⟩ := assignEach_star (es := es) (env := X.env) h1
    refine PGs.imp (pgs_cons (pg_T cx h2) (pgs_T cx h3) (by rw [e1, List.map_cons, e2])) fun vs σ H Q q => ?_
    obtain ⟨G, ρ, F, σ', S, ds, σ1, s, r, rd, ha, q⟩ := q
    cases ds with
    | nil => cases ha
    | cons d ds =>
      simp only [asgs] at ha
      cases ha1 : asg t d σ' with
      | none => rw [ha1] at ha; cases ha
      | some σ3 =>
        rw [ha1] at ha
        cases rd with
        | cons a b =>
          refine ⟨_, _, rfl, G, ρ, F, σ', S, d, σ3, s, r, a, ha1, fun σ4 r4 b4 => ?_⟩
          refine ⟨G, ρ, F, σ3, S, ds, σ1, s, r4, b, ha, fun σ5 r5 b5 => q σ5 r5 ?_⟩
          exact (b4.mono fun i hi => by simp [tgsIx, hi]).trans (b5.mono fun i hi => by simp [tgsIx, hi])
end
end

/-! ### walks -/
def RBo : List Addr → Hp → Bool → Bool → Prop := fun _ _ a b => a = b
section
variable {W : Fx} {X : Cx} {tg it : Expr}
theorem pi_seq {f : Env → Store → R D} (hK : X.K = W.K) (h : PE X it (tE W f)) : PI X tg it (tI W fun σ S => (f σ S).bind fun x S1 => R.of (seqV x) S1) := by
  refine PI.imp (PI.or (pi_list h) (PI.or (pi_tup h) (pi_str h))) fun σ H R' q => ?_
  obtain ⟨G, ρ, F, σ', S, s, r, p⟩ := q
  replace p : Post (IW W) W G ρ F ((f σ' S).bind fun x S1 => R.of (seqV x) S1) R' := p
  rw [hK]
  have go : ∀ {Q : V → Hp → Prop}, (∀ ρ2 F2 d S2 x H2, f σ' S = .ok d S2 → Ext ρ F ρ2 F2 → StOk W G ρ2 F2 S2 H2 → RD W ρ2 F2 d x → Q x H2) → f σ' S ≠ .bad → tE W f σ H Q := fun {Q} k nb => by
    refine ⟨G, ρ, F, σ', S, s, r, ?_⟩
    cases e : f σ' S with
    | bad => exact absurd e nb
    | ok d S2 => exact fun ρ2 F2 x H2 e2 s2 rd => k ρ2 F2 d S2 x H2 e e2 s2 rd
  cases e : f σ' S with
  | bad => rw [e] at p; exact p.elim
  | ok d S2 =>
    rw [e] at p
    have nb : f σ' S ≠ .bad := by rw [e]; exact fun z => nomatch z
    simp only [R.ok_bind] at p
    cases d <;> first | exact p.elim | skip
    · rename_i z
      refine .inr (.inr (go (fun ρ2 F2 d S3 x H2 e3 e2 s2 rd => ?_) nb))
      rw [e] at e3; cases e3
      cases rd
      exact ⟨z, rfl, (p.mono e2).fin s2 iw_str⟩
    · refine .inr (.inl (go (fun ρ2 F2 d S3 x H2 e3 e2 s2 rd => ?_) nb))
      rw [e] at e3; cases e3
      cases rd with
      | tup a t => exact ⟨_, rfl, ⟨_, SqT.sub s2.rd a⟩, (p.mono e2).fin s2 (iw_tup a t)⟩
    · refine .inl (go (fun ρ2 F2 d S3 x H2 e3 e2 s2 rd => ?_) nb)
      rw [e] at e3; cases e3
      cases rd with
      | lst a t => exact ⟨_, rfl, ⟨_, .inl (s2.rd _ _ trivial a)⟩, (p.mono e2).fin s2 (iw_list a t)⟩
    · refine .inl (go (fun ρ2 F2 d S3 x H2 e3 e2 s2 rd => ?_) nb)
      rw [e] at e3; cases e3
      cases rd with
      | scr a => exact ⟨_, rfl, ⟨_, SqL.sub s2.rd a⟩, (p.mono e2).fin s2 (iw_scr a (RDs.scr _))⟩
end
/-! ### for -/
/-- what is wanted of a statement's end -/
def PostS (W : Fx) (G : Hp) (ρ : List Addr) (F : Hp) (r : R Fl) (D : Ends) : Prop := match r with
  | .ok (.nx σ1) S' => ∀ ρ' F' σ2 H', Ext ρ F ρ' F' → StOk W G ρ' F' S' H' → RS W ρ' F' σ1 σ2 → D.nx σ2 H'
  | .ok (.ct σ1) S' => ∀ ρ' F' σ2 H', Ext ρ F ρ' F' → StOk W G ρ' F' S' H' → RS W ρ' F' σ1 σ2 → D.ct σ2 H'
  | .ok (.ret d) S' => ∀ ρ' F' v H', Ext ρ F ρ' F' → StOk W G ρ' F' S' H' → RD W ρ' F' d v → D.rt v H'
  | .bad => False
theorem PostS.mono {W : Fx} {G : Hp} {ρ ρ' : List Addr} {F F' : Hp} {r : R Fl} {D : Ends} (e : Ext ρ F ρ' F') (h : PostS W G ρ F r D) : PostS W G ρ' F' r D := by
  cases r with
  | bad => exact h
  | ok a S =>
    cases a with
    | nx σ => exact fun ρ2 F2 b H2 e2 s q => h ρ2 F2 b H2 (e.trans e2) s q
    | ct σ => exact fun ρ2 F2 b H2 e2 s q => h ρ2 F2 b H2 (e.trans e2) s q
    | ret σ => exact fun ρ2 F2 b H2 e2 s q => h ρ2 F2 b H2 (e.trans e2) s q
def tS (W : Fx) (f : Env → Store → R Fl) : TS := fun D σ H => ∃ G ρ F σ' S, StOk W G ρ F S H ∧ RS W ρ F σ' σ ∧ PostS W G ρ F (f σ' S) D
/-- an expression's step within a statement -/
theorem tX.mkS {α β : Type} {RA : List Addr → Hp → α → β → Prop} {W : Fx} {G : Hp} {ρ : List Addr} {F : Hp} {σ' : Env} {σ : St} {S : Store} {H : Hp} {f : Env → Store → R α} {g : α → Store → R Fl} {D : Ends} {Q' : β → Hp → Prop}
    (s : StOk W G ρ F S H) (r : RS W ρ F σ' σ) (p : PostS W G ρ F ((f σ' S).bind g) D)
    (k : ∀ ρ2 F2 a S2 b H2, Ext ρ F ρ2 F2 → StOk W G ρ2 F2 S2 H2 → RS W ρ2 F2 σ' σ → RA ρ2 F2 a b → PostS W G ρ2 F2 (g a S2) D → Q' b H2) : tX RA W f σ H Q' := by
  refine ⟨G, ρ, F, σ', S, s, r, ?_⟩
  cases h : f σ' S with
  | bad => rw [h] at p; exact p.elim
  | ok a S2 =>
    rw [h] at p
    exact fun ρ2 F2 b H2 e s2 q => k ρ2 F2 a S2 b H2 e s2 (r.mono e) q (p.mono e)
/-- a statement's step within a statement -/
theorem tS.mk {W : Fx} {G : Hp} {ρ : List Addr} {F : Hp} {σ' : Env} {σ : St} {S : Store} {H : Hp} {f : Env → Store → R Fl} {g : Fl → Store → R Fl} {D D' : Ends}
    (s : StOk W G ρ F S H) (r : RS W ρ F σ' σ) (p : PostS W G ρ F ((f σ' S).bind g) D)
    (kn : ∀ ρ2 F2 σ1 S2 σ2 H2, Ext ρ F ρ2 F2 → StOk W G ρ2 F2 S2 H2 → RS W ρ2 F2 σ1 σ2 → PostS W G ρ2 F2 (g (.nx σ1) S2) D → D'.nx σ2 H2)
    (kc : ∀ ρ2 F2 σ1 S2 σ2 H2, Ext ρ F ρ2 F2 → StOk W G ρ2 F2 S2 H2 → RS W ρ2 F2 σ1 σ2 → PostS W G ρ2 F2 (g (.ct σ1) S2) D → D'.ct σ2 H2)
    (kr : ∀ ρ2 F2 d S2 v H2, Ext ρ F ρ2 F2 → StOk W G ρ2 F2 S2 H2 → RD W ρ2 F2 d v → PostS W G ρ2 F2 (g (.ret d) S2) D → D'.rt v H2) : tS W f D' σ H := by
  refine ⟨G, ρ, F, σ', S, s, r, ?_⟩
  cases h : f σ' S with
  | bad => rw [h] at p; exact p.elim
  | ok a S2 =>
    rw [h] at p
    cases a with
    | nx σ1 => exact fun ρ2 F2 b H2 e s2 q => kn ρ2 F2 σ1 S2 b H2 e s2 q (p.mono e)
    | ct σ1 => exact fun ρ2 F2 b H2 e s2 q => kc ρ2 F2 σ1 S2 b H2 e s2 q (p.mono e)
    | ret d => exact fun ρ2 F2 b H2 e s2 q => kr ρ2 F2 d S2 b H2 e s2 q (p.mono e)
theorem tS_for {W : Fx} {fi : Env → Store → R (List D)} {tg : Tg} {fb : Env → Store → R Fl} {D : Ends} {σ : St} {H : Hp}
    (h : tS W (fun σ S => (fi σ S).bind fun ds S1 => forR (fun d σ1 S2 => match asg tg d σ1 with
      | some σ2 => fb σ2 S2
      | none => .bad) ds σ S1) D σ H) : tFor (tI W fi) (gT W tg) (tS W fb) D σ H := by
  obtain ⟨G, ρ, F, σ', S, s, r, p⟩ := h
  refine tX.mkS s r p fun ρ1 F1 ds S1 J H1 e1 s1 r1 iw p1 => ?_
  refine ⟨fun i m σ2 H2 => m = ds.length - i ∧ i ≤ ds.length ∧ ∃ ρ2 F2 σ3 S2, Ext ρ1 F1 ρ2 F2 ∧ StOk W G ρ2 F2 S2 H2 ∧ RS W ρ2 F2 σ3 σ2 ∧ PostS W G ρ2 F2 (forR (fun d σ1 S2 => match asg tg d σ1 with
      | some σ2 => fb σ2 S2
      | none => .bad) (ds.drop i) σ3 S2) D, ⟨ds.length, by simp, Nat.zero_le _, ρ1, F1, σ', S1, .refl, s1, r1, p1⟩, ?_⟩
  rintro i m σ2 H2 ⟨rfl, hi, ρ2, F2, σ3, S2, e2, s2, r2, p2⟩
  by_cases hlt : i < ds.length
  · refine .inr ⟨iw.go i G ρ2 F2 S2 H2 hlt e2 s2, fun σ4 H4 => i + 1 ≤ ds.length ∧ ∃ ρ4 F4 σ5 S4, Ext ρ1 F1 ρ4 F4 ∧ StOk W G ρ4 F4 S4 H4 ∧ RS W ρ4 F4 σ5 σ4 ∧ PostS W G ρ4 F4 (forR (fun d σ1 S2 => match asg tg d σ1 with
      | some σ2 => fb σ2 S2
      | none => .bad) (ds.drop (i + 1)) σ5 S4) D, fun σ4 H4 q => ⟨ds.length - (i + 1), by omega, rfl, q⟩, fun x H3 y => ?_⟩
    have hd : ds[i]? = some ds[i] := List.getElem?_eq_getElem hlt
    obtain ⟨F3, e3, s3, rd⟩ := iw.yld i ds[i] G ρ2 F2 S2 H2 x H3 hd e2 s2 y
    rw [List.drop_eq_getElem_cons hlt] at p2
    simp only [forR] at p2
    cases ha : asg tg ds[i] σ3 with
    | none => rw [ha] at p2; exact p2.elim
    | some σ4 =>
      rw [ha] at p2
      refine ⟨G, ρ2, F3, σ3, S2, ds[i], σ4, s3, r2.mono e3, rd, ha, fun σ5 r5 _ => ?_⟩
      refine tS.mk s3 r5 (p2.mono e3) (fun ρ6 F6 σ6 S6 σ7 H6 e6 s6 r6 p6 => ?_) (fun ρ6 F6 σ6 S6 σ7 H6 e6 s6 r6 p6 => ?_) fun ρ6 F6 d S6 v H6 e6 s6 r6 p6 => ?_
      · exact ⟨hlt, ρ6, F6, σ6, S6, (e2.trans e3).trans e6, s6, r6, p6⟩
      · exact ⟨hlt, ρ6, F6, σ6, S6, (e2.trans e3).trans e6, s6, r6, p6⟩
      · exact p6 ρ6 F6 v H6 .refl s6 r6
  · have e : i = ds.length := by omega
    subst e
    refine .inl ⟨iw.stop G ρ2 F2 S2 H2 e2 s2, ?_⟩
    rw [List.drop_length] at p2
    exact p2 ρ2 F2 σ2 H2 .refl s2 r2
theorem tS_while {W : Fx} {fc : Env → Store → R D} {fb : Env → Store → R Fl} {n : Nat} {D : Ends} {σ : St} {H : Hp}
    (h : tS W (fun σ S => whR (fun σ1 S1 => (fc σ1 S1).bind fun d S2 => match d with
      | .bl c => .ok c S2
      | _ => .bad) fb n σ S) D σ H) : tWhile (tT W fc) (tS W fb) D σ H := by
  obtain ⟨G, ρ, F, σ', S, s, r, p⟩ := h
  refine ⟨fun m σ2 H2 => ∃ ρ2 F2 σ3 S2, StOk W G ρ2 F2 S2 H2 ∧ RS W ρ2 F2 σ3 σ2 ∧ PostS W G ρ2 F2 (whR (fun σ1 S1 => (fc σ1 S1).bind fun d S2 => match d with
      | .bl c => .ok c S2
      | _ => .bad) fb m σ3 S2) D, ⟨n, ρ, F, σ', S, s, r, p⟩, ?_⟩
  rintro m σ2 H2 ⟨ρ2, F2, σ3, S2, s2, r2, p2⟩
  cases m with
  | zero => exact p2.elim
  | succ m =>
    simp only [whR] at p2
    rw [R.bind_bind] at p2
    refine tX.mkS (RA := RB) s2 r2 p2 fun ρ4 F4 a S4 b H4 e4 s4 r4 ra p4 => ?_
    cases (show a = .bl b from ra)
    simp only [R.ok_bind] at p4
    cases b with
    | true =>
      rw [if_pos rfl] at p4 ⊢
      refine ⟨fun σ5 H5 => ∃ ρ2 F2 σ3 S2, StOk W G ρ2 F2 S2 H5 ∧ RS W ρ2 F2 σ3 σ5 ∧ PostS W G ρ2 F2 (whR (fun σ1 S1 => (fc σ1 S1).bind fun d S2 => match d with
        | .bl c => .ok c S2
        | _ => .bad) fb m σ3 S2) D, fun σ5 H5 q => ⟨m, Nat.lt_succ_self m, q⟩, ?_⟩
      refine tS.mk s4 r4 p4 (fun ρ6 F6 σ6 S6 σ7 H6 e6 s6 r6 p6 => ?_) (fun ρ6 F6 σ6 S6 σ7 H6 e6 s6 r6 p6 => ?_) fun ρ6 F6 d S6 v H6 e6 s6 r6 p6 => ?_
      · exact ⟨ρ6, F6, σ6, S6, s6, r6, p6⟩
      · exact ⟨ρ6, F6, σ6, S6, s6, r6, p6⟩
      · exact p6 ρ6 F6 v H6 .refl s6 r6
    | false =>
      rw [if_neg Bool.false_ne_true] at p4 ⊢
      exact p4 ρ4 F4 σ2 H4 .refl s4 r4
end Z

/-! Z10: list comprehensions; every expression. -/
namespace Z
open PySem PySem.Spec L2
open PyProof.Rows hiding St

theorem mapR_cons {β : Type} {f : D → Store → R (List β)} {x : D} {xs : List D} {S : Store} {zs : List β} {S2 : Store} (h : mapR f (x :: xs) S = .ok zs S2) :
    ∃ ys S1 ws, f x S = .ok ys S1 ∧ mapR f xs S1 = .ok ws S2 ∧ zs = ys ++ ws := by
  simp only [mapR] at h
  cases e : f x S with
  | bad => rw [e] at h; cases h
  | ok ys S1 =>
    rw [e] at h
    simp only [R.ok_bind] at h
    cases e2 : mapR f xs S1 with
    | bad => rw [e2] at h; cases h
    | ok ws S3 =>
      rw [e2] at h
      cases h
      exact ⟨ys, S1, ws, rfl, e2, rfl⟩
abbrev tCo (W : Fx) (f : Env → Store → R Bool) : TT := tX RBo W f

/-! ### a guarded object -/
section
variable {W : Fx} {G : Hp} {ρ : List Addr} {F : Hp} {S : Store} {H : Hp} {A : Addr} {u u' : HO}
theorem StOk.gadd (s : StOk W G ρ F S H) (hD : H A = none) (u : HO) : StOk W (upd G A u) ρ F S (upd H A u) := by
  have hF : F A = none := by
    cases q : F A with
    | none => rfl
    | some x => have := s.sub A x q; rw [hD] at this; cases this
  refine ⟨s.len, fun a x h => ?_, fun l o h => ?_, fun a x h => ?_, s.inj⟩
  · by_cases e : a = A
    · subst e; rw [hF] at h; cases h
    · rw [upd_ne e]; exact s.sub a x h
  · obtain ⟨a, x, h1, h2, h3, h4⟩ := s.live l o h
    have e : a ≠ A := fun e => by subst e; rw [hD] at h2; cases h2
    exact ⟨a, x, h1, by rw [upd_ne e]; exact h2, h3, h4⟩
  · by_cases e : a = A
    · subst e
      rw [upd_same] at h ⊢
      refine ⟨h, hF, fun l o hl hr => ?_⟩
      obtain ⟨b, x, h1, h2, h3, h4⟩ := s.live l o hl
      rw [hr] at h1; cases h1; rw [hD] at h2; cases h2
    · rw [upd_ne e] at h ⊢
      exact s.guard a x h
theorem StOk.gput (s : StOk W (upd G A u) ρ F S H) (u' : HO) : StOk W (upd G A u') ρ F S (upd H A u') := by
  obtain ⟨g1, g2, g3⟩ := s.guard A u upd_same
  refine ⟨s.len, fun a x h => ?_, fun l o h => ?_, fun a x h => ?_, s.inj⟩
  · by_cases e : a = A
    · subst e; rw [g2] at h; cases h
    · rw [upd_ne e]; exact s.sub a x h
  · obtain ⟨a, x, h1, h2, h3, h4⟩ := s.live l o h
    have e : a ≠ A := fun e => by subst e; exact g3 l o h h1
    exact ⟨a, x, h1, by rw [upd_ne e]; exact h2, h3, h4⟩
  · by_cases e : a = A
    · subst e
      rw [upd_same] at h ⊢
      exact ⟨h, g2, g3⟩
    · rw [upd_ne e] at h ⊢
      exact s.guard a x (by rw [upd_ne e]; exact h)
theorem StOk.gown (s : StOk W (upd G A u) ρ F S H) (hG : G A = none) {o : Obj} (r : OR W ρ F o u) : StOk W G (ρ ++ [A]) F (S ++ [some o]) H ∧ Ext ρ F (ρ ++ [A]) F := by
  obtain ⟨g1, g2, g3⟩ := s.guard A u upd_same
  have e : Ext ρ F (ρ ++ [A]) F := ⟨fun l a h => by rw [List.getElem?_append_left (by
      by_cases hl : l < ρ.length
      · exact hl
      · rw [List.getElem?_eq_none (by simpa using hl)] at h; cases h)]; exact h, fun _ _ _ h => h, fun _ _ _ _ h => h, fun _ _ _ h => h⟩
  refine ⟨⟨by simp [s.len], s.sub, fun l x h => ?_, fun a x h => ?_, fun l l' x x' a h h' q q' => ?_⟩, e⟩
  · rcases objAt_append h with ⟨_, h⟩ | ⟨rfl, rfl⟩
    · obtain ⟨a, y, h1, h2, h3, h4⟩ := s.live l x h
      exact ⟨a, y, e.loc _ _ h1, h2, h3.mono e, h4⟩
    · exact ⟨A, u, by rw [← s.len]; simp, g1, r.mono e, g2⟩
  · have ne : a ≠ A := fun q => by subst q; rw [hG] at h; cases h
    obtain ⟨h1, h2, h3⟩ := s.guard a x (by rw [upd_ne ne]; exact h)
    refine ⟨h1, h2, fun l y hl hr => ?_⟩
    rcases objAt_append hl with ⟨hl', hl⟩ | ⟨rfl, rfl⟩
    · rw [List.getElem?_append_left (by rw [s.len]; exact hl')] at hr
      exact h3 l y hl hr
    · rw [← s.len] at hr; simp at hr; exact ne hr.symm
  · rcases objAt_append h with ⟨hl, h0⟩ | ⟨rfl, rfl⟩ <;> rcases objAt_append h' with ⟨hl', h0'⟩ | ⟨rfl, rfl⟩
    · rw [List.getElem?_append_left (by rw [s.len]; exact hl)] at q
      rw [List.getElem?_append_left (by rw [s.len]; exact hl')] at q'
      exact s.inj l l' x x' a h0 h0' q q'
    · rw [List.getElem?_append_left (by rw [s.len]; exact hl)] at q
      rw [← s.len] at q'; simp at q'; subst q'
      exact absurd q (g3 l _ h0)
    · rw [List.getElem?_append_left (by rw [s.len]; exact hl')] at q'
      rw [← s.len] at q; simp at q; subst q
      exact absurd q' (g3 l' _ h0')
    · rfl
theorem StOk.gcold (s : StOk W (upd G A u) ρ F S H) (hG : G A = none) : StOk W G ρ (upd F A u) S H ∧ Ext ρ F ρ (upd F A u) := by
  obtain ⟨g1, g2, g3⟩ := s.guard A u upd_same
  have e : Ext ρ F ρ (upd F A u) := ⟨fun _ _ h => h, fun a x pl h => by
      have ne : a ≠ A := fun q => by
        subst q
        rcases h with h | ⟨o, h⟩ <;> (rw [g2] at h; cases h)
      rcases h with h | ⟨o, h⟩
      · exact .inl (by rw [upd_ne ne]; exact h)
      · exact .inr ⟨o, by rw [upd_ne ne]; exact h⟩, fun a C dx fs h => by
      have ne : a ≠ A := fun q => by subst q; rw [g2] at h; cases h
      rw [upd_ne ne]; exact h, fun a o x h => by
      have ne : a ≠ A := fun q => by subst q; rw [g2] at h; cases h
      rw [upd_ne ne]; exact h⟩
  refine ⟨⟨s.len, fun a x h => ?_, fun l o h => ?_, fun a x h => ?_, s.inj⟩, e⟩
  · by_cases q : a = A
    · subst q; rw [upd_same] at h; cases h; exact g1
    · rw [upd_ne q] at h; exact s.sub a x h
  · obtain ⟨a, x, h1, h2, h3, h4⟩ := s.live l o h
    have q : a ≠ A := fun q => by subst q; exact g3 l o h h1
    exact ⟨a, x, h1, h2, h3.mono e, by rw [upd_ne q]; exact h4⟩
  · have ne : a ≠ A := fun q => by subst q; rw [hG] at h; cases h
    obtain ⟨h1, h2, h3⟩ := s.guard a x (by rw [upd_ne ne]; exact h)
    exact ⟨h1, by rw [upd_ne ne]; exact h2, h3⟩
end
theorem R.bind_okE {α β : Type} {r : R α} {f : α → Store → R β} {b : β} {S' : Store} (h : r.bind f = .ok b S') : ∃ a S1, r = .ok a S1 ∧ f a S1 = .ok b S' := by
  cases r with
  | bad => cases h
  | ok a S1 => exact ⟨a, S1, rfl, h⟩
/-- an evaluation whose end is known -/
theorem tX.at {α β : Type} {RA : List Addr → Hp → α → β → Prop} {W : Fx} {G : Hp} {ρ : List Addr} {F : Hp} {σ' : Env} {σ : St} {S : Store} {H : Hp} {f : Env → Store → R α} {a : α} {S2 : Store} {Q : β → Hp → Prop}
    (s : StOk W G ρ F S H) (r : RS W ρ F σ' σ) (e : f σ' S = .ok a S2) (k : ∀ ρ2 F2 b H2, Ext ρ F ρ2 F2 → StOk W G ρ2 F2 S2 H2 → RS W ρ2 F2 σ' σ → RA ρ2 F2 a b → Q b H2) : tX RA W f σ H Q := by
  refine ⟨G, ρ, F, σ', S, s, r, ?_⟩
  rw [e]
  exact fun ρ2 F2 b H2 e2 s2 q => k ρ2 F2 b H2 e2 s2 (r.mono e2) q
/-- a list's end: owned or cold -/
theorem mkL_guard {W : Fx} {G : Hp} {ρ : List Addr} {F : Hp} {S : Store} {H : Hp} {A : Addr} {ow : Bool} {ys : List D} {vs : List V} {Q : V → Hp → Prop} (hG : G A = none)
    (s : StOk W (upd G A (.lst vs)) ρ F S H) (r : RDs W ρ F ys vs) (p : Post (RD W) W G ρ F (mkL ow ys S) Q) : Q (.ref A) H := by
  unfold mkL at p
  split at p
  · cases ow with
    | true =>
      obtain ⟨s1, e1⟩ := s.gown hG (o := .lst ys) r
      refine p _ _ _ _ e1 s1 (.ref ?_)
      rw [← s.len]; simp
    | false =>
      obtain ⟨s1, e1⟩ := s.gcold hG
      exact p _ _ _ _ e1 s1 (.lst (.inl upd_same) (r.mono e1))
  · exact p.elim
theorem tE_lc {W : Fx} {fi : Env → Store → R (List D)} {tg : Tg} {own : List Nat} {fc : Env → Store → R Bool} {fe : Env → Store → R D} {ow : Bool} {σ : St} {H : Hp} {Q : VK} (hown : ∀ i ∈ tgIx tg, i ∈ own)
    (h : tE W (fun σ S => (fi σ S).bind fun ds S1 => (mapR (fun d S2 => match asg tg d (wipeE σ own) with
      | some σ1 => (fc σ1 S2).bind fun b S3 => if b then (fe σ1 S3).bind fun y S4 => .ok [y] S4 else .ok [] S3
      | none => .bad) ds S1).bind fun ys S2 => mkL ow ys S2) σ H Q) : tLc (tI W fi) (gT W tg) (tCo W fc) (tE W fe) own σ H Q := by
  obtain ⟨G, ρ, F, σ', S, s, r, p⟩ := h
  refine tX.mk s r p fun ρ1 F1 ds S1 J H1 e1 s1 r1 iw p1 => ?_
  intro A hA
  have hG : G A = none := by
    cases q : G A with
    | none => rfl
    | some x => have := (s1.guard A x q).1; rw [hA] at this; cases this
  generalize hstep : (fun d S2 => match asg tg d (wipeE σ' own) with
      | some σ1 => (fc σ1 S2).bind fun b S3 => if b then (fe σ1 S3).bind fun y S4 => R.ok [y] S4 else .ok [] S3
      | none => .bad) = step at p1
  cases hm : mapR step ds S1 with
  | bad => rw [hm] at p1; exact p1.elim
  | ok ys Sn =>
    rw [hm] at p1
    simp only [R.ok_bind] at p1
    have hlen : ys.length ≤ sizeLine := by
      by_cases hl : ys.length ≤ sizeLine
      · exact hl
      · simp only [mkL, if_neg hl] at p1; exact p1.elim
    refine ⟨fun i m H2 => m = ds.length - i ∧ i ≤ ds.length ∧ ∃ ρ2 F2 S2 acc vs rest, Ext ρ1 F1 ρ2 F2 ∧ StOk W (upd G A (.lst vs)) ρ2 F2 S2 H2 ∧ RDs W ρ2 F2 acc vs ∧ mapR step (ds.drop i) S2 = .ok rest Sn ∧ ys = acc ++ rest,
      ⟨ds.length, by simp, Nat.zero_le _, ρ1, F1, S1, [], [], ys, .refl, s1.gadd hA _, .nil, hm, rfl⟩, ?_⟩
    rintro i m H2 ⟨rfl, hi, ρ2, F2, S2, acc, vs, rest, e2, s2, ra, hr, hys⟩
    by_cases hlt : i < ds.length
    · refine .inr ⟨iw.go i _ ρ2 F2 S2 H2 hlt e2 s2, fun H4 => i + 1 ≤ ds.length ∧ ∃ ρ4 F4 S4 acc vs rest, Ext ρ1 F1 ρ4 F4 ∧ StOk W (upd G A (.lst vs)) ρ4 F4 S4 H4 ∧ RDs W ρ4 F4 acc vs ∧ mapR step (ds.drop (i + 1)) S4 = .ok rest Sn ∧ ys = acc ++ rest,
        fun H4 q => ⟨ds.length - (i + 1), by omega, rfl, q⟩, fun x H3 y => ?_⟩
      have hd : ds[i]? = some ds[i] := List.getElem?_eq_getElem hlt
      obtain ⟨F3, e3, s3, rd⟩ := iw.yld i ds[i] _ ρ2 F2 S2 H2 x H3 hd e2 s2 y
      rw [List.drop_eq_getElem_cons hlt] at hr
      obtain ⟨y1, S5, rest1, hs1, hs2, hrest⟩ := mapR_cons hr
      rw [← hstep] at hs1
      simp only at hs1
      cases ha : asg tg ds[i] (wipeE σ' own) with
      | none => rw [ha] at hs1; cases hs1
      | some σ4 =>
        rw [ha] at hs1
        obtain ⟨b, S6, hc1, hc2⟩ := R.bind_okE hs1
        refine ⟨_, ρ2, F3, wipeE σ' own, S2, ds[i], σ4, s3, ((r1.mono e2).mono e3).wipe own, rd, ha, fun σ5 r5 sb => ⟨?_, ?_⟩⟩
        · rw [sb.wipe hown, wipe_wipe fun i hi => hi]
        · refine tX.at (RA := RBo) s3 r5 hc1 fun ρ4 F4 b' H4 e4 s4 r4 hb => ?_
          cases (show b = b' from hb)
          cases b with
          | true =>
            rw [if_pos rfl] at hc2 ⊢
            obtain ⟨y2, S7, he1, he2⟩ := R.bind_okE hc2
            cases he2
            refine tX.at s4 r4 he1 fun ρ5 F5 v H5 e5 s5 r5 rv => ?_
            refine ⟨vs, (s5.guard A _ upd_same).1, ?_, hlt, ρ5, F5, _, acc ++ [y2], vs ++ [v], rest1, ((e2.trans e3).trans e4).trans e5, s5.gput _, ((ra.mono e3).mono (e4.trans e5)).append (.cons rv .nil), hs2, ?_⟩
            · rw [← ra.length]
              rw [hys, hrest] at hlen
              simp at hlen
              omega
            · rw [hys, hrest]; simp
          | false =>
            rw [if_neg Bool.false_ne_true] at hc2 ⊢
            cases hc2
            exact ⟨hlt, ρ4, F4, _, acc, vs, rest1, (e2.trans e3).trans e4, s4, (ra.mono e3).mono e4, hs2, by rw [hys, hrest]; rfl⟩
    · have e : i = ds.length := by omega
      subst e
      rw [List.drop_length] at hr
      cases hr
      refine .inl ⟨iw.stop _ ρ2 F2 _ H2 e2 s2, ?_⟩
      rw [List.append_nil] at hys
      subst hys
      exact mkL_guard hG s2 ra (p1.mono e2)
theorem tE_lc2 {W : Fx} {fi : Env → Store → R (List D)} {tg : Tg} {own : List Nat} {fi2 : Env → Store → R (List D)} {tg2 : Tg} {own2 : List Nat} {fe : Env → Store → R D} {ow : Bool} {σ : St} {H : Hp} {Q : VK} (hown : ∀ i ∈ tgIx tg, i ∈ own) (hown2 : ∀ i ∈ tgIx tg2, i ∈ own2)
    (h : tE W (fun σ S => (fi σ S).bind fun ds S1 => (mapR (fun d S2 => match asg tg d (wipeE σ own) with
      | some σ1 => (fi2 σ1 S2).bind fun es S3 => mapR (fun e S4 => match asg tg2 e (wipeE σ1 own2) with
        | some σ2 => (fe σ2 S4).bind fun y S5 => .ok [y] S5
        | none => .bad) es S3
      | none => .bad) ds S1).bind fun ys S2 => mkL ow ys S2) σ H Q) : tLc2 (tI W fi) (gT W tg) tYes (tI W fi2) (gT W tg2) tYes (tE W fe) own own2 σ H Q := by
  obtain ⟨G, ρ, F, σ', S, s, r, p⟩ := h
  refine tX.mk s r p fun ρ1 F1 ds S1 J H1 e1 s1 r1 iw p1 => ?_
  intro A hA
  have hG : G A = none := by
    cases q : G A with
    | none => rfl
    | some x => have := (s1.guard A x q).1; rw [hA] at this; cases this
  generalize hstep : (fun d S2 => match asg tg d (wipeE σ' own) with
      | some σ1 => (fi2 σ1 S2).bind fun es S3 => mapR (fun e S4 => match asg tg2 e (wipeE σ1 own2) with
        | some σ2 => (fe σ2 S4).bind fun y S5 => R.ok [y] S5
        | none => .bad) es S3
      | none => .bad) = step at p1
  cases hm : mapR step ds S1 with
  | bad => rw [hm] at p1; exact p1.elim
  | ok ys Sn =>
    rw [hm] at p1
    simp only [R.ok_bind] at p1
    have hlen : ys.length ≤ sizeLine := by
      by_cases hl : ys.length ≤ sizeLine
      · exact hl
      · simp only [mkL, if_neg hl] at p1; exact p1.elim
    refine ⟨fun i m H2 => m = ds.length - i ∧ i ≤ ds.length ∧ ∃ ρ2 F2 S2 acc vs rest, Ext ρ1 F1 ρ2 F2 ∧ StOk W (upd G A (.lst vs)) ρ2 F2 S2 H2 ∧ RDs W ρ2 F2 acc vs ∧ mapR step (ds.drop i) S2 = .ok rest Sn ∧ ys = acc ++ rest,
      ⟨ds.length, by simp, Nat.zero_le _, ρ1, F1, S1, [], [], ys, .refl, s1.gadd hA _, .nil, hm, rfl⟩, ?_⟩
    rintro i m H2 ⟨rfl, hi, ρ2, F2, S2, acc, vs, rest, e2, s2, ra, hr, hys⟩
    by_cases hlt : i < ds.length
    · refine .inr ⟨iw.go i _ ρ2 F2 S2 H2 hlt e2 s2, fun H4 => i + 1 ≤ ds.length ∧ ∃ ρ4 F4 S4 acc vs rest, Ext ρ1 F1 ρ4 F4 ∧ StOk W (upd G A (.lst vs)) ρ4 F4 S4 H4 ∧ RDs W ρ4 F4 acc vs ∧ mapR step (ds.drop (i + 1)) S4 = .ok rest Sn ∧ ys = acc ++ rest,
        fun H4 q => ⟨ds.length - (i + 1), by omega, rfl, q⟩, fun x H3 y => ?_⟩
      have hd : ds[i]? = some ds[i] := List.getElem?_eq_getElem hlt
      obtain ⟨F3, e3, s3, rd⟩ := iw.yld i ds[i] _ ρ2 F2 S2 H2 x H3 hd e2 s2 y
      rw [List.drop_eq_getElem_cons hlt] at hr
      obtain ⟨y1, S5, rest1, hs1, hs2, hrest⟩ := mapR_cons hr
      rw [← hstep] at hs1
      simp only at hs1
      cases ha : asg tg ds[i] (wipeE σ' own) with
      | none => rw [ha] at hs1; cases hs1
      | some σ4 =>
        rw [ha] at hs1
        obtain ⟨es, S6, hc1, hc2⟩ := R.bind_okE hs1
        refine ⟨_, ρ2, F3, wipeE σ' own, S2, ds[i], σ4, s3, ((r1.mono e2).mono e3).wipe own, rd, ha, fun σ5 r5 sb => ⟨?_, ?_⟩⟩
        · rw [sb.wipe hown, wipe_wipe fun i hi => hi]
        unfold tYes
        refine iteT ?_
        refine tX.at (RA := IW W) s3 r5 hc1 fun ρ4 F4 J1 H4 e4 s4 r4 iw1 => ?_
        generalize hstep2 : (fun e S4 => match asg tg2 e (wipeE σ4 own2) with
          | some σ2 => (fe σ2 S4).bind fun y S5 => R.ok [y] S5
          | none => .bad) = step2 at hc2
        refine ⟨fun j k H => k = es.length - j ∧ j ≤ es.length ∧ ∃ ρ5 F5 S7 acc' vs' rest', Ext ρ4 F4 ρ5 F5 ∧ StOk W (upd G A (.lst vs')) ρ5 F5 S7 H ∧ RDs W ρ5 F5 acc' vs' ∧ mapR step2 (es.drop j) S7 = .ok rest' S5 ∧ acc ++ y1 = acc' ++ rest',
          ⟨es.length, by simp, Nat.zero_le _, ρ4, F4, S6, acc, vs, y1, .refl, s4, (ra.mono e3).mono e4, hc2, rfl⟩, ?_⟩
        rintro j k H5 ⟨rfl, hj, ρ5, F5, S7, acc', vs', rest', e5, s5, ra', hr', hys'⟩
        by_cases hjt : j < es.length
        · refine .inr ⟨iw1.go j _ ρ5 F5 S7 H5 hjt e5 s5, fun H => j + 1 ≤ es.length ∧ ∃ ρ5 F5 S7 acc' vs' rest', Ext ρ4 F4 ρ5 F5 ∧ StOk W (upd G A (.lst vs')) ρ5 F5 S7 H ∧ RDs W ρ5 F5 acc' vs' ∧ mapR step2 (es.drop (j + 1)) S7 = .ok rest' S5 ∧ acc ++ y1 = acc' ++ rest',
            fun H q => ⟨es.length - (j + 1), by omega, rfl, q⟩, fun x' H6 y' => ?_⟩
          have hd' : es[j]? = some es[j] := List.getElem?_eq_getElem hjt
          obtain ⟨F6, e6, s6, rd'⟩ := iw1.yld j es[j] _ ρ5 F5 S7 H5 x' H6 hd' e5 s5 y'
          rw [List.drop_eq_getElem_cons hjt] at hr'
          obtain ⟨y2, S8, rest2, hs3, hs4, hrest2⟩ := mapR_cons hr'
          rw [← hstep2] at hs3
          simp only at hs3
          cases ha2 : asg tg2 es[j] (wipeE σ4 own2) with
          | none => rw [ha2] at hs3; cases hs3
          | some σ6 =>
            rw [ha2] at hs3
            obtain ⟨y3, S9, he1, he2⟩ := R.bind_okE hs3
            cases he2
            refine ⟨_, ρ5, F6, wipeE σ4 own2, S7, es[j], σ6, s6, ((r4.mono e5).mono e6).wipe own2, rd', ha2, fun σ7 r7 sb2 => ⟨?_, ?_⟩⟩
            · rw [sb2.wipe hown2, wipe_wipe fun i hi => hi]
            refine iteT ?_
            refine tX.at s6 r7 he1 fun ρ7 F7 v H7 e7 s7 r8 rv => ?_
            refine ⟨vs', (s7.guard A _ upd_same).1, ?_, hjt, ρ7, F7, _, acc' ++ [y3], vs' ++ [v], rest2, (e5.trans e6).trans e7, s7.gput _, (ra'.mono (e6.trans e7)).append (.cons rv .nil), hs4, ?_⟩
            · rw [← ra'.length]
              have h1 : ys.length = (acc ++ y1 ++ rest1).length := by rw [hys, hrest]; simp
              rw [hys', hrest2] at h1
              simp at h1
              omega
            · rw [hys', hrest2]; simp
        · have e : j = es.length := by omega
          subst e
          rw [List.drop_length] at hr'
          cases hr'
          rw [List.append_nil] at hys'
          subst hys'
          exact .inl ⟨iw1.stop _ ρ5 F5 _ H5 e5 s5, hlt, ρ5, F5, _, acc ++ y1, vs', rest1, ((e2.trans e3).trans e4).trans e5, s5, ra', hs2, by rw [hys, hrest]; simp⟩
    · have e : i = ds.length := by omega
      subst e
      rw [List.drop_length] at hr
      cases hr
      refine .inl ⟨iw.stop _ ρ2 F2 _ H2 e2 s2, ?_⟩
      rw [List.append_nil] at hys
      subst hys
      exact mkL_guard hG s2 ra (p1.mono e2)
end Z

/-! Z11: every expression. -/
namespace Z
open PySem PySem.Spec L2
open PyProof.Rows hiding St

structure OkE (W : Fx) (C : CallT) (X : Cx) (e : E) (x : Expr) : Prop where
  v : PE X x (tE W fun σ S => ev C σ e false S)
  t : PT X x (tT W fun σ S => ev C σ e true S)
  w : ∀ o a b r p, x = .BoolOp o (a :: b :: r) p → PW X x (tT W fun σ S => ev C σ e true S)
def notBool : Expr → Bool
  | .BoolOp _ _ _ => false
  | _ => true
section
variable {W : Fx} {C : CallT} {X : Cx} {c : Ctx} {k : Nat}
theorem OkE.of {e : E} {x : Expr} (h : PE X x (tE W fun σ S => ev C σ e false S) ∧ PT X x (tT W fun σ S => ev C σ e true S)) (nb : notBool x = true) : OkE W C X e x :=
  ⟨h.1, h.2, fun o a b r p q => by subst q; cases nb⟩
theorem CxOk.un (cx : CxOk W c k X) : X.A.units + 65 < cLine := by have := cx.room.un; omega
theorem k_var (cx : CxOk W c k X) {i : Nat} {x : Str} {p : Pos} (h : c.isVar i x = true) : OkE W C X (.var i) (.Name x p) := by
  obtain ⟨h1, h2, h3, h4⟩ := cx.var h
  refine .of ?_ rfl
  simp only [ev]
  refine both cx.K (PE.imp (pe_var h1 h2 h3 h4) fun σ H Q q => ?_) fun _ => rfl
  obtain ⟨G, ρ, F, σ', S, s, r, p⟩ := q
  simp only at p
  split at p
  · rename_i d e
    obtain ⟨v, e1, rv⟩ := r.2 i d e
    exact ⟨v, e1, p.fin s rv⟩
  · exact p.elim
theorem k_k (cx : CxOk W c k X) {d : D} {x : Const} {j : Nat} {p : Pos} (h : isConst d x = true) : OkE W C X (.k d) (.Constant x j p) := by
  refine .of ?_ rfl
  simp only [ev]
  exact both cx.K (pe_k (e := .Constant x j p) h) fun _ => rfl
theorem k_gl (cx : CxOk W c k X) (g : GOk W C k c.g) {d : D} {x : Str} {p : Pos} (h : c.isVal x d = true) : OkE W C X (.gl x d) (.Name x p) := by
  unfold Ctx.isVal at h
  simp only [Bool.and_eq_true, Bool.not_eq_true'] at h
  obtain ⟨h1, h2⟩ := h
  split at h2
  · rename_i e1 eq
    obtain ⟨q1, q2⟩ := cx.gl eq
    obtain ⟨u, v, m, rv, rd⟩ := g _ _ q2
    obtain rfl := (D.eqb_iff _ _).mp h2
    refine .of ?_ rfl
    simp only [ev]
    refine both cx.K (PE.imp (pe_glob q1 (by rw [cx.mg]; exact m) rv h1) fun σ H Q q => ?_) fun _ => rfl
    obtain ⟨G, ρ, F, σ', S, s, r, p⟩ := q
    exact p.fin s (rd.mono ⟨fun l a z => by simp at z, fun a u _ z => (by rcases z with z | ⟨o, z⟩ <;> simp at z), fun _ _ _ _ z => (by simp at z), fun _ _ _ z => (by simp at z)⟩)
  · cases h2
theorem k_tup (cx : CxOk W c k X) {es : Es} {xs : List Expr} {j : Nat} {p : Pos} (h : PA X xs (tAs W fun σ S => evs C σ es S)) : OkE W C X (.tup es) (.Tuple xs j p) := by
  refine .of ?_ rfl
  simp only [ev]
  refine both cx.K (PE.imp (pe_tup h) fun σ H Q q => ?_) fun _ => rfl
  obtain ⟨G, ρ, F, σ', S, s, r, p⟩ := q
  refine tX.mk s r p fun ρ2 F2 ds S2 vs H2 e2 s2 r2 ra p2 => ?_
  split at p2
  · rename_i z
    exact ⟨by rw [← ra.length]; exact z, mkT_ok s2 ra p2⟩
  · exact p2.elim
theorem k_lst (cx : CxOk W c k X) {ow : Bool} {es : Es} {xs : List Expr} {p : Pos} (h : PA X xs (tAs W fun σ S => evs C σ es S)) : OkE W C X (.lst ow es) (.List xs p) := by
  refine .of ?_ rfl
  simp only [ev]
  refine both cx.K (PE.imp (pe_lst h) fun σ H Q q => ?_) fun _ => rfl
  obtain ⟨G, ρ, F, σ', S, s, r, p⟩ := q
  refine tX.mk s r p fun ρ2 F2 ds S2 vs H2 e2 s2 r2 ra p2 => mkL_ok s2 ra p2
theorem k_bin (cx : CxOk W c k X) {op : BOp} {ow : Bool} {a b : E} {x y : Expr} {p : Pos} (ha : OkE W C X a x) (hb : OkE W C X b y) : OkE W C X (.bin op ow a b) (.BinOp x op.py y p) := by
  refine .of ?_ rfl
  simp only [ev]
  exact both cx.K (PE.imp (pe_op (bin_ok cx.K op ow) ha.v hb.v) fun σ H Q q => tE_bin q) fun _ => rfl
theorem k_neg (cx : CxOk W c k X) {a : E} {x : Expr} {p : Pos} (ha : OkE W C X a x) : OkE W C X (.neg a) (.UnaryOp .USub x p) := by
  refine .of ?_ rfl
  simp only [ev]
  refine both cx.K (PE.imp (pe_un un_neg ha.v) fun σ H Q q => ?_) fun _ => rfl
  obtain ⟨G, ρ, F, σ', S, s, r, p⟩ := q
  refine tX.mk s r p fun ρ2 F2 d S2 v H2 e2 s2 r2 ra p2 => ?_
  cases d <;> first | exact p2.elim | skip
  cases ra
  exact ⟨_, rfl, p2.fin s2 (.int _)⟩
theorem k_cmp (cx : CxOk W c k X) {op : COp} {a b : E} {x y : Expr} {p : Pos} (ha : OkE W C X a x) (hb : OkE W C X b y) (hm : behindInMarks op.py y = false) : OkE W C X (.cmp op a b) (.Compare x [op.py] [y] p) := by
  have ho := cmp_ok (W := W) cx.K cx.w cx.un op
  refine .of ?_ rfl
  simp only [ev]
  refine ⟨PE.imp (pe_cmpR ho ha.v hb.v hm) fun σ H Q q => tE_cmp q, PT.imp (pt_cmpR ho ha.v hb.v hm) fun σ H Q q => ?_⟩
  obtain ⟨G, ρ, F, σ', S, s, r, p⟩ := q
  refine tE_cmp ⟨G, ρ, F, σ', S, s, r, ?_⟩
  have key : ∀ r : R D, (∀ d S', r = .ok d S' → ∃ b, d = .bl b) → Post RB W G ρ F (fin true r) Q → Post (RD W) W G ρ F r fun x H' => ∃ k, x = .bl k ∧ Q k H' := fun r hb p => by
    cases r with
    | bad => exact p.elim
    | ok d S' =>
      obtain ⟨b, rfl⟩ := hb d S' rfl
      intro ρ' F' v H' e' s' rv
      cases rv
      exact ⟨b, rfl, p ρ' F' b H' e' s' rfl⟩
  refine key _ (fun d S' e => ?_) p
  obtain ⟨_, _, _, e⟩ := R.bind_okE e
  obtain ⟨_, _, _, e⟩ := R.bind_okE e
  obtain ⟨_, _, _, e⟩ := R.bind_okE e
  cases e
  exact ⟨_, rfl⟩
theorem k_chain (cx : CxOk W c k X) {op op' : COp} {a b d : E} {x y z : Expr} {p : Pos} (ha : OkE W C X a x) (hb : OkE W C X b y) (hd : OkE W C X d z) (hm : lastMarks [op.py, op'.py] [y, z] = false) :
    OkE W C X (.chain op op' a b d) (.Compare x [op.py, op'.py] [y, z] p) := by
  have ho := cmp_ok (W := W) cx.K cx.w cx.un op
  have ho' := cmp_ok (W := W) cx.K cx.w cx.un op'
  have main : ∀ {σ : St} {H : Hp} {Q : VK}, tE W (fun σ S => (ev C σ a false S).bind fun x S1 => (ev C σ b false S1).bind fun y S2 => (R.of (cmpV op x y S2) S2).bind fun t S3 =>
      if t then (ev C σ d false S3).bind fun z S4 => (R.of (cmpV op' y z S4) S4).bind fun u S5 => .ok (.bl u) S5 else .ok (.bl false) S3) σ H Q →
      tChain (rC W (cmpV op)) (rC W (cmpV op')) (tE W fun σ S => ev C σ a false S) (tE W fun σ S => ev C σ b false S) (tE W fun σ S => ev C σ d false S) σ H Q := by
    intro σ H Q q
    obtain ⟨G, ρ, F, σ', S, s, r, p⟩ := q
    refine tX.mk s r p fun ρ2 F2 u S2 v H2 e2 s2 r2 ra p2 => tX.mk s2 r2 p2 fun ρ3 F3 u3 S3 v3 H3 e3 s3 r3 rb p3 => ?_
    cases hc : cmpV op u u3 S3 with
    | none => rw [hc] at p3; exact p3.elim
    | some t =>
      rw [hc] at p3
      simp only [R.of_some, R.ok_bind] at p3
      refine ⟨G, ρ3, F3, S3, u, u3, t, s3, ra.mono e3, rb, hc, t, rfl, ?_⟩
      cases t with
      | true =>
        rw [if_pos rfl] at p3 ⊢
        refine tX.mk s3 r3 p3 fun ρ4 F4 u4 S4 v4 H4 e4 s4 r4 rc p4 => ?_
        cases hc2 : cmpV op' u3 u4 S4 with
        | none => rw [hc2] at p4; exact p4.elim
        | some t2 =>
          rw [hc2] at p4
          exact ⟨G, ρ4, F4, S4, u3, u4, t2, s4, rb.mono e4, rc, hc2, p4.fin s4 (.bl _)⟩
      | false =>
        rw [if_neg Bool.false_ne_true] at p3 ⊢
        exact p3.fin s3 (.bl _)
  refine .of ?_ rfl
  simp only [ev]
  refine ⟨PE.imp (pe_chain ho ho' ha.v hb.v hd.v hm) fun σ H Q q => main q, PT.imp (pt_chain ho ho' ha.v hb.v hd.v hm) fun σ H Q q => ?_⟩
  obtain ⟨G, ρ, F, σ', S, s, r, p⟩ := q
  refine main ⟨G, ρ, F, σ', S, s, r, ?_⟩
  have key : ∀ r : R D, (∀ d S', r = .ok d S' → ∃ b, d = .bl b) → Post RB W G ρ F (fin true r) Q → Post (RD W) W G ρ F r fun x H' => ∃ k, x = .bl k ∧ Q k H' := fun r hb p => by
    cases r with
    | bad => exact p.elim
    | ok d S' =>
      obtain ⟨b, rfl⟩ := hb d S' rfl
      intro ρ' F' v H' e' s' rv
      cases rv
      exact ⟨b, rfl, p ρ' F' b H' e' s' rfl⟩
  refine key _ (fun u S' e => ?_) p
  obtain ⟨_, _, _, e⟩ := R.bind_okE e
  obtain ⟨_, _, _, e⟩ := R.bind_okE e
  obtain ⟨t, _, _, e⟩ := R.bind_okE e
  cases t with
  | true =>
    rw [if_pos rfl] at e
    obtain ⟨_, _, _, e⟩ := R.bind_okE e
    obtain ⟨_, _, _, e⟩ := R.bind_okE e
    cases e
    exact ⟨_, rfl⟩
  | false =>
    rw [if_neg Bool.false_ne_true] at e
    cases e
    exact ⟨_, rfl⟩
/-- a value that is a bool -/
theorem bl_step {G : Hp} {ρ : List Addr} {F : Hp} {σ' : Env} {σ : St} {S : Store} {H : Hp} {f : Env → Store → R D} {g : Bool → Store → R D} {γ : Type} {RC : List Addr → Hp → D → γ → Prop} {Q : γ → Hp → Prop} {Q' : VK}
    (s : StOk W G ρ F S H) (r : RS W ρ F σ' σ) (p : Post RC W G ρ F (isBl (f σ' S) g) Q)
    (k : ∀ ρ2 F2 b S2 H2, StOk W G ρ2 F2 S2 H2 → RS W ρ2 F2 σ' σ → Post RC W G ρ2 F2 (g b S2) Q → Q' (.bl b) H2) : tE W f σ H Q' := by
  refine tX.mk s r p fun ρ2 F2 d S2 v H2 e2 s2 r2 ra p2 => ?_
  cases d <;> first | exact p2.elim | skip
  cases ra
  exact k _ _ _ _ _ s2 r2 p2
theorem bt_step {G : Hp} {ρ : List Addr} {F : Hp} {σ' : Env} {σ : St} {S : Store} {H : Hp} {f : Env → Store → R D} {g : Bool → Store → R D} {γ : Type} {RC : List Addr → Hp → D → γ → Prop} {Q : γ → Hp → Prop} {Q' : Bool → Hp → Prop}
    (s : StOk W G ρ F S H) (r : RS W ρ F σ' σ) (p : Post RC W G ρ F (isBl (f σ' S) g) Q)
    (k : ∀ ρ2 F2 b S2 H2, StOk W G ρ2 F2 S2 H2 → RS W ρ2 F2 σ' σ → Post RC W G ρ2 F2 (g b S2) Q → Q' b H2) : tT W f σ H Q' := by
  refine tX.mk s r p fun ρ2 F2 d S2 b H2 e2 s2 r2 ra p2 => ?_
  cases (show d = .bl b from ra)
  exact k _ _ _ _ _ s2 r2 p2
theorem k_and (cx : CxOk W c k X) {a b : E} {x y : Expr} {r : List Expr} {p : Pos} (ha : OkE W C X a x) (hb : PE X (.BoolOp .And (y :: r) p) (tE W fun σ S => ev C σ b false S)) (hb' : PW X (.BoolOp .And (y :: r) p) (tT W fun σ S => ev C σ b true S)) :
    OkE W C X (.and a b) (.BoolOp .And (x :: y :: r) p) := by
  have w : PW X (.BoolOp .And (x :: y :: r) p) (tT W fun σ S => ev C σ (.and a b) true S) := by
    simp only [ev]
    refine PW.imp (pw_and ha.t hb') fun σ H Q q => ?_
    obtain ⟨G, ρ, F, σ', S, s, r, p⟩ := q
    refine bt_step s r p fun ρ2 F2 b S2 H2 s2 r2 p2 => ?_
    cases b with
    | true => rw [if_pos rfl] at p2 ⊢; exact ⟨G, ρ2, F2, σ', S2, s2, r2, p2⟩
    | false => rw [if_neg Bool.false_ne_true] at p2 ⊢; exact p2.fin s2 rfl
  refine ⟨?_, w.pt, fun _ _ _ _ _ _ => w⟩
  simp only [ev]
  refine PE.imp (pe_and ha.v hb) fun σ H Q q => ?_
  obtain ⟨G, ρ, F, σ', S, s, r, p⟩ := q
  refine bl_step s r p fun ρ2 F2 b S2 H2 s2 r2 p2 => ⟨b, rfl, ?_⟩
  cases b with
  | true => rw [if_pos rfl] at p2 ⊢; exact ⟨G, ρ2, F2, σ', S2, s2, r2, p2⟩
  | false => rw [if_neg Bool.false_ne_true] at p2 ⊢; exact p2.fin s2 (.bl _)
theorem k_or (cx : CxOk W c k X) {a b : E} {x y : Expr} {r : List Expr} {p : Pos} (ha : OkE W C X a x) (hb : PE X (.BoolOp .Or (y :: r) p) (tE W fun σ S => ev C σ b false S)) (hb' : PW X (.BoolOp .Or (y :: r) p) (tT W fun σ S => ev C σ b true S)) :
    OkE W C X (.or a b) (.BoolOp .Or (x :: y :: r) p) := by
  have w : PW X (.BoolOp .Or (x :: y :: r) p) (tT W fun σ S => ev C σ (.or a b) true S) := by
    simp only [ev]
    refine PW.imp (pw_or ha.t hb') fun σ H Q q => ?_
    obtain ⟨G, ρ, F, σ', S, s, r, p⟩ := q
    refine bt_step s r p fun ρ2 F2 b S2 H2 s2 r2 p2 => ?_
    cases b with
    | true => rw [if_pos rfl] at p2 ⊢; exact p2.fin s2 rfl
    | false => rw [if_neg Bool.false_ne_true] at p2 ⊢; exact ⟨G, ρ2, F2, σ', S2, s2, r2, p2⟩
  refine ⟨?_, w.pt, fun _ _ _ _ _ _ => w⟩
  simp only [ev]
  refine PE.imp (pe_or ha.v hb) fun σ H Q q => ?_
  obtain ⟨G, ρ, F, σ', S, s, r, p⟩ := q
  refine bl_step s r p fun ρ2 F2 b S2 H2 s2 r2 p2 => ⟨b, rfl, ?_⟩
  cases b with
  | true => rw [if_pos rfl] at p2 ⊢; exact p2.fin s2 (.bl _)
  | false => rw [if_neg Bool.false_ne_true] at p2 ⊢; exact ⟨G, ρ2, F2, σ', S2, s2, r2, p2⟩
/-- not, of any value -/
theorem pe_notE {a x : Expr} {p : Pos} {f : Env → Store → R D} (hK : X.K = W.K) (ha : PE X x (tE W f)) : PE X (.UnaryOp .Not x p) (tE W fun σ S => (f σ S).bind fun x S1 => (R.of (truV x S1) S1).bind fun c S2 => .ok (.bl (!c)) S2) := by
  refine ⟨fun pins s σ H Q I h => ?_⟩
  obtain ⟨G, ρ, F, σ', S, st, r, p⟩ := h
  refine UnaryOp_ (thn (ha.run pins s σ H (fun x H1 => rT W truV x H1 fun b H2 => Q (.bl (!b)) H2) I ?_) fun v s1 ⟨x, H1, I1, r1, q1⟩ => ?_)
  · refine tX.mk st r p fun ρ2 F2 d S2 v H2 e2 s2 r2 ra p2 => ?_
    cases hc : truV d S2 with
    | none => rw [hc] at p2; exact p2.elim
    | some b =>
      rw [hc] at p2
      exact ⟨G, ρ2, F2, S2, d, b, s2, ra, hc, p2.fin s2 (.bl _)⟩
  · refine not_of (thn (tru_E hK pins s1 σ H1 x v _ I1 r1 q1) fun b s2 ⟨H2, I2, q2⟩ => ⟨.bl (!b), H2, I2, rfl, q2⟩)
theorem k_not (cx : CxOk W c k X) {a : E} {x : Expr} {p : Pos} (ha : OkE W C X a x) : OkE W C X (.not a) (.UnaryOp .Not x p) := by
  refine .of ⟨?_, ?_⟩ rfl
  · simp only [ev, if_neg Bool.false_ne_true]
    exact pe_notE (a := x) cx.K ha.v
  · simp only [ev, if_pos]
    refine PT.imp (pt_not ha.t) fun σ H Q q => ?_
    obtain ⟨G, ρ, F, σ', S, s, r, p⟩ := q
    exact bt_step s r p fun ρ2 F2 b S2 H2 s2 r2 p2 => p2.fin s2 rfl
theorem k_ite (cx : CxOk W c k X) {t a b : E} {z x y : Expr} {p : Pos} (ht : OkE W C X t z) (ha : OkE W C X a x) (hb : OkE W C X b y) : OkE W C X (.ite t a b) (.IfExp z x y p) := by
  refine .of ⟨?_, ?_⟩ rfl
  · simp only [ev]
    refine PE.imp (pe_ifExp ht.t ha.v hb.v) fun σ H Q q => ?_
    obtain ⟨G, ρ, F, σ', S, s, r, p⟩ := q
    refine bt_step s r p fun ρ2 F2 b S2 H2 s2 r2 p2 => ?_
    cases b with
    | true => rw [if_pos rfl] at p2 ⊢; exact ⟨G, ρ2, F2, σ', S2, s2, r2, p2⟩
    | false => rw [if_neg Bool.false_ne_true] at p2 ⊢; exact ⟨G, ρ2, F2, σ', S2, s2, r2, p2⟩
  · simp only [ev]
    refine ⟨fun pins s σ H Q I q => ?_⟩
    have q' : (tIf (tT W fun σ S => ev C σ t true S) (fun σ H R => (tT W fun σ S => ev C σ a true S) σ H Q) (fun σ H R => (tT W fun σ S => ev C σ b true S) σ H Q)) σ H (fun _ _ => True) := by
      obtain ⟨G, ρ, F, σ', S, s, r, p⟩ := q
      refine bt_step s r p fun ρ2 F2 b S2 H2 s2 r2 p2 => ?_
      cases b with
      | true => rw [if_pos rfl] at p2 ⊢; exact ⟨G, ρ2, F2, σ', S2, s2, r2, p2⟩
      | false => rw [if_neg Bool.false_ne_true] at p2 ⊢; exact ⟨G, ρ2, F2, σ', S2, s2, r2, p2⟩
    refine isTrue_IfExp (thn (ht.t.run pins s σ H _ I q') fun d s1 ⟨H1, I1, q1⟩ => ?_)
    cases d with
    | true => exact ha.t.run pins s1 σ H1 Q I1 q1
    | false => exact hb.t.run pins s1 σ H1 Q I1 q1
theorem k_call (cx : CxOk W c k X) (g : GOk W C k c.g) {f : Nat} {m : Md} {es : Es} {x : Str} {xs : List Expr} {q p : Pos} (hf : c.isFn x f = true) (ha : PA X xs (tAs W fun σ S => evs C σ es S)) (hs : xs.all noStar = true) (he : xs = [] → es = .nil) : OkE W C X (.call f m es) (.Call (.Name x q) xs [] p) := by
  unfold Ctx.isFn at hf
  simp only [Bool.and_eq_true, Bool.not_eq_true'] at hf
  obtain ⟨h1, h2⟩ := hf
  split at h2
  case h_2 => cases h2
  rename_i f' e
  obtain rfl := beq_iff_eq.mp h2
  obtain ⟨q1, q2⟩ := cx.gl e
  obtain ⟨fa, hm, kp, fd, ps, hb, F⟩ := g _ _ q2
  have F' : FnOk X.prog X.w X.K X.mg X.base CX0 k fa fd ps (spF W C f) := by rw [cx.P, cx.w, cx.K, cx.mg, cx.base]; exact F
  refine .of ?_ rfl
  simp only [ev]
  refine both cx.K ?_ fun _ => rfl
  have wish : ∀ {σ : St} {H : Hp} {Q : VK}, tE W (fun σ S => (evs C σ es S).bind fun ds S1 => endV m S1 (C f ds S1)) σ H Q → tCall (spF W C f) [] E0 (tAs W fun σ S => evs C σ es S) σ H Q := by
    intro σ H Q q
    obtain ⟨G, ρ, F, σ', S, s, r, p⟩ := q
    refine tX.mk s r p fun ρ2 F2 ds S2 vs H2 e2 s2 r2 ra p2 => ⟨G, ρ2, F2, S2, ds, s2, by rw [List.append_nil]; exact ra, endV_ok s2 p2⟩
  cases xs with
  | cons y ys =>
    rw [List.all_cons, Bool.and_eq_true] at hs
    exact PE.imp (pe_call F' (cx.room.mono (Nat.le_succ _)) q1 (by rw [cx.mg]; exact hm) (by rw [cx.K]; exact kp) (by rw [cx.K]; exact hb) .nil pass0 ha h1 (star_of hs.1) (any_of hs.2)) fun σ H Q q => wish q
  | nil =>
    cases he rfl
    refine PE.imp (pe_call0 F' (cx.room.mono (Nat.le_succ _)) q1 (by rw [cx.mg]; exact hm) (by rw [cx.K]; exact kp) (by rw [cx.K]; exact hb) .nil pass0 h1) fun σ H Q q => ?_
    obtain ⟨G, ρ, F, σ', S, s, r, p⟩ := q
    simp only [evs, R.ok_bind] at p
    exact ⟨G, ρ, F, S, [], s, .nil, endV_ok s p⟩
theorem k_idx (cx : CxOk W c k X) {a i : E} {x y : Expr} {p : Pos} (ha : OkE W C X a x) (hi : OkE W C X i y) (hp : noSlice y = true) : OkE W C X (.idx a i) (.Subscript x y p) := by
  refine .of ?_ rfl
  simp only [ev]
  refine both cx.K (PE.imp (pe_ix (idx_ok (W := W) cx.K cx.w (by have := cx.un; omega)) ha.v hi.v (plain_of hp)) fun σ H Q q => tE_bin q) fun _ => rfl
abbrev tOo (W : Fx) (f : Env → Store → R (Option Int)) : TO := tX (fun _ _ a b => a = b) W f
theorem k_slc (cx : CxOk W c k X) {ow : Bool} {a : E} {lo hi : Es} {x : Expr} {l h : Option Expr} {p p2 : Pos} (ha : OkE W C X a x) (hl : PO X l (tOo W fun σ S => evo C σ lo S)) (hh : PO X h (tOo W fun σ S => evo C σ hi S)) : OkE W C X (.slc ow a lo hi) (.Subscript x (.Slice l h none p2) p) := by
  refine .of ?_ rfl
  simp only [ev]
  refine both cx.K (PE.imp (pe_slice (slc_ok (W := W) cx.K ow) ha.v hl hh) fun σ H Q q => ?_) fun _ => rfl
  obtain ⟨G, ρ, F, σ', S, s, r, p⟩ := q
  refine tX.mk s r p fun ρ2 F2 d S2 v H2 e2 s2 r2 ra p2 => tX.mk s2 r2 p2 fun ρ3 F3 u S3 z H3 e3 s3 r3 rb p3 => tX.mk s3 r3 p3 fun ρ4 F4 u' S4 z' H4 e4 s4 r4 rc p4 => ?_
  cases rb; cases rc
  exact ⟨G, ρ4, F4, S4, d, s4, ra.mono (e3.trans e4), p4⟩
theorem k_frz (cx : CxOk W c k X) {a : E} {x : Expr} (ha : OkE W C X a x) (h1 : plainT x = true) : OkE W C X (.frz a) x := by
  refine .of ?_ (by cases x <;> first | (cases h1; done) | rfl)
  simp only [ev]
  refine both cx.K (PE.imp ha.v fun σ H Q q => ?_) (plainT_of h1)
  obtain ⟨G, ρ, F, σ', S, s, r, p⟩ := q
  refine tX.mk s r p fun ρ2 F2 d S2 v H2 e2 s2 r2 ra p2 => ?_
  cases hz : frzD FRZ S2 d with
  | none => rw [hz] at p2; exact p2.elim
  | some q =>
    obtain ⟨d', S'⟩ := q
    rw [hz] at p2
    obtain ⟨F', e', s', r'⟩ := frzD_ok _ hz s2 ra
    exact p2 _ _ _ _ e' s' r'
theorem tE_cb {es : Es} {b : Bi} {ow : Bool} {σ : St} {H : Hp} {Q : VK} (h : tE W (fun σ S => (evs C σ es S).bind fun ds S1 => biV b ow ds S1) σ H Q) : tCB (rF W (biV b ow)) (tAs W fun σ S => evs C σ es S) σ H Q := by
  obtain ⟨G, ρ, F, σ', S, s, r, p⟩ := h
  exact tX.mk s r p fun ρ2 F2 ds S2 vs H2 e2 s2 r2 ra p2 => ⟨G, ρ2, F2, S2, ds, s2, ra, p2⟩
end
end Z

/-! Z12: every expression, joined. -/
namespace Z
open PySem PySem.Spec L2
open PyProof.Rows hiding St

theorem PO.imp {X : Cx} {o : Option Expr} {t t' : TO} (h : PO X o t) (i : ∀ σ H Q, t' σ H Q → t σ H Q) : PO X o t' := ⟨fun pins s σ H Q I q => h.run pins s σ H Q I (i _ _ _ q)⟩
theorem PTs.imp {X : Cx} {o : List Expr} {t t' : TT} (h : PTs X o t) (i : ∀ σ H Q, t' σ H Q → t σ H Q) : PTs X o t' := ⟨fun pins s σ H Q I q => h.run pins s σ H Q I (i _ _ _ q)⟩
def Ty.nm : Ty → String
  | .str => "str" | .tuple => "tuple" | .list => "list" | .int => "int" | .bool => "bool"
def Ty.all : List Ty := [.str, .tuple, .list, .int, .bool]
def isiR (n : String) (t : Ty) : Bool := n == t.nm || (n == "bool" && t == .int)
def tyNames : List String := ["NoneType", "bool", "int", "str", "tuple", "list"]
theorem kit_all : (tyNames.all fun n => Ty.all.all fun t => decide (kitB n t.nm = some (isiR n t))) = true := by decide +kernel
theorem kit_at {n : String} {t : Ty} (h : n ∈ tyNames) : kitB n t.nm = some (isiR n t) := by
  have := List.all_eq_true.mp kit_all n h
  have := List.all_eq_true.mp this t (by cases t <;> decide)
  exact of_decide_eq_true this
theorem boot_str_ : bootBuiltins "str" = some (.type "str") := by decide +kernel
theorem boot_isi_ : bootBuiltins "isinstance" = some (.builtin "isinstance") := by decide +kernel
theorem boot_ty (t : Ty) : bootBuiltins (Str.ofString t.nm) = some (.type t.nm) := by cases t <;> decide +kernel
theorem boot_bi : (Bi.plain .len && true) = true ∧ bootBuiltins "len" = some (.builtin "len") ∧ bootBuiltins "int" = some (.type "int") ∧ bootBuiltins "list" = some (.type "list") ∧ bootBuiltins "tuple" = some (.type "tuple") ∧
    bootBuiltins "sorted" = some (.builtin "sorted") ∧ bootBuiltins "sum" = some (.builtin "sum") ∧ bootBuiltins "all" = some (.builtin "all") ∧ bootBuiltins "any" = some (.builtin "any") ∧ bootBuiltins "max" = some (.builtin "max") ∧
    bootBuiltins "min" = some (.builtin "min") ∧ bootBuiltins "dict" = some (.type "dict") := by decide +kernel
section
variable {W : Fx} {C : CallT} {X : Cx} {c : Ctx} {k : Nat}
theorem isi_ty {G : Hp} {ρ : List Addr} {F : Hp} {S : Store} {H : Hp} {d : D} {x : V} {t : Ty} {b : Bool} (s : StOk W G ρ F S H) (r : RD W ρ F d x) (h : isiV d t S = some b) : ∃ n, TyX W.K H x (.type n) ∧ kitB n t.nm = some b := by
  cases d with
  | non => cases r; refine ⟨"NoneType", .base .non, ?_⟩; rw [kit_at (by decide)]; cases t <;> (simp only [isiV] at h; cases h; decide)
  | bl y => cases r; refine ⟨"bool", .base (.bl _), ?_⟩; rw [kit_at (by decide)]; cases t <;> (simp only [isiV] at h; cases h; decide)
  | int i => cases r; refine ⟨"int", .base (.int _), ?_⟩; rw [kit_at (by decide)]; cases t <;> (simp only [isiV] at h; cases h; decide)
  | str y => cases r; refine ⟨"str", .base (.str _), ?_⟩; rw [kit_at (by decide)]; cases t <;> (simp only [isiV] at h; cases h; decide)
  | tup xs =>
    refine ⟨"tuple", ?_, ?_⟩
    · cases r with
      | tup a _ =>
        rcases SqT.sub s.rd a with (z | ⟨o, z⟩) | z
        · exact .base (.tup z)
        · exact .fTuple z
        · obtain ⟨o, its, n, e1, e2, _⟩ := z
          exact .kTuple e1 e2
    · rw [kit_at (by decide)]; cases t <;> (simp only [isiV] at h; cases h; decide)
  | lst xs =>
    refine ⟨"list", ?_, ?_⟩
    · cases r with
      | lst a _ =>
        rcases s.rd _ (.lst _) trivial a with z | ⟨o, z⟩
        · exact .base (.lst z)
        · exact .base (.frz z)
    · rw [kit_at (by decide)]; cases t <;> (simp only [isiV] at h; cases h; decide)
  | ref l =>
    cases t <;> (simp only [isiV] at h; try cases h)
    split at h
    · rename_i xs e
      cases h
      obtain ⟨a, u, h1, h2, h3, h4⟩ := s.live _ _ e
      cases r with
      | ref z =>
        rw [z] at h1; cases h1
        cases u <;> first | exact h3.elim | skip
        exact ⟨"list", .base (.lst h2), by rw [kit_at (by decide)]; decide⟩
    · cases h
  | _ => cases t <;> (simp only [isiV] at h; cases h)
theorem bi_call (cx : CxOk W c k X) {b : Bi} (hp : b.plain = true) (ow : Bool) : (∃ id, bootBuiltins b.nm = some (.builtin id) ∧ CallR X (.builtin id) (rF W (biV b ow))) ∨ (∃ T, bootBuiltins b.nm = some (.type T) ∧ CallR X (.type T) (rF W (biV b ow))) := by
  obtain ⟨_, h1, h2, h3, h4, h5, h6, h7, h8, h9, h10, h11⟩ := boot_bi
  cases b with
  | len => exact .inl ⟨_, h1, len_ok cx.K ow⟩
  | int => exact .inr ⟨_, h2, int_ok ow⟩
  | str => exact .inr ⟨_, boot_str_, str_ok ow⟩
  | list => exact .inr ⟨_, h3, list_ok cx.K cx.calm ow⟩
  | tuple => exact .inr ⟨_, h4, tuple_ok cx.K ow⟩
  | sorted => exact .inl ⟨_, h5, sorted_ok cx.K ow⟩
  | sum => exact .inl ⟨_, h6, sum_ok cx.K cx.calm ow⟩
  | all => exact .inl ⟨_, h7, all_ok cx.K cx.calm ow⟩
  | any => exact .inl ⟨_, h8, any_ok cx.K cx.calm ow⟩
  | max => exact .inl ⟨_, h9, max_ok cx.K cx.calm ow⟩
  | min => exact .inl ⟨_, h10, min_ok cx.calm ow⟩
  | dict => exact .inr ⟨_, h11, dict_ok cx.K cx.calm ow⟩
  | sortedSet => cases hp
  | lenSet => cases hp
theorem biV_nil (b : Bi) (ow : Bool) (S : Store) : biV b ow [] S = .bad := by cases b <;> rfl
theorem bmV_nil (m : Bm) (hm : m ≠ .pop) (x : D) (S : Store) : bmV m x [] S = .bad := by cases m <;> first | exact absurd rfl hm | (cases x <;> rfl)
theorem k_bi (cx : CxOk W c k X) (g : GOk W C k c.g) {b : Bi} {ow : Bool} {es : Es} {xs : List Expr} {q p : Pos} (hp : b.plain = true) (hb : c.isBlt b.nm = true) (ha : PA X xs (tAs W fun σ S => evs C σ es S)) (hs : xs.all noStar = true) (he : xs = [] → es = .nil) : OkE W C X (.bi b ow es) (.Call (.Name b.nm q) xs [] p) := by
  obtain ⟨q1, q2, q3, q4⟩ := cx.blt g hb
  refine .of ?_ rfl
  simp only [ev]
  refine both cx.K ?_ fun _ => rfl
  cases xs with
  | cons y ys =>
    rw [List.all_cons, Bool.and_eq_true] at hs
    rcases bi_call cx hp ow with ⟨id, h1, h2⟩ | ⟨T, h1, h2⟩
    · exact PE.imp (pe_callB h2 q1 q2 h1 ha q3 q4 (star_of hs.1) (any_of hs.2)) fun σ H Q q => tE_cb q
    · exact PE.imp (pe_callTy h2 q1 q2 h1 ha q3 q4 (star_of hs.1) (any_of hs.2)) fun σ H Q q => tE_cb q
  | nil =>
    cases he rfl
    refine ⟨fun pins s σ H Q I q => ?_⟩
    obtain ⟨G, ρ, F, σ', S, s, r, p⟩ := q
    simp only [evs, R.ok_bind, biV_nil] at p
    exact p.elim
theorem few_of {es : List Expr} {env : PySem.Env} {pos : Pos} (h : es.all noStar = true) : (backTo pos (starEach es env)).all (fun x => !x.1) = true := by
  have := any_of (env := env) (pos := pos) h
  rw [List.all_eq_not_any_not]
  simpa using this
theorem tE_bm {m : Bm} {o : E} {es : Es} {T : String} (hT : ∀ {G ρ F S H d x}, StOk W G ρ F S H → RD W ρ F d x → bmT m d S = true → tyV W.K T x H) {σ : St} {H : Hp} {Q : VK}
    (h : tE W (fun σ S => (ev C σ o false S).bind fun x S1 => if bmT m x S1 then (evs C σ es S1).bind fun ds S2 => bmV m x ds S2 else .bad) σ H Q) : tBM W.K T (rM W m) (tE W fun σ S => ev C σ o false S) (tAs W fun σ S => evs C σ es S) σ H Q := by
  obtain ⟨G, ρ, F, σ', S, s, r, p⟩ := h
  refine tX.mk s r p fun ρ2 F2 d S2 v H2 e2 s2 r2 ra p2 => ?_
  split at p2
  · rename_i hb
    exact ⟨hT s2 ra hb, tX.mk s2 r2 p2 fun ρ3 F3 ds S3 vs H3 e3 s3 r3 rs p3 => ⟨G, ρ3, F3, S3, d, ds, s3, ra.mono e3, rs, p3⟩⟩
  · exact p2.elim
theorem bmT_ref {m : Bm} {T : String} (hm : ∀ (d : D) (S : Store), bmT m d S = true → ∃ l, d = .ref l ∧ (lstOf S d).isSome = true) (hT : T = "list") {G : Hp} {ρ : List Addr} {F : Hp} {S : Store} {H : Hp} {d : D} {x : V} (s : StOk W G ρ F S H) (r : RD W ρ F d x) (h : bmT m d S = true) : tyV W.K T x H := by
  obtain ⟨l, e, h⟩ := hm d S h
  cases hl : lstOf S d with
  | none => rw [hl] at h; cases h
  | some xs =>
    obtain ⟨a, vs, rfl, h1, h2⟩ := lstOf_ok s r hl
    exact .inl ⟨hT, vs, .inl h1⟩
theorem bmT_str {m : Bm} {T : String} (hm : ∀ (d : D) (S : Store), bmT m d S = true → ∃ z, d = .str z) (hT : T = "str") {G : Hp} {ρ : List Addr} {F : Hp} {S : Store} {H : Hp} {d : D} {x : V} (s : StOk W G ρ F S H) (r : RD W ρ F d x) (h : bmT m d S = true) : tyV W.K T x H := by
  obtain ⟨l, rfl⟩ := hm d S h
  cases r
  exact hT
theorem k_bm (cx : CxOk W c k X) {m : Bm} {o : E} {es : Es} {x : Expr} {xs : List Expr} {q p : Pos} (hm : m = .append ∨ m = .extend ∨ m = .pop ∨ m = .popAt ∨ m = .join ∨ m = .count) (ho : OkE W C X o x) (hx : noSup x = true) (hq : q.endLine = p.line) (hl : xs.length < 20)
    (ha : PA X xs (tAs W fun σ S => evs C σ es S)) (hs : xs.all noStar = true) (he : xs = [] → es = .nil) : OkE W C X (.bm m o es) (.Call (.Attribute x m.nm q) xs [] p) := by
  have hline : (q.endLine == p.line) = true := beq_iff_eq.mpr hq
  refine .of ?_ rfl
  simp only [ev]
  refine both cx.K ?_ fun _ => rfl
  have fewc : ∀ {y : Expr} {ys : List Expr}, xs = y :: ys → ((backTo p (starEach (y :: ys) X.env)).all (fun x => !x.1) && (backToKw p (keywordEach [] X.env)).all (fun x => x.1.isSome)
      && decide ((y :: ys).length + ([] : List Keyword).length + (if ([] : List Keyword).isEmpty then 0 else 1) < 30)) = true := fun {y ys} e => by
    subst e
    rw [few_of hs]
    have : (y :: ys).length + ([] : List Keyword).length + (if ([] : List Keyword).isEmpty then 0 else 1) < 30 := by
      simp only [List.length_nil, List.isEmpty_nil, if_true]
      omega
    simp only [decide_eq_true this, Bool.and_true, Bool.true_and]
    rfl
  have none_ : m ≠ .pop → xs = [] → ∀ {σ : St} {H : Hp} {Q : VK}, tE W (fun σ S => (ev C σ o false S).bind fun x S1 => if bmT m x S1 then (evs C σ es S1).bind fun ds S2 => bmV m x ds S2 else .bad) σ H Q → False := fun hp e σ H Q q => by
    cases he e
    obtain ⟨G, ρ, F, σ', S, s, r, p⟩ := q
    cases ho : ev C σ' o false S with
    | bad => simp only [ho, R.bad_bind] at p; exact p.elim
    | ok d S1 =>
      simp only [ho, R.ok_bind, evs, bmV_nil m hp] at p
      split at p <;> exact p.elim
  have K := cx.K
  rcases hm with rfl | rfl | rfl | rfl | rfl | rfl
  · cases xs with
    | nil => exact ⟨fun _ _ _ _ _ _ q => (none_ (by decide) rfl q).elim⟩
    | cons y ys =>
      have hs' := hs
      rw [List.all_cons, Bool.and_eq_true] at hs'
      refine PE.imp (pe_bm PySem.F.plainAttrs_list PySem.F.slot_list_append PySem.F.type_list_append (append_ok (W := W)) ho.v ha (base_of hx) (fewc rfl) hline (star_of hs'.1) (any_of hs'.2)) fun σ H Q q => ?_
      rw [K]
      exact tE_bm (T := "list") (bmT_ref (fun d S h => by cases d <;> first | (cases h; done) | exact ⟨_, rfl, h⟩) rfl) q
  · cases xs with
    | nil => exact ⟨fun _ _ _ _ _ _ q => (none_ (by decide) rfl q).elim⟩
    | cons y ys =>
      have hs' := hs
      rw [List.all_cons, Bool.and_eq_true] at hs'
      refine PE.imp (pe_bm PySem.F.plainAttrs_list PySem.F.slot_list_extend PySem.F.type_list_extend (extend_ok (W := W)) ho.v ha (base_of hx) (fewc rfl) hline (star_of hs'.1) (any_of hs'.2)) fun σ H Q q => ?_
      rw [K]
      exact tE_bm (T := "list") (bmT_ref (fun d S h => by cases d <;> first | (cases h; done) | exact ⟨_, rfl, h⟩) rfl) q
  · have hT : ∀ {G ρ F S H d x}, StOk W G ρ F S H → RD W ρ F d x → bmT .pop d S = true → tyV W.K "list" x H := fun {G ρ F S H d x} s r h => bmT_ref (m := .pop) (fun d S h => by cases d <;> first | (cases h; done) | exact ⟨_, rfl, h⟩) rfl s r h
    cases xs with
    | nil =>
      cases he rfl
      refine PE.imp (pe_bm0 PySem.F.plainAttrs_list PySem.F.slot_list_pop PySem.F.type_list_pop (pop_ok (W := W)) ho.v (base_of hx) hline) fun σ H Q q => ?_
      rw [K]
      obtain ⟨G, ρ, F, σ', S, s, r, p⟩ := q
      refine tX.mk s r p fun ρ2 F2 d S2 v H2 e2 s2 r2 ra p2 => ?_
      split at p2
      · rename_i hb
        simp only [evs, R.ok_bind] at p2
        exact ⟨hT s2 ra hb, G, ρ2, F2, S2, d, [], s2, ra, .nil, p2⟩
      · exact p2.elim
    | cons y ys =>
      have hs' := hs
      rw [List.all_cons, Bool.and_eq_true] at hs'
      refine PE.imp (pe_bm PySem.F.plainAttrs_list PySem.F.slot_list_pop PySem.F.type_list_pop (pop_ok (W := W)) ho.v ha (base_of hx) (fewc rfl) hline (star_of hs'.1) (any_of hs'.2)) fun σ H Q q => ?_
      rw [K]
      exact tE_bm (T := "list") hT q
  · cases xs with
    | nil => exact ⟨fun _ _ _ _ _ _ q => (none_ (by decide) rfl q).elim⟩
    | cons y ys =>
      have hs' := hs
      rw [List.all_cons, Bool.and_eq_true] at hs'
      refine PE.imp (pe_bm PySem.F.plainAttrs_list PySem.F.slot_list_pop PySem.F.type_list_pop (popAt_ok (W := W)) ho.v ha (base_of hx) (fewc rfl) hline (star_of hs'.1) (any_of hs'.2)) fun σ H Q q => ?_
      rw [K]
      exact tE_bm (T := "list") (bmT_ref (fun d S h => by cases d <;> first | (cases h; done) | exact ⟨_, rfl, h⟩) rfl) q
  · cases xs with
    | nil => exact ⟨fun _ _ _ _ _ _ q => (none_ (by decide) rfl q).elim⟩
    | cons y ys =>
      have hs' := hs
      rw [List.all_cons, Bool.and_eq_true] at hs'
      refine PE.imp (pe_bm PySem.F.plainAttrs_str PySem.F.slot_str_join PySem.F.type_str_join (join_ok (W := W) K) ho.v ha (base_of hx) (fewc rfl) hline (star_of hs'.1) (any_of hs'.2)) fun σ H Q q => ?_
      rw [K]
      exact tE_bm (T := "str") (bmT_str (fun d S h => by cases d <;> first | (cases h; done) | exact ⟨_, rfl⟩) rfl) q
  · cases xs with
    | nil => exact ⟨fun _ _ _ _ _ _ q => (none_ (by decide) rfl q).elim⟩
    | cons y ys =>
      have hs' := hs
      rw [List.all_cons, Bool.and_eq_true] at hs'
      refine PE.imp (pe_bm PySem.F.plainAttrs_list PySem.F.slot_list_count PySem.F.type_list_count (count_ok (W := W) K) ho.v ha (base_of hx) (fewc rfl) hline (star_of hs'.1) (any_of hs'.2)) fun σ H Q q => ?_
      rw [K]
      refine tE_bm (T := "list") (fun {G ρ F S H d x} s r h => ?_) q
      cases hl : lstOf S d with
      | none =>
        have h : (lstOf S d).isSome = true := h
        rw [hl] at h; cases h
      | some zs =>
        obtain ⟨a, vs, rfl, h1, h2⟩ := lstOf_ok s r hl
        exact .inl ⟨rfl, vs, .inl h1⟩
theorem k_isi (cx : CxOk W c k X) (g : GOk W C k c.g) {a : E} {t : Ty} {y : Expr} {q q2 p : Pos} (ha : OkE W C X a y) (hb : c.isBlt "isinstance" = true) (hc : c.isBlt (Str.ofString t.nm) = true) (hy : noStar y = true) :
    OkE W C X (.isi a t) (.Call (.Name "isinstance" q) [y, .Name (Str.ofString t.nm) q2] [] p) := by
  obtain ⟨q1, q2, q3, q4⟩ := cx.blt g hb
  obtain ⟨p1, p2, p3, p4⟩ := cx.blt g hc
  refine .of ?_ rfl
  simp only [ev]
  refine both cx.K (PE.imp (pe_callB call_isi q1 q2 boot_isi_ (pa_cons ha.v (pa_cons (pe_bltn (v := .ty t.nm) p1 p2 (boot_ty t) rfl p3 p4) pa_nil) (star_of hy)) q3 q4 (star_of hy)) fun σ H Q q => ?_) fun _ => rfl
  obtain ⟨G, ρ, F, σ', S, s, r, p⟩ := q
  refine tX.mk s r p fun ρ2 F2 d S2 v H2 e2 s2 r2 ra p2 => ?_
  cases hi : isiV d t S2 with
  | none => rw [hi] at p2; exact p2.elim
  | some b =>
    rw [hi] at p2
    obtain ⟨n, h1, h2⟩ := isi_ty s2 ra hi
    exact ⟨v, .ty t.nm, _, _, b, rfl, .ty _, by rw [cx.K]; exact h1, kit_ty h2, p2.fin s2 (.bl _)⟩
theorem own_map (c : Ctx) (own : List Nat) : (ownP c own).map (·.2) = own := by
  unfold ownP
  rw [List.map_map]
  exact List.map_id _
theorem k_lc (cx : CxOk W c k X) {ow : Bool} {own : List Nat} {elt : E} {tg : Tg} {it : Iy} {cond : Es} {x t i : Expr} {ifs : List Expr} {sc : Scope} {p : Pos}
    (hi : PI X t i (tI W fun σ S => evI C σ it S)) (hn : noSet i = true) (hb : blkC c.N c.sc sc (ownP c own) = true) (ht : isTg (c.inner sc) tg t = true) (hown : ((tgIx tg).all fun j => own.contains j) = true)
    (he : ∀ (s : Shared) (H : Hp) (A : Addr) (cl : List (Str × Addr)) (fp : List Addr), OkE W C (X.blk s H sc (compEnvC sc cl A X.env) fp) elt x)
    (hc : ∀ (s : Shared) (H : Hp) (A : Addr) (cl : List (Str × Addr)) (fp : List Addr), PTs (X.blk s H sc (compEnvC sc cl A X.env) fp) ifs (tCo W fun σ S => evC C σ cond S)) :
    OkE W C X (.lc ow own elt tg it cond) (.ListComp x [⟨t, i, ifs, 0⟩] sc p) := by
  refine .of ?_ rfl
  simp only [ev]
  refine both cx.K (PE.imp (pe_lc cx.calm cx.nd hi (own := ownP c own) (blkOk_by (by rw [cx.N, cx.sc]; exact hb)) (fun s H A cl fp => pg_T cx.inner ht) hc (fun s H A cl fp => (he s H A cl fp).v) (fold_of hn)) fun σ H Q q => ?_) fun _ => rfl
  rw [own_map]
  refine tE_lc (fun j hj => ?_) q
  have := List.all_eq_true.mp hown j hj
  simpa using this
theorem k_lc2 (cx : CxOk W c k X) {ow : Bool} {own own2 : List Nat} {elt : E} {tg tg2 : Tg} {it it2 : Iy} {x t i t2 i2 : Expr} {sc : Scope} {p : Pos}
    (hi : PI X t i (tI W fun σ S => evI C σ it S)) (hn : noSet i = true) (hn2 : noSet i2 = true) (hb : blkC c.N c.sc sc (ownP c own) = true) (ht : isTg (c.inner sc) tg t = true) (hown : ((tgIx tg).all fun j => own.contains j) = true)
    (hi2 : ∀ (s : Shared) (H : Hp) (A : Addr) (cl : List (Str × Addr)) (fp : List Addr), PI (X.blk s H sc (compEnvC sc cl A X.env) fp) t2 i2 (tI W fun σ S => evI C σ it2 S))
    (ht2 : isTg (c.inner sc) tg2 t2 = true) (hown2 : ((tgIx tg2).all fun j => own2.contains j) = true) (hsub : (own2.all fun j => own.contains j) = true)
    (he : ∀ (s : Shared) (H : Hp) (A : Addr) (cl : List (Str × Addr)) (fp : List Addr), OkE W C (X.blk s H sc (compEnvC sc cl A X.env) fp) elt x) :
    OkE W C X (.lc2 ow own elt tg it own2 tg2 it2) (.ListComp x [⟨t, i, [], 0⟩, ⟨t2, i2, [], 0⟩] sc p) := by
  have mem : ∀ {is js : List Nat}, (is.all fun j => js.contains j) = true → ∀ j ∈ is, j ∈ js := fun h j hj => by
    have := List.all_eq_true.mp h j hj
    simpa using this
  refine .of ?_ rfl
  simp only [ev]
  refine both cx.K (PE.imp (pe_lc2 (vs1 := own2) cx.calm cx.nd hi (own := ownP c own) (blkOk_by (by rw [cx.N, cx.sc]; exact hb)) (by rw [own_map]; exact mem hsub) (fun s H A cl fp => pg_T cx.inner ht) (fun s H A cl fp => pts_nil) hi2 (fun s H A cl fp => pg_T cx.inner ht2) (fun s H A cl fp => pts_nil) (fun s H A cl fp => (he s H A cl fp).v) (fold_of hn) (fun env => fold_of hn2)) fun σ H Q q => ?_) fun _ => rfl
  rw [own_map]
  exact tE_lc2 (mem hown) (mem hown2) q
def Es.len : Es → Nat
  | .nil => 0
  | .cons _ es => es.len + 1
theorem evs_len {C : CallT} {σ : Z.Env} : ∀ {es : Es} {S S' : Store} {ds : List D}, evs C σ es S = .ok ds S' → ds.length = es.len
  | .nil, _, _, _, h => by simp only [evs] at h; cases h; rfl
  | .cons e es, _, _, _, h => by
    simp only [evs] at h
    obtain ⟨_, _, _, h⟩ := R.bind_okE h
    obtain ⟨_, _, h1, h⟩ := R.bind_okE h
    cases h
    simp [Es.len, evs_len h1]
theorem rng_inv {ds xs : List D} (h : rngOf ds = some xs) : (∃ j, ds = [.int j] ∧ small62 j = true ∧ xs = rngV 0 j.toNat) ∨ (∃ i j, ds = [.int i, .int j] ∧ (small62 i && small62 j) = true ∧ xs = rngV i (j - i).toNat) ∨
    ∃ i j, ds = [.int i, .int j, .int (-1)] ∧ (small62 i && small62 j) = true ∧ xs = (List.range (i - j).toNat).map fun (k : Nat) => .int (i - (k : Int)) := by
  unfold rngOf at h
  split at h
  · rename_i j
    by_cases e : small62 j = true
    · rw [if_pos e] at h; cases h; exact .inl ⟨j, rfl, e, rfl⟩
    · rw [if_neg e] at h; cases h
  · rename_i i j
    by_cases e : (small62 i && small62 j) = true
    · rw [if_pos e] at h; cases h; exact .inr (.inl ⟨i, j, rfl, e, rfl⟩)
    · rw [if_neg e] at h; cases h
  · rename_i i j
    by_cases e : (small62 i && small62 j) = true
    · rw [if_pos e] at h; cases h; exact .inr (.inr ⟨i, j, rfl, e, rfl⟩)
    · rw [if_neg e] at h; cases h
  · cases h
theorem iw_rngC {ρ : List Addr} {F : Hp} {lo : Int} {n : Nat} : IW W ρ F ((List.range n).map fun (k : Nat) => .int (lo - (k : Int))) (Itc lo (-1) n) := by
  refine ⟨fun i G ρ' F' S H hi e s => ?_, fun G ρ' F' S H e s => ?_, fun i d G ρ' F' S H x H' hd e s y => ?_⟩
  · show i < n; simpa using hi
  · show n ≤ _
    simp
  · obtain ⟨h1, h2⟩ := y
    refine ⟨F', .refl, by rw [h1]; exact s, ?_⟩
    rw [List.getElem?_map] at hd
    have hi : i < n := by
      by_cases hi : i < n
      · exact hi
      · rw [List.getElem?_eq_none (by simpa using hi)] at hd; cases hd
    rw [List.getElem?_range hi] at hd
    cases hd
    rw [h2]
    have : lo + (i : Int) * (-1) = lo - (i : Int) := by omega
    rw [this]
    exact .int _
theorem pi_rng (cx : CxOk W c k X) (g : GOk W C k c.g) {tg : Expr} {es : Es} {xs : List Expr} {q p : Pos} (hb : c.isBlt "range" = true) (ha : PA X xs (tAs W fun σ S => evs C σ es S)) (hs : xs.all noStar = true) (hn : es.len = xs.length) (hl : xs.length = 1 ∨ xs.length = 2 ∨ xs.length = 3) :
    PI X tg (.Call (.Name "range" q) xs [] p) (tI W fun σ S => (evs C σ es S).bind fun ds S1 => R.of (rngOf ds) S1) := by
  obtain ⟨q1, q2, q3, q4⟩ := cx.blt g hb
  have core : ∀ {σ : St} {H : Hp} {R' : It → Hp → Prop} {t : List V → Hp → Prop}, (∀ {G ρ F S H ds us} {ys : List D}, StOk W G ρ F S H → RDs W ρ F ds us → ds.length = xs.length → rngOf ds = some ys → (∀ J, IW W ρ F ys J → R' J H) → t us H) →
      tI W (fun σ S => (evs C σ es S).bind fun ds S1 => R.of (rngOf ds) S1) σ H R' → tAs W (fun σ S => evs C σ es S) σ H t := fun {σ H R' t} hk q => by
    obtain ⟨G, ρ, F, σ', S, s, r, p⟩ := q
    refine ⟨G, ρ, F, σ', S, s, r, ?_⟩
    cases e : evs C σ' es S with
    | bad => simp only [e, R.bad_bind] at p; exact p.elim
    | ok ds S2 =>
      simp only [e, R.ok_bind] at p
      cases e2 : rngOf ds with
      | none => rw [e2] at p; exact p.elim
      | some ys =>
        rw [e2] at p
        show Post (RDs W) W G ρ F (evs C σ' es S) t
        rw [e]
        exact fun ρ2 F2 us H2 ex s2 rs => hk s2 rs ((evs_len e).trans hn) e2 fun J iw => p ρ2 F2 J H2 ex s2 iw
  have small : ∀ {j : Int}, small62 j = true → -(2 ^ 62) ≤ j ∧ j < 2 ^ 62 := fun h => by
    unfold small62 at h
    simpa using h
  match xs, hs, hl, ha with
  | [x], hs, _, ha =>
    simp only [List.all_cons, List.all_nil, Bool.and_eq_true] at hs
    refine PI.imp (pi_range1 q1 q2 ha (by rw [star_of hs.1]; rfl)) fun σ H R' q => core (fun {G ρ F S H ds us ys} s ra hl e p => ?_) q
    rcases rng_inv e with ⟨j, rfl, h1, rfl⟩ | ⟨i, j, rfl, _⟩ | ⟨i, j, rfl, _⟩
    · obtain ⟨v, rfl, rv⟩ := ra.one
      cases rv
      exact ⟨j, rfl, (small h1).1, (small h1).2, p _ iw_range⟩
    · simp at hl
    · simp at hl
  | [x, y], hs, _, ha =>
    simp only [List.all_cons, List.all_nil, Bool.and_eq_true] at hs
    refine PI.imp (pi_range2 q1 q2 ha (by rw [star_of hs.1, star_of hs.2.1]; rfl) (by rw [star_of hs.2.1]; rfl)) fun σ H R' q => core (fun {G ρ F S H ds us ys} s ra hl e p => ?_) q
    rcases rng_inv e with ⟨j, rfl, h1, rfl⟩ | ⟨i, j, rfl, h1, rfl⟩ | ⟨i, j, rfl, _⟩
    · simp at hl
    · obtain ⟨v, u, rfl, rv, ru⟩ := ra.two
      cases rv; cases ru
      rw [Bool.and_eq_true] at h1
      exact ⟨i, j, rfl, ⟨(small h1.1).1, (small h1.1).2, (small h1.2).1, (small h1.2).2⟩, p _ iw_range⟩
    · simp at hl
  | [x, y, z], hs, _, ha =>
    simp only [List.all_cons, List.all_nil, Bool.and_eq_true] at hs
    refine PI.imp (pi_range3 q1 q2 ha (star_of hs.1) (any_of (by simp [hs.2.1, hs.2.2.1]))) fun σ H R' q => core (fun {G ρ F S H ds us ys} s ra hl e p => ?_) q
    rcases rng_inv e with ⟨j, rfl, h1, rfl⟩ | ⟨i, j, rfl, h1, rfl⟩ | ⟨i, j, rfl, h1, rfl⟩
    · simp at hl
    · simp at hl
    · cases ra with
      | cons rv ra =>
        obtain ⟨u, w, rfl, ru, rw_⟩ := ra.two
        cases rv; cases ru; cases rw_
        rw [Bool.and_eq_true] at h1
        exact ⟨i, j, -1, (i - j).toNat, rfl, RgC.neg (small h1.1).1 (small h1.1).2 (small h1.2).1 (small h1.2).2, p _ iw_rngC⟩
  | [], _, h, _ => simp at h
  | _ :: _ :: _ :: _ :: _, _, h, _ => simp at h
end
end Z

/-! Z18: sets of texts, dict.get, displays as expressions. -/
namespace Z
open PySem PySem.Spec L2
open PyProof.Rows hiding St
section
variable {W : Fx} {C : CallT} {X : Cx} {c : Ctx} {k : Nat}

/-! ### sets of texts, dict.get, displays -/
def dedupS : List Str → List Str
  | [] => []
  | x :: xs => x :: (dedupS xs).filter fun y => decide (y ≠ x)
theorem dedup_D : ∀ xs : List Str, dedup (xs.map D.str) = (dedupS xs).map D.str
  | [] => rfl
  | x :: xs => by
    show D.str x :: (dedup (xs.map D.str)).filter _ = _
    rw [dedup_D xs, List.filter_map]
    show _ = D.str x :: ((dedupS xs).filter _).map D.str
    congr 2
    refine List.filter_congr fun y _ => ?_
    by_cases e : y = x
    · subst e; simp
    · have : ¬ D.str y = D.str x := fun z => e (by injection z)
      simp [e, this]
theorem mem_dedupS {k : Str} : ∀ {xs : List Str}, k ∈ dedupS xs ↔ k ∈ xs
  | [] => Iff.rfl
  | x :: xs => by
    show k ∈ x :: (dedupS xs).filter _ ↔ _
    rw [List.mem_cons, List.mem_cons, List.mem_filter, mem_dedupS (xs := xs)]
    by_cases e : k = x <;> simp [e]
theorem nodup_dedupS : ∀ xs : List Str, (dedupS xs).Nodup
  | [] => List.nodup_nil
  | x :: xs => by
    refine List.nodup_cons.mpr ⟨fun h => ?_, (nodup_dedupS xs).filter _⟩
    have := (List.mem_filter.mp h).2
    simp at this
theorem rds_strs {ρ : List Addr} {F : Hp} : ∀ xs : List Str, RDs W ρ F (xs.map D.str) (xs.map V.str)
  | [] => .nil
  | x :: xs => .cons (.str x) (rds_strs xs)
theorem boot_set_ : bootBuiltins "set" = some (.type "set") := by decide +kernel
theorem k_set2 (cx : CxOk W c k X) (g : GOk W C k c.g) {b : Bi} (hb : b.plain = false) {ow : Bool} {es : Es} {x : Expr} {q qs p p2 : Pos} (ha : PA X [x] (tAs W fun σ S => evs C σ es S)) (hx : noStar x = true) (h1 : c.isBlt b.nm = true) (h2 : c.isBlt "set" = true) :
    OkE W C X (.bi b ow es) (.Call (.Name b.nm q) [.Call (.Name "set" qs) [x] [] p2] [] p) := by
  obtain ⟨q1, q2, q3, q4⟩ := cx.blt g h1
  obtain ⟨r1, r2, r3, r4⟩ := cx.blt g h2
  obtain ⟨_, o1, _, _, _, o5, _⟩ := boot_bi
  refine .of ?_ rfl
  simp only [ev]
  refine both cx.K ?_ fun _ => rfl
  have inner := pe_callTy (pos := p2) (p := qs) (cr_setS cx.calm) r1 r2 boot_set_ ha r3 r4 (star_of hx) (any_of (es := []) rfl)
  have pick : ∀ {G ρ F S H d v xs ns}, StOk W G ρ F S H → RD W ρ F d v → seqOf S d = some xs → allStr xs = some ns → ∃ a, v = V.ref a ∧ (SqL W.K H a (ns.map V.str) ∨ SqT W.K H a (ns.map V.str)) ∧ xs = ns.map D.str := fun {G ρ F S H d v xs ns} s r e1 e2 => by
    obtain ⟨a, vs, h3, h4, h5⟩ := seqOf_ok s r e1
    obtain ⟨e3, e4⟩ := h5.strs e2
    subst e3
    exact ⟨a, h3, h4, e4⟩
  have few : ∀ {n : Nat}, n < 4000 → n + 1 < scanBound := fun {n} h => by unfold scanBound; omega
  cases b with
  | sortedSet =>
    refine PE.imp (pe_callB (cr_sortedTS cx.calm) q1 q2 o5 (pa_cons inner pa_nil rfl) q3 q4 rfl rfl) fun σ H Q q => ?_
    obtain ⟨G, ρ, F, σ', S, s, r, p⟩ := q
    refine tX.mk s r p fun ρ2 F2 ds S2 vs H2 e2 s2 r2 ra p2 => ?_
    cases ds with
    | nil => exact p2.elim
    | cons d ds =>
      cases ds with
      | cons _ _ => exact p2.elim
      | nil =>
        obtain ⟨v, rfl, rv⟩ := ra.one
        simp only [biV] at p2
        cases e3 : seqOf S2 d with
        | none => rw [e3] at p2; exact p2.elim
        | some xs =>
          rw [e3] at p2
          simp only at p2
          cases e4 : allStr xs with
          | none => rw [e4] at p2; exact p2.elim
          | some ns =>
            rw [e4] at p2
            simp only at p2
            split at p2
            · rename_i hl
              obtain ⟨a, rfl, sq, rfl⟩ := pick s2 rv e3 e4
              rw [List.length_map] at hl
              refine ⟨a, ns, rfl, by rw [cx.K]; exact sq, few hl, fun A hA => ?_⟩
              rw [cx.w]
              have s3 := (s2.cold (u := TxSetO W.w A (fun x => x ∈ ns) ns.length) hA).1
              have e5 := (s2.cold (u := TxSetO W.w A (fun x => x ∈ ns) ns.length) hA).2
              refine ⟨A, _, _, rfl, upd_same, by have := few hl; omega, fun ys P hs hnd hm hle hP => ?_⟩
              have hp : ys.Perm (dedupS ns) := (List.perm_ext_iff_of_nodup hnd (nodup_dedupS ns)).mpr fun k => (hm k).trans mem_dedupS.symm
              rw [srtS_uniq hp hs]
              rw [dedup_D, srtS_D] at p2
              exact (mkL_ok s3 (rds_strs (srtS (dedupS ns))) (p2.mono e5)).2 P hP
            · exact p2.elim
  | lenSet =>
    refine PE.imp (pe_callB cr_lenTS q1 q2 o1 (pa_cons inner pa_nil rfl) q3 q4 rfl rfl) fun σ H Q q => ?_
    obtain ⟨G, ρ, F, σ', S, s, r, p⟩ := q
    refine tX.mk s r p fun ρ2 F2 ds S2 vs H2 e2 s2 r2 ra p2 => ?_
    cases ds with
    | nil => exact p2.elim
    | cons d ds =>
      cases ds with
      | cons _ _ => exact p2.elim
      | nil =>
        obtain ⟨v, rfl, rv⟩ := ra.one
        simp only [biV] at p2
        cases e3 : seqOf S2 d with
        | none => rw [e3] at p2; exact p2.elim
        | some xs =>
          rw [e3] at p2
          simp only at p2
          cases e4 : allStr xs with
          | none => rw [e4] at p2; exact p2.elim
          | some ns =>
            rw [e4] at p2
            simp only at p2
            split at p2
            · rename_i hl
              obtain ⟨a, rfl, sq, rfl⟩ := pick s2 rv e3 e4
              rw [List.length_map] at hl
              refine ⟨a, ns, rfl, by rw [cx.K]; exact sq, few hl, fun A hA => ?_⟩
              rw [cx.w]
              have s3 := (s2.cold (u := TxSetO W.w A (fun x => x ∈ ns) ns.length) hA).1
              have e5 := (s2.cold (u := TxSetO W.w A (fun x => x ∈ ns) ns.length) hA).2
              refine ⟨A, _, _, dedupS ns, rfl, upd_same, by have := few hl; omega, nodup_dedupS ns, fun k => mem_dedupS, ?_⟩
              have := (p2.mono e5).fin s3 (.int _)
              rw [dedup_D, List.length_map] at this
              exact this
            · exact p2.elim
  | _ => cases hb
theorem bmV_get2 {d u w : D} {S : Store} (h : ∀ fs, d ≠ .kd fs) : bmV .get2 d [u, w] S = (match dctOf S d with
    | some kvs => if okKey kvs u then .ok ((getK kvs u).getD w) S else .bad
    | none => .bad) := by
  cases d <;> first | rfl | exact absurd rfl (h _)
theorem k_get2 (cx : CxOk W c k X) {o a_ b : E} {x y z : Expr} {q p : Pos} (ho : OkE W C X o x) (ha : OkE W C X a_ y) (hb : OkE W C X b z) (hx : noSup x = true) (hq : q.endLine = p.line) (hy : noStar y = true) (hz : noStar z = true) : OkE W C X (.bm .get2 o (.cons a_ (.cons b .nil))) (.Call (.Attribute x "get" q) [y, z] [] p) := by
  have hline : (q.endLine == p.line) = true := beq_iff_eq.mpr hq
  refine .of ?_ rfl
  simp only [ev]
  refine both cx.K ?_ fun _ => rfl
  have hs : ([y, z] : List Expr).all noStar = true := by simp [hy, hz]
  refine PE.imp (pe_get2 cx.K cx.w (by have := cx.un; omega) ho.v ha.v hb.v ⟨base_of hx, ?_, hline, ?_⟩) fun σ H Q q => ?_
  · rw [few_of hs]
    rfl
  · unfold backTo
    rw [star_of hy, star_of hz]
    rfl
  · obtain ⟨G, ρ, F, σ', S, s, r, p⟩ := q
    refine tX.mk s r p fun ρ2 F2 d S2 v H2 e2 s2 r2 ra p2 => ?_
    split at p2
    · rename_i hT
      simp only [evs, R.bind_bind, R.ok_bind] at p2
      have dict : (∀ fs, d ≠ .kd fs) → (dctOf S2 d).isSome = true → ∃ a, v = .ref a ∧ (IsD H2 a ∧ tE W (fun σ S => ev C σ a_ false S) σ H2 fun y H3 => tE W (fun σ S => ev C σ b false S) σ H3 fun z H4 => ∃ ov, DGet H4 a y ov ∧ Q (ov.getD z) H4) := fun nk hs => by
        obtain ⟨kv0, e0⟩ := Option.isSome_iff_exists.mp hs
        obtain ⟨A, us0, rfl, h1, h2⟩ := dctOf_ok s2 ra e0
        refine ⟨A, rfl, .inl ⟨us0, h1⟩, tX.mk s2 r2 p2 fun ρ3 F3 u S3 y H3 e3 s3 r3 ru p3 => tX.mk s3 r3 p3 fun ρ4 F4 w S4 z H4 e4 s4 r4 rw_ p4 => ?_⟩
        rw [bmV_get2 nk] at p4
        cases e5 : dctOf S4 d with
        | none => rw [e5] at p4; exact p4.elim
        | some kvs =>
          rw [e5] at p4
          simp only at p4
          obtain ⟨A2, us, eA, h3, h4⟩ := dctOf_ok s4 ((ra.mono e3).mono e4) e5
          cases eA
          split at p4
          · rename_i hk
            obtain ⟨j, ej⟩ := Option.isSome_iff_exists.mp (show (kFlat u).isSome = true from hk)
            refine ⟨valV us j, .inl ⟨us, j, h3, kFlat_V ej (ru.mono e4), rfl⟩, ?_⟩
            rcases h4.get ej with ⟨g1, g2⟩ | ⟨d', v', g1, g2, g3⟩
            · rw [g1] at p4
              rw [g2]
              exact p4.fin s4 rw_
            · rw [g1] at p4
              rw [g2]
              exact p4.fin s4 g3
          · exact p4.elim
      cases d <;> first | (cases hT; done) | skip
      · obtain ⟨A, e, h⟩ := dict (fun _ z => nomatch z) rfl
        exact ⟨A, e, .inl h⟩
      · rename_i fs
        cases ra with
        | kd kw rf =>
          rename_i A us
          refine ⟨A, rfl, .inr ⟨us, kw, tX.mk s2 r2 p2 fun ρ3 F3 u S3 y H3 e3 s3 r3 ru p3 => tX.mk s3 r3 p3 fun ρ4 F4 w S4 z H4 e4 s4 r4 rw_ p4 => ?_⟩⟩
          cases u <;> first | exact p4.elim | skip
          rename_i x
          cases ru
          refine ⟨x, rfl, ?_⟩
          have p4 : Post (RD W) W G ρ4 F4 (.ok ((fs.lookup x).getD w) S4) Q := p4
          rcases (rf.mono e3).lookup x with ⟨g1, g2⟩ | ⟨d', v', g1, g2, g3⟩
          · rw [g1] at p4
            rw [g2]
            exact p4.fin s4 rw_
          · rw [g1] at p4
            rw [g2]
            exact p4.fin s4 (g3.mono e4)
      · obtain ⟨A, e, h⟩ := dict (fun _ z => nomatch z) hT
        exact ⟨A, e, .inl h⟩
    · exact p2.elim
/-! ### displays -/
inductive RDP (W : Fx) (ρ : List Addr) (F : Hp) : List (D × D) → List (V × V) → Prop
  | nil : RDP W ρ F [] []
  | cons {k d : D} {x v : V} {ds : List (D × D)} {vs : List (V × V)} : RD W ρ F k x → RD W ρ F d v → RDP W ρ F ds vs → RDP W ρ F ((k, d) :: ds) ((x, v) :: vs)
def tPr (W : Fx) (C : CallT) (ks : Es) : St → Hp → (List (V × V) → Hp → Prop) → Prop := tX (RDP W) W fun σ S => (evs C σ ks S).bind fun ds S1 => R.of (pairUp ds) S1
theorem RDP.keys {ρ : List Addr} {F : Hp} : ∀ {kvs : List (D × D)} {ps : List (V × V)}, RDP W ρ F kvs ps → flatKeys kvs = true → ∃ us : List (Key × V), ps = us.map (fun kv => (kV kv.1, kv.2)) ∧ RDK W ρ F kvs us
  | _, _, .nil, _ => ⟨[], rfl, .nil⟩
  | _, _, .cons (k := k) a b c, h => by
    have h' : ((kFlat k).isSome && flatKeys _) = true := h
    rw [Bool.and_eq_true] at h'
    obtain ⟨j, ej⟩ := Option.isSome_iff_exists.mp h'.1
    obtain ⟨us, e, r⟩ := RDP.keys c h'.2
    exact ⟨(j, _) :: us, by rw [List.map_cons, ← e, kFlat_V ej a], .cons ej b r⟩
theorem mkD_guard {G : Hp} {ρ : List Addr} {F : Hp} {S : Store} {H : Hp} {A : Addr} {ow : Bool} {kvs : List (D × D)} {us : List (Key × V)} {Q : V → Hp → Prop} (hG : G A = none)
    (s : StOk W (upd G A (.dK us)) ρ F S H) (r : RDK W ρ F kvs us) (p : Post (RD W) W G ρ F (mkD ow kvs S) Q) : Q (.ref A) H := by
  unfold mkD at p
  split at p
  · cases ow with
    | true =>
      obtain ⟨s1, e1⟩ := s.gown hG (o := .dct kvs) r
      refine p _ _ _ _ e1 s1 (.ref ?_)
      rw [← s.len]; simp
    | false =>
      obtain ⟨s1, e1⟩ := s.gcold hG
      exact p _ _ _ _ e1 s1 (.dK (.inl upd_same) (r.mono e1))
  · exact p.elim
theorem k_dct (cx : CxOk W c k X) {ow : Bool} {ks vs : Es} {keys : List (Option Expr)} {vals : List Expr} {p : Pos} {trs : List (TE × TE)} (h : PPs X p keys vals trs) (hall : keys.all (·.isSome) = true) (hl : keys.length = vals.length) (h15 : keys.length ≤ 15)
    (he : keys = [] → ks = .nil) (ht : ∀ σ H Q, tPr W C ks σ H Q → tPairs trs σ H Q) : OkE W C X (.dct ow ks vs) (.Dict keys vals p) := by
  refine .of ?_ rfl
  simp only [ev]
  refine both cx.K ?_ fun _ => rfl
  by_cases h0 : keys = []
  · subst h0
    have e2 := he rfl
    subst e2
    have e3 : vals = [] := List.eq_nil_of_length_eq_zero hl.symm
    subst e3
    refine PE.imp pe_dnewK fun σ H Q q => ?_
    obtain ⟨G, ρ, F, σ', S, s, r, p⟩ := q
    intro A hA
    simp only [evs, R.ok_bind, pairUp] at p
    exact (mkD_ok s .nil p).2 A hA
  · refine PE.imp (pe_disp h hall hl h0 h15) fun σ H Q q => ?_
    obtain ⟨G, ρ, F, σ', S, s, r, p⟩ := q
    intro A hA
    have hG : G A = none := by
      cases q : G A with
      | none => rfl
      | some x => have := (s.guard A x q).1; rw [hA] at this; cases this
    refine ht _ _ _ ⟨upd G A (.dK []), ρ, F, σ', S, s.gadd hA _, r, ?_⟩
    cases e : evs C σ' ks S with
    | bad => simp only [e, R.bad_bind] at p; exact p.elim
    | ok ds S2 =>
      simp only [e, R.ok_bind] at p ⊢
      cases e2 : pairUp ds with
      | none => rw [e2] at p; exact p.elim
      | some kvs =>
        rw [e2] at p
        simp only at p
        split at p
        · rename_i hc
          rw [Bool.and_eq_true] at hc
          intro ρ2 F2 ps H2 e3 s3 rp
          obtain ⟨us, e4, rk⟩ := rp.keys hc.1
          refine ⟨(s3.guard A _ upd_same).1, us, e4, by rw [← rk.length]; exact of_decide_eq_true hc.2, ?_⟩
          exact mkD_guard hG (s3.gput _) (RDK.putAll rk .nil) (p.mono e3)
        · exact p.elim
end
end Z

/-! Z19: own classes: fields, methods, making, properties. -/
namespace Z
open PySem PySem.Spec L2
open PyProof.Rows hiding St
section
variable {W : Fx} {C : CallT} {X : Cx} {c : Ctx} {k : Nat}
theorem lk_mem {a b : Nat} : ∀ {l : List (Nat × Nat)}, l.lookup a = some b → (a, b) ∈ l
  | (x, y) :: l, h => by
    rw [List.lookup_cons] at h
    split at h
    · rename_i e
      have := beq_iff_eq.mp e
      cases h
      rw [this]
      exact List.mem_cons_self
    · exact List.mem_cons_of_mem _ (lk_mem h)
theorem Ctx.hasM_at {c : Ctx} {nm : Str} {cf : List (Nat × Nat)} (h : c.hasM nm cf = true) : c.g.lookup (("<m>" : Str) ++ nm) = some (.mth nm cf) := by
  unfold Ctx.hasM at h
  split at h
  · rename_i n' cf' e
    simp only [Bool.and_eq_true, decide_eq_true_eq] at h
    obtain ⟨rfl, rfl⟩ := h
    exact e
  · cases h
theorem Ctx.hasF_at {c : Ctx} {f : Str} (h : c.hasF f = true) : c.g.lookup (("<f>" : Str) ++ f) = some (.fldn f) := by
  unfold Ctx.hasF at h
  split at h
  · rename_i f' e
    have := of_decide_eq_true h
    subst this
    exact e
  · cases h
theorem Ctx.hasP_at {c : Ctx} {nm : Str} {k f : Nat} (h : c.hasP nm k f = true) : c.g.lookup (("<p>" : Str) ++ nm) = some (.prp nm k f) := by
  unfold Ctx.hasP at h
  split at h
  · rename_i n' k' f' e
    simp only [Bool.and_eq_true, decide_eq_true_eq] at h
    obtain ⟨rfl, rfl, rfl⟩ := h
    exact e
  · cases h
theorem k_fld (cx : CxOk W c k X) (g : GOk W C k c.g) {o : E} {f : Str} {x : Expr} {p : Pos} (ho : OkE W C X o x) (hx : noSup x = true) (hf : c.hasF f = true) : OkE W C X (.fld o f) (.Attribute x f p) := by
  have G0 := g _ _ (Ctx.hasF_at hf)
  refine .of ?_ rfl
  simp only [ev]
  refine both cx.K ?_ fun _ => rfl
  refine PE.imp (pe_fld ho.v (base_of hx)) fun σ H Q q => ?_
  obtain ⟨G, ρ, F, σ', S, s, r, p⟩ := q
  refine tX.mk s r p fun ρ2 F2 d S2 v H2 e2 s2 r2 ra p2 => ?_
  cases e3 : insOf S2 d with
  | none => rw [e3] at p2; exact p2.elim
  | some q =>
    obtain ⟨cl, fs⟩ := q
    rw [e3] at p2
    obtain ⟨a, A, dx, us, rfl, h1, h2, h3⟩ := insOf_ok s2 ra e3
    obtain ⟨c1, c2⟩ := G0 cl A h2
    have p2 : Post (RD W) W G ρ2 F2 (R.of (fs.lookup f) S2) Q := p2
    rcases h3.lookup f with ⟨g1, g2⟩ | ⟨d', v', g1, g2, g3⟩
    · rw [g1] at p2; exact p2.elim
    · rw [g1] at p2
      exact ⟨a, A, dx, us, v', rfl, h1, by rw [cx.K]; exact c1, by rw [cx.K]; exact c2, g2, p2.fin s2 g3⟩
theorem k_prop (cx : CxOk W c k X) (g : GOk W C k c.g) {o : E} {nm : Str} {cl f : Nat} {x : Expr} {p : Pos} (ho : OkE W C X o x) (hx : noSup x = true) (hf : c.hasP nm cl f = true) : OkE W C X (.prop nm cl f o) (.Attribute x nm p) := by
  have G0 := g _ _ (Ctx.hasP_at hf)
  refine .of ?_ rfl
  simp only [ev]
  refine both cx.K ?_ fun _ => rfl
  obtain ⟨A, hA, c1, pa, fa, hp, kp, fd, ps, hb, F⟩ := G0
  have F' : FnOk X.prog X.w X.K X.mg X.base CX0 k fa fd ps (spF W C f) := by rw [cx.P, cx.w, cx.K, cx.mg, cx.base]; exact F
  refine PE.imp (pe_prop (pos := p) ho.v (by rw [cx.K]; exact c1) (by rw [cx.K]; exact hp) F' cx.room (by rw [cx.K]; exact hb) .nil pass0 (base_of hx)) fun σ H Q q => ?_
  obtain ⟨G, ρ, F0, σ', S, st, r, p⟩ := q
  refine tX.mk st r p fun ρ2 F2 d S2 v H2 e2 s2 r2 ra p2 => ?_
  cases e3 : insOf S2 d with
  | none => rw [e3] at p2; exact p2.elim
  | some q =>
    obtain ⟨c', fs⟩ := q
    rw [e3] at p2
    simp only at p2
    split at p2
    · rename_i e4
      subst e4
      obtain ⟨a, A', dx, us, rfl, h1, h2, h3⟩ := insOf_ok s2 ra e3
      rw [hA] at h2; cases h2
      exact ⟨a, dx, us, rfl, h1, G, ρ2, F2, S2, [d], s2, .cons ra .nil, endV_ok s2 p2⟩
    · exact p2.elim
/-- a method's call as the model makes it -/
theorem ht_of {o : Expr} {m : Str} {apos pos : Pos} {args : List Expr} {env : PySem.Env} (hb : attributeBase o m env (eval o env) = eval o env) (hn : args.all noStar = true) (hl : args.length < 20) (hq : (apos.endLine == pos.line) = true) :
    eval (.Call (.Attribute o m apos) args [] pos) env = (do
      let ov ← eval o env
      standAt apos.atName
      let (f, first) ← holding [ov] (getMethod ov m (do return (← importBound o env).getD true))
      callWith pos f first (backTo pos (starEach args env)) (backToKw pos (keywordEach [] env))) := by
  have hform : methodCallForm (args.length + ([] : List Keyword).length) (backTo pos (starEach args env)) (backToKw pos (keywordEach [] env)) = true := by
    unfold methodCallForm
    rw [few_of hn]
    have : args.length + ([] : List Keyword).length + (if (backToKw pos (keywordEach [] env)).isEmpty then 0 else 1) < 30 := by
      simp only [List.length_nil]
      split <;> omega
    simp only [decide_eq_true this, Bool.and_true, Bool.true_and]
    rfl
  have hpos : methodCallPos true o env apos pos = pure pos := by unfold methodCallPos; simp [hq]
  rw [arm_eval_Call, hb]
  unfold methodCall
  rw [hform, hpos]
  simp only [calleeOf, if_true, pure_bind]
theorem k_mcall (cx : CxOk W c k X) (g : GOk W C k c.g) {nm : Str} {cf : List (Nat × Nat)} {m : Md} {o : E} {es : Es} {x : Expr} {xs : List Expr} {q p : Pos} (ho : OkE W C X o x) (hx : noSup x = true) (hf : c.hasM nm cf = true) (hq : q.endLine = p.line) (hl : xs.length < 20)
    (ha : PA X xs (tAs W fun σ S => evs C σ es S)) (hs : xs.all noStar = true) (he : xs = [] → es = .nil) : OkE W C X (.mcall nm cf m o es) (.Call (.Attribute x nm q) xs [] p) := by
  have G0 := g _ _ (Ctx.hasM_at hf)
  have hline : (q.endLine == p.line) = true := beq_iff_eq.mpr hq
  refine .of ?_ rfl
  simp only [ev]
  refine both cx.K ?_ fun _ => rfl
  refine ⟨fun pins s σ H Q I h => ?_⟩
  -- which class
  obtain ⟨G, ρ, F0, σ', S, st, r, pp⟩ := h
  cases e1 : ev C σ' o false S with
  | bad => simp only [e1, R.bad_bind] at pp; exact pp.elim
  | ok d S1 =>
    simp only [e1, R.ok_bind] at pp
    cases e2 : insOf S1 d with
    | none => rw [e2] at pp; exact pp.elim
    | some w =>
      obtain ⟨cl, fs⟩ := w
      rw [e2] at pp
      simp only at pp
      split at pp
      · rename_i hno
        cases e3 : cf.lookup cl with
        | none =>
          cases e4 : evs C σ' es S1 with
          | bad => rw [e4] at pp; exact pp.elim
          | ok ds S2 => rw [e4] at pp; simp only [R.ok_bind, e3] at pp; exact pp.elim
        | some f =>
          obtain ⟨A, hA, c1, fa, hm, kp, fd, ps, hb, F⟩ := G0 (cl, f) (lk_mem e3)
          have F' : FnOk X.prog X.w X.K X.mg X.base CX0 k fa fd ps (spF W C f) := by rw [cx.P, cx.w, cx.K, cx.mg, cx.base]; exact F
          have wish : tMeth A nm (spF W C f) [] E0 (tE W fun σ S => ev C σ o false S) (tAs W fun σ S => evs C σ es S) σ H Q := by
            refine tX.at (a := d) (S2 := S1) st r e1 fun ρ2 F2 v H2 ex s2 r2 ra => ?_
            obtain ⟨a, A', dx, us, rfl, h1, h2, h3⟩ := insOf_ok s2 ra e2
            rw [hA] at h2; cases h2
            refine ⟨a, dx, us, rfl, h1, ?_, ?_⟩
            · rcases h3.lookup nm with ⟨_, g2⟩ | ⟨d', v', g1, _, _⟩
              · exact g2
              · have : lkF fs nm = some d' := g1
                rw [this] at hno; cases hno
            · refine tX.mk (g := fun ds S2 => match cf.lookup cl with
                | some f => endV m S2 (C f (d :: ds) S2)
                | none => .bad) s2 r2 (pp.mono ex) fun ρ3 F3 ds S3 vs H3 e4 s3 r3 rs p3 => ?_
              rw [e3] at p3
              exact ⟨G, ρ3, F3, S3, d :: ds, s3, .cons (ra.mono e4) (by rw [List.append_nil]; exact rs), endV_ok s3 p3⟩
          cases xs with
          | cons y ys =>
            have hs' := hs
            rw [List.all_cons, Bool.and_eq_true] at hs'
            exact (pe_meth ho.v (by rw [cx.K]; exact c1) (by rw [cx.K]; exact hm) F' (cx.room.mono (Nat.le_succ _)) (by rw [cx.K]; exact hb) .nil pass0 ha (star_of hs'.1) (any_of hs'.2) (ht_of (base_of hx) hs hl hline)).run pins s σ H Q I wish
          | nil =>
            cases he rfl
            refine (pe_meth0 ho.v (by rw [cx.K]; exact c1) (by rw [cx.K]; exact hm) F' (cx.room.mono (Nat.le_succ _)) (by rw [cx.K]; exact hb) .nil pass0 (ht_of (base_of hx) hs hl hline)).run pins s σ H Q I ?_
            obtain ⟨G2, ρ2, F2, σ2, S2, st2, r2, p2⟩ := wish
            have p2 : Post _ W G2 ρ2 F2 (ev C σ2 o false S2) _ := p2
            refine tX.mk (g := fun d S => R.ok d S) st2 r2 (by
              cases e : ev C σ2 o false S2 with
              | bad => rw [e] at p2; exact p2.elim
              | ok d3 S3 => rw [e] at p2; exact p2) fun ρ3 F3 d3 S3 v H3 e4 s3 r3 ra p3 => ?_
            obtain ⟨a, dx, us, ex, h1, h2, h4⟩ := p3.fin s3 ra
            refine ⟨a, dx, us, ex, h1, h2, ?_⟩
            obtain ⟨G5, ρ5, F5, σ5, S5, st5, r5, p5⟩ := h4
            simp only [evs] at p5
            exact p5.fin st5 .nil
      · exact pp.elim
theorem k_make (cx : CxOk W c k X) (g : GOk W C k c.g) {cl f : Nat} {ow : Bool} {es : Es} {x : Str} {xs : List Expr} {q p : Pos} (hf : c.isCls x cl f = true) (ha : PA X xs (tAs W fun σ S => evs C σ es S)) (hs : xs.all noStar = true) (he : xs = [] → es = .nil) : OkE W C X (.make cl f ow es) (.Call (.Name x q) xs [] p) := by
  unfold Ctx.isCls at hf
  simp only [Bool.and_eq_true, Bool.not_eq_true'] at hf
  obtain ⟨h1, h2⟩ := hf
  split at h2
  case h_2 => cases h2
  rename_i k' f' e
  simp only [Bool.and_eq_true, decide_eq_true_eq] at h2
  obtain ⟨rfl, rfl⟩ := h2
  obtain ⟨q1, q2⟩ := cx.gl e
  obtain ⟨A, fa, hA, hm, M, kp, fd, ps, hb, F⟩ := g _ _ q2
  have F' : FnOk X.prog X.w X.K X.mg X.base CX0 k fa fd ps (spF W C f) := by rw [cx.P, cx.w, cx.K, cx.mg, cx.base]; exact F
  have M' : Mk X.K A fa := by rw [cx.K]; exact M
  refine .of ?_ rfl
  simp only [ev]
  refine both cx.K ?_ fun _ => rfl
  have wish : ∀ {σ : St} {H : Hp} {Q : VK}, tE W (fun σ S => (evs C σ es S).bind fun ds S1 => if ow then (C f (.ref S1.length :: ds) (S1 ++ [some (.ins cl [])])).bind fun d S2 => if d = .non then .ok (.ref S1.length) S2 else .bad
      else endV .val S1 ((C f (.ref S1.length :: ds) (S1 ++ [some (.ins cl [])])).bind fun d S2 => if d = .non then .ok (.ref S1.length) S2 else .bad)) σ H Q → tMake A (spF W C f) [] E0 (tAs W fun σ S => evs C σ es S) σ H Q := by
    intro σ H Q q
    obtain ⟨G, ρ, F0, σ', S, st, r, p⟩ := q
    refine tX.mk st r p fun ρ2 F2 ds S2 vs H2 e2 s2 r2 ra p2 => ?_
    have p3 : Post (RD W) W G ρ2 F2 ((C f (.ref S2.length :: ds) (S2 ++ [some (.ins cl [])])).bind fun d S3 => if d = .non then .ok (.ref S2.length) S3 else .bad) Q := by
      cases ow with
      | true => exact p2
      | false =>
        rw [if_neg Bool.false_ne_true] at p2
        exact endV_ok s2 p2
    intro y dx hy hdx hne
    obtain ⟨s3, e3⟩ := s2.cold (u := .own y) hdx
    have hy3 : (upd H2 dx (.own y)) y = none := by rw [upd_ne (Ne.symm hne)]; exact hy
    obtain ⟨s4, e4⟩ := s3.alloc (o := .ins cl []) (u := .ins A dx []) hy3 ⟨hA, .nil⟩
    have hr : (ρ2 ++ [y])[S2.length]? = some y := by rw [← s2.len]; simp
    refine ⟨G, ρ2 ++ [y], upd F2 dx (.own y), S2 ++ [some (.ins cl [])], .ref S2.length :: ds, s4, .cons (.ref hr) (by rw [List.append_nil]; exact ra.mono (e3.trans e4)), ?_⟩
    have p4 := p3.mono (e3.trans e4)
    cases e5 : C f (.ref S2.length :: ds) (S2 ++ [some (.ins cl [])]) with
    | bad => rw [e5] at p4; exact p4.elim
    | ok d S5 =>
      rw [e5] at p4
      simp only [R.ok_bind] at p4
      intro ρ' F' v H' ex s' rv
      split at p4
      · rename_i ed
        subst ed
        cases rv
        exact ⟨rfl, p4 ρ' F' (.ref y) H' ex s' (.ref (ex.loc _ _ hr))⟩
      · exact p4.elim
  cases xs with
  | cons y ys =>
    rw [List.all_cons, Bool.and_eq_true] at hs
    exact PE.imp (pe_make M' F' cx.room q1 (by rw [cx.mg]; exact hm) (by rw [cx.K]; exact hb) .nil pass0 ha h1 (star_of hs.1) (any_of hs.2)) fun σ H Q q => wish q
  | nil =>
    cases he rfl
    refine PE.imp (pe_make0 M' F' cx.room q1 (by rw [cx.mg]; exact hm) (by rw [cx.K]; exact hb) .nil pass0 h1) fun σ H Q q => ?_
    obtain ⟨G, ρ, F, σ', S, s, r, p⟩ := wish q
    simp only [evs] at p
    exact p.fin s .nil
end
end Z

/-! Z20: dict comprehensions; a locked dict's keys. -/
namespace Z
open PySem PySem.Spec L2
open PyProof.Rows hiding St

theorem putAll_len : ∀ (kvs acc : List (D × D)), (putAll acc kvs).length ≤ acc.length + kvs.length
  | [], acc => Nat.le_refl _
  | p :: kvs, acc => by
    have h1 := putAll_len kvs (putD acc p.1 p.2)
    have h2 : (putD acc p.1 p.2).length ≤ acc.length + 1 := by
      unfold putD
      split <;> simp
    have e : putAll acc (p :: kvs) = putAll (putD acc p.1 p.2) kvs := rfl
    rw [e, List.length_cons]
    omega
theorem putAll_snoc (kvs acc : List (D × D)) (p : D × D) : putAll acc (kvs ++ [p]) = putD (putAll acc kvs) p.1 p.2 := by
  unfold putAll
  rw [List.foldl_append]
  rfl
theorem RD.key {W : Fx} {ρ : List Addr} {F : Hp} {d : D} {x : V} {j : Key} (r : RD W ρ F d x) (h : kFlat d = some j) : x = kV j := by
  cases d <;> first | (cases h; done) | (cases h; cases r; rfl)
theorem RDK.keysZ {W : Fx} {ρ : List Addr} {F : Hp} : ∀ {kvs : List (D × D)} {us : List (Key × V)} {i : Nat} {k : Key} {v : V} {d : D}, RDK W ρ F kvs us → us[i]? = some (k, v) → (kvs.map (·.1))[i]? = some d → RD W ρ F d (kV k)
  | [], _, _, _, _, _, h, e, _ => by cases h; simp at e
  | (k0, d0) :: kvs, _, 0, k, v, d, h, e, e2 => by
    cases h with
    | cons q a b =>
      simp only [List.getElem?_cons_zero, Option.some.injEq, Prod.mk.injEq] at e
      obtain ⟨rfl, rfl⟩ := e
      simp only [List.map_cons, List.getElem?_cons_zero, Option.some.injEq] at e2
      subst e2
      cases k0 <;> first | (cases q; done) | skip
      · cases q; exact .int _
      · cases q; exact .str _
  | (k0, d0) :: kvs, _, i + 1, k, v, d, h, e, e2 => by
    cases h with
    | cons q a b =>
      simp only [List.getElem?_cons_succ] at e
      simp only [List.map_cons, List.getElem?_cons_succ] at e2
      exact RDK.keysZ b e e2
section
variable {W : Fx} {ρ : List Addr} {F : Hp}
theorem iw_keys {a : Addr} {od : PySem.Obj} {kvs : List (D × D)} {us : List (Key × V)} (h : F a = some (.frz od (.dK us))) (r : RDK W ρ F kvs us) : IW W ρ F (kvs.map (·.1)) (Itk a od us) := by
  have sq : ∀ {G ρ' F' S H}, Ext ρ F ρ' F' → StOk W G ρ' F' S H → H a = some (.frz od (.dK us)) := fun e s => s.sub _ _ (e.frz _ _ _ h)
  have hl : (kvs.map (·.1)).length = us.length := by rw [List.length_map, RDK.length r]
  refine ⟨fun i G ρ' F' S H hi e s => ⟨sq e s, by rw [← hl]; exact hi⟩, fun G ρ' F' S H e s => ⟨sq e s, by rw [hl]; exact Nat.le_refl _⟩, fun i d G ρ' F' S H x H' hd e s y => ?_⟩
  obtain ⟨h1, k, v, h2, h3⟩ := y
  exact ⟨F', .refl, by rw [h1]; exact s, by rw [h3]; exact (r.keysZ h2 hd).mono e⟩
end
/-- going over a dict that is frozen: it is locked for good -/
theorem pi_keysZ {W : Fx} {X : Cx} {tg it : Expr} {f : Env → Store → R D} (h : PE X it (tE W f)) : PI X tg it (tI W fun σ S => (f σ S).bind fun x S1 => match x with
    | .dct kvs => .ok (kvs.map (·.1)) S1
    | _ => .bad) := by
  refine ⟨fun pins s σ H R I q => ?_⟩
  refine thn (h.run pins s σ H (fun x H1 => ∃ d us, x = .ref d ∧ Rd H1 d (.dK us) ∧ ((∃ od, H1 d = some (.frz od (.dK us)) ∧ R (Itk d od us) H1) ∨ (H1 d = some (.dK us) ∧ ∀ od, R (Itk d od us) (upd H1 d (.frz od (.dK us)))))) I ?_) fun u s1 ⟨x, H1, I1, rx, d, us, ex, hd, q⟩ => ?_
  · obtain ⟨G, ρ, F, σ', S, st, r, p⟩ := q
    refine tX.mk st r p fun ρ2 F2 a S2 b H2 e2 s2 r2 ra p2 => ?_
    cases a <;> first | exact p2.elim | skip
    rename_i kvs
    cases ra with
    | dK hr rk =>
      rename_i a us
      refine ⟨a, us, rfl, s2.rd _ _ trivial hr, ?_⟩
      rcases hr with hr | ⟨od, hr⟩
      · refine .inr ⟨s2.sub _ _ hr, fun od => ?_⟩
        obtain ⟨s3, e3⟩ := s2.lock (od := od) hr
        exact p2 _ _ _ _ e3 s3 (iw_keys upd_same (rk.mono e3))
      · exact .inl ⟨od, s2.sub _ _ hr, p2.fin s2 (iw_keys hr rk)⟩
  · subst ex
    obtain rfl : u = Value.ref d := rx
    have go : ∀ {H2 : Hp} {od : PySem.Obj}, Inv X pins σ H2 s1 → H2 d = some (.frz od (.dK us)) → R (Itk d od us) H2 → wpAny (model X.prog X.w) X.A (pyIter (.ref d)) (PIE X pins σ tg R) X.xe s1 := fun {H2 od} I2 hd q => by
      obtain ⟨hs, hgd, hx, es, ep, vs, hdt, hsz, kv, hm⟩ := I2.frzK hd
      refine iter_keys hs hgd hx hdt (pi_one (tk := s1.toks) I2 _ (turn_keys _ hdt) ⟨_, Heap.get?_push_size _ rfl, rfl, ?_⟩ q)
      rw [hsz] <;> rfl
    rcases q with ⟨od, h1, q⟩ | ⟨h1, q⟩
    · exact go I1 h1 q
    · obtain ⟨od, I2⟩ := I1.lock h1 trivial
      exact go I2 upd_same (q od)
theorem tE_dc {W : Fx} {fi : Env → Store → R (List D)} {tg : Tg} {own : List Nat} {fc : Env → Store → R Bool} {fk fe : Env → Store → R D} {ow : Bool} {σ : St} {H : Hp} {Q : VK} (hown : ∀ i ∈ tgIx tg, i ∈ own)
    (h : tE W (fun σ S => (fi σ S).bind fun ds S1 => (mapR (fun d S2 => match asg tg d (wipeE σ own) with
      | some σ1 => (fc σ1 S2).bind fun b S3 => if b then (fk σ1 S3).bind fun k S4 => (fe σ1 S4).bind fun y S5 => .ok [(k, y)] S5 else .ok [] S3
      | none => .bad) ds S1).bind fun ys S2 => if flatKeys ys && decide (ys.length ≤ sizeLine) then mkD ow (putAll [] ys) S2 else .bad) σ H Q) : tDc (tI W fi) (gT W tg) (tCo W fc) (tE W fk) (tE W fe) own σ H Q := by
  obtain ⟨G, ρ, F, σ', S, s, r, p⟩ := h
  refine tX.mk s r p fun ρ1 F1 ds S1 J H1 e1 s1 r1 iw p1 => ?_
  intro A hA
  have hG : G A = none := by
    cases q : G A with
    | none => rfl
    | some x => have := (s1.guard A x q).1; rw [hA] at this; cases this
  generalize hstep : (fun d S2 => match asg tg d (wipeE σ' own) with
      | some σ1 => (fc σ1 S2).bind fun b S3 => if b then (fk σ1 S3).bind fun k S4 => (fe σ1 S4).bind fun y S5 => R.ok [(k, y)] S5 else .ok [] S3
      | none => .bad) = step at p1
  cases hm : mapR step ds S1 with
  | bad => rw [hm] at p1; exact p1.elim
  | ok ys Sn =>
    rw [hm] at p1
    simp only [R.ok_bind] at p1
    by_cases hc : (flatKeys ys && decide (ys.length ≤ sizeLine)) = true
    case neg => rw [if_neg hc] at p1; exact p1.elim
    rw [if_pos hc] at p1
    simp only [Bool.and_eq_true, decide_eq_true_eq] at hc
    obtain ⟨hfl, hlen⟩ := hc
    refine ⟨fun i m H2 => m = ds.length - i ∧ i ≤ ds.length ∧ ∃ ρ2 F2 S2 acc us rest, Ext ρ1 F1 ρ2 F2 ∧ StOk W (upd G A (.dK us)) ρ2 F2 S2 H2 ∧ RDK W ρ2 F2 (putAll [] acc) us ∧ mapR step (ds.drop i) S2 = .ok rest Sn ∧ ys = acc ++ rest,
      ⟨ds.length, by simp, Nat.zero_le _, ρ1, F1, S1, [], [], ys, .refl, s1.gadd hA _, .nil, hm, rfl⟩, ?_⟩
    rintro i m H2 ⟨rfl, hi, ρ2, F2, S2, acc, us, rest, e2, s2, ra, hr, hys⟩
    by_cases hlt : i < ds.length
    · refine .inr ⟨iw.go i _ ρ2 F2 S2 H2 hlt e2 s2, fun H4 => i + 1 ≤ ds.length ∧ ∃ ρ4 F4 S4 acc us rest, Ext ρ1 F1 ρ4 F4 ∧ StOk W (upd G A (.dK us)) ρ4 F4 S4 H4 ∧ RDK W ρ4 F4 (putAll [] acc) us ∧ mapR step (ds.drop (i + 1)) S4 = .ok rest Sn ∧ ys = acc ++ rest,
        fun H4 q => ⟨ds.length - (i + 1), by omega, rfl, q⟩, fun x H3 y => ?_⟩
      have hd : ds[i]? = some ds[i] := List.getElem?_eq_getElem hlt
      obtain ⟨F3, e3, s3, rd⟩ := iw.yld i ds[i] _ ρ2 F2 S2 H2 x H3 hd e2 s2 y
      rw [List.drop_eq_getElem_cons hlt] at hr
      obtain ⟨y1, S5, rest1, hs1, hs2, hrest⟩ := mapR_cons hr
      rw [← hstep] at hs1
      simp only at hs1
      cases ha : asg tg ds[i] (wipeE σ' own) with
      | none => rw [ha] at hs1; cases hs1
      | some σ4 =>
        rw [ha] at hs1
        obtain ⟨b, S6, hc1, hc2⟩ := R.bind_okE hs1
        refine ⟨_, ρ2, F3, wipeE σ' own, S2, ds[i], σ4, s3, ((r1.mono e2).mono e3).wipe own, rd, ha, fun σ5 r5 sb => ⟨?_, ?_⟩⟩
        · rw [sb.wipe hown, wipe_wipe fun i hi => hi]
        · refine tX.at (RA := RBo) s3 r5 hc1 fun ρ4 F4 b' H4 e4 s4 r4 hb => ?_
          cases (show b = b' from hb)
          cases b with
          | true =>
            rw [if_pos rfl] at hc2 ⊢
            obtain ⟨k2, S7, hk1, hk2⟩ := R.bind_okE hc2
            obtain ⟨y2, S8, he1, he2⟩ := R.bind_okE hk2
            cases he2
            refine tX.at s4 r4 hk1 fun ρ5 F5 kv H5 e5 s5 r5 rk => ?_
            refine tX.at s5 r5 he1 fun ρ6 F6 v H6 e6 s6 r6 rv => ?_
            have hk : (kFlat k2).isSome = true := by
              have := List.all_eq_true.mp hfl (k2, y2) (by rw [hys, hrest]; simp)
              exact this
            obtain ⟨j, hj⟩ := Option.isSome_iff_exists.mp hk
            have hl2 : us.length < sizeLine := by
              rw [← RDK.length ra]
              have h5 := putAll_len acc []
              rw [hys, hrest] at hlen
              simp at hlen h5
              omega
            refine ⟨us, j, rk.key hj, (s6.guard A _ upd_same).1, hl2, hlt, ρ6, F6, _, acc ++ [(k2, y2)], putK us j v, rest1, (((e2.trans e3).trans e4).trans e5).trans e6, s6.gput _, ?_, hs2, ?_⟩
            · rw [putAll_snoc]
              exact RDK.put hj rv ((ra.mono e3).mono ((e4.trans e5).trans e6))
            · rw [hys, hrest]; simp
          | false =>
            rw [if_neg Bool.false_ne_true] at hc2 ⊢
            cases hc2
            exact ⟨hlt, ρ4, F4, _, acc, us, rest1, (e2.trans e3).trans e4, s4, (ra.mono e3).mono e4, hs2, by rw [hys, hrest]; rfl⟩
    · have e : i = ds.length := by omega
      subst e
      rw [List.drop_length] at hr
      cases hr
      refine .inl ⟨iw.stop _ ρ2 F2 _ H2 e2 s2, ?_⟩
      rw [List.append_nil] at hys
      subst hys
      exact mkD_guard hG s2 ra (p1.mono e2)
section
variable {W : Fx} {C : CallT} {c : Ctx} {k : Nat} {X : Cx}
theorem k_dc (cx : CxOk W c k X) {ow : Bool} {own : List Nat} {ke elt : E} {tg : Tg} {it : Iy} {cond : Es} {x y t i : Expr} {ifs : List Expr} {sc : Scope} {p : Pos}
    (hi : PI X t i (tI W fun σ S => evI C σ it S)) (hn : noSet i = true) (hb : blkC c.N c.sc sc (ownP c own) = true) (ht : isTg (c.inner sc) tg t = true) (hown : ((tgIx tg).all fun j => own.contains j) = true)
    (hk : ∀ (s : Shared) (H : Hp) (A : Addr) (cl : List (Str × Addr)) (fp : List Addr), OkE W C (X.blk s H sc (compEnvC sc cl A X.env) fp) ke x)
    (he : ∀ (s : Shared) (H : Hp) (A : Addr) (cl : List (Str × Addr)) (fp : List Addr), OkE W C (X.blk s H sc (compEnvC sc cl A X.env) fp) elt y)
    (hc : ∀ (s : Shared) (H : Hp) (A : Addr) (cl : List (Str × Addr)) (fp : List Addr), PTs (X.blk s H sc (compEnvC sc cl A X.env) fp) ifs (tCo W fun σ S => evC C σ cond S)) :
    OkE W C X (.dc ow own ke elt tg it cond) (.DictComp x y [⟨t, i, ifs, 0⟩] sc p) := by
  refine .of ?_ rfl
  simp only [ev]
  refine both cx.K (PE.imp (pe_dc cx.calm cx.nd hi (own := ownP c own) (blkOk_by (by rw [cx.N, cx.sc]; exact hb)) (fun s H A cl fp => pg_T cx.inner ht) hc (fun s H A cl fp => (hk s H A cl fp).v) (fun s H A cl fp => (he s H A cl fp).v) (fold_of hn)) fun σ H Q q => ?_) fun _ => rfl
  rw [own_map]
  refine tE_dc (fun j hj => ?_) q
  have := List.all_eq_true.mp hown j hj
  simpa using this
end
section
variable {X : Cx}
/-- name = {..} on one line, the name a local -/
theorem ps_setDc {i : Nat} {y : Str} {py : Pos} {kx vx tg iter : Expr} {ifs : List Expr} {scope : Scope} {own : List (Str × Nat)} {pos spos : Pos} {wi : TI} {g : TG} {tt : TT} {tk tv : TE} (hc : X.calm = true) (hN : X.N.Nodup) (hy : X.N[i]? = some y) (hyl : X.env.scope.names.lookup y = some .local)
    (hsw : swapsWith (.DictComp kx vx [⟨tg, iter, ifs, 0⟩] scope pos) (some (.Name y py)) spos.line X.env = pure true) (hi : PI X tg iter wi) (ok : BlkOk X.N X.env.scope scope own)
    (hg : ∀ (s : Shared) (H : Hp) (C : Addr) (cl : List (Str × Addr)) (fp : List Addr), PG (X.blk s H scope (compEnvC scope cl C X.env) fp) tg g) (ht : ∀ (s : Shared) (H : Hp) (C : Addr) (cl : List (Str × Addr)) (fp : List Addr), PTs (X.blk s H scope (compEnvC scope cl C X.env) fp) ifs tt)
    (hk : ∀ (s : Shared) (H : Hp) (C : Addr) (cl : List (Str × Addr)) (fp : List Addr), PE (X.blk s H scope (compEnvC scope cl C X.env) fp) kx tk)
    (he : ∀ (s : Shared) (H : Hp) (C : Addr) (cl : List (Str × Addr)) (fp : List Addr), PE (X.blk s H scope (compEnvC scope cl C X.env) fp) vx tv) (hs : ∀ x, foldedSetIterable iter X.env x = pure x) :
    PS X (.Assign [.Name y py] (.DictComp kx vx [⟨tg, iter, ifs, 0⟩] scope pos) spos) (tAsg (tDc wi g tt tk tv (own.map (·.2))) (gName i)) := by
  refine ⟨fun pins s σ H D I h => ?_⟩
  rw [exec_Assign_Name_used _ _ _ _ hsw]
  refine wpAny_bind (wpAny_standAt (wpAny_bind ?_))
  show wpAny _ X.A (do let _ ← comprehension (.DictComp kx vx [⟨tg, iter, ifs, 0⟩] scope pos) scope X.env (firstIterPos [⟨tg, iter, ifs, 0⟩] pos) newDict false (eval iter X.env) (some (assign (.Name y py) X.env))) _ _ s
  have h : tDc wi g tt tk tv (own.map (·.2)) σ H (fun x H1 => gName i x σ H1 D.nx) := h
  refine wpAny_bind (thn (dc_core (Qf := fun _ s' => SP X pins D .next s') hc hN I hi ok hg ht hk he hs h fun L C s' m H' I' q hn f => ?_) fun _ s' hq => wpAny_pure (wpAny_pure hq))
  show wpAny _ _ (assign (.Name y py) X.env (.ref L)) _ _ _
  refine wpAny_assign_Name (store_ok2 (v := V.ref L) I' hN hy (.inl hyl) rfl (fun s2 I2 ⟨a, sb, ha⟩ => ?_) (.inr hyl))
  obtain ⟨f0, f1, f2, f3, f4, f5⟩ := f
  have haC : C ≠ a := by
    rcases ha with z | z
    · rw [z]; exact f1
    · exact fun e => f4 y a z e.symm
  refine ⟨m, hn.sameBut sb haC, fun h3 sb3 => ?_⟩
  exact ⟨_, H', I2.turned (t' := s2.toks) (fun b o hb e => (sb3.2 b hb).trans e) f0 f1 f3 f4 f5, q⟩
theorem sw_trueD {kx vx : Expr} {gs : List Comprehension} {scope : Scope} {pos py : Pos} {y : Str} {l : Nat} {env : PySem.Env} (hk : env.scope.kind = .function) (hy : env.scope.names.lookup y = some .local) (hl : (py.line == pos.line) = true)
    (ha : (scope.names.any fun (n, k) => n == y && (k == .local || k == .cell)) = false) : swapsWith (.DictComp kx vx gs scope pos) (some (.Name y py)) l env = pure true := by
  have ky : env.kindOf y = some .local := hy
  have hb : env.blockKind = .function := by unfold Env.blockKind; rw [hk]; rfl
  unfold swapsWith
  simp only [hb, ky, ha, Expr.pos, hl]
  rfl
end
end Z

/-! Z12: every expression, joined. -/
namespace Z
open PySem PySem.Spec L2
open PyProof.Rows hiding St
section
variable {W : Fx} {C : CallT} {X : Cx} {c : Ctx} {k : Nat}
theorem isEs_len {c : Ctx} : ∀ {es : Es} {xs : List Expr}, isEs c es xs = true → es.len = xs.length ∧ xs.all noStar = true ∧ (xs = [] → es = .nil)
  | .nil, [], _ => ⟨rfl, rfl, fun _ => rfl⟩
  | .nil, _ :: _, h => by simp [isEs] at h
  | .cons _ _, [], h => by simp [isEs] at h
  | .cons e es, x :: xs, h => by
    simp only [isEs, Bool.and_eq_true] at h
    obtain ⟨h1, h2, _⟩ := isEs_len h.2.2
    exact ⟨by simp [Es.len, h1], by simp [h.1, h2], fun z => nomatch z⟩
end
mutual
theorem sE {W : Fx} {C : CallT} {k : Nat} : ∀ (e : E) {c : Ctx} {X : Cx} {x : Expr}, CxOk W c k X → GOk W C k c.g → isE c e x = true → OkE W C X e x
  | .var i, c, X, x, cx, g, h => by
    simp only [isE] at h
    split at h
    · rename_i y p e
      obtain rfl := unName_eq e
      exact k_var cx h
    · cases h
  | .k d, c, X, x, cx, g, h => by
    simp only [isE] at h
    split at h
    · rename_i y p q e
      obtain rfl := unConst_eq e
      exact k_k cx h
    · cases h
  | .gl z d, c, X, x, cx, g, h => by
    simp only [isE] at h
    split at h
    · rename_i y p e
      rw [Bool.and_eq_true] at h
      obtain rfl := unName_eq e
      obtain rfl := beq_iff_eq.mp h.1
      exact k_gl cx g h.2
    · cases h
  | .tup es, c, X, x, cx, g, h => by
    simp only [isE] at h
    split at h
    · rename_i y p q e
      obtain rfl := unTup_eq e
      exact k_tup cx (sEs es cx g h)
    · cases h
  | .lst ow es, c, X, x, cx, g, h => by
    simp only [isE] at h
    split at h
    · rename_i y p e
      obtain rfl := unList_eq e
      exact k_lst cx (sEs es cx g h)
    · cases h
  | .dct ow ks vs, c, X, x, cx, g, h => by
    simp only [isE] at h
    split at h
    · rename_i keys vals p e
      rw [Bool.and_eq_true] at h
      obtain rfl := unDict_eq e
      obtain ⟨trs, h1, h2, h3, h4, h5⟩ := sP ks (pos := p) cx g h.1
      exact k_dct cx h1 h2 h3 (of_decide_eq_true h.2) h4 h5
    · cases h
  | .bin op ow a b, c, X, x, cx, g, h => by
    simp only [isE] at h
    split at h
    · rename_i y o z p e
      simp only [Bool.and_eq_true, decide_eq_true_eq] at h
      obtain rfl := unBin_eq e
      obtain ⟨rfl, h1, h2⟩ := h
      exact k_bin cx (sE a cx g h1) (sE b cx g h2)
    · cases h
  | .neg a, c, X, x, cx, g, h => by
    simp only [isE] at h
    split at h
    · rename_i y p e
      obtain rfl := unUn_eq e
      exact k_neg cx (sE a cx g h)
    · cases h
  | .cmp op a b, c, X, x, cx, g, h => by
    simp only [isE] at h
    split at h
    · rename_i y o z p e
      simp only [Bool.and_eq_true, decide_eq_true_eq, Bool.not_eq_true'] at h
      obtain rfl := unCmp_eq e
      obtain ⟨rfl, hm, h1, h2⟩ := h
      exact k_cmp cx (sE a cx g h1) (sE b cx g h2) hm
    · cases h
  | .chain op op' a b d, c, X, x, cx, g, h => by
    simp only [isE] at h
    split at h
    · rename_i y o o' z w p e
      simp only [Bool.and_eq_true, decide_eq_true_eq, Bool.not_eq_true'] at h
      obtain rfl := unCmp_eq e
      obtain ⟨rfl, rfl, hm, h1, h2, h3⟩ := h
      exact k_chain cx (sE a cx g h1) (sE b cx g h2) (sE d cx g h3) hm
    · cases h
  | .and a b, c, X, x, cx, g, h => by
    simp only [isE] at h
    split at h
    · rename_i y z p e
      simp only [Bool.and_eq_true] at h
      obtain rfl := unBool_eq e
      have hb := sE b cx g h.2
      exact k_and cx (sE a cx g h.1) (pe_one hb.v) (pw_and1 hb.t)
    · rename_i y z w r p e
      simp only [Bool.and_eq_true] at h
      obtain rfl := unBool_eq e
      have hb := sE b cx g h.2
      exact k_and cx (sE a cx g h.1) hb.v (hb.w _ _ _ _ _ rfl)
    · cases h
  | .or a b, c, X, x, cx, g, h => by
    simp only [isE] at h
    split at h
    · rename_i y z p e
      simp only [Bool.and_eq_true] at h
      obtain rfl := unBool_eq e
      have hb := sE b cx g h.2
      exact k_or cx (sE a cx g h.1) (pe_one hb.v) (pw_or1 hb.t)
    · rename_i y z w r p e
      simp only [Bool.and_eq_true] at h
      obtain rfl := unBool_eq e
      have hb := sE b cx g h.2
      exact k_or cx (sE a cx g h.1) hb.v (hb.w _ _ _ _ _ rfl)
    · cases h
  | .not a, c, X, x, cx, g, h => by
    simp only [isE] at h
    split at h
    · rename_i y p e
      obtain rfl := unUn_eq e
      exact k_not cx (sE a cx g h)
    · cases h
  | .ite t a b, c, X, x, cx, g, h => by
    simp only [isE] at h
    split at h
    · rename_i z y w p e
      simp only [Bool.and_eq_true] at h
      obtain rfl := unIf_eq e
      exact k_ite cx (sE t cx g h.1) (sE a cx g h.2.1) (sE b cx g h.2.2)
    · cases h
  | .call f m es, c, X, x, cx, g, h => by
    simp only [isE] at h
    split at h
    · rename_i y q xs p e
      simp only [Bool.and_eq_true] at h
      obtain rfl := unCall_eq e
      obtain ⟨h1, h2, h3⟩ := isEs_len h.2
      exact k_call cx g h.1 (sEs es cx g h.2) h2 h3
    · cases h
  | .mcall nm cf m o es, c, X, x, cx, g, h => by
    simp only [isE] at h
    split at h
    · rename_i y z q xs p e
      obtain rfl := unMeth_eq e
      simp only [Bool.and_eq_true, decide_eq_true_eq] at h
      obtain ⟨h1, h2, h3, h4, h5, h6, h7⟩ := h
      obtain rfl := beq_iff_eq.mp h1
      obtain ⟨_, hs, he⟩ := isEs_len h6
      exact k_mcall cx g (sE o cx g h5) h3 h2 h4 h7 (sEs es cx g h6) hs he
    · cases h
  | .make cl f ow es, c, X, x, cx, g, h => by
    simp only [isE] at h
    split at h
    · rename_i y q xs p e
      obtain rfl := unCall_eq e
      simp only [Bool.and_eq_true] at h
      obtain ⟨_, hs, he⟩ := isEs_len h.2
      exact k_make cx g h.1 (sEs es cx g h.2) hs he
    · cases h
  | .fld o f, c, X, x, cx, g, h => by
    simp only [isE] at h
    split at h
    · rename_i y z p e
      obtain rfl := unAttr_eq e
      simp only [Bool.and_eq_true] at h
      obtain ⟨h1, h2, h3, h4⟩ := h
      obtain rfl := beq_iff_eq.mp h1
      exact k_fld cx g (sE o cx g h4) h3 h2
    · cases h
  | .prop nm cl f o, c, X, x, cx, g, h => by
    simp only [isE] at h
    split at h
    · rename_i y z p e
      obtain rfl := unAttr_eq e
      simp only [Bool.and_eq_true] at h
      obtain ⟨h1, h2, h3, h4⟩ := h
      obtain rfl := beq_iff_eq.mp h1
      exact k_prop cx g (sE o cx g h4) h3 h2
    · cases h
  | .idx a i, c, X, x, cx, g, h => by
    simp only [isE] at h
    split at h
    · rename_i y z p e
      simp only [Bool.and_eq_true] at h
      obtain rfl := unSub_eq e
      exact k_idx cx (sE a cx g h.2.1) (sE i cx g h.2.2) h.1
    · cases h
  | .slc ow a lo hi, c, X, x, cx, g, h => by
    simp only [isE] at h
    split at h
    · rename_i y z p e
      split at h
      · rename_i l u q e2
        simp only [Bool.and_eq_true] at h
        obtain rfl := unSub_eq e
        obtain rfl := unSlice_eq e2
        exact k_slc cx (sE a cx g h.1) (sO lo cx g h.2.1) (sO hi cx g h.2.2)
      · cases h
    · cases h
  | .lc ow own elt tg it cond, c, X, x, cx, g, h => by
    simp only [isE] at h
    split at h
    · rename_i y t i ifs sc p e
      simp only [Bool.and_eq_true] at h
      obtain rfl := unLC_eq e
      obtain ⟨h1, h2, h3, h4, h5, h6, h7⟩ := h
      exact k_lc cx (sI it cx g h2) h1 h3 h4 h5 (fun s H A cl fp => sE elt cx.inner g h6) fun s H A cl fp => sC cond cx.inner g h7
    · cases h
  | .lc2 ow own elt tg it own2 tg2 it2, c, X, x, cx, g, h => by
    simp only [isE] at h
    split at h
    · rename_i y t i t2 i2 sc p e
      simp only [Bool.and_eq_true] at h
      obtain rfl := unLC_eq e
      obtain ⟨h1, h2, h3, h4, h5, h6, h7, h8, h9, h10, h11⟩ := h
      exact k_lc2 cx (sI it cx g h3) h1 h2 h4 h5 h6 (fun s H A cl fp => sI it2 cx.inner g h7) h8 h9 h10 fun s H A cl fp => sE elt cx.inner g h11
    · cases h
  | .dc ow own ke elt tg it cond, c, X, x, cx, g, h => by
    simp only [isE] at h
    split at h
    · rename_i y z t i ifs sc p e
      simp only [Bool.and_eq_true] at h
      obtain rfl := unDC_eq e
      obtain ⟨h1, h2, h3, h4, h5, h6, h7, h8⟩ := h
      exact k_dc cx (sI it cx g h2) h1 h3 h4 h5 (fun s H A cl fp => sE ke cx.inner g h6) (fun s H A cl fp => sE elt cx.inner g h7) fun s H A cl fp => sC cond cx.inner g h8
    · cases h
  | .dc2 _ _ _ _ _ _ _ _ _, c, X, x, cx, g, h => by simp [isE] at h
  | .bi b ow es, c, X, x, cx, g, h => by
    simp only [isE] at h
    split at h
    · rename_i hp
      split at h
      · rename_i y q xs p e
        simp only [Bool.and_eq_true] at h
        obtain rfl := unCall_eq e
        obtain ⟨h0, hb, h⟩ := h
        obtain rfl := beq_iff_eq.mp h0
        obtain ⟨h1, h2, h3⟩ := isEs_len h
        exact k_bi cx g hp hb (sEs es cx g h) h2 h3
      · cases h
    · rename_i hp
      split at h
      · rename_i y q z p e
        simp only [Bool.and_eq_true] at h
        obtain rfl := unCall_eq e
        obtain ⟨h0, hb, h⟩ := h
        obtain rfl := beq_iff_eq.mp h0
        split at h
        · rename_i z2 q2 w p2 e2
          simp only [Bool.and_eq_true] at h
          obtain rfl := unCall_eq e2
          obtain ⟨h4, h5, h6⟩ := h
          obtain rfl := beq_iff_eq.mp h4
          obtain ⟨h1, h2, h3⟩ := isEs_len h6
          exact k_set2 cx g (by simpa using hp) (sEs es cx g h6) (by simpa using h2) hb h5
        · cases h
      · cases h
  | .bm m o es, c, X, x, cx, g, h => by
    simp only [isE] at h
    split at h
    · rename_i y z q xs p e
      simp only [Bool.and_eq_true, decide_eq_true_eq, Bool.not_eq_true'] at h
      obtain rfl := unMeth_eq e
      obtain ⟨⟨m2, m3⟩, h0, h4, h5, h6, h7, h8⟩ := h
      obtain rfl := beq_iff_eq.mp h0
      obtain ⟨h1, h2, h3⟩ := isEs_len h7
      by_cases hm : m = .get2
      · subst hm
        have h8 : xs.length = 2 := by simpa using h8
        match xs, es, h1, h2, h7, h8 with
        | [y1, y2], .cons a1 (.cons a2 .nil), h1, h2, h7, h8 =>
          simp only [isEs, Bool.and_eq_true] at h7
          simp only [List.all_cons, List.all_nil, Bool.and_eq_true] at h2
          exact k_get2 cx (sE o cx g h6) (sE a1 cx g h7.2.1) (sE a2 cx g h7.2.2.2.1) h4 h5 h2.1 h2.2.1
        | [_, _], .nil, h1, _, _, _ => simp [Es.len] at h1
        | [_, _], .cons _ .nil, h1, _, _, _ => simp [Es.len] at h1
        | [_, _], .cons _ (.cons _ (.cons _ _)), h1, _, _, _ => simp [Es.len] at h1
      · have h8 : xs.length < 20 := by
          have e9 : (m == Bm.get2) = false := by cases m <;> first | rfl | exact absurd rfl hm
          rw [e9] at h8
          simpa using h8
        refine k_bm cx ?_ (sE o cx g h6) h4 h5 h8 (sEs es cx g h7) h2 h3
        cases m <;> first | (exact absurd rfl hm) | (exact absurd m2 (by decide)) | (exact absurd m3 (by decide)) | simp
    · cases h
  | .isi a t, c, X, x, cx, g, h => by
    simp only [isE] at h
    split at h
    · rename_i f q y z p e
      simp only [Bool.and_eq_true] at h
      obtain rfl := unCall_eq e
      obtain ⟨h0, hb, hn, h1, h⟩ := h
      obtain rfl := beq_iff_eq.mp h0
      split at h
      · rename_i w p2 e2
        simp only [Bool.and_eq_true] at h
        obtain rfl := unName_eq e2
        obtain ⟨h2, h3⟩ := h
        have e3 : w = Str.ofString t.nm := by
          have := beq_iff_eq.mp h3
          cases t <;> exact this
        subst e3
        exact k_isi cx g (sE a cx g h1) hb h2 hn
      · cases h
    · cases h
  | .frz a, c, X, x, cx, g, h => by
    simp only [isE, Bool.and_eq_true] at h
    exact k_frz cx (sE a cx g h.2) h.1
theorem sEs {W : Fx} {C : CallT} {k : Nat} : ∀ (es : Es) {c : Ctx} {X : Cx} {xs : List Expr}, CxOk W c k X → GOk W C k c.g → isEs c es xs = true → PA X xs (tAs W fun σ S => evs C σ es S)
  | .nil, c, X, [], cx, g, h => by
    refine PA.imp pa_nil fun σ H Q q => ?_
    obtain ⟨G, ρ, F, σ', S, s, r, p⟩ := q
    simp only [evs] at p
    exact p.fin s .nil
  | .nil, c, X, _ :: _, cx, g, h => by simp [isEs] at h
  | .cons _ _, c, X, [], cx, g, h => by simp [isEs] at h
  | .cons e es, c, X, x :: xs, cx, g, h => by
    simp only [isEs, Bool.and_eq_true] at h
    refine PA.imp (pa_cons (sE e cx g h.2.1).v (sEs es cx g h.2.2) (star_of h.1)) fun σ H Q q => ?_
    obtain ⟨G, ρ, F, σ', S, s, r, p⟩ := q
    simp only [evs] at p
    exact tX.mk s r p fun ρ2 F2 d S2 v H2 e2 s2 r2 ra p2 => tX.mk s2 r2 p2 fun ρ3 F3 ds S3 vs H3 e3 s3 r3 rs p3 => p3.fin s3 (.cons (ra.mono e3) rs)
theorem sP {W : Fx} {C : CallT} {k : Nat} : ∀ (ks : Es) {c : Ctx} {X : Cx} {keys : List (Option Expr)} {vals : List Expr} {pos : Pos}, CxOk W c k X → GOk W C k c.g → isP c ks keys vals = true →
    ∃ trs, PPs X pos keys vals trs ∧ keys.all (·.isSome) = true ∧ keys.length = vals.length ∧ (keys = [] → ks = .nil) ∧ ∀ σ H Q, tPr W C ks σ H Q → tPairs trs σ H Q
  | .nil, c, X, keys, vals, pos, cx, g, h => by
    cases keys with
    | nil =>
      cases vals with
      | nil =>
        refine ⟨[], pps_nil, rfl, rfl, fun _ => rfl, fun σ H Q q => ?_⟩
        obtain ⟨G, ρ, F, σ', S, s, r, p⟩ := q
        simp only [evs, R.ok_bind, pairUp] at p
        exact p.fin s .nil
      | cons _ _ => exact absurd (show false = true from h) Bool.false_ne_true
    | cons _ _ => exact absurd (show false = true from h) Bool.false_ne_true
  | .cons k1 .nil, c, X, keys, vals, pos, cx, g, h => by
    exact absurd (show false = true from h) Bool.false_ne_true
  | .cons k1 (.cons v1 r1), c, X, keys, vals, pos, cx, g, h => by
    cases keys with
    | nil => exact absurd (show false = true from h) Bool.false_ne_true
    | cons x keys =>
      cases x with
      | none => exact absurd (show false = true from h) Bool.false_ne_true
      | some x =>
        cases vals with
        | nil => exact absurd (show false = true from h) Bool.false_ne_true
        | cons y vals =>
          have h : (isE c k1 x && (isE c v1 y && isP c r1 keys vals)) = true := h
          simp only [Bool.and_eq_true] at h
          have ek := sE k1 cx g h.1
          have ev_ := sE v1 cx g h.2.1
          obtain ⟨trs, h1, h2, h3, h4, h5⟩ := sP r1 (pos := pos) cx g h.2.2
          refine ⟨_, pps_cons ek.v ev_.v h1, by simpa using h2, by simp [h3], (fun z => nomatch z), fun σ H Q q => ?_⟩
          obtain ⟨G, ρ, F, σ', S, s, r, p⟩ := q
          simp only [evs, R.bind_bind, R.ok_bind] at p
          refine tX.mk s r p fun ρ2 F2 d S2 v H2 e2 s2 r2 ra p2 => tX.mk s2 r2 p2 fun ρ3 F3 u S3 w H3 e3 s3 r3 rb p3 => h5 _ _ _ ⟨G, ρ3, F3, σ', S3, s3, r3, ?_⟩
          cases e : evs C σ' r1 S3 with
          | bad => simp only [e, R.bad_bind] at p3; exact p3.elim
          | ok ds S4 =>
            simp only [e, R.ok_bind] at p3 ⊢
            have e5 : pairUp (d :: u :: ds) = (pairUp ds).map ((d, u) :: ·) := rfl
            rw [e5] at p3
            cases e6 : pairUp ds with
            | none => rw [e6] at p3; exact p3.elim
            | some kvs =>
              rw [e6] at p3
              exact fun ρ4 F4 ps H4 e4 s4 rp => p3 ρ4 F4 _ H4 e4 s4 (.cons (ra.mono (e3.trans e4)) (rb.mono e4) rp)
theorem sO {W : Fx} {C : CallT} {k : Nat} : ∀ (es : Es) {c : Ctx} {X : Cx} {o : Option Expr}, CxOk W c k X → GOk W C k c.g → isO c es o = true → PO X o (tOo W fun σ S => evo C σ es S)
  | .nil, c, X, o, cx, g, h => by
    cases o with
    | none =>
      refine PO.imp po_none fun σ H Q q => ?_
      obtain ⟨G, ρ, F, σ', S, s, r, p⟩ := q
      simp only [evo] at p
      exact p.fin s rfl
    | some x => exact absurd (show false = true from h) Bool.false_ne_true
  | .cons e es, c, X, o, cx, g, h => by
    cases o with
    | none => cases es <;> exact absurd (show false = true from h) Bool.false_ne_true
    | some x =>
      cases es with
      | cons _ _ => exact absurd (show false = true from h) Bool.false_ne_true
      | nil =>
        have h : isE c e x = true := h
        refine PO.imp (po_some (sE e cx g h).v) fun σ H Q q => ?_
        obtain ⟨G, ρ, F, σ', S, s, r, p⟩ := q
        simp only [evo] at p
        refine tX.mk s r p fun ρ2 F2 d S2 v H2 e2 s2 r2 ra p2 => ?_
        cases d <;> first | exact p2.elim | skip
        cases ra
        exact ⟨_, rfl, p2.fin s2 rfl⟩
theorem sC {W : Fx} {C : CallT} {k : Nat} : ∀ (es : Es) {c : Ctx} {X : Cx} {xs : List Expr}, CxOk W c k X → GOk W C k c.g → isC c es xs = true → PTs X xs (tCo W fun σ S => evC C σ es S)
  | .nil, c, X, xs, cx, g, h => by
    cases xs with
    | nil =>
      refine PTs.imp pts_nil fun σ H Q q => ?_
      obtain ⟨G, ρ, F, σ', S, s, r, p⟩ := q
      simp only [evC] at p
      exact p.fin s rfl
    | cons x xs => exact absurd (show false = true from h) Bool.false_ne_true
  | .cons e es, c, X, xs, cx, g, h => by
    cases xs with
    | nil => cases es <;> exact absurd (show false = true from h) Bool.false_ne_true
    | cons x xs =>
      cases es with
      | cons _ _ => exact absurd (show false = true from h) Bool.false_ne_true
      | nil =>
        cases xs with
        | cons _ _ => exact absurd (show false = true from h) Bool.false_ne_true
        | nil =>
          have h : isE c e x = true := h
          refine PTs.imp (pts_one (sE e cx g h).t) fun σ H Q q => ?_
          obtain ⟨G, ρ, F, σ', S, s, r, p⟩ := q
          simp only [evC] at p
          refine tX.mk s r p fun ρ2 F2 d S2 b H2 e2 s2 r2 ra p2 => ?_
          cases (show d = .bl b from ra)
          exact p2.fin s2 rfl
theorem sI {W : Fx} {C : CallT} {k : Nat} : ∀ (it : Iy) {c : Ctx} {X : Cx} {t x : Expr}, CxOk W c k X → GOk W C k c.g → isI c it t x = true → PI X t x (tI W fun σ S => evI C σ it S)
  | .seq e, c, X, t, x, cx, g, h => by
    simp only [isI] at h
    simp only [evI]
    exact pi_seq cx.K (sE e cx g h).v
  | .rng es, c, X, t, x, cx, g, h => by
    simp only [isI] at h
    split at h
    · rename_i f q xs p e
      simp only [Bool.and_eq_true] at h
      obtain rfl := unCall_eq e
      obtain ⟨h0, hb, h, h4, h5⟩ := h
      obtain rfl := beq_iff_eq.mp h0
      obtain ⟨h1, h2, h3⟩ := isEs_len h
      have h4 := of_decide_eq_true h4
      have h5 := of_decide_eq_true h5
      simp only [evI]
      exact pi_rng cx g hb (sEs es cx g h) h2 h1 (by omega)
    · cases h
  | .enum _, c, X, t, x, cx, g, h => by simp [isI] at h
  | .zip _ _, c, X, t, x, cx, g, h => by simp [isI] at h
  | .rev _, c, X, t, x, cx, g, h => by simp [isI] at h
  | .keys e, c, X, t, x, cx, g, h => by
    simp only [isI] at h
    simp only [evI]
    exact pi_keysZ (sE e cx g h).v
end
end Z

/-! Z13: statements, defs. -/
namespace Z
open PySem PySem.Spec L2
open PyProof.Rows hiding St

def unAsg : Stmt → Option (Expr × Expr × Pos)
  | .Assign [t] v p => some (t, v, p)
  | _ => none
theorem unAsg_eq {s : Stmt} {t v : Expr} {p : Pos} (h : unAsg s = some (t, v, p)) : s = .Assign [t] v p := by
  cases s with
  | Assign ts v p =>
    cases ts with
    | nil => cases h
    | cons a r => cases r <;> first | (cases h; done) | (cases h; rfl)
  | _ => cases h
def unAug : Stmt → Option (Str × Pos × Operator × Expr × Pos)
  | .AugAssign (.Name x q) o v p => some (x, q, o, v, p)
  | _ => none
theorem unAug_eq {s : Stmt} {x : Str} {q p : Pos} {o : Operator} {v : Expr} (h : unAug s = some (x, q, o, v, p)) : s = .AugAssign (.Name x q) o v p := by
  cases s with
  | AugAssign t o v p => cases t <;> first | (cases h; done) | (cases h; rfl)
  | _ => cases h
def unExpr : Stmt → Option (Expr × Pos)
  | .Expr e p => some (e, p)
  | _ => none
theorem unExpr_eq {s : Stmt} {e : Expr} {p : Pos} (h : unExpr s = some (e, p)) : s = .Expr e p := by
  cases s <;> first | (cases h; done) | (cases h; rfl)
def unRet : Stmt → Option (Option Expr × Pos)
  | .Return e p => some (e, p)
  | _ => none
theorem unRet_eq {s : Stmt} {e : Option Expr} {p : Pos} (h : unRet s = some (e, p)) : s = .Return e p := by
  cases s <;> first | (cases h; done) | (cases h; rfl)
def unIfS : Stmt → Option (Expr × List Stmt × List Stmt × Pos)
  | .If t a b p => some (t, a, b, p)
  | _ => none
theorem unIfS_eq {s : Stmt} {t : Expr} {a b : List Stmt} {p : Pos} (h : unIfS s = some (t, a, b, p)) : s = .If t a b p := by
  cases s <;> first | (cases h; done) | (cases h; rfl)
def unFor : Stmt → Option (Expr × Expr × List Stmt × Pos)
  | .For t i b [] p => some (t, i, b, p)
  | _ => none
theorem unFor_eq {s : Stmt} {t i : Expr} {b : List Stmt} {p : Pos} (h : unFor s = some (t, i, b, p)) : s = .For t i b [] p := by
  cases s with
  | For t i b o p => cases o <;> first | (cases h; done) | (cases h; rfl)
  | _ => cases h
def unWhile : Stmt → Option (Expr × List Stmt × Pos)
  | .While t b [] p => some (t, b, p)
  | _ => none
theorem unWhile_eq {s : Stmt} {t : Expr} {b : List Stmt} {p : Pos} (h : unWhile s = some (t, b, p)) : s = .While t b [] p := by
  cases s with
  | While t b o p => cases o <;> first | (cases h; done) | (cases h; rfl)
  | _ => cases h
/-! ### an item's store -/
def rSet (W : Fx) : TSet := fun o i v H Q => ∃ G ρ F S d y w S3, StOk W G ρ F S H ∧ RD W ρ F d o ∧ RD W ρ F y i ∧ RD W ρ F w v ∧ setIV d y w S = some S3 ∧ ∀ H', StOk W G ρ F S3 H' → Q H'
theorem setI_ok {W : Fx} {X : Cx} (hu : X.A.units + 1 < cLine) : PSet X (rSet W) := by
  intro pins s σ H o i v ov iv u Q I ro ri rv h
  obtain ⟨G, ρ, F, S, d, y, w, S3, st, rd, ry, rw_, e, q⟩ := h
  cases d <;> first | (cases e; done) | skip
  rename_i l
  simp only [setIV] at e
  split at e
  · rename_i xs ho
    cases y <;> first | (cases e; done) | skip
    rename_i j
    simp only [Option.map_eq_some_iff] at e
    obtain ⟨k, hk, rfl⟩ := e
    obtain ⟨a, z, h1, h2, h3, h4⟩ := st.live _ _ ho
    cases rd with
    | ref hl =>
      rw [hl] at h1; cases h1
      cases z <;> first | exact h3.elim | skip
      rename_i vs
      cases ry
      refine set_list pins s σ H _ _ v ov iv u Q I ro ri rv ⟨a, vs, j, k, rfl, rfl, h2, by rw [← RDs.length h3]; exact hk, q _ ?_⟩
      exact st.put ho hl (o := .lst (xs.set k w)) (u := .lst (vs.set k v)) (RDs.set rw_ k h3)
  · rename_i kvs ho
    split at e
    · rename_i hc
      cases e
      rw [Bool.and_eq_true] at hc
      obtain ⟨a, z, h1, h2, h3, h4⟩ := st.live _ _ ho
      cases rd with
      | ref hl =>
        rw [hl] at h1; cases h1
        cases z <;> first | exact h3.elim | skip
        rename_i us
        obtain ⟨j, hj⟩ := Option.isSome_iff_exists.mp hc.1
        have ey := kFlat_V hj ry
        refine set_dict hu pins s σ H _ _ v ov iv u Q I ro ri rv ⟨a, upd H a (.dK (putK us j v)), rfl, .inl ⟨us, j, h2, ey, by rw [← RDK.length h3]; exact of_decide_eq_true hc.2, rfl⟩, q _ ?_⟩
        exact st.put ho hl (o := .dct (putD kvs y w)) (u := .dK (putK us j v)) (RDK.put hj rw_ h3)
    · cases e
  · cases e
theorem swap_sub {e o i : Expr} {p : Pos} {l : Nat} {env : PySem.Env} : swapsWith e (some (.Subscript o i p)) l env = pure false := by
  cases e <;> rfl
def tSetI (t : TSet) (to ti tv : TE) : TS := fun D σ H => tv σ H fun v H1 => to σ H1 fun x H2 => ti σ H2 fun y H3 => t x y v H3 fun H4 => D.nx σ H4
theorem ps_setI {X : Cx} {t : TSet} {o i value : Expr} {pos' pos : Pos} {to ti tv : TE} (hs : PSet X t) (ho : PE X o to) (hi : PE X i ti) (hv : PE X value tv) : PS X (.Assign [.Subscript o i pos'] value pos) (tSetI t to ti tv) := by
  refine ⟨fun pins s σ H D I h => ?_⟩
  refine wpAny_Assign_Subscript (thn (hv.run pins s σ H _ I h) fun r s1 ⟨v, H1, I1, rv, q1⟩ => thn (ho.run pins s1 σ H1 _ I1 q1) fun u s2 ⟨x, H2, I2, rx, q2⟩ => thn (hi.run pins s2 σ H2 _ I2 q2) fun iv s3 ⟨y, H3, I3, ry, q3⟩ => ?_) swap_sub
  exact thn (hs pins s3 σ H3 x y v u iv r _ I3 rx ry rv q3) fun _ s4 ⟨H4, I4, q4⟩ => ⟨σ, H4, I4, q4⟩
def unAugF : Stmt → Option (Expr × Str × Pos × Expr × Pos)
  | .AugAssign (.Attribute o f q) .Add v p => some (o, f, q, v, p)
  | _ => none
theorem unAugF_eq {s : Stmt} {o v : Expr} {f : Str} {q p : Pos} (h : unAugF s = some (o, f, q, v, p)) : s = .AugAssign (.Attribute o f q) .Add v p := by
  cases s with
  | AugAssign t o v p => cases t <;> cases o <;> first | (cases h; done) | (cases h; rfl)
  | _ => cases h
theorem swap_fld {e o : Expr} {f : Str} {p : Pos} {l : Nat} {env : PySem.Env} : swapsWith e (some (.Attribute o f p)) l env = pure false := by
  cases e <;> rfl
theorem RDF.putF {W : Fx} {ρ : List Addr} {F : Hp} {f : Str} {d : D} {v : V} (r : RD W ρ F d v) : ∀ {fs : List (Str × D)} {us : List (Str × V)}, RDF W ρ F fs us → RDF W ρ F (Z.putF f d fs) (L2.putF f v us)
  | [], _, h => by cases h; exact .cons r .nil
  | (g, x) :: fs, _, h => by
    cases h with
    | cons a b =>
      unfold Z.putF L2.putF
      split
      · exact .cons r b
      · exact .cons a (RDF.putF r b)
theorem RDF.length {W : Fx} {ρ : List Addr} {F : Hp} : ∀ {fs : List (Str × D)} {us : List (Str × V)}, RDF W ρ F fs us → fs.length = us.length
  | [], _, h => by cases h; rfl
  | (g, x) :: fs, _, h => by cases h with | cons a b => simp [RDF.length b]
theorem setF_ok {W : Fx} {G : Hp} {ρ : List Addr} {F : Hp} {S S3 : Store} {H : Hp} {d w : D} {f : Str} {x y : V} (st : StOk W G ρ F S H) (rd : RD W ρ F d x) (rw_ : RD W ρ F w y) (e : setFV d f w S = some S3) :
    ∃ a C dx us c, x = .ref a ∧ H a = some (.ins C dx us) ∧ W.cl c = some C ∧ us.length < 900 ∧ StOk W G ρ F S3 (upd H a (.ins C dx (L2.putF f y us))) := by
  cases d <;> first | (cases e; done) | skip
  rename_i l
  simp only [setFV] at e
  split at e
  · rename_i c fs ho
    split at e
    · rename_i hl
      cases e
      obtain ⟨a, z, h1, h2, h3, h4⟩ := st.live _ _ ho
      cases rd with
      | ref hl' =>
        rw [hl'] at h1; cases h1
        cases z <;> first | exact h3.elim | skip
        rename_i C dx us
        exact ⟨a, C, dx, us, c, rfl, h2, h3.1, by rw [← h3.2.length]; exact hl, st.put ho hl' (o := .ins c (Z.putF f w fs)) (u := .ins C dx (L2.putF f y us)) ⟨h3.1, RDF.putF rw_ h3.2⟩⟩
    · cases e
  · cases e
def isPass : Stmt → Bool
  | .Pass _ => true
  | _ => false
def isCont : Stmt → Bool
  | .Continue _ => true
  | _ => false
def noTup : Expr → Bool
  | .Tuple _ _ _ => false
  | .List _ _ => false
  | _ => true
/-- the name is stored by the comprehension itself -/
def swLine (c : Ctx) (y : Str) (py : Pos) (e : Expr) : Bool := match e with
  | .ListComp _ _ sc pos => decide (c.sc.kind = .function) && (decide (c.sc.names.lookup y = some .local) && ((py.line == pos.line) && !(sc.names.any fun (n, k) => n == y && (k == .local || k == .cell))))
  | .DictComp _ _ _ sc pos => decide (c.sc.kind = .function) && (decide (c.sc.names.lookup y = some .local) && ((py.line == pos.line) && !(sc.names.any fun (n, k) => n == y && (k == .local || k == .cell))))
  | _ => false
/-- a, b = x, y of plain locals -/
def parC (c : Ctx) (x y : Str) (px py : Pos) (a b : Expr) : Bool := decide (c.sc.kind = .function) && (decide (c.sc.names.lookup x = some .local) && (decide (c.sc.names.lookup y = some .local) && ((py.line == px.line) && (!(x == y) && (noStar a && (noStar b && (!([a, b].all (foldedForSure 8)) && !([a, b].all (constantsAlone 8)))))))))
def parS (c : Ctx) (tg : Tg) (e : E) (t v : Expr) : Bool := match tg, e, unTup t, unTup v with
  | .tp [.nm i, .nm j], .tup (.cons _ (.cons _ .nil)), some ([tx, ty], _, _), some ([va, vb], _, _) => (match unName tx, unName ty with
    | some (x, px), some (y, py) => !(i == j) && parC c x y px py va vb
    | _, _ => false)
  | _, _, _, _ => false
theorem parS_of {c : Ctx} {tg : Tg} {e : E} {t v : Expr} (h : parS c tg e t v = true) : ∃ i j a b x px y py va vb k1 p1 k2 p2, tg = .tp [.nm i, .nm j] ∧ e = .tup (.cons a (.cons b .nil)) ∧ t = .Tuple [.Name x px, .Name y py] k1 p1 ∧ v = .Tuple [va, vb] k2 p2 ∧ i ≠ j ∧ parC c x y px py va vb = true := by
  unfold parS at h
  split at h
  · rename_i et ev'
    split at h
    · rename_i ex ey
      rw [Bool.and_eq_true, Bool.not_eq_true'] at h
      have ht := unTup_eq et
      rw [unName_eq ex, unName_eq ey] at ht
      exact ⟨_, _, _, _, _, _, _, _, _, _, _, _, _, _, rfl, rfl, ht, unTup_eq ev', (fun e => by rw [e, beq_self_eq_true] at h; cases h.1), h.2⟩
    · cases h
  · cases h
theorem par_sw {env : PySem.Env} {x y : Str} {px py pt pt2 : Pos} {kt k2 : Nat} {a b : Expr} (hk : env.scope.kind = .function) (hx : env.scope.names.lookup x = some .local) (hy : env.scope.names.lookup y = some .local) (hl : (py.line == px.line) = true) (hne : (x == y) = false) (ha : noStar a = true) (hb : noStar b = true)
    (hf : ([a, b].all (foldedForSure 8)) = false) (hc : ([a, b].all (constantsAlone 8)) = false) : swappedStores [.Tuple [.Name x px, .Name y py] kt pt] (.Tuple [a, b] k2 pt2) env = pure (some [x, y]) := by
  have kx : env.kindOf x = some .local := hx
  have ky : env.kindOf y = some .local := hy
  have hbk : env.blockKind = .function := by unfold Env.blockKind; rw [hk]; rfl
  have e1 : (env.kindOf x == some NameKind.local && px.line == px.line) = true := by rw [kx]; simp
  have e2 : (env.kindOf y == some NameKind.local && py.line == px.line) = true := by rw [ky, hl]; rfl
  have hed : ([x, y] : List Str).eraseDups = [x, y] := by
    have hyx : (y == x) = false := by
      have : ¬ x = y := fun e => by rw [e, beq_self_eq_true] at hne; cases hne
      exact beq_eq_false_iff_ne.mpr (Ne.symm this)
    simp [List.eraseDups_cons, hyx]
  unfold swappedStores
  simp only [hbk, hf, hc, Expr.pos, List.head?_cons, Option.map_some, Option.getD_some, List.filterMap_cons, List.filterMap_nil, e1, e2, if_true, hed]
  refine (if_neg ?_).trans ((if_neg ?_).trans ((if_neg ?_).trans ?_))
  · exact Bool.false_ne_true
  · intro h
    rw [List.any_cons, List.any_cons, List.any_nil, Bool.or_false, Bool.or_eq_true] at h
    rcases h with h | h
    · cases a <;> first | (cases ha; done) | (cases h; done)
    · cases b <;> first | (cases hb; done) | (cases h; done)
  · simp
  · rfl
/-- a cell: no swap -/
def swCell (c : Ctx) (y : Str) : Bool := decide (c.sc.names.lookup y = some .cell)
theorem sw_cell {e : Expr} {y : Str} {p : Pos} {l : Nat} {env : PySem.Env} (h : env.scope.names.lookup y = some .cell) : swapsWithSole [.Name y p] e l env = pure false := by
  have : swapsWithSole [.Name y p] e l env = swapsWith e (some (.Name y p)) l env := by first | rfl | (unfold swapsWithSole; rfl)
  rw [this]
  have hk : env.kindOf y = some .cell := h
  have hh : (some NameKind.cell == some NameKind.local) = false := by decide
  cases e <;> first | rfl | (unfold swapsWith; simp only [hk, hh, Bool.and_false, Bool.false_and])
def isLcE : E → Bool
  | .lc _ _ _ _ _ _ => true
  | .lc2 _ _ _ _ _ _ _ _ => true
  | .dc _ _ _ _ _ _ _ => true
  | _ => false
mutual
def isS (c : Ctx) : S → Stmt → Bool
  | .asg tg e, s => match unAsg s with
    | some (t, v, _) => isTg c tg t && (isE c e v && (match tg, unName t with
      | .nm _, some (y, py) => noComp v || (swCell c y || (isLcE e && swLine c y py v))
      | .tp _, none => (noTup v && noComp v) || parS c tg e t v
      | _, _ => false))
    | none => false
  | .setI o i e, s => match unAsg s with
    | some (t, v, _) => match unSub t with
      | some (x, y, _) => isE c o x && (isE c i y && isE c e v)
      | none => false
    | none => false
  | .setF o f e, s => match unAsg s with
    | some (t, v, _) => match unAttr t with
      | some (x, y, _) => y == f && (c.hasF f && (isE c o x && isE c e v))
      | none => false
    | none => false
  | .augF o f op e, s => match unAugF s with
    | some (x, y, _, v, _) => decide (op = .add) && (y == f && (c.hasF f && (isE c o x && isE c e v)))
    | none => false
  | .aug i op e, s => match unAug s with
    | some (x, _, o, v, _) => decide (op = .add) && (decide (o = .Add) && (c.isLoc i x && isE c e v))
    | none => false
  | .expr e, s => match unExpr s with
    | some (x, _) => noComp x && isE c e x
    | none => false
  | .ret e, s => match unRet s with
    | some (some x, _) => isE c e x
    | _ => false
  | .retN, s => match unRet s with
    | some (none, _) => true
    | _ => false
  | .pass, s => isPass s
  | .cont, s => isCont s
  | .raise, _ => true
  | .if_ t a b, s => match unIfS s with
    | some (x, p, q, _) => isE c t x && (isB c a p && isB c b q)
    | none => false
  | .for_ tg it b, s => match unFor s with
    | some (t, i, p, _) => noSet i && (isTg c tg t && (isI c it t i && isB c b p))
    | none => false
  | .while_ t b, s => match unWhile s with
    | some (x, p, _) => isE c t x && isB c b p
    | none => false
  | .frzv s i, st => isS c s st
  | _, _ => false
def isB (c : Ctx) : B → List Stmt → Bool
  | .nil, [] => true
  | .cons s b, st :: sts => isS c s st && isB c b sts
  | _, _ => false
end

section
variable {W : Fx} {C : CallT} {X : Cx} {c : Ctx} {k : Nat}
theorem tS_ret {f : Z.Env → Store → R D} {D' : Ends} {σ : St} {H : Hp} (h : tS W (fun σ S => (f σ S).bind fun d S1 => .ok (.ret d) S1) D' σ H) : tRet (tE W f) D' σ H := by
  obtain ⟨G, ρ, F, σ', S, s, r, p⟩ := h
  exact tX.mkS s r p fun ρ2 F2 d S2 v H2 e2 s2 r2 ra p2 => p2 ρ2 F2 v H2 .refl s2 ra
theorem PS.nmv {X : Cx} {st : Stmt} {f : Z.Env → Store → R Fl} {g : Z.Env → Store → R Fl} (h : PS X st (tS W f)) (hg : ∀ {G ρ F σ' σ S H D}, StOk W G ρ F S H → RS W ρ F σ' σ → PostS W G ρ F (g σ' S) D → PostS W G ρ F (f σ' S) D) : PS X st (tS W g) :=
  PS.imp h fun D σ H q => by
    obtain ⟨G, ρ, F, σ', S, s, r, p⟩ := q
    exact ⟨G, ρ, F, σ', S, s, r, hg s r p⟩
theorem asg_step {f : Z.Env → Store → R D} {tg : Tg} {D' : Ends} {σ : St} {H : Hp} (h : tS W (fun σ S => (f σ S).bind fun d S1 => nxt (asg tg d σ) S1) D' σ H) : tAsg (tE W f) (gT W tg) D' σ H := by
  obtain ⟨G, ρ, F, σ', S, s, r, p⟩ := h
  refine tX.mkS s r p fun ρ2 F2 d S2 v H2 e2 s2 r2 ra p2 => ?_
  cases ha : asg tg d σ' with
  | none => rw [ha] at p2; exact p2.elim
  | some σ1 =>
    rw [ha] at p2
    exact ⟨G, ρ2, F2, σ', S2, d, σ1, s2, r2, ra, ha, fun σ2 r3 _ => p2 ρ2 F2 σ2 H2 .refl s2 r3⟩
theorem asg_lcstep {fi : Z.Env → Store → R (List D)} {tg : Tg} {own : List Nat} {fc : Z.Env → Store → R Bool} {fe : Z.Env → Store → R D} {ow : Bool} {i : Nat} {D' : Ends} {σ : St} {H : Hp} (hown : ∀ i ∈ tgIx tg, i ∈ own)
    (h : tS W (fun σ S => ((fi σ S).bind fun ds S1 => (mapR (fun d S2 => match asg tg d (wipeE σ own) with
      | some σ1 => (fc σ1 S2).bind fun b S3 => if b then (fe σ1 S3).bind fun y S4 => .ok [y] S4 else .ok [] S3
      | none => .bad) ds S1).bind fun ys S2 => mkL ow ys S2).bind fun d S1 => nxt (asg (.nm i) d σ) S1) D' σ H) : tAsg (tLc (tI W fi) (gT W tg) (tCo W fc) (tE W fe) own) (gName i) D' σ H := by
  refine tE_lc (ow := ow) hown ?_
  obtain ⟨G, ρ, F, σ', S, s, r, p⟩ := h
  refine tX.mkS s r p fun ρ2 F2 d S2 v H2 e2 s2 r2 ra p2 => ?_
  simp only [asg] at p2
  split at p2
  · exact p2 ρ2 F2 _ H2 .refl s2 (r2.set i ra)
  · exact p2.elim
theorem sole_of {t e : Expr} {l : Nat} {env : PySem.Env} (h : noComp e = true) : swapsWithSole [t] e l env = pure false := by
  have : swapsWithSole [t] e l env = swapsWith e (some t) l env := by first | rfl | (unfold swapsWithSole; rfl)
  rw [this]
  exact swap_of h
theorem swp_tup {t e : Expr} {env : PySem.Env} (h : noTup e = true) : swappedStores [t] e env = pure none := by
  cases t <;> cases e <;> first | (cases h; done) | rfl
theorem unTup_noName {t : Expr} {es : List Expr} {j : Nat} {p : Pos} : t = .Tuple es j p → ∀ env, (assignEach [t] env).map (·.2) = [assign t env] := fun e env => by subst e; rfl
end
mutual
theorem sS {W : Fx} {C : CallT} {k : Nat} : ∀ (s : S) {c : Ctx} {X : Cx} {st : Stmt}, CxOk W c k X → X.xe = (fun _ _ => False) → GOk W C k c.g → isS c s st = true → PS X st (tS W fun σ S => evS C s σ S)
  | .asg tg e, c, X, st, cx, hx, g, h => by
    simp only [isS] at h
    split at h
    case h_2 => cases h
    rename_i t v p eq
    obtain rfl := unAsg_eq eq
    simp only [Bool.and_eq_true] at h
    obtain ⟨h1, h2, h3⟩ := h
    simp only [evS]
    cases tg with
    | nm i =>
      cases hn : unName t with
      | none => rw [hn] at h3; cases h3
      | some yp =>
        obtain ⟨y, py⟩ := yp
        rw [hn] at h3
        simp only [Bool.or_eq_true] at h3
        obtain rfl := unName_eq hn
        by_cases hc : noComp v = true ∨ swCell c y = true
        · have hsole : swapsWithSole [.Name y py] v p.line X.env = pure false := by
            rcases hc with hc | hc
            · exact sole_of hc
            · exact sw_cell (by rw [cx.sc]; exact of_decide_eq_true hc)
          refine PS.imp (ps_asg (sE e cx g h2).v (pg_T cx h1) hsole (by cases v <;> rfl) rfl) fun D σ H q => asg_step q
        · rw [not_or] at hc
          have h3 := (h3.resolve_left hc.1).resolve_left hc.2
          rw [Bool.and_eq_true] at h3
          obtain ⟨h3, h3'⟩ := h3
          cases e <;> first | (cases h3; done) | skip
          · rename_i ow own el tg it cond _
            simp only [isE] at h2
            split at h2
            case h_2 => cases h2
            rename_i x' t' i' ifs' sc' p' e'
            simp only [Bool.and_eq_true] at h2
            obtain rfl := unLC_eq e'
            simp only [swLine, Bool.and_eq_true, Bool.not_eq_true', decide_eq_true_eq] at h3'
            obtain ⟨k1, k2, k3, k4⟩ := h3'
            simp only [isTg, unName] at h1
            obtain ⟨hy, hl, hf⟩ := cx.locv h1
            have sw := sw_true (elt := x') (gs := [⟨t', i', ifs', 0⟩]) (l := p.line) (env := X.env) (by rw [cx.sc]; exact k1) (by rw [cx.sc]; exact k2) k3 k4
            obtain ⟨q1, q2, q3, q4, q5, q6, q7⟩ := h2
            refine PS.imp (ps_setLc cx.calm cx.nd hy (by rw [cx.sc]; exact k2) sw (sI it cx g q2) (own := ownP c own) (blkOk_by (by rw [cx.N, cx.sc]; exact q3)) (fun s H A cl fp => pg_T cx.inner q4) (fun s H A cl fp => sC cond cx.inner g q7) (fun s H A cl fp => (sE el cx.inner g q6).v) (fold_of q1)) fun D σ H q => ?_
            rw [own_map]
            refine asg_lcstep (ow := ow) (fun j hj => ?_) ?_
            · have := List.all_eq_true.mp q5 j hj
              simpa using this
            · simp only [ev, fin_false] at q
              exact q
          · rename_i ow own el tg it own2 tg2 it2 _
            simp only [isE] at h2
            split at h2
            case h_2 => cases h2
            rename_i x' t' i' t2' i2' sc' p' e'
            simp only [Bool.and_eq_true] at h2
            obtain rfl := unLC_eq e'
            simp only [swLine, Bool.and_eq_true, Bool.not_eq_true', decide_eq_true_eq] at h3'
            obtain ⟨k1, k2, k3, k4⟩ := h3'
            simp only [isTg, unName] at h1
            obtain ⟨hy, hl, hf⟩ := cx.locv h1
            have sw := sw_true (elt := x') (gs := [⟨t', i', [], 0⟩, ⟨t2', i2', [], 0⟩]) (l := p.line) (env := X.env) (by rw [cx.sc]; exact k1) (by rw [cx.sc]; exact k2) k3 k4
            obtain ⟨q1, q2, q3, q4, q5, q6, q7, q8, q9, q10, q11⟩ := h2
            have mem : ∀ {is js : List Nat}, (is.all fun j => js.contains j) = true → ∀ j ∈ is, j ∈ js := fun h j hj => by
              have := List.all_eq_true.mp h j hj
              simpa using this
            refine PS.imp (ps_setLc2 (vs1 := own2) cx.calm cx.nd hy (by rw [cx.sc]; exact k2) sw (sI it cx g q3) (own := ownP c own) (blkOk_by (by rw [cx.N, cx.sc]; exact q4)) (by rw [own_map]; exact mem q10) (fun s H A cl fp => pg_T cx.inner q5) (fun s H A cl fp => pts_nil) (fun s H A cl fp => sI it2 cx.inner g q7) (fun s H A cl fp => pg_T cx.inner q8) (fun s H A cl fp => pts_nil) (fun s H A cl fp => (sE el cx.inner g q11).v) (fold_of q1) (fun env => fold_of q2)) fun D σ H q => ?_
            rw [own_map]
            refine tE_lc2 (ow := ow) (mem q6) (mem q9) ?_
            simp only [ev, fin_false] at q
            obtain ⟨G, ρ, F, σ', S, s, r, p⟩ := q
            refine tX.mkS s r p fun ρ2 F2 d S2 v H2 e2 s2 r2 ra p2 => ?_
            simp only [asg] at p2
            split at p2
            · exact p2 ρ2 F2 _ H2 .refl s2 (r2.set i ra)
            · exact p2.elim
          · rename_i ow own ke el tg it cond _
            simp only [isE] at h2
            split at h2
            case h_2 => cases h2
            rename_i x' w' t' i' ifs' sc' p' e'
            simp only [Bool.and_eq_true] at h2
            obtain rfl := unDC_eq e'
            simp only [swLine, Bool.and_eq_true, Bool.not_eq_true', decide_eq_true_eq] at h3'
            obtain ⟨k1, k2, k3, k4⟩ := h3'
            simp only [isTg, unName] at h1
            obtain ⟨hy, hl, hf⟩ := cx.locv h1
            have sw := sw_trueD (kx := x') (vx := w') (gs := [⟨t', i', ifs', 0⟩]) (l := p.line) (env := X.env) (by rw [cx.sc]; exact k1) (by rw [cx.sc]; exact k2) k3 k4
            obtain ⟨q1, q2, q3, q4, q5, q6, q7, q8⟩ := h2
            refine PS.imp (ps_setDc cx.calm cx.nd hy (by rw [cx.sc]; exact k2) sw (sI it cx g q2) (own := ownP c own) (blkOk_by (by rw [cx.N, cx.sc]; exact q3)) (fun s H A cl fp => pg_T cx.inner q4) (fun s H A cl fp => sC cond cx.inner g q8) (fun s H A cl fp => (sE ke cx.inner g q6).v) (fun s H A cl fp => (sE el cx.inner g q7).v) (fold_of q1)) fun D σ H q => ?_
            rw [own_map]
            refine tE_dc (ow := ow) (fun j hj => ?_) ?_
            · have := List.all_eq_true.mp q5 j hj
              simpa using this
            simp only [ev, fin_false] at q
            obtain ⟨G, ρ, F, σ', S, s, r, p⟩ := q
            refine tX.mkS s r p fun ρ2 F2 d S2 v H2 e2 s2 r2 ra p2 => ?_
            simp only [asg] at p2
            split at p2
            · exact p2 ρ2 F2 _ H2 .refl s2 (r2.set i ra)
            · exact p2.elim
    | tp ts =>
      cases hn : unName t with
      | some yp => rw [hn] at h3; cases h3
      | none =>
        rw [hn] at h3
        simp only [Bool.or_eq_true, Bool.and_eq_true] at h3
        rcases h3 with h3 | h3
        rotate_left
        · obtain ⟨i, j, a, b, x, px, y, py, va, vb, k1, p1, k2, p2, etg, rfl, rfl, rfl, hij', h4⟩ := parS_of h3
          cases etg
          simp only [parC, Bool.and_eq_true, Bool.not_eq_true', decide_eq_true_eq] at h4
          obtain ⟨q1, q2, q3, q4, q5, q6, q7, q8, q9⟩ := h4
          have h2 : isEs c (.cons a (.cons b .nil)) [va, vb] = true := h2
          have h1 : (noStar (.Name x px) && (c.isLoc i x && (noStar (.Name y py) && (c.isLoc j y && true)))) = true := h1
          simp only [Bool.and_eq_true] at h1
          obtain ⟨hx1, hx2, hx3⟩ := cx.locv h1.2.1
          obtain ⟨hy1, hy2, hy3⟩ := cx.locv h1.2.2.2.1
          refine PS.imp (ps_par cx.calm cx.nd hx1 hy1 hij' (by rw [cx.sc]; exact q2) (by rw [cx.sc]; exact q3) (sEs _ cx g h2) (par_sw (by rw [cx.sc]; exact q1) (by rw [cx.sc]; exact q2) (by rw [cx.sc]; exact q3) q4 q5 q6 q7 q8 q9)) fun D σ H q => ?_
          obtain ⟨G, ρ, F, σ', S, s, r, p⟩ := q
          simp only [ev, fin_false, R.bind_bind] at p
          refine tX.mkS s r p fun ρ2 F2 ds S2 vs H2 e2 s2 r2 ra p2 => ?_
          split at p2
          case isFalse => exact p2.elim
          simp only [R.ok_bind, asg] at p2
          cases ha : asgs [.nm i, .nm j] ds σ' with
          | none => rw [ha] at p2; exact p2.elim
          | some σ1 =>
            rw [ha] at p2
            have hl := asgs_len ha
            match ds, vs, ra, hl, ha with
            | [d1, d2], [v1, v2], .cons r1 (.cons r3 .nil), _, ha =>
              simp only [asgs, asg] at ha
              by_cases hl1 : i < σ'.length
              · by_cases hl2 : j < (σ'.set i (some d1)).length
                · simp only [if_pos hl1, if_pos hl2] at ha
                  cases ha
                  exact ⟨v1, v2, rfl, p2 ρ2 F2 _ H2 .refl s2 ((r2.set i r1).set j r3)⟩
                · simp only [if_pos hl1, if_neg hl2] at ha; cases ha
              · simp only [if_neg hl1] at ha; cases ha
        have h1' := h1
        simp only [isTg] at h1'
        split at h1'
        case h_2 => cases h1'
        rename_i es j q e1
        obtain rfl := unTup_eq e1
        exact PS.imp (ps_asg (sE e cx g h2).v (pg_T cx h1) (sole_of h3.2) (swp_tup h3.1) rfl) fun D σ H q => asg_step q
  | .setF o f e, c, X, st, cx, hx, g, h => by
    simp only [isS] at h
    split at h
    case h_2 => cases h
    rename_i t v p eq
    split at h
    case h_2 => cases h
    rename_i x y p' eq'
    obtain rfl := unAsg_eq eq
    obtain rfl := unAttr_eq eq'
    simp only [Bool.and_eq_true] at h
    obtain ⟨h1, h2, h3, h4⟩ := h
    obtain rfl := beq_iff_eq.mp h1
    have G0 := g _ _ (Ctx.hasF_at h2)
    simp only [evS]
    refine PS.imp (ps_fld (sE o cx g h3).v (sE e cx g h4).v swap_fld) fun D σ H q => ?_
    obtain ⟨G, ρ, F, σ', S, s, r, p⟩ := q
    refine tX.mkS s r p fun ρ2 F2 w S2 v2 H2 e2 s2 r2 rw_ p2 => tX.mkS s2 r2 p2 fun ρ3 F3 d S3 v3 H3 e3 s3 r3 rd p3 => ?_
    cases hz : setFV d y w S3 with
    | none => rw [hz] at p3; exact p3.elim
    | some S4 =>
      rw [hz] at p3
      obtain ⟨a, A, dx, us, cl, rfl, h5, h6, h7, s4⟩ := setF_ok s3 rd (rw_.mono e3) hz
      obtain ⟨c1, c2⟩ := G0 cl A h6
      exact ⟨a, A, dx, us, rfl, h5, by rw [cx.K]; exact c1, by rw [cx.K]; exact c2, by omega, p3 ρ3 F3 _ _ .refl s4 r3⟩
  | .setI o i e, c, X, st, cx, hx, g, h => by
    simp only [isS] at h
    split at h
    case h_2 => cases h
    rename_i t v p eq
    split at h
    case h_2 => cases h
    rename_i x y p' eq'
    obtain rfl := unAsg_eq eq
    obtain rfl := unSub_eq eq'
    simp only [Bool.and_eq_true] at h
    simp only [evS]
    refine PS.imp (ps_setI (setI_ok (W := W) (by have := cx.un; omega)) (sE o cx g h.1).v (sE i cx g h.2.1).v (sE e cx g h.2.2).v) fun D σ H q => ?_
    obtain ⟨G, ρ, F, σ', S, s, r, p⟩ := q
    refine tX.mkS s r p fun ρ2 F2 w S2 v2 H2 e2 s2 r2 rw_ p2 => tX.mkS s2 r2 p2 fun ρ3 F3 d S3 v3 H3 e3 s3 r3 rd p3 => tX.mkS s3 r3 p3 fun ρ4 F4 y4 S4 v4 H4 e4 s4 r4 ry p4 => ?_
    cases hz : setIV d y4 w S4 with
    | none => rw [hz] at p4; exact p4.elim
    | some S5 =>
      rw [hz] at p4
      exact ⟨G, ρ4, F4, S4, d, y4, w, S5, s4, rd.mono e4, ry, rw_.mono (e3.trans e4), hz, fun H' s5 => p4 ρ4 F4 _ H' .refl s5 r4⟩
  | .augF o f op e, c, X, st, cx, hx, g, h => by
    simp only [isS] at h
    split at h
    case h_2 => cases h
    rename_i x y q' v p eq
    obtain rfl := unAugF_eq eq
    simp only [Bool.and_eq_true, decide_eq_true_eq] at h
    obtain ⟨rfl, h1, h2, h3, h4⟩ := h
    obtain rfl := beq_iff_eq.mp h1
    have G0 := g _ _ (Ctx.hasF_at h2)
    simp only [evS]
    refine PS.imp (ps_fldaug (sE o cx g h3).v (sE e cx g h4).v in_add) fun D σ H q => ?_
    obtain ⟨G, ρ, F, σ', S, s, r, p⟩ := q
    refine tX.mkS s r p fun ρ2 F2 d S2 v2 H2 e2 s2 r2 rd p2 => ?_
    cases hi : insOf S2 d with
    | none => rw [hi] at p2; exact p2.elim
    | some w =>
      obtain ⟨cl, fs⟩ := w
      rw [hi] at p2
      obtain ⟨a, A, dx, us, rfl, h5, h6, h7⟩ := insOf_ok s2 rd hi
      obtain ⟨c1, c2⟩ := G0 cl A h6
      simp only at p2
      split at p2
      case h_2 => exact p2.elim
      rename_i i hl
      rcases h7.lookup y with ⟨g1, g2⟩ | ⟨d', v', g1, g2, g3⟩
      · have hl : fs.lookup y = some (.int i) := hl
        rw [hl] at g1; cases g1
      · have hl : fs.lookup y = some (.int i) := hl
        rw [hl] at g1; cases g1
        cases g3
        refine ⟨a, A, dx, us, _, rfl, h5, by rw [cx.K]; exact c1, by rw [cx.K]; exact c2, g2, ?_⟩
        refine tX.mkS s2 r2 p2 fun ρ3 F3 z S3 v3 H3 e3 s3 r3 rz p3 => ?_
        cases z <;> first | exact p3.elim | skip
        cases rz
        simp only at p3
        split at p3
        case isFalse => exact p3.elim
        rename_i hc
        cases hz : setFV d y (.int (i + _)) S3 with
        | none => rw [hz] at p3; exact p3.elim
        | some S4 =>
          rw [hz] at p3
          obtain ⟨a', A', dx', us', cl', ea, k5, k6, k7, s4⟩ := setF_ok s3 (rd.mono e3) (.int _) hz
          cases ea
          have hA : A' = A := by
            cases hj : insOf S3 d with
            | none => rw [hj] at hc; cases hc
            | some w =>
              obtain ⟨c2, fs2⟩ := w
              rw [hj] at hc
              cases hc
              obtain ⟨a2, A2, dx2, us2, ea2, m1, m2, _⟩ := insOf_ok s3 (rd.mono e3) hj
              cases ea2
              rw [m1] at k5; cases k5
              rw [h6] at m2; cases m2
              rfl
          subst hA
          exact ⟨_, _, rfl, rfl, dx', us', k5, by omega, p3 ρ3 F3 _ _ .refl s4 r3⟩
  | .del _ _, c, X, st, cx, hx, g, h => by simp [isS] at h
  | .aug i op e, c, X, st, cx, hx, g, h => by
    simp only [isS] at h
    split at h
    case h_2 => cases h
    rename_i x q o v p eq
    obtain rfl := unAug_eq eq
    simp only [Bool.and_eq_true, decide_eq_true_eq] at h
    obtain ⟨rfl, rfl, h1, h2⟩ := h
    obtain ⟨hy, hl, hf⟩ := cx.locv h1
    simp only [evS]
    refine PS.imp (ps_aug cx.nd hy hl (sE e cx g h2).v ip_add hf) fun D σ H q => ?_
    obtain ⟨G, ρ, F, σ', S, s, r, p⟩ := q
    simp only at p
    split at p
    case h_2 => exact p.elim
    rename_i a ea
    obtain ⟨w, e1, rw_⟩ := r.2 _ _ ea
    cases rw_
    refine ⟨_, e1, ?_⟩
    refine tX.mkS s r p fun ρ2 F2 d S2 v H2 e2 s2 r2 ra p2 => ?_
    cases d <;> first | exact p2.elim | skip
    cases ra
    exact ⟨_, _, rfl, rfl, p2 ρ2 F2 _ H2 .refl s2 (r2.set i (.int _))⟩
  | .expr e, c, X, st, cx, hx, g, h => by
    simp only [isS] at h
    split at h
    case h_2 => cases h
    rename_i x p eq
    obtain rfl := unExpr_eq eq
    simp only [Bool.and_eq_true] at h
    simp only [evS]
    refine PS.imp (ps_expr (sE e cx g h.2).v (swap_of h.1)) fun D σ H q => ?_
    obtain ⟨G, ρ, F, σ', S, s, r, p⟩ := q
    exact tX.mkS s r p fun ρ2 F2 d S2 v H2 e2 s2 r2 ra p2 => p2 ρ2 F2 _ H2 .refl s2 r2
  | .ret e, c, X, st, cx, hx, g, h => by
    simp only [isS] at h
    split at h
    case h_2 => cases h
    rename_i x p eq
    obtain rfl := unRet_eq eq
    simp only [evS]
    exact PS.imp (ps_ret (sE e cx g h).v) fun D σ H q => tS_ret q
  | .retN, c, X, st, cx, hx, g, h => by
    simp only [isS] at h
    split at h
    case h_2 => cases h
    rename_i p eq
    obtain rfl := unRet_eq eq
    simp only [evS]
    refine PS.imp ps_retN fun D σ H q => ?_
    obtain ⟨G, ρ, F, σ', S, s, r, p⟩ := q
    exact p ρ F _ H .refl s .non
  | .pass, c, X, st, cx, hx, g, h => by
    simp only [isS] at h
    cases st <;> first | (cases h; done) | skip
    simp only [evS]
    refine PS.imp ps_pass fun D σ H q => ?_
    obtain ⟨G, ρ, F, σ', S, s, r, p⟩ := q
    exact p ρ F _ H .refl s r
  | .cont, c, X, st, cx, hx, g, h => by
    simp only [isS] at h
    cases st <;> first | (cases h; done) | skip
    simp only [evS]
    refine PS.imp ps_continue fun D σ H q => ?_
    obtain ⟨G, ρ, F, σ', S, s, r, p⟩ := q
    exact p ρ F _ H .refl s r
  | .raise, c, X, st, cx, hx, g, h => by
    simp only [evS]
    refine PS.imp ps_never fun D σ H q => ?_
    obtain ⟨G, ρ, F, σ', S, s, r, p⟩ := q
    exact p.elim
  | .if_ t a b, c, X, st, cx, hx, g, h => by
    simp only [isS] at h
    split at h
    case h_2 => cases h
    rename_i x p q pos eq
    obtain rfl := unIfS_eq eq
    simp only [Bool.and_eq_true] at h
    simp only [evS]
    refine PS.imp (ps_if (sE t cx g h.1).t (sB a cx hx g h.2.1) (sB b cx hx g h.2.2)) fun D σ H q => ?_
    obtain ⟨G, ρ, F, σ', S, s, r, p⟩ := q
    refine tX.mkS (RA := RB) s r p fun ρ2 F2 d S2 b H2 e2 s2 r2 ra p2 => ?_
    cases (show d = .bl b from ra)
    cases b with
    | true => rw [if_pos rfl]; simp only [if_pos] at p2; exact ⟨G, ρ2, F2, σ', S2, s2, r2, p2⟩
    | false => rw [if_neg Bool.false_ne_true]; simp only [if_neg Bool.false_ne_true] at p2; exact ⟨G, ρ2, F2, σ', S2, s2, r2, p2⟩
  | .for_ tg it b, c, X, st, cx, hx, g, h => by
    simp only [isS] at h
    split at h
    case h_2 => cases h
    rename_i t i p pos eq
    obtain rfl := unFor_eq eq
    simp only [Bool.and_eq_true] at h
    obtain ⟨h1, h2, h3, h4⟩ := h
    simp only [evS]
    exact PS.imp (ps_for (by rw [hx]; exact .never) cx.calm (sI it cx g h3) (pg_T cx h2) (sB b cx hx g h4) (fold_of h1)) fun D σ H q => tS_for q
  | .while_ t b, c, X, st, cx, hx, g, h => by
    simp only [isS] at h
    split at h
    case h_2 => cases h
    rename_i x p pos eq
    obtain rfl := unWhile_eq eq
    simp only [Bool.and_eq_true] at h
    simp only [evS]
    exact PS.imp (ps_while (by rw [hx]; exact .never) (sE t cx g h.1).t (sB b cx hx g h.2)) fun D σ H q => tS_while q
  | .frzv s i, c, X, st, cx, hx, g, h => by
    simp only [isS] at h
    simp only [evS]
    refine PS.nmv (sS s cx hx g h) fun {G ρ F σ' σ S H D} st r p => ?_
    cases hs : evS C s σ' S with
    | bad => simp only [hs, R.bad_bind] at p; exact p.elim
    | ok fl S1 =>
      simp only [hs, R.ok_bind] at p
      cases fl with
      | ct σ1 => exact p
      | ret d => exact p
      | nx σ1 =>
        simp only at p
        split at p
        case h_2 => exact p.elim
        rename_i x ex
        cases hz : frzD FRZ S1 x with
        | none => simp only [hz] at p; exact p.elim
        | some q =>
          obtain ⟨d, S2⟩ := q
          simp only [hz] at p
          intro ρ' F' σ2 H' e' s' r'
          obtain ⟨v, hv, rv⟩ := r'.2 i x ex
          obtain ⟨F'', e'', s'', r''⟩ := frzD_ok _ hz s' rv
          refine p ρ' F'' σ2 H' (e'.trans e'') s'' ?_
          have := (r'.mono e'').set i r''
          have hset : σ2.set i (some v) = σ2 := by
            apply List.ext_getElem?
            intro j
            by_cases hj : i = j
            · subst hj
              rw [hv, List.getElem?_set_self]
              by_cases hl : i < σ2.length
              · exact hl
              · rw [List.getElem?_eq_none (by simpa using hl)] at hv; cases hv
            · rw [List.getElem?_set_ne hj]
          rw [hset] at this
          exact this
theorem sB {W : Fx} {C : CallT} {k : Nat} : ∀ (b : B) {c : Ctx} {X : Cx} {sts : List Stmt}, CxOk W c k X → X.xe = (fun _ _ => False) → GOk W C k c.g → isB c b sts = true → PSs X sts (tS W fun σ S => evB C b σ S)
  | .nil, c, X, sts, cx, hx, g, h => by
    cases sts with
    | cons _ _ => exact absurd (show false = true from h) Bool.false_ne_true
    | nil =>
      simp only [evB]
      refine PSs.imp pss_nil fun D σ H q => ?_
      obtain ⟨G, ρ, F, σ', S, s, r, p⟩ := q
      exact p ρ F _ H .refl s r
  | .cons s b, c, X, sts, cx, hx, g, h => by
    cases sts with
    | nil => exact absurd (show false = true from h) Bool.false_ne_true
    | cons st sts =>
      have h : (isS c s st && isB c b sts) = true := h
      rw [Bool.and_eq_true] at h
      simp only [evB]
      refine PSs.imp (pss_cons (sS s cx hx g h.1) (sB b cx hx g h.2)) fun D σ H q => ?_
      obtain ⟨G, ρ, F, σ', S, s, r, p⟩ := q
      refine tS.mk s r p (fun ρ2 F2 σ1 S2 σ2 H2 e2 s2 r2 p2 => ?_) (fun ρ2 F2 σ1 S2 σ2 H2 e2 s2 r2 p2 => ?_) fun ρ2 F2 d S2 v H2 e2 s2 ra p2 => ?_
      · exact ⟨G, ρ2, F2, σ1, S2, s2, r2, p2⟩
      · exact p2 ρ2 F2 σ2 H2 .refl s2 r2
      · exact p2 ρ2 F2 v H2 .refl s2 ra
end

/-! ### defs -/
/-- one def of a law's program -/
structure Dn where
  x : Str
  q : Str
  f : Nat
  fn : Fn
  st : Stmt
  N : List Str
/-- what is known of a def of the module -/
structure DefOk (W : Fx) (d : Dn) (fa : Addr) : Prop where
  ex : ∃ (fd : FuncData) (ps : List Str), L2.Fun W.K d.x d.q d.st fa fd ∧ Binds W.K fd ps [] ∧ FnScope d.N ps (defScope d.st) ∧ ps.length = d.fn.np
theorem start_ok {W : Fx} {ρ : List Addr} {F : Hp} {fn : Fn} {ds : List D} {vs : List V} {N : List Str} (r : RDs W ρ F ds vs) (hl : ds.length = fn.np) (hN : N.length = fn.n) : RS W ρ F (startE fn ds) (L2.start N vs) := by
  have hv := r.length
  refine ⟨by simp [startE, L2.start]; omega, fun i d h => ?_⟩
  unfold startE at h
  unfold L2.start
  by_cases hi : i < ds.length
  · rw [List.getElem?_append_left (by simpa using hi), List.getElem?_map] at h
    rw [List.getElem?_append_left (by simp; omega), List.getElem?_map]
    cases e : ds[i]? with
    | none => rw [e] at h; cases h
    | some d' =>
      rw [e] at h
      cases h
      obtain ⟨v, e1, rv⟩ := r.get e
      exact ⟨v, by rw [e1]; rfl, rv⟩
  · rw [List.getElem?_append_right (by simpa using hi)] at h
    rw [List.getElem?_replicate] at h
    split at h <;> cases h
theorem fn_run {W : Fx} {T : Nat → Option Fn} {n : Nat} {f : Nat} {fn : Fn} {x q : Str} {st : Stmt} {fa : Addr} {N : List Str} {g : List (Str × GI)} {fd : FuncData} {ps : List Str} (hT : T f = some fn)
    (hF : L2.Fun W.K x q st fa fd) (hS : FnScope N ps (defScope st)) (hp : ps.length = fn.np) (hN : N.length = fn.n)
    (hg : GOk W (callN T n) (2 * n) g) (hb : isB { N := N, sc := defScope st, g := g } fn.body (defBody st) = true) : FnOk W.P W.w W.K W.mg W.base CX0 (2 * (n + 1)) fa fd ps (spF W (callN T (n + 1)) f) := by
  have key : ∀ vs H Q E, spF W (callN T (n + 1)) f vs H Q E → ∃ G ρ F S ds, StOk W G ρ F S H ∧ RDs W ρ F ds vs ∧ ds.length = fn.np ∧ Post (RD W) W G ρ F (endF (evB (callN T n) fn.body (startE fn ds) S)) Q := by
    rintro vs H Q E ⟨G, ρ, F, S, ds, s, r, p⟩
    have e : callN T (n + 1) f ds S = runFn (callN T n) fn ds S := by
      show (match T f with | some fn => runFn (callN T n) fn ds S | none => .bad) = _
      rw [hT]
    rw [e] at p
    unfold runFn at p
    split at p
    · rename_i hl
      exact ⟨G, ρ, F, S, ds, s, r, hl, p⟩
    · exact p.elim
  have h2 : 2 * (n + 1) = (2 * n + 1) + 1 := by omega
  rw [h2]
  refine hF.ok hS (fun vs H Q E h => ?_) fun cdv A outer s H vs Q E hr h => ?_
  · obtain ⟨G, ρ, F, S, ds, s, r, hl, p⟩ := key _ _ _ _ h
    rw [← r.length, hl, hp]
  · obtain ⟨G, ρ, F, S, ds, st', r, hl, p⟩ := key _ _ _ _ h
    have cx : CxOk W { N := N, sc := defScope st, g := g } (2 * n) (cxOf CX0 W.P W.w W.K W.mg W.base N q (defScope st) fa cdv A outer s H E).nox := ⟨rfl, hS.nd, rfl, rfl, rfl, rfl, rfl, rfl, rfl, hr, fun _ => rfl⟩
    refine ⟨_, sB fn.body cx rfl hg hb, G, ρ, F, startE fn ds, S, st', start_ok r hl hN, ?_⟩
    show PostS W G ρ F (evB (callN T n) fn.body (startE fn ds) S) _
    cases e : evB (callN T n) fn.body (startE fn ds) S with
    | bad => rw [e] at p; exact p.elim
    | ok fl S2 =>
      rw [e] at p
      cases fl with
      | nx σ1 => exact fun ρ' F' σ2 H' e' s' r' => p ρ' F' .non H' e' s' .non
      | ret d => exact fun ρ' F' v H' e' s' r' => p ρ' F' v H' e' s' r'
      | ct σ1 => exact p.elim
theorem fn_ok {W : Fx} {T : Nat → Option Fn} {n : Nat} {f : Nat} {d : Dn} {fa : Addr} {g : List (Str × GI)} (hT : T f = some d.fn) (hd : DefOk W d fa) (hN : d.N.length = d.fn.n)
    (hg : GOk W (callN T n) (2 * n) g) (hb : isB { N := d.N, sc := defScope d.st, g := g } d.fn.body (defBody d.st) = true) : FOk W (callN T (n + 1)) (2 * (n + 1)) f fa := by
  obtain ⟨fd, ps, hF, hB, hS, hp⟩ := hd.ex
  exact ⟨hF.kp, fd, ps, hB, fn_run hT hF hS hp hN hg hb⟩
theorem fn_zero {W : Fx} {T : Nat → Option Fn} {f : Nat} {d : Dn} {fa : Addr} (hd : DefOk W d fa) : FOk W (callN T 0) 0 f fa := by
  obtain ⟨fd, ps, hF, hB, hS, hp⟩ := hd.ex
  have no : ∀ vs H Q E, ¬ spF W (callN T 0) f vs H Q E := fun vs H Q E ⟨G, ρ, F, S, ds, s, r, p⟩ => p.elim
  exact ⟨hF.kp, fd, ps, hB, ⟨fun vs H Q E h => (no _ _ _ _ h).elim, fun A outer s H args us vs Q E _ _ _ _ h => (no _ _ _ _ h).elim⟩⟩
/-- methods of one name -/
def MthOk (W : Fx) (ds : List Dn) (nm : Str) : List (Nat × Nat) → Prop
  | [] => True
  | p :: r => (∃ d A fa, ds[p.2]? = some d ∧ W.cl p.1 = some A ∧ Cls W.K A ∧ Meth W.K A nm fa ∧ DefOk W d fa) ∧ MthOk W ds nm r
theorem MthOk.at {W : Fx} {ds : List Dn} {nm : Str} : ∀ {l : List (Nat × Nat)}, MthOk W ds nm l → ∀ p ∈ l, ∃ d A fa, ds[p.2]? = some d ∧ W.cl p.1 = some A ∧ Cls W.K A ∧ Meth W.K A nm fa ∧ DefOk W d fa
  | [], _, _, hp => nomatch hp
  | q :: r, h, p, hp => by
    rcases List.mem_cons.mp hp with rfl | hp
    · exact h.1
    · exact MthOk.at h.2 p hp
/-- a field's name is no name of any class -/
def FldOk (K : PySem.W.Frag) (f : Str) : List Addr → Prop
  | [] => True
  | A :: r => (Cls K A ∧ NoAttr K A f) ∧ FldOk K f r
theorem FldOk.at {K : PySem.W.Frag} {f : Str} : ∀ {l : List Addr}, FldOk K f l → ∀ (c : Nat) (A : Addr), l[c]? = some A → Cls K A ∧ NoAttr K A f
  | [], _, c, A, e => by simp at e
  | B :: r, h, 0, A, e => by simp at e; subst e; exact h.1
  | B :: r, h, c + 1, A, e => FldOk.at h.2 c A (by simpa using e)
/-- what a name of the module holds -/
def GIOk (W : Fx) (ds : List Dn) (x : Str) : GI → Prop
  | .fn f => ∃ d fa, ds[f]? = some d ∧ W.mg x = some (.ref fa) ∧ DefOk W d fa
  | .cls c f => ∃ d A fa, ds[f]? = some d ∧ W.cl c = some A ∧ W.mg x = some (.ref A) ∧ Mk W.K A fa ∧ DefOk W d fa
  | .mth nm cf => MthOk W ds nm cf
  | .fldn f => ∀ c A, W.cl c = some A → Cls W.K A ∧ NoAttr W.K A f
  | .prp nm c f => ∃ d A p fa, ds[f]? = some d ∧ W.cl c = some A ∧ Cls W.K A ∧ PropOf W.K A nm p fa ∧ DefOk W d fa
  | .val d => ∃ u v, W.mg x = some u ∧ RelV v u ∧ RD W [] (fun _ => none) d v
  | .blt => W.mg x = none
/-- the module's names as the law's texts see them -/
structure Md_ (W : Fx) (T : Nat → Option Fn) (ds : List Dn) (g : List (Str × GI)) : Prop where
  tab : ∀ (f : Nat) (d : Dn), ds[f]? = some d → T f = some d.fn
  len : ∀ d ∈ ds, d.N.length = d.fn.n
  is : ∀ d ∈ ds, isB { N := d.N, sc := defScope d.st, g := g } d.fn.body (defBody d.st) = true
  gl : ∀ x gi, g.lookup x = some gi → GIOk W ds x gi
theorem md_ok {W : Fx} {T : Nat → Option Fn} {ds : List Dn} {g : List (Str × GI)} (M : Md_ W T ds g) : ∀ n, GOk W (callN T n) (2 * n) g
  | 0 => fun x gi h => by
    have := M.gl x gi h
    cases gi with
    | fn f => obtain ⟨d, fa, _, h1, h2⟩ := this; exact ⟨fa, h1, fn_zero h2⟩
    | cls c f => obtain ⟨d, A, fa, _, h1, h2, h3, h4⟩ := this; exact ⟨A, fa, h1, h2, h3, fn_zero h4⟩
    | mth nm cf => exact fun p hp => let ⟨d, A, fa, _, h1, h2, h3, h4⟩ := MthOk.at this p hp; ⟨A, h1, h2, fa, h3, fn_zero h4⟩
    | fldn f => exact this
    | prp nm c f => obtain ⟨d, A, p, fa, _, h1, h2, h3, h4⟩ := this; exact ⟨A, h1, h2, p, fa, h3, fn_zero h4⟩
    | val d => exact this
    | blt => exact this
  | n + 1 => fun x gi h => by
    have := M.gl x gi h
    have ok : ∀ {f : Nat} {d : Dn} {fa : Addr}, ds[f]? = some d → DefOk W d fa → FOk W (callN T (n + 1)) (2 * (n + 1)) f fa := fun hd ok => fn_ok (M.tab _ _ hd) ok (M.len _ (List.mem_of_getElem? hd)) (md_ok M n) (M.is _ (List.mem_of_getElem? hd))
    cases gi with
    | fn f => obtain ⟨d, fa, h0, h1, h2⟩ := this; exact ⟨fa, h1, ok h0 h2⟩
    | cls c f => obtain ⟨d, A, fa, h0, h1, h2, h3, h4⟩ := this; exact ⟨A, fa, h1, h2, h3, ok h0 h4⟩
    | mth nm cf => exact fun p hp => let ⟨d, A, fa, h0, h1, h2, h3, h4⟩ := MthOk.at this p hp; ⟨A, h1, h2, fa, h3, ok h0 h4⟩
    | fldn f => exact this
    | prp nm c f => obtain ⟨d, A, p, fa, h0, h1, h2, h3, h4⟩ := this; exact ⟨A, h1, h2, p, fa, h3, ok h0 h4⟩
    | val d => exact this
    | blt => exact this

/-! ### the law -/
def GIsOk (W : Fx) (ds : List Dn) : List (Str × GI) → Prop
  | [] => True
  | p :: r => GIOk W ds p.1 p.2 ∧ GIsOk W ds r
/-- all that is to be looked at, by the kernel -/
def looks (ds : List Dn) (g : List (Str × GI)) : Bool :=
  ds.all fun d => decide (d.N.length = d.fn.n) && isB { N := d.N, sc := defScope d.st, g := g } d.fn.body (defBody d.st)
theorem GIsOk.at {W : Fx} {ds : List Dn} : ∀ {g : List (Str × GI)} {x : Str} {gi : GI}, GIsOk W ds g → g.lookup x = some gi → GIOk W ds x gi
  | [], _, _, _, h => by cases h
  | (y, gj) :: r, x, gi, h, e => by
    rw [List.lookup_cons] at e
    split at e
    · rename_i hxy
      cases e
      rw [beq_iff_eq.mp hxy]
      exact h.1
    · exact GIsOk.at h.2 e
theorem tab_by {T : Nat → Option Fn} : ∀ {ds : List Dn} {k : Nat}, (∀ i, i < ds.length → T (k + i) = (ds[i]?).map (·.fn)) → ∀ (f : Nat) (d : Dn), ds[f]? = some d → T (k + f) = some d.fn := by
  intro ds k h f d e
  have hl : f < ds.length := (List.getElem?_eq_some_iff.mp e).1
  rw [h f hl, e]; rfl
theorem md_by {W : Fx} {T : Nat → Option Fn} {ds : List Dn} {g : List (Str × GI)} (hT : ∀ (f : Nat) (d : Dn), ds[f]? = some d → T f = some d.fn) (hg : GIsOk W ds g) (hl : looks ds g = true) : Md_ W T ds g := by
  unfold looks at hl
  have h1 := List.all_eq_true.mp hl
  refine ⟨hT, fun d hd => ?_, fun d hd => ?_, fun x gi h => hg.at h⟩
  · have := h1 d hd
    rw [Bool.and_eq_true] at this
    exact of_decide_eq_true this.1
  · have := h1 d hd
    rw [Bool.and_eq_true] at this
    exact this.2
/-- what law(script) promises -/
def spLaw (K : PySem.W.Frag) : Sp := fun vs H Q _ => ∃ (a : Addr) (ns : List Int), vs = [.ref a] ∧ SqL K H a (ns.map V.int) ∧ ns.length ≤ 63 ∧ (∀ b, H b = none ∨ ∃ o xs, H b = some (.frz o (.lst xs))) ∧ ∀ H', Q (.bl true) H'
theorem law_fn {W : Fx} {T : Nat → Option Fn} {ds : List Dn} {g : List (Str × GI)} {n : Nat} {f : Nat} {fn : Fn} {x q : Str} {st : Stmt} {fa : Addr} {N : List Str} {fd : FuncData} (M : Md_ W T ds g) (hT : T f = some fn)
    (hF : L2.Fun W.K x q st fa fd) (hS : FnScope N ["script"] (defScope st)) (hp : fn.np = 1) (hN : N.length = fn.n) (hb : isB { N := N, sc := defScope st, g := g } fn.body (defBody st) = true)
    (law : ∀ ns : List Int, ns.length ≤ 63 → ∃ S, callN T (n + 1) f [.scr ns] [] = .ok (.bl true) S) : FnOk W.P W.w W.K W.mg W.base CX0 (2 * (n + 1)) fa fd ["script"] (spLaw W.K) := by
  refine (fn_run hT hF hS hp.symm hN (md_ok M n) hb).imp fun vs H Q E h => ?_
  obtain ⟨a, ns, rfl, hs, h63, hO, q⟩ := h
  refine ⟨fun _ => none, [], H, [], [.scr ns], ⟨rfl, fun _ _ h => h, fun l o h => ?_, fun _ _ h => (by cases h), fun l l' o o' a h => ?_⟩, .cons (.scr hs) .nil, ?_⟩
  · simp [objAt] at h
  · simp [objAt] at h
  · obtain ⟨S, e⟩ := law ns h63
    rw [e]
    intro ρ' F' v H' _ _ r
    cases r
    exact q H'
theorem law_walk {l : PySem.W.OpenLaw} {q : Program} {loose : List Str} {XP : (Str → Option Value) → Heap → Prop} {YP : World → Heap → Prop} {d : DefRec} {K : Params → PySem.W.Frag} {k : Nat} (hn : l.most = some 63) (hdf : d.params.defaults = []) (hr : Room k callerA)
    (hY : ∀ (w : World) (h : Heap), YP w h → (K w.params).In h)
    (F : ∀ (w : World) (mg : Str → Option Value) (fa : Addr) (h : Heap), (K w.params).In h → h.Ns mainGlobals mg → mg d.name = some (.ref fa) →
      ∃ fd : FuncData, (∀ (s : Shared) (u : Value), BindsTo s fd ⟨[u], []⟩ [("script", u)]) ∧ ∀ base : Heap, (K w.params).In base → base.Ns mainGlobals mg → FnOk l.prog w (K w.params) mg base CX0 k fa fd ["script"] (spLaw (K w.params))) :
    PySem.W.WalkO q loose XP YP l.row.toRowW d [] (fun f vs => PySem.call f vs) :=
  L2.walk_of (n := 63) (k := k) (x := "script") (CX := fun _ => CX0) (sp := fun w => spLaw (K w.params)) hn (by decide) hdf hr hY F (fun _ _ a ns hl hO hS => ⟨a, ns, rfl, hS, hl, hO, fun _ => rfl⟩) fun _ _ _ _ _ z => z

/-! ### a written dict -/
inductive KE : List DictEntry → List (Str × V) → Prop
  | nil : KE [] []
  | cons {e : DictEntry} {r : List DictEntry} {x : Str} {t : Tok} {v : V} {us : List (Str × V)} : e.key = .str x t → RelV v e.val → KE r us → KE (e :: r) ((x, v) :: us)
theorem KE.find (z : Str) : ∀ {es : List DictEntry} {us : List (Str × V)}, KE es us → (us.lookup z = none ∧ es.find? (·.key.isStr z) = none) ∨ ∃ v e, us.lookup z = some v ∧ es.find? (·.key.isStr z) = some e ∧ RelV v e.val
  | _, _, .nil => .inl ⟨rfl, rfl⟩
  | _, _, .cons (e := e) (x := x) (v := v) hk hv h => by
    have e1 : e.key.isStr z = (x == z) := by rw [hk]; rfl
    have e2 : (z == x) = (x == z) := by
      by_cases q : x = z
      · subst q; rfl
      · rw [beq_eq_false_iff_ne.mpr q, beq_eq_false_iff_ne.mpr (Ne.symm q)]
    rw [List.lookup_cons, List.find?_cons, e1, e2]
    cases (x == z) with
    | true => exact .inr ⟨v, e, rfl, rfl, hv⟩
    | false => exact KE.find z h
theorem KE.noRef : ∀ {es : List DictEntry} {us : List (Str × V)}, KE es us → es.any (·.refKey) = false
  | _, _, .nil => rfl
  | _, _, .cons (e := e) hk _ h => by
    have : e.refKey = false := by unfold DictEntry.refKey; rw [hk]
    rw [List.any_cons, this, KE.noRef h]
    rfl
theorem kw_by {W : Fx} {a : Addr} {es : Array DictEntry} {n : Nat} {us : List (Str × V)} (hl : W.K.lookup a = some ⟨.type "dict", none, .dict es n, #[]⟩) (lit : PySem.W.KeysLit W.w.params es.toList) (low : (a == sysModules) = false) (ke : KE es.toList us) : KW W a us := by
  refine ⟨⟨es, n, hl, lit, low⟩, fun z => ?_⟩
  have hn : PySem.W.nsIn W.K a z = (match es.toList.find? (·.key.isStr z) with
      | some e => some (some e.val)
      | none => if es.toList.any (·.refKey) then none else some none) := by
    unfold PySem.W.nsIn
    rw [hl]
    rfl
  rw [hn, ke.noRef]
  rcases ke.find z with ⟨h1, h2⟩ | ⟨v, e, h1, h2, h3⟩
  · rw [h1, h2]; rfl
  · rw [h1, h2]; exact ⟨_, rfl, h3⟩
/-- a written tuple -/
theorem tup_by {W : Fx} {ρ : List Addr} {F : Hp} {a : Addr} {its : Array Value} {n : Nat} {ds : List D} {vs : List V} (hl : W.K.lookup a = some ⟨.type "tuple", none, .seq its n, #[]⟩) (hz : its.size ≤ 1000) (hv : Vals vs its.toList) (r : RDs W ρ F ds vs) : RD W ρ F (.tup ds) (.ref a) :=
  .tup (.inr ⟨_, its, n, hl, rfl, rfl, by rw [sizeLine_eq]; omega, hv⟩) r
end Z

/-! Z14: for the plain laws. -/
namespace Z
open PySem

theorem forR_inv {f : D → Env → Store → R Fl} (P : Nat → Env → Store → Prop) : ∀ {xs : List D} {σ : Env} {S : Store} {n : Nat}, P n σ S →
    (∀ i x σ S, xs[i]? = some x → P (n + i) σ S → ∃ σ' S', (f x σ S = .ok (.nx σ') S' ∨ f x σ S = .ok (.ct σ') S') ∧ P (n + i + 1) σ' S') → ∃ σ' S', forR f xs σ S = .ok (.nx σ') S' ∧ P (n + xs.length) σ' S'
  | [], σ, S, n, h0, _ => ⟨σ, S, rfl, h0⟩
  | x :: xs, σ, S, n, h0, step => by
    obtain ⟨σ1, S1, e, p1⟩ := step 0 x σ S rfl h0
    obtain ⟨σ', S', e', p'⟩ := forR_inv (n := n + 1) P (xs := xs) p1 fun i y σ S hy hp => by
      obtain ⟨σ2, S2, e2, p2⟩ := step (i + 1) y σ S (by simpa using hy) (by rw [show n + (i + 1) = n + 1 + i by omega]; exact hp)
      exact ⟨σ2, S2, e2, by rw [show n + 1 + i + 1 = n + (i + 1) + 1 by omega]; exact p2⟩
    refine ⟨σ', S', ?_, by rw [List.length_cons, show n + (xs.length + 1) = n + 1 + xs.length by omega]; exact p'⟩
    simp only [forR]
    rcases e with e | e <;> (rw [e]; exact e')
theorem mapR_pure {β : Type} {f : D → Store → R (List β)} {g : D → List β} {S : Store} : ∀ {xs : List D}, (∀ x ∈ xs, f x S = .ok (g x) S) → mapR f xs S = .ok (xs.flatMap g) S
  | [], _ => rfl
  | x :: xs, h => by
    simp only [mapR]
    rw [h x List.mem_cons_self]
    simp only [R.ok_bind]
    rw [mapR_pure fun y hy => h y (List.mem_cons_of_mem _ hy)]
    rfl
theorem mapR_some {f : D → Store → R (List D)} {S : Store} (P : D → Prop) : ∀ {xs : List D}, (∀ x ∈ xs, ∃ y, f x S = .ok [y] S ∧ P y) → ∃ ys, mapR f xs S = .ok ys S ∧ ys.length = xs.length ∧ ∀ y ∈ ys, P y
  | [], _ => ⟨[], rfl, rfl, fun _ h => by cases h⟩
  | x :: xs, h => by
    obtain ⟨y, e, p⟩ := h x List.mem_cons_self
    obtain ⟨ys, e2, l2, p2⟩ := mapR_some P fun z hz => h z (List.mem_cons_of_mem _ hz)
    refine ⟨y :: ys, ?_, by simp [l2], fun z hz => ?_⟩
    · simp only [mapR]
      rw [e]
      simp only [R.ok_bind]
      rw [e2]
      rfl
    · rcases List.mem_cons.mp hz with rfl | hz
      · exact p
      · exact p2 z hz
@[simp] theorem objAt_last (S : Store) (o : Option Obj) : objAt (S ++ [o]) S.length = o := by
  unfold objAt
  rw [List.getElem?_append_right (Nat.le_refl _)]
  simp
@[simp] theorem set_last (S : Store) (o o' : Option Obj) : (S ++ [o]).set S.length o' = S ++ [o'] := by
  rw [List.set_append_right _ _ (Nat.le_refl _)]
  simp
@[simp] theorem take_last (S : Store) (o : Option Obj) : (S ++ [o]).take S.length = S := by simp
theorem okOld_append : ∀ (S T : Store), okOld S (S ++ T) = true
  | [], _ => rfl
  | a :: S, T => by simp [okOld, okOld_append S T]
@[simp] theorem okOld_refl (S : Store) : okOld S S = true := by
  have := okOld_append S []
  simpa using this
theorem nrL_map {α : Type} {f : α → D} (h : ∀ a, D.nr (f a) = true) : ∀ xs : List α, D.nrL (xs.map f) = true
  | [] => rfl
  | x :: xs => by simp [D.nrL, h x, nrL_map h xs]
theorem frzL_map {α : Type} {f : α → D} {n : Nat} (h : ∀ a S, frzD n S (f a) = some (f a, S)) : ∀ (xs : List α) (S : Store), frzL n S (xs.map f) = some (xs.map f, S)
  | [], S => by simp [frzL]
  | x :: xs, S => by simp [frzL, h x S, frzL_map h xs S]
theorem atI_ok {α : Type} {xs : List α} {i : Int} (h0 : 0 ≤ i) (h1 : i < xs.length) : ∃ x, L2.atI xs i = some x ∧ x ∈ xs := by
  have e : i = ((i.toNat : Nat) : Int) := by omega
  have hl : i.toNat < xs.length := by omega
  rw [e]
  exact ⟨xs[i.toNat], L2.atI_nat (List.getElem?_eq_getElem hl), List.getElem_mem hl⟩
theorem cut_take {α : Type} (xs : List α) (n : Nat) : cut xs none (some (n : Int)) = xs.take (min n xs.length) := by
  unfold cut
  rw [HT.sIx_none, HT.sIx_nat]
  simp

theorem mapR_map {α β : Type} {f : D → Store → R (List β)} {k : α → D} {g : α → β} {S : Store} : ∀ {l : List α}, (∀ a ∈ l, f (k a) S = .ok [g a] S) → mapR f (l.map k) S = .ok (l.map g) S
  | [], _ => rfl
  | x :: xs, h => by
    simp only [mapR, List.map_cons]
    rw [h x List.mem_cons_self]
    simp only [R.ok_bind]
    rw [mapR_map fun y hy => h y (List.mem_cons_of_mem _ hy)]
    rfl
@[simp] theorem truV_bl (b : Bool) (S : Store) : truV (.bl b) S = some b := rfl
@[simp] theorem truV_int (b : Int) (S : Store) : truV (.int b) S = some (b != 0) := rfl
@[simp] theorem fin_true_bl (b : Bool) (S : Store) : fin true (.ok (.bl b) S) = .ok (.bl b) S := rfl
@[simp] theorem fin_true_bad : fin true .bad = .bad := rfl
@[simp] theorem endF_ret (d : D) (S : Store) : endF (.ok (.ret d) S) = .ok d S := rfl
@[simp] theorem endF_nx (σ : Env) (S : Store) : endF (.ok (.nx σ) S) = .ok .non S := rfl
@[simp] theorem inV_str1 (c : Nat) (z : Str) (S : Store) : inV (.str ⟨#[c]⟩) (.str z) S = some (decide (c ∈ z.cps.toList)) := by simp [inV]
@[simp] theorem okOld_last (S : Store) (o : Option Obj) : okOld S (S ++ [o]) = true := okOld_append S _
theorem idxV_str {z : Str} {i : Int} {c : Nat} {S : Store} (hz : z.length ≤ sizeLine) (h : L2.atI z.cps.toList i = some c) : idxV (.str z) (.int i) S = some (.str ⟨#[c]⟩) := by simp [idxV, hz, h]
theorem idxV_lst {xs : List D} {i : Int} {d : D} {S : Store} (h : L2.atI xs i = some d) : idxV (.lst xs) (.int i) S = some d := by simp [idxV, seqOf, lstOf, h]
theorem idxV_scr {ns : List Int} {i : Int} {d : D} {S : Store} (h : L2.atI (ns.map D.int) i = some d) : idxV (.scr ns) (.int i) S = some d := by simp [idxV, seqOf, h]
theorem atI_zero {α : Type} (x : α) (xs : List α) : L2.atI (x :: xs) 0 = some x := by
  have := L2.atI_nat (xs := x :: xs) (j := 0) (v := x) rfl
  exact this
theorem allBl_map {α : Type} (l : List α) (p : α → Bool) : allBl (l.map fun c => D.bl (p c)) = some (l.map p) := by
  induction l with
  | nil => rfl
  | cons c l ih => simp [allBl, ih]

theorem biV_len_str {z : Str} {ow : Bool} {S : Store} (h : z.length ≤ sizeLine) : biV .len ow [.str z] S = .ok (.int z.length) S := by simp [biV, h]
theorem biV_len_seq {d : D} {xs : List D} {ow : Bool} {S : Store} (hd : ∀ z, d ≠ .str z) (h : seqOf S d = some xs) : biV .len ow [d] S = .ok (.int xs.length) S := by
  cases d <;> first | exact absurd rfl (hd _) | simp [biV, h]
theorem biV_all {xs : List D} {bs : List Bool} {ow : Bool} {S : Store} (h : allBl xs = some bs) : biV .all ow [.lst xs] S = .ok (.bl (bs.all id)) S := by simp [biV, lstOf, h]
theorem biV_int {i : Int} {ow : Bool} {S : Store} : biV .int ow [.int i] S = .ok (.int i) S := rfl
theorem mkL_cold {xs : List D} {S : Store} (h : xs.length ≤ sizeLine) : mkL false xs S = .ok (.lst xs) S := by simp [mkL, h]

theorem for_ok {C : CallT} {tg : Tg} {it : Iy} {b : B} {σ : Env} {S S1 : Store} {ds : List D} (P : Nat → Env → Store → Prop) (hI : evI C σ it S = .ok ds S1) (h0 : P 0 σ S1)
    (step : ∀ i x σ S, ds[i]? = some x → P i σ S → ∃ σ2 σ' S', asg tg x σ = some σ2 ∧ (evB C b σ2 S = .ok (.nx σ') S' ∨ evB C b σ2 S = .ok (.ct σ') S') ∧ P (i + 1) σ' S') :
    ∃ σ' S', evS C (.for_ tg it b) σ S = .ok (.nx σ') S' ∧ P ds.length σ' S' := by
  simp only [evS, hI, R.ok_bind]
  obtain ⟨σ', S', e, p⟩ := forR_inv (f := fun d σ1 S2 => match asg tg d σ1 with
    | some σ2 => evB C b σ2 S2
    | none => .bad) P (xs := ds) (n := 0) h0 fun i x σ S hx hp => by
      rw [Nat.zero_add] at hp ⊢
      obtain ⟨σ2, σ', S', h1, h2, h3⟩ := step i x σ S hx hp
      exact ⟨σ', S', by simp only [h1]; exact h2, h3⟩
  rw [Nat.zero_add] at p
  exact ⟨σ', S', e, p⟩
@[simp] theorem mkL_nil (S : Store) : mkL true [] S = .ok (.ref S.length) (S ++ [some (.lst [])]) := by simp [mkL]
theorem mkL_hot {xs : List D} {S : Store} (h : xs.length ≤ sizeLine) : mkL true xs S = .ok (.ref S.length) (S ++ [some (.lst xs)]) := by simp [mkL, h]
theorem rngV_get {lo : Int} {n i : Nat} {x : D} (h : (rngV lo n)[i]? = some x) : x = .int (lo + i) ∧ i < n := by
  unfold rngV at h
  rw [List.getElem?_map] at h
  by_cases hi : i < n
  · rw [List.getElem?_range hi] at h; cases h; exact ⟨rfl, hi⟩
  · rw [List.getElem?_eq_none (by simpa using hi)] at h; cases h
theorem rngV_len (lo : Int) (n : Nat) : (rngV lo n).length = n := by simp [rngV]
theorem append_ok_ {l : Nat} {S : Store} {xs : List D} {d : D} (h : objAt S l = some (.lst xs)) (hl : xs.length < sizeLine) : bmV .append (.ref l) [d] S = .ok .non (S.set l (some (.lst (xs ++ [d])))) := by simp [bmV, h, hl]
theorem bmT_app {l : Nat} {S : Store} {xs : List D} (h : objAt S l = some (.lst xs)) : bmT .append (.ref l) S = true := by simp [bmT, lstOf, h]
theorem binV_mulL {i j : Int} {ow : Bool} {S : Store} (h : cMul i j = true) : binV .mul ow (.int i) (.int j) S = .ok (.int (i * j)) S := by simp [binV, h]
theorem cMul_r {i j : Int} (h1 : -(2 ^ 64) < j) (h2 : j < 2 ^ 64) : cMul i j = true := by simp [cMul]; right; omega
theorem binV_mod {i j : Int} {ow : Bool} {S : Store} (h : 0 < j) : binV .mod ow (.int i) (.int j) S = .ok (.int (i % j)) S := by simp [binV, h]
theorem binV_fdiv {i j : Int} {ow : Bool} {S : Store} (h : 0 < j) (h2 : j < 1073741824) : binV .fdiv ow (.int i) (.int j) S = .ok (.int (i / j)) S := by simp [binV, h, h2]
theorem binV_add {i j : Int} {ow : Bool} {S : Store} : binV .add ow (.int i) (.int j) S = .ok (.int (i + j)) S := rfl
end Z

/-! Z15: the evaluator, step by step. -/
namespace Z
open PySem
section
variable {C : CallT} {σ σ1 σ2 : Env} {S S1 S2 S3 S4 : Store} {a b e o : E} {es : Es} {d x y z : D} {ds : List D} {r r1 : R D} {c c2 t : Bool}
theorem r_var {i : Nat} (h : σ[i]? = some (some d)) : ev C σ (.var i) false S = .ok d S := by simp [ev, h]
theorem r_k : ev C σ (.k d) false S = .ok d S := by simp [ev]
theorem r_gl {n : Str} : ev C σ (.gl n d) false S = .ok d S := by simp [ev]
theorem r_tup (h : evs C σ es S = .ok ds S1) (hl : ds.length ≤ sizeLine) : ev C σ (.tup es) false S = .ok (.tup ds) S1 := by simp [ev, h, hl]
theorem r_lst {ow : Bool} (h : evs C σ es S = .ok ds S1) (h2 : mkL ow ds S1 = r) : ev C σ (.lst ow es) false S = r := by simp [ev, h, h2]
theorem r_bin {op : BOp} {ow : Bool} (ha : ev C σ a false S = .ok x S1) (hb : ev C σ b false S1 = .ok y S2) (h : binV op ow x y S2 = r) : ev C σ (.bin op ow a b) false S = r := by simp [ev, ha, hb, h]
theorem r_cmp {op : COp} (ha : ev C σ a false S = .ok x S1) (hb : ev C σ b false S1 = .ok y S2) (h : cmpV op x y S2 = some c) : ev C σ (.cmp op a b) t S = .ok (.bl c) S2 := by cases t <;> simp [ev, ha, hb, h]
theorem r_chain_f {op op' : COp} {w : E} (ha : ev C σ a false S = .ok x S1) (hb : ev C σ b false S1 = .ok y S2) (h : cmpV op x y S2 = some c) (hc : c = false) : ev C σ (.chain op op' a b w) t S = .ok (.bl false) S2 := by subst hc; cases t <;> simp [ev, ha, hb, h]
theorem r_chain_t {op op' : COp} {w : E} (ha : ev C σ a false S = .ok x S1) (hb : ev C σ b false S1 = .ok y S2) (h : cmpV op x y S2 = some c) (hc : c = true) (hw : ev C σ w false S2 = .ok z S3) (h2 : cmpV op' y z S3 = some c2) : ev C σ (.chain op op' a b w) t S = .ok (.bl c2) S3 := by subst hc; cases t <;> simp [ev, ha, hb, h, hw, h2]
theorem r_not_t (ha : ev C σ a true S = .ok (.bl c) S1) : ev C σ (.not a) true S = .ok (.bl (!c)) S1 := by simp [ev, ha]
theorem r_or_t (ha : ev C σ a t S = .ok (.bl c) S1) (hc : c = true) : ev C σ (.or a b) t S = .ok (.bl true) S1 := by subst hc; simp [ev, ha]
theorem r_or_f (ha : ev C σ a t S = .ok (.bl c) S1) (hc : c = false) (hb : ev C σ b t S1 = r) : ev C σ (.or a b) t S = r := by subst hc; simp [ev, ha, hb]
theorem r_and_f (ha : ev C σ a t S = .ok (.bl c) S1) (hc : c = false) : ev C σ (.and a b) t S = .ok (.bl false) S1 := by subst hc; simp [ev, ha]
theorem r_and_t (ha : ev C σ a t S = .ok (.bl c) S1) (hc : c = true) (hb : ev C σ b t S1 = r) : ev C σ (.and a b) t S = r := by subst hc; simp [ev, ha, hb]
theorem r_ite_t {w : E} (hw : ev C σ w true S = .ok (.bl c) S1) (hc : c = true) (h : ev C σ a t S1 = r) : ev C σ (.ite w a b) t S = r := by subst hc; simp [ev, hw, h]
theorem r_ite_f {w : E} (hw : ev C σ w true S = .ok (.bl c) S1) (hc : c = false) (h : ev C σ b t S1 = r) : ev C σ (.ite w a b) t S = r := by subst hc; simp [ev, hw, h]
theorem r_bi {k : Bi} {ow : Bool} (h : evs C σ es S = .ok ds S1) (h2 : biV k ow ds S1 = r) : ev C σ (.bi k ow es) false S = r := by simp [ev, h, h2]
theorem r_bm {m : Bm} (ho : ev C σ o false S = .ok x S1) (ht : bmT m x S1 = true) (h : evs C σ es S1 = .ok ds S2) (h2 : bmV m x ds S2 = r) : ev C σ (.bm m o es) false S = r := by simp [ev, ho, ht, h, h2]
theorem r_call {f : Nat} {m : Md} (h : evs C σ es S = .ok ds S1) (h1 : C f ds S1 = r1) (h2 : endV m S1 r1 = r) : ev C σ (.call f m es) false S = r := by simp [ev, h, h1, h2]
theorem r_idx (ha : ev C σ a false S = .ok x S1) (hb : ev C σ b false S1 = .ok y S2) (h : idxV x y S2 = some d) : ev C σ (.idx a b) false S = .ok d S2 := by simp [ev, ha, hb, h]
theorem r_slc {ow : Bool} {lo hi : Es} {l u : Option Int} (ha : ev C σ a false S = .ok x S1) (hl : evo C σ lo S1 = .ok l S2) (hh : evo C σ hi S2 = .ok u S3) (h : slcV ow x l u S3 = r) : ev C σ (.slc ow a lo hi) false S = r := by simp [ev, ha, hl, hh, h]
theorem r_isi {ty : Ty} (ha : ev C σ a false S = .ok x S1) (h : isiV x ty S1 = some c) : ev C σ (.isi a ty) t S = .ok (.bl c) S1 := by cases t <;> simp [ev, ha, h]
theorem r_lc {ow : Bool} {own : List Nat} {elt : E} {tg : Tg} {it : Iy} {cond : Es} {ys : List D} (hi : evI C σ it S = .ok ds S1)
    (hm : mapR (fun d S2 => match asg tg d (wipeE σ own) with
      | some σ1 => (evC C σ1 cond S2).bind fun b S3 => if b then (ev C σ1 elt false S3).bind fun y S4 => .ok [y] S4 else .ok [] S3
      | none => .bad) ds S1 = .ok ys S2) (h : mkL ow ys S2 = r) : ev C σ (.lc ow own elt tg it cond) false S = r := by
  simp only [ev, hi, R.ok_bind, fin_false]
  exact (congrArg (fun q : R (List D) => q.bind fun ys S2 => mkL ow ys S2) hm).trans h
theorem o_nil : evo C σ .nil S = .ok none S := by simp [evo]
theorem o_one {i : Int} (h : ev C σ e false S = .ok (.int i) S1) : evo C σ (.cons e .nil) S = .ok (some i) S1 := by simp [evo, h]
theorem s_nil : evs C σ .nil S = .ok [] S := by simp [evs]
theorem s_cons (h : ev C σ e false S = .ok d S1) (h2 : evs C σ es S1 = .ok ds S2) : evs C σ (.cons e es) S = .ok (d :: ds) S2 := by simp [evs, h, h2]
theorem i_seq (h : ev C σ e false S = .ok d S1) (h2 : seqV d = some ds) : evI C σ (.seq e) S = .ok ds S1 := by simp [evI, h, h2]
theorem i_rng {us : List D} (h : evs C σ es S = .ok us S1) (h2 : rngOf us = some ds) : evI C σ (.rng es) S = .ok ds S1 := by simp [evI, h, h2]
variable {s : Z.S} {bb b1 b2 : Z.B} {f : R Fl} {tg : Tg}
theorem x_asg (h : ev C σ e false S = .ok d S1) (h2 : asg tg d σ = some σ1) : evS C (.asg tg e) σ S = .ok (.nx σ1) S1 := by simp [evS, h, h2, nxt]
theorem x_setI {i : E} (h : ev C σ e false S = .ok d S1) (ho : ev C σ o false S1 = .ok x S2) (hi : ev C σ i false S2 = .ok y S3) (h2 : setIV x y d S3 = some S4) : evS C (.setI o i e) σ S = .ok (.nx σ) S4 := by simp [evS, h, ho, hi, h2]
theorem x_expr (h : ev C σ e false S = .ok d S1) : evS C (.expr e) σ S = .ok (.nx σ) S1 := by simp [evS, h]
theorem x_ret (h : ev C σ e false S = .ok d S1) : evS C (.ret e) σ S = .ok (.ret d) S1 := by simp [evS, h]
theorem x_if_t (h : ev C σ e true S = .ok (.bl c) S1) (hc : c = true) (h2 : evB C b1 σ S1 = f) : evS C (.if_ e b1 b2) σ S = f := by subst hc; simp [evS, h, h2]
theorem x_if_f (h : ev C σ e true S = .ok (.bl c) S1) (hc : c = false) (h2 : evB C b2 σ S1 = f) : evS C (.if_ e b1 b2) σ S = f := by subst hc; simp [evS, h, h2]
theorem x_frzv {i : Nat} (h : evS C s σ S = .ok (.nx σ1) S1) (h1 : σ1[i]? = some (some x)) (h2 : frzD FRZ S1 x = some (d, S2)) : evS C (.frzv s i) σ S = .ok (.nx (σ1.set i (some d))) S2 := by simp [evS, h, h1, h2]
theorem b_nil : evB C .nil σ S = .ok (.nx σ) S := by simp [evB]
theorem b_cons (h : evS C s σ S = .ok (.nx σ1) S1) (h2 : evB C bb σ1 S1 = f) : evB C (.cons s bb) σ S = f := by simp [evB, h, h2]
theorem b_ret (h : evS C s σ S = .ok (.ret d) S1) : evB C (.cons s bb) σ S = .ok (.ret d) S1 := by simp [evB, h]
theorem x_fn {T : Nat → Option Fn} {n k : Nat} {fn : Fn} (hT : T k = some fn) (hl : ds.length = fn.np) (h : evB (callN T n) fn.body (startE fn ds) S = .ok (.ret d) S1) : callN T (n + 1) k ds S = .ok d S1 := by
  simp [callN, hT, runFn, hl, h]
theorem endV_val (h : okOld S (S ++ [none]) = true) (hn : d.nr = true) (hz : ∀ S, frzD FRZ S d = some (d, S)) : endV .val S (.ok d (S ++ [none])) = .ok d S := by
  simp [endV, hz, hn]
theorem endV_flat (hn : d.nr = true) (hz : ∀ S, frzD FRZ S d = some (d, S)) : endV .val S (.ok d S) = .ok d S := by
  simp [endV, hz, hn]
theorem pyEq_int (i j : Int) : pyEq (.int i) (.int j) = some (decide (i = j)) := by
  show (if (SeqAt.shaped (.int i) && SeqAt.shaped (.int j)) = true then some (PyData.eqv (.int i) (.int j)) else none) = _
  have h : (SeqAt.shaped (.int i) && SeqAt.shaped (.int j)) = true := rfl
  rw [if_pos h]
  simp only [PyData.eqv]
  rfl
theorem pyEq_bl (i j : Bool) : pyEq (.bl i) (.bl j) = some (decide (i = j)) := by
  cases i <;> cases j <;> rfl
end
end Z

/-! GA: the shared generator's defs, questions as a type, small facts. -/
namespace Zg
open PySem Z
/-- where the generator's defs stand -/
structure Ids where
  (cell digits take atom quest grow : Nat)
def bDig : B := (.cons (.if_ (.cmp .ge (.var 0) (.bin .pow false (.k (.int 10)) (.k (.int 18)))) (.cons (.expr (.bm .append (.var 3) (.cons (.bin .mod false (.bi .int false (.cons (.var 4) .nil)) (.var 1)) .nil)))
  (.cons (.asg (.nm 4) (.bin .fdiv false (.var 4) (.var 1))) .nil)) (.cons (.asg (.nm 6) (.bin .mod false (.bi .int false (.cons (.bin .add false (.bin .add false (.bin .mul false (.var 0) (.k (.int 48271))) (.bin .mul false (.var 5) (.k (.int 69621)))) (.k (.int 1013))) .nil)) (.k (.int 2147483647))))
  (.cons (.asg (.nm 6) (.bin .mod false (.bi .int false (.cons (.bin .add false (.bin .add false (.bin .mul false (.var 6) (.var 6)) (.bin .mul false (.k (.int 7)) (.var 6))) (.var 5)) .nil)) (.k (.int 2147483629))))
  (.cons (.expr (.bm .append (.var 3) (.cons (.bin .mod false (.bi .int false (.cons (.bin .fdiv false (.var 6) (.k (.int 31))) .nil)) (.var 1)) .nil))) .nil)))) .nil)
def lDig : S := .for_ (.nm 5) (.rng (.cons (.var 2) .nil)) bDig
def fCell : Fn := ⟨2, 2,
  (.cons (.if_ (.cmp .lt (.var 1) (.bi .len false (.cons (.var 0) .nil))) (.cons (.ret (.idx (.var 0) (.var 1))) .nil) .nil)
  (.cons (.ret (.k (.int 0))) .nil))⟩
def fDigits : Fn := ⟨3, 7,
  (.cons (.asg (.nm 3) (.lst true .nil))
  (.cons (.asg (.nm 4) (.var 0))
  (.cons (.frzv lDig 3)
  (.cons (.ret (.var 3)) .nil))))⟩
def fTake : Fn := ⟨2, 2,
  (.cons (.setI (.var 0) (.k (.int 1)) (.bin .add false (.idx (.var 0) (.k (.int 1))) (.k (.int 1))))
  (.cons (.ret (.bin .mod false (.bi .int false (.cons (.idx (.idx (.var 0) (.k (.int 0))) (.bin .mod false (.bi .int false (.cons (.bin .sub false (.idx (.var 0) (.k (.int 1))) (.k (.int 1))) .nil)) (.bi .len false (.cons (.idx (.var 0) (.k (.int 0))) .nil)))) .nil)) (.var 1))) .nil))⟩
def fAtom (I : Ids) : Fn := ⟨3, 9,
  (.cons (.asg (.nm 3) (.call I.take .val (.cons (.var 0) (.cons (.k (.int 9)) .nil))))
  (.cons (.if_ (.and (.cmp .gt (.var 3) (.k (.int 5))) (.cmp .gt (.bi .len false (.cons (.var 2) .nil)) (.k (.int 0)))) (.cons (.asg (.tp [(.nm 6), (.nm 7)]) (.idx (.var 2) (.call I.take .val (.cons (.var 0) (.cons (.bi .len false (.cons (.var 2) .nil)) .nil)))))
  (.cons (.ret (.tup (.cons (.k (.str "in")) (.cons (.var 6) (.cons (.bi .tuple false (.cons (.lc false [8] (.idx (.var 1) (.call I.take .val (.cons (.var 0) (.cons (.bi .len false (.cons (.var 1) .nil)) .nil)))) (.nm 8) (.rng (.cons (.var 7) .nil)) .nil) .nil)) .nil))))) .nil)) .nil)
  (.cons (.asg (.nm 4) (.idx (.var 1) (.call I.take .val (.cons (.var 0) (.cons (.bi .len false (.cons (.var 1) .nil)) .nil)))))
  (.cons (.asg (.nm 5) (.idx (.var 1) (.call I.take .val (.cons (.var 0) (.cons (.bi .len false (.cons (.var 1) .nil)) .nil)))))
  (.cons (.if_ (.cmp .eq (.var 3) (.k (.int 0))) (.cons (.ret (.tup (.cons (.k (.str "same")) (.cons (.var 4) (.cons (.var 5) .nil))))) .nil) .nil)
  (.cons (.if_ (.cmp .eq (.var 3) (.k (.int 1))) (.cons (.ret (.idx (.lst false (.cons (.tup (.cons (.k (.str "given")) (.cons (.k (.str "p")) (.cons (.tup .nil) .nil)))) (.cons (.tup (.cons (.k (.str "true")) .nil)) (.cons (.tup (.cons (.k (.str "false")) .nil)) (.cons (.tup (.cons (.k (.str "given")) (.cons (.k (.str "p")) (.cons (.tup .nil) .nil)))) .nil))))) (.call I.take .val (.cons (.var 0) (.cons (.k (.int 4)) .nil))))) .nil) .nil)
  (.cons (.if_ (.cmp .lt (.var 3) (.k (.int 5))) (.cons (.ret (.tup (.cons (.k (.str "given")) (.cons (.idx (.lst false (.cons (.k (.str "c")) (.cons (.k (.str "d")) .nil))) (.call I.take .val (.cons (.var 0) (.cons (.k (.int 2)) .nil)))) (.cons (.tup (.cons (.var 4) .nil)) .nil))))) .nil) .nil)
  (.cons (.ret (.tup (.cons (.k (.str "given")) (.cons (.k (.str "e")) (.cons (.tup (.cons (.var 4) (.cons (.var 5) .nil))) .nil))))) .nil))))))))⟩
def fQuest (I : Ids) : Fn := ⟨5, 9,
  (.cons (.asg (.nm 5) (.call I.take .val (.cons (.var 0) (.cons (.k (.int 10)) .nil))))
  (.cons (.if_ (.or (.cmp .eq (.var 1) (.k (.int 0))) (.cmp .lt (.var 5) (.k (.int 2)))) (.cons (.ret (.call I.atom .val (.cons (.var 0) (.cons (.var 3) (.cons (.var 4) .nil))))) .nil) .nil)
  (.cons (.if_ (.cmp .eq (.var 5) (.k (.int 2))) (.cons (.ret (.tup (.cons (.k (.str "not")) (.cons (.call I.quest .val (.cons (.var 0) (.cons (.bin .sub false (.var 1) (.k (.int 1))) (.cons (.var 2) (.cons (.var 3) (.cons (.var 4) .nil)))))) .nil)))) .nil) .nil)
  (.cons (.if_ (.cmp .lt (.var 5) (.k (.int 6))) (.cons (.asg (.nm 6) (.call I.quest .val (.cons (.var 0) (.cons (.bin .sub false (.var 1) (.k (.int 1))) (.cons (.var 2) (.cons (.var 3) (.cons (.var 4) .nil)))))))
  (.cons (.ret (.tup (.cons (.idx (.lst false (.cons (.k (.str "and")) (.cons (.k (.str "or")) .nil))) (.bin .mod false (.bi .int false (.cons (.var 5) .nil)) (.k (.int 2)))) (.cons (.var 6) (.cons (.call I.quest .val (.cons (.var 0) (.cons (.bin .sub false (.var 1) (.k (.int 1))) (.cons (.var 2) (.cons (.var 3) (.cons (.var 4) .nil)))))) .nil))))) .nil)) .nil)
  (.cons (.if_ (.or (.cmp .lt (.var 5) (.k (.int 8))) (.cmp .eq (.var 2) (.k (.int 0)))) (.cons (.asg (.nm 7) (.idx (.lst false (.cons (.k (.str "x")) (.cons (.k (.str "y")) (.cons (.k (.str "z")) (.cons (.k (.str "u1")) .nil))))) (.call I.take .val (.cons (.var 0) (.cons (.k (.int 4)) .nil)))))
  (.cons (.asg (.nm 8) (.ite (.cmp .in_ (.var 7) (.var 3)) (.var 3) (.bin .add false (.var 3) (.tup (.cons (.var 7) .nil)))))
  (.cons (.ret (.tup (.cons (.idx (.lst false (.cons (.k (.str "some")) (.cons (.k (.str "all")) .nil))) (.bin .mod false (.bi .int false (.cons (.var 5) .nil)) (.k (.int 2)))) (.cons (.var 7) (.cons (.call I.quest .val (.cons (.var 0) (.cons (.bin .sub false (.var 1) (.k (.int 1))) (.cons (.var 2) (.cons (.var 8) (.cons (.var 4) .nil)))))) .nil))))) .nil))) .nil)
  (.cons (.ret (.call I.grow .val (.cons (.var 0) (.cons (.var 1) (.cons (.var 2) (.cons (.var 3) (.cons (.var 4) .nil))))))) .nil))))))⟩
def fGrow (I : Ids) : Fn := ⟨5, 19,
  (.cons (.asg (.nm 5) (.idx (.lst false (.cons (.k (.str "q")) (.cons (.k (.str "r")) (.cons (.k (.str "e")) .nil)))) (.call I.take .val (.cons (.var 0) (.cons (.k (.int 3)) .nil)))))
  (.cons (.asg (.nm 6) (.idx (.lst false (.cons (.k (.int 1)) (.cons (.k (.int 1)) (.cons (.k (.int 1)) (.cons (.k (.int 1)) (.cons (.k (.int 0)) (.cons (.k (.int 2)) .nil))))))) (.call I.take .val (.cons (.var 0) (.cons (.k (.int 6)) .nil)))))
  (.cons (.asg (.nm 7) (.call I.take .val (.cons (.var 0) (.cons (.k (.int 3)) .nil))))
  (.cons (.asg (.nm 8) (.bi .tuple false (.cons (.lc false [16] (.idx (.lst false (.cons (.k (.str "x")) (.cons (.k (.str "y")) (.cons (.k (.str "z")) .nil)))) (.bin .mod false (.bi .int false (.cons (.bin .add false (.var 7) (.var 16)) .nil)) (.k (.int 3)))) (.nm 16) (.rng (.cons (.var 6) .nil)) .nil) .nil)))
  (.cons (.asg (.nm 9) (.bin .add false (.var 3) (.bi .tuple false (.cons (.lc false [18] (.var 18) (.nm 18) (.seq (.var 8)) (.cons (.cmp .notin (.var 18) (.var 3)) .nil)) .nil))))
  (.cons (.asg (.nm 10) (.bin .add false (.lc false [17] (.var 17) (.nm 17) (.seq (.var 4)) (.cons (.cmp .ne (.idx (.var 17) (.k (.int 0))) (.var 5)) .nil)) (.lst false (.cons (.tup (.cons (.var 5) (.cons (.var 6) .nil))) .nil))))
  (.cons (.asg (.nm 11) (.call I.quest .val (.cons (.var 0) (.cons (.bin .sub false (.var 1) (.k (.int 1))) (.cons (.bin .sub false (.var 2) (.k (.int 1))) (.cons (.var 9) (.cons (.var 10) .nil)))))))
  (.cons (.asg (.nm 12) (.call I.take .val (.cons (.var 0) (.cons (.k (.int 9)) .nil))))
  (.cons (.if_ (.and (.cmp .gt (.var 6) (.k (.int 0))) (.cmp .gt (.var 12) (.k (.int 1)))) (.cons (.asg (.nm 13) (.tup (.cons (.k (.str "in")) (.cons (.var 5) (.cons (.bin .add false (.tup (.cons (.k (.str "v1")) .nil)) (.slc false (.var 8) (.cons (.k (.int 1)) .nil) .nil)) .nil)))))
  (.cons (.if_ (.cmp .eq (.bin .mod false (.bi .int false (.cons (.var 12) .nil)) (.k (.int 2))) (.k (.int 1))) (.cons (.asg (.nm 13) (.tup (.cons (.k (.str "not")) (.cons (.var 13) .nil)))) .nil) .nil)
  (.cons (.asg (.nm 14) (.tup (.cons (.k (.str "given")) (.cons (.k (.str "e")) (.cons (.idx (.lst false (.cons (.tup (.cons (.k (.str "v1")) (.cons (.idx (.var 8) (.k (.int 0))) .nil))) (.cons (.tup (.cons (.idx (.var 8) (.k (.int 0))) (.cons (.k (.str "v1")) .nil))) .nil))) (.call I.take .val (.cons (.var 0) (.cons (.k (.int 2)) .nil)))) .nil)))))
  (.cons (.asg (.nm 15) (.tup (.cons (.k (.str "some")) (.cons (.k (.str "v1")) (.cons (.tup (.cons (.k (.str "and")) (.cons (.var 14) (.cons (.var 13) .nil)))) .nil)))))
  (.cons (.if_ (.cmp .gt (.var 12) (.k (.int 5))) (.cons (.asg (.nm 15) (.tup (.cons (.k (.str "all")) (.cons (.k (.str "v1")) (.cons (.tup (.cons (.k (.str "or")) (.cons (.tup (.cons (.k (.str "not")) (.cons (.var 14) .nil))) (.cons (.var 13) .nil)))) .nil))))) .nil) .nil)
  (.cons (.asg (.nm 11) (.tup (.cons (.idx (.lst false (.cons (.k (.str "or")) (.cons (.k (.str "and")) .nil))) (.bi .int false (.cons (.cmp .gt (.var 12) (.k (.int 7))) .nil))) (.cons (.var 11) (.cons (.var 15) .nil))))) .nil)))))) .nil)
  (.cons (.ret (.tup (.cons (.k (.str "grow")) (.cons (.var 5) (.cons (.var 8) (.cons (.var 11) (.cons (.bi .tuple false (.cons (.lc false [16] (.idx (.var 3) (.call I.take .val (.cons (.var 0) (.cons (.bi .len false (.cons (.var 3) .nil)) .nil)))) (.nm 16) (.rng (.cons (.var 6) .nil)) .nil) .nil)) .nil))))))) .nil))))))))))⟩

structure Gen (T : Nat → Option Fn) (I : Ids) : Prop where
  cell : T I.cell = some fCell
  digits : T I.digits = some fDigits
  take : T I.take = some fTake
  atom : T I.atom = some (fAtom I)
  quest : T I.quest = some (fQuest I)
  grow : T I.grow = some (fGrow I)

/-! ### questions -/
inductive Q where
  | tru | fal
  | given (r : Str) (xs : List Str) | same (x y : Str) | inn (r : Str) (xs : List Str)
  | not (p : Q) | bi (w : Bool) (p q : Q) | qu (w : Bool) (x : Str) (p : Q) | grow (r : Str) (bs : List Str) (p : Q) (ts : List Str)
  deriving DecidableEq
abbrev sD (xs : List Str) : List D := xs.map .str
def Q.toD : Q → D
  | .tru => .tup [.str "true"]
  | .fal => .tup [.str "false"]
  | .given r xs => .tup [.str "given", .str r, .tup (sD xs)]
  | .same x y => .tup [.str "same", .str x, .str y]
  | .inn r xs => .tup [.str "in", .str r, .tup (sD xs)]
  | .not p => .tup [.str "not", p.toD]
  | .bi w p q => .tup [.str (if w then "and" else "or"), p.toD, q.toD]
  | .qu w x p => .tup [.str (if w then "some" else "all"), .str x, p.toD]
  | .grow r bs p ts => .tup [.str "grow", .str r, .tup (sD bs), p.toD, .tup (sD ts)]
def Q.sz : Q → Nat
  | .not p => 1 + p.sz
  | .bi _ p q => 1 + (p.sz + q.sz)
  | .qu _ _ p => 1 + p.sz
  | .grow _ _ p _ => 1 + p.sz
  | _ => 1
def Q.dep : Q → Nat
  | .not p => p.dep + 1
  | .bi _ p q => max p.dep q.dep + 1
  | .qu _ _ p => p.dep + 1
  | .grow _ _ p _ => p.dep + 1
  | _ => 0
def Q.parts : Q → List Q
  | .not p => [p]
  | .bi _ p q => [p, q]
  | .qu _ _ p => [p]
  | .grow _ _ p _ => [p]
  | _ => []
def VN : List Str := ["x", "y", "z", "u1", "v1"]
def BN : List Str := ["x", "y", "z"]
def RN : List Str := ["q", "r", "e"]
/-- a question over names, growing relations with their arities, so many levels of growth -/
def wf : List Str → List (Str × Nat) → Nat → Q → Prop
  | ns, _, _, .given r xs => ((r = "p" ∧ xs.length = 0) ∨ ((r = "c" ∨ r = "d") ∧ xs.length = 1) ∨ (r = "e" ∧ xs.length = 2)) ∧ ∀ x ∈ xs, x ∈ ns
  | ns, _, _, .same x y => x ∈ ns ∧ y ∈ ns
  | ns, gs, _, .inn r xs => (r, xs.length) ∈ gs ∧ ∀ x ∈ xs, x ∈ ns
  | ns, gs, l, .not p => wf ns gs l p
  | ns, gs, l, .bi _ p q => wf ns gs l p ∧ wf ns gs l q
  | ns, gs, l, .qu _ x p => x ∈ VN ∧ wf (x :: ns) gs l p
  | ns, gs, l, .grow r bs p ts => r ∈ RN ∧ bs.Nodup ∧ (∀ b ∈ bs, b ∈ BN) ∧ bs.length ≤ 2 ∧ ts.length = bs.length ∧ (∀ t ∈ ts, t ∈ ns) ∧ 0 < l ∧ wf (bs ++ ns) ((r, bs.length) :: gs.filter fun g => decide (g.1 ≠ r)) (l - 1) p
  | _, _, _, _ => True
theorem wf_mono : ∀ {q : Q} {ns ns' : List Str} {gs gs' : List (Str × Nat)} {l l' : Nat}, (∀ x ∈ ns, x ∈ ns') → (∀ g ∈ gs, g ∈ gs') → l ≤ l' → wf ns gs l q → wf ns' gs' l' q
  | .tru, _, _, _, _, _, _, _, _, _, _ => trivial
  | .fal, _, _, _, _, _, _, _, _, _, _ => trivial
  | .given _ _, _, _, _, _, _, _, hn, _, _, h => ⟨h.1, fun x hx => hn x (h.2 x hx)⟩
  | .same _ _, _, _, _, _, _, _, hn, _, _, h => ⟨hn _ h.1, hn _ h.2⟩
  | .inn _ _, _, _, _, _, _, _, hn, hg, _, h => ⟨hg _ h.1, fun x hx => hn x (h.2 x hx)⟩
  | .not p, _, _, _, _, _, _, hn, hg, hl, h => wf_mono (q := p) hn hg hl h
  | .bi _ p q, _, _, _, _, _, _, hn, hg, hl, h => ⟨wf_mono (q := p) hn hg hl h.1, wf_mono (q := q) hn hg hl h.2⟩
  | .qu _ x p, _, _, _, _, _, _, hn, hg, hl, h => ⟨h.1, wf_mono (q := p) (fun y hy => by
      rcases List.mem_cons.mp hy with e | e
      · exact List.mem_cons.mpr (.inl e)
      · exact List.mem_cons_of_mem _ (hn y e)) hg hl h.2⟩
  | .grow r bs p ts, _, _, _, _, _, _, hn, hg, hl, h => by
    obtain ⟨h1, h2, h3, h4, h5, h6, h7, h8⟩ := h
    refine ⟨h1, h2, h3, h4, h5, fun t ht => hn t (h6 t ht), by omega, wf_mono (q := p) (fun y hy => ?_) (fun g hgm => ?_) (by omega) h8⟩
    · rcases List.mem_append.mp hy with e | e
      · exact List.mem_append_left _ e
      · exact List.mem_append_right _ (hn y e)
    · rcases List.mem_cons.mp hgm with e | e
      · exact List.mem_cons.mpr (.inl e)
      · refine List.mem_cons_of_mem _ ?_
        rw [List.mem_filter] at e ⊢
        exact ⟨hg g e.1, e.2⟩
theorem sz_pos (q : Q) : 0 < q.sz := by cases q <;> simp only [Q.sz] <;> omega
theorem dep_lt : ∀ q : Q, q.dep < q.sz
  | .tru => by decide
  | .fal => by decide
  | .given _ _ => by simp [Q.dep, Q.sz]
  | .same _ _ => by simp [Q.dep, Q.sz]
  | .inn _ _ => by simp [Q.dep, Q.sz]
  | .not q => by have := dep_lt q; simp only [Q.dep, Q.sz]; omega
  | .bi _ p q => by have := dep_lt p; have := dep_lt q; simp only [Q.dep, Q.sz]; omega
  | .qu _ _ q => by have := dep_lt q; simp only [Q.dep, Q.sz]; omega
  | .grow _ _ q _ => by have := dep_lt q; simp only [Q.dep, Q.sz]; omega

/-! ### values -/
theorem sD_nr : ∀ xs : List Str, D.nrL (sD xs) = true := nrL_map fun _ => rfl
theorem toD_nr : ∀ q : Q, q.toD.nr = true
  | .tru => rfl
  | .fal => rfl
  | .given _ xs => by simp [Q.toD, D.nr, D.nrL, sD_nr]
  | .same _ _ => rfl
  | .inn _ xs => by simp [Q.toD, D.nr, D.nrL, sD_nr]
  | .not p => by simp [Q.toD, D.nr, D.nrL, toD_nr p]
  | .bi _ p q => by simp [Q.toD, D.nr, D.nrL, toD_nr p, toD_nr q]
  | .qu _ _ p => by simp [Q.toD, D.nr, D.nrL, toD_nr p]
  | .grow _ bs p ts => by simp [Q.toD, D.nr, D.nrL, toD_nr p, sD_nr]
theorem toD_tup (q : Q) : ∃ xs, q.toD = .tup xs := by cases q <;> exact ⟨_, rfl⟩
theorem frzD_lst (n : Nat) (S : Store) (xs : List D) : frzD n S (.lst xs) = some (.lst xs, S) := by cases n <;> simp [frzD]
theorem frzD_tup (n : Nat) (S : Store) (xs : List D) : frzD n S (.tup xs) = some (.tup xs, S) := by cases n <;> simp [frzD]
theorem frz_q (q : Q) (S : Store) : frzD FRZ S q.toD = some (q.toD, S) := by obtain ⟨xs, e⟩ := toD_tup q; rw [e]; exact frzD_tup _ _ _
theorem endV_q (q : Q) (S : Store) : endV .val S (.ok q.toD S) = .ok q.toD S := endV_flat (toD_nr q) fun S => frz_q q S
theorem nrL_toD : ∀ l : List Q, D.nrL (l.map Q.toD) = true := nrL_map toD_nr
theorem endV_qs (l : List Q) (S : Store) : endV .val S (.ok (.lst (l.map Q.toD)) S) = .ok (.lst (l.map Q.toD)) S := endV_flat (by simp only [D.nr]; exact nrL_toD l) fun S => frzD_lst _ _ _
theorem endV_bl (b : Bool) (S : Store) : endV .val S (.ok (.bl b) S) = .ok (.bl b) S := endV_flat rfl fun _ => by simp [frzD]
theorem endV_int (i : Int) (S : Store) : endV .val S (.ok (.int i) S) = .ok (.int i) S := endV_flat rfl fun _ => by simp [frzD]
theorem endV_tup {xs : List D} (h : D.nrL xs = true) (S : Store) : endV .val S (.ok (.tup xs) S) = .ok (.tup xs) S := endV_flat h fun _ => frzD_tup _ _ _
theorem endV_lst {xs : List D} (h : D.nrL xs = true) (S : Store) : endV .val S (.ok (.lst xs) S) = .ok (.lst xs) S := endV_flat h fun _ => frzD_lst _ _ _
theorem small5 {n : Nat} (h : n ≤ 100000) : n ≤ sizeLine := by
  have : (100000 : Nat) ≤ sizeLine := by decide
  omega
theorem cold {ds : List D} {S : Store} (h : ds.length ≤ 100000) : mkL false ds S = .ok (.lst ds) S := mkL_cold (small5 h)
theorem tup_len {ds : List D} (h : ds.length ≤ 100000) : ds.length ≤ sizeLine := small5 h
theorem binV_tupA {xs ys : List D} {S : Store} {ow : Bool} (h : xs.length + ys.length ≤ 100000) : binV .add ow (.tup xs) (.tup ys) S = .ok (.tup (xs ++ ys)) S := by
  have : xs.length + ys.length ≤ sizeLine := small5 h
  simp only [binV, if_pos this]
theorem binV_lstA {xs ys : List D} {S : Store} (h : (xs ++ ys).length ≤ 100000) : binV .add false (.lst xs) (.lst ys) S = .ok (.lst (xs ++ ys)) S := by
  have : binV .add false (.lst xs) (.lst ys) S = mkL false (xs ++ ys) S := by simp [binV, lstOf]
  rw [this, cold h]
theorem at0 (x : D) (xs : List D) : L2.atI (x :: xs) 0 = some x := atI_zero x xs
theorem atN (xs : List D) (i : Nat) (d : D) (h : xs[i]? = some d) : L2.atI xs (i : Int) = some d := L2.atI_nat h
theorem idxV_tup {xs : List D} {i : Int} {d : D} {S : Store} (h : L2.atI xs i = some d) : idxV (.tup xs) (.int i) S = some d := by simp [idxV, seqOf, h]
theorem tupN {xs : List D} (i : Nat) {d : D} {S : Store} (h : xs[i]? = some d) : idxV (.tup xs) (.int (i : Int)) S = some d := idxV_tup (atN xs i d h)
theorem pyEq_str {i j : Str} (hi : PyData.strOk i = true) (hj : PyData.strOk j = true) : pyEq (.str i) (.str j) = some (decide (i = j)) := by
  have h : (SeqAt.shaped (.str i) && SeqAt.shaped (.str j)) = true := by simp [SeqAt.shaped, PyData.canLay0, PyData.depth, hi, hj]
  show (if (SeqAt.shaped (.str i) && SeqAt.shaped (.str j)) = true then some (PyData.eqv (.str i) (.str j)) else none) = _
  rw [if_pos h]
  simp only [PyData.eqv]
  rfl
theorem eq_str {i j : Str} (hi : PyData.strOk i = true) (hj : PyData.strOk j = true) (S : Store) : cmpV .eq (.str i) (.str j) S = some (decide (i = j)) := by simp [cmpV, pyEq_str hi hj]
theorem ne_str {i j : Str} (hi : PyData.strOk i = true) (hj : PyData.strOk j = true) (S : Store) : cmpV .ne (.str i) (.str j) S = some (!decide (i = j)) := by simp [cmpV, pyEq_str hi hj]
theorem pds_sD : ∀ xs : List Str, pds (sD xs) = some (xs.map PyData.str)
  | [] => rfl
  | x :: xs => by
    show (match pd (.str x), pds (sD xs) with
      | some d, some ds => some (d :: ds)
      | _, _ => none) = _
    rw [pds_sD xs]
    rfl
theorem in_sD (s : Str) (xs : List Str) (S : Store) : inV (.str s) (.tup (sD xs)) S = some (decide (s ∈ xs)) := by
  have h1 : (sD xs).all flatD = true := List.all_eq_true.mpr fun x hx => by obtain ⟨y, _, rfl⟩ := List.mem_map.mp hx; rfl
  have h2 : ((xs.map PyData.str).any fun z => PyData.eqv z (.str s)) = decide (s ∈ xs) := by
    induction xs with
    | nil => rfl
    | cons x xs ih =>
      have h3 : (sD xs).all flatD = true := List.all_eq_true.mpr fun x hx => by obtain ⟨y, _, rfl⟩ := List.mem_map.mp hx; rfl
      rw [List.map_cons, List.any_cons, ih h3]
      have : PyData.eqv (.str x) (.str s) = decide (x = s) := by simp only [PyData.eqv]; rfl
      rw [this]
      by_cases e : x = s
      · subst e; simp
      · have e' : ¬ s = x := fun h => e h.symm
        simp [e, e']
  simp [inV, dctOf, flatD, h1, pd, pds_sD, h2]
theorem cmp_in {a b : D} {S : Store} {c : Bool} (h : inV a b S = some c) : cmpV .in_ a b S = some c := by simp [cmpV, h]
theorem cmp_notin {a b : D} {S : Store} {c : Bool} (h : inV a b S = some c) : cmpV .notin a b S = some (!c) := by simp [cmpV, h]
/-- a list of texts as they stand -/
theorem as_sD {P : Str → Prop} : ∀ {ys : List D}, (∀ y ∈ ys, ∃ s : Str, P s ∧ y = .str s) → ∃ xs : List Str, ys = sD xs ∧ ∀ x ∈ xs, P x
  | [], _ => ⟨[], rfl, fun _ h => by cases h⟩
  | y :: ys, h => by
    obtain ⟨xs, e, p⟩ := as_sD fun z hz => h z (List.mem_cons_of_mem _ hz)
    obtain ⟨s, ps, es⟩ := h y List.mem_cons_self
    refine ⟨s :: xs, by rw [e, es]; rfl, fun x hx => ?_⟩
    rcases List.mem_cons.mp hx with rfl | hx
    · exact ps
    · exact p x hx
end Zg

/-! GB: the generator's state. -/
namespace Zg
open PySem Z
variable {T : Nat → Option Fn} {I : Ids}
/-! ### the state -/
def stO (ds : List Int) (c : Int) : Z.Obj := .lst [.lst (ds.map .int), .int c]
theorem idxV_ref {l : Nat} {S : Store} {xs : List D} {i : Int} {d : D} (h : objAt S l = some (.lst xs)) (h2 : L2.atI xs i = some d) : idxV (.ref l) (.int i) S = some d := by simp [idxV, seqOf, lstOf, h, h2]
theorem objAt_put {S : Store} {l : Nat} {o o' : Z.Obj} (h : objAt S l = some o) : objAt (S.set l (some o')) l = some o' := by
  have hl : l < S.length := objAt_lt h
  unfold objAt
  rw [List.getElem?_set_self hl]
  rfl
theorem okOld_set : ∀ (S : Store) (l : Nat) (o : Z.Obj), o.nr = true → okOld S (S.set l (some o)) = true
  | [], _, _, _ => rfl
  | a :: S, 0, o, h => by simp [okOld, h]
  | a :: S, l + 1, o, h => by simp [okOld, okOld_set S l o h]
theorem stO_nr (ds : List Int) (c : Int) : (stO ds c).nr = true := by
  have := nrL_map (f := D.int) (fun _ => rfl) ds
  simp [stO, Z.Obj.nr, D.nrL, D.nr, this]
/-- S' is S, further on in its state -/
def Adv (ds : List Int) (l : Nat) (S S' : Store) : Prop := ∃ c', S' = S.set l (some (stO ds c'))
theorem Adv.trans {ds : List Int} {l : Nat} {S S1 S2 : Store} (a : Adv ds l S S1) (b : Adv ds l S1 S2) : Adv ds l S S2 := by
  obtain ⟨c, rfl⟩ := a
  obtain ⟨d, rfl⟩ := b
  exact ⟨d, List.set_set ..⟩
theorem endV_adv {ds : List Int} {l : Nat} {S S' : Store} {d : D} (a : Adv ds l S S') (hn : d.nr = true) (hz : ∀ S, frzD FRZ S d = some (d, S)) : endV .val S (.ok d S') = .ok d S' := by
  obtain ⟨c, rfl⟩ := a
  have h1 : okOld S (S.set l (some (stO ds c))) = true := okOld_set S l _ (stO_nr ds c)
  have h2 : (S.set l (some (stO ds c))).take S.length = S.set l (some (stO ds c)) := by
    rw [List.take_of_length_le]; simp
  simp [endV, hz, hn, h1, h2]
/-- _law_take -/
theorem take (g : Gen T I) (n : Nat) (ds : List Int) (hd : 0 < ds.length) (l : Nat) (S : Store) (c many : Int) (hS : objAt S l = some (stO ds c)) (h0 : 0 < many) :
    ∃ v S' c', callN T (n + 1) I.take [.ref l, .int many] S = .ok (.int v) S' ∧ 0 ≤ v ∧ v < many ∧ Adv ds l S S' ∧ objAt S' l = some (stO ds c') := by
  have hS1 : objAt (S.set l (some (stO ds (c + 1)))) l = some (stO ds (c + 1)) := objAt_put hS
  have q0 : 0 ≤ (c + 1 - 1) % (ds.length : Int) := Int.emod_nonneg _ (by omega)
  have q1 : (c + 1 - 1) % (ds.length : Int) < ds.length := Int.emod_lt_of_pos _ (by omega)
  obtain ⟨u, hu, hu2⟩ := atI_ok (xs := ds.map D.int) (i := (c + 1 - 1) % (ds.length : Int)) q0 (by simpa using q1)
  obtain ⟨w, _, rfl⟩ := List.mem_map.mp hu2
  have i1 : idxV (.ref l) (.int 1) S = some (.int c) := idxV_ref hS (atN _ 1 _ rfl)
  have i1' : idxV (.ref l) (.int 1) (S.set l (some (stO ds (c + 1)))) = some (.int (c + 1)) := idxV_ref hS1 (atN _ 1 _ rfl)
  have i0' : idxV (.ref l) (.int 0) (S.set l (some (stO ds (c + 1)))) = some (.lst (ds.map .int)) := idxV_ref hS1 (at0 _ _)
  have hs : setIV (.ref l) (.int 1) (.int (c + 1)) S = some (S.set l (some (stO ds (c + 1)))) := by
    simp only [setIV, hS, stO]
    rfl
  have hl : biV .len false [.lst (ds.map D.int)] (S.set l (some (stO ds (c + 1)))) = .ok (.int ds.length) (S.set l (some (stO ds (c + 1)))) := by
    have := biV_len_seq (d := .lst (ds.map D.int)) (xs := ds.map D.int) (ow := false) (S := S.set l (some (stO ds (c + 1)))) (fun _ h => nomatch h) rfl
    rw [this]
    simp
  refine ⟨w % many, S.set l (some (stO ds (c + 1))), c + 1, ?_, Int.emod_nonneg _ (by omega), Int.emod_lt_of_pos _ h0, ⟨c + 1, rfl⟩, hS1⟩
  exact x_fn (fn := fTake) g.take rfl (b_cons (x_setI (r_bin (r_idx (r_var rfl) r_k i1) r_k binV_add) (r_var rfl) r_k hs)
    (b_ret (x_ret (r_bin (r_bi (s_cons (r_idx (r_idx (r_var rfl) r_k i0') (r_bin (r_bi (s_cons (r_bin (r_idx (r_var rfl) r_k i1') r_k rfl) s_nil) biV_int) (r_bi (s_cons (r_idx (r_var rfl) r_k i0') s_nil) hl) (binV_mod (by omega))) (idxV_lst hu)) s_nil) biV_int) (r_var rfl) (binV_mod h0)))))
/-- the state stands at l -/
def At (ds : List Int) (l : Nat) (S : Store) : Prop := 0 < ds.length ∧ ∃ c, objAt S l = some (stO ds c)
/-- what a step of the generator does: a value, the state further on -/
def Gives (C : CallT) (σ : Z.Env) (e : E) (ds : List Int) (l : Nat) (S : Store) (P : D → Prop) : Prop := ∃ d S', ev C σ e false S = .ok d S' ∧ P d ∧ Adv ds l S S' ∧ At ds l S'
theorem adv_self {ds : List Int} {l : Nat} {S : Store} {c : Int} (h : objAt S l = some (stO ds c)) : Adv ds l S S := by
  refine ⟨c, ?_⟩
  have hl : l < S.length := objAt_lt h
  have : S[l]? = some (some (stO ds c)) := objAt_iff.mp h
  apply List.ext_getElem?
  intro j
  by_cases hj : l = j
  · subst hj; rw [List.getElem?_set_self hl, this]
  · rw [List.getElem?_set_ne hj]
/-- take(state, many), many an int that stands still -/
theorem call_take (g : Gen T I) (n : Nat) {σ : Z.Env} {ds : List Int} {l : Nat} {S : Store} {e : E} {many : Int} (hs : At ds l S) (h0 : 0 < many) (e0 : σ[0]? = some (some (.ref l))) (he : ev (callN T (n + 1)) σ e false S = .ok (.int many) S) :
    Gives (callN T (n + 1)) σ (.call I.take .val (.cons (.var 0) (.cons e .nil))) ds l S (fun d => ∃ v : Int, d = .int v ∧ 0 ≤ v ∧ v < many) := by
  obtain ⟨hd, c, hc⟩ := hs
  obtain ⟨v, S', c', h, v0, v1, ha, hc'⟩ := take g n ds hd l S c many hc h0
  exact ⟨.int v, S', r_call (s_cons (r_var e0) (s_cons he s_nil)) h (endV_adv ha rfl fun _ => by simp [frzD]), ⟨v, rfl, v0, v1⟩, ha, hd, c', hc'⟩
/-- xs[take(state, len xs)], xs a tuple in a slot -/
theorem pick_tup (g : Gen T I) (n : Nat) {σ : Z.Env} {ds : List Int} {l i : Nat} {S : Store} {xs : List D} (hs : At ds l S) (hx : xs ≠ []) (e0 : σ[0]? = some (some (.ref l))) (ei : σ[i]? = some (some (.tup xs))) :
    Gives (callN T (n + 1)) σ (.idx (.var i) (.call I.take .val (.cons (.var 0) (.cons (.bi .len false (.cons (.var i) .nil)) .nil)))) ds l S (fun d => d ∈ xs) := by
  have hlen : ev (callN T (n + 1)) σ (.bi .len false (.cons (.var i) .nil)) false S = .ok (.int xs.length) S := r_bi (s_cons (r_var ei) s_nil) (biV_len_seq (fun _ h => nomatch h) rfl)
  have hpos : 0 < (xs.length : Int) := by
    have := List.length_pos_iff.mpr hx
    omega
  obtain ⟨_, S', h, ⟨v, rfl, v0, v1⟩, ha, hs'⟩ := call_take g n hs hpos e0 hlen
  obtain ⟨d, hd, hm⟩ := atI_ok (xs := xs) v0 v1
  exact ⟨d, S', r_idx (r_var ei) h (idxV_tup hd), hm, ha, hs'⟩
/-- [..][take(state, m)], a list of constants -/
theorem pick_lst (g : Gen T I) (n : Nat) {σ : Z.Env} {ds : List Int} {l : Nat} {S : Store} {xs : List D} {a : E} (hs : At ds l S) (hx : xs ≠ []) (hz : xs.length ≤ 10) (e0 : σ[0]? = some (some (.ref l))) (ha : ev (callN T (n + 1)) σ a false S = .ok (.lst xs) S) :
    Gives (callN T (n + 1)) σ (.idx a (.call I.take .val (.cons (.var 0) (.cons (.k (.int xs.length)) .nil)))) ds l S (fun d => d ∈ xs) := by
  have hpos : 0 < (xs.length : Int) := by
    have := List.length_pos_iff.mpr hx
    omega
  obtain ⟨_, S', h, ⟨v, rfl, v0, v1⟩, hadv, hs'⟩ := call_take g n hs hpos e0 (r_k (d := .int xs.length))
  obtain ⟨d, hd, hm⟩ := atI_ok (xs := xs) v0 v1
  exact ⟨d, S', r_idx ha h (idxV_lst hd), hm, hadv, hs'⟩
/-- a comprehension whose body moves the state -/
theorem mapR_adv {f : D → Store → R (List D)} {ds : List Int} {l : Nat} (P : D → Prop) : ∀ {xs : List D} {S : Store}, At ds l S → (∀ x ∈ xs, ∀ S, At ds l S → ∃ y S', f x S = .ok [y] S' ∧ P y ∧ Adv ds l S S' ∧ At ds l S') →
    ∃ ys S', mapR f xs S = .ok ys S' ∧ ys.length = xs.length ∧ (∀ y ∈ ys, P y) ∧ Adv ds l S S' ∧ At ds l S'
  | [], S, hs, _ => by
    obtain ⟨hd, c, hc⟩ := hs
    exact ⟨[], S, rfl, rfl, fun _ h => (by cases h), adv_self hc, hd, c, hc⟩
  | x :: xs, S, hs, h => by
    obtain ⟨y, S1, e1, p1, a1, s1⟩ := h x List.mem_cons_self S hs
    obtain ⟨ys, S2, e2, l2, p2, a2, s2⟩ := mapR_adv P s1 fun z hz => h z (List.mem_cons_of_mem _ hz)
    refine ⟨y :: ys, S2, ?_, by simp [l2], fun z hz => ?_, a1.trans a2, s2⟩
    · simp only [mapR]
      rw [e1]
      simp only [R.ok_bind]
      rw [e2]
      rfl
    · rcases List.mem_cons.mp hz with rfl | hz
      · exact p1
      · exact p2 z hz
/-- a text out of a tuple of texts -/
theorem pick_s (g : Gen T I) (n : Nat) {σ : Z.Env} {ds : List Int} {l i : Nat} {S : Store} {ns : List Str} (hs : At ds l S) (hx : ns ≠ []) (e0 : σ[0]? = some (some (.ref l))) (ei : σ[i]? = some (some (.tup (sD ns)))) :
    ∃ (x : Str) (S' : Store), ev (callN T (n + 1)) σ (.idx (.var i) (.call I.take .val (.cons (.var 0) (.cons (.bi .len false (.cons (.var i) .nil)) .nil)))) false S = .ok (.str x) S' ∧ x ∈ ns ∧ Adv ds l S S' ∧ At ds l S' := by
  obtain ⟨d, S', h, hd, a, s⟩ := pick_tup g n hs (xs := sD ns) (by simpa using hx) e0 ei
  obtain ⟨x, hx, rfl⟩ := List.mem_map.mp hd
  exact ⟨x, S', h, hx, a, s⟩
/-- some texts out of a tuple of texts, by a comprehension over range(a) -/
theorem picks (g : Gen T I) (n : Nat) {σ : Z.Env} {ds : List Int} {l i j k a : Nat} {S : Store} {ns : List Str} (hs : At ds l S) (hx : ns ≠ []) (hj : j < σ.length) (h0 : 0 ≠ j) (hij : i ≠ j) (hkj : k ≠ j) (ha : a ≤ 100) (e0 : σ[0]? = some (some (.ref l))) (ei : σ[i]? = some (some (.tup (sD ns))))
    (ek : σ[k]? = some (some (.int a))) :
    ∃ (xs : List Str) (S' : Store), ev (callN T (n + 1)) σ (.bi .tuple false (.cons (.lc false [j] (.idx (.var i) (.call I.take .val (.cons (.var 0) (.cons (.bi .len false (.cons (.var i) .nil)) .nil)))) (.nm j) (.rng (.cons (.var k) .nil)) .nil) .nil)) false S = .ok (.tup (sD xs)) S' ∧ xs.length = a ∧ (∀ x ∈ xs, x ∈ ns) ∧ Adv ds l S S' ∧ At ds l S' := by
  have hrng : rngOf [.int (a : Int)] = some (rngV 0 a) := by
    have : small62 (a : Int) = true := by simp only [small62, Bool.and_eq_true, decide_eq_true_eq]; omega
    simp only [rngOf, this, if_true]
    simp
  obtain ⟨ys, S3, hm, hyl, hy, a3, s3⟩ := mapR_adv (ds := ds) (l := l) (f := fun d S2 => match asg (.nm j) d (wipeE σ [j]) with
      | some σ1 => (evC (callN T (n + 1)) σ1 .nil S2).bind fun b S3 => if b then (ev (callN T (n + 1)) σ1 (.idx (.var i) (.call I.take .val (.cons (.var 0) (.cons (.bi .len false (.cons (.var i) .nil)) .nil)))) false S3).bind fun y S4 => .ok [y] S4 else .ok [] S3
      | none => .bad) (fun d => ∃ s : Str, s ∈ ns ∧ d = .str s) (xs := rngV 0 a) hs fun x hx S hs => by
    have has : asg (.nm j) x (wipeE σ [j]) = some ((σ.set j none).set j (some x)) := by simp [asg, wipeE, hj]
    obtain ⟨d, S', h, hd, ha, hs'⟩ := pick_s g n (σ := (σ.set j none).set j (some x)) (i := i) hs ‹ns ≠ []› (by rw [List.getElem?_set_ne (Ne.symm h0), List.getElem?_set_ne (Ne.symm h0)]; exact e0) (by rw [List.getElem?_set_ne (Ne.symm hij), List.getElem?_set_ne (Ne.symm hij)]; exact ei)
    refine ⟨.str d, S', ?_, ⟨d, hd, rfl⟩, ha, hs'⟩
    simp only [has, evC, R.ok_bind, if_true, h]
  obtain ⟨xs, rfl, hxs⟩ := as_sD hy
  have hl : xs.length = a := by rw [← rngV_len 0 a, ← hyl]; simp
  exact ⟨xs, S3, r_bi (s_cons (r_lc (i_rng (s_cons (r_var ek) s_nil) hrng) hm (cold (by simp; omega))) s_nil) rfl, hl, hxs, a3, s3⟩
end Zg

/-! GC: atoms. -/
namespace Zg
open PySem Z
variable {T : Nat → Option Fn} {I : Ids}
abbrev gD (gs : List (Str × Nat)) : List D := gs.map fun g => .tup [.str g.1, .int (g.2 : Nat)]
def NS (ns : List Str) : Prop := ns ≠ [] ∧ ns.length ≤ 1000
def GS (gs : List (Str × Nat)) : Prop := gs.length ≤ 1000 ∧ ∀ g ∈ gs, PyData.strOk g.1 = true ∧ g.2 ≤ 5
/-- a question is drawn, the state is further on -/
def Draws (T : Nat → Option Fn) (f n : Nat) (as : List D) (ds : List Int) (l : Nat) (S : Store) (P : Q → Prop) : Prop := ∃ q S', callN T n f as S = .ok (Q.toD q) S' ∧ P q ∧ Adv ds l S S' ∧ At ds l S'
theorem endV_qa {q : Q} {ds : List Int} {l : Nat} {S S' : Store} (a : Adv ds l S S') : endV .val S (.ok q.toD S') = .ok q.toD S' := endV_adv a (toD_nr q) fun S => frz_q q S
theorem atom (g : Gen T I) (n : Nat) {ds : List Int} {l : Nat} {S : Store} {ns : List Str} {gs : List (Str × Nat)} (hs : At ds l S) (hn : NS ns) (hg : GS gs) :
    Draws T I.atom (n + 2) [.ref l, .tup (sD ns), .lst (gD gs)] ds l S fun q => q.sz = 1 ∧ q.dep = 0 ∧ ∀ lev, wf ns gs lev q := by
  obtain ⟨_, S1, h1, ⟨v, rfl, v0, v1⟩, a1, s1⟩ := call_take g (σ := startE (fAtom I) [.ref l, .tup (sD ns), .lst (gD gs)]) (e := .k (.int 9)) (many := 9) n hs (by decide) rfl r_k
  have hlenG : ∀ (σ : Z.Env) (S : Store), σ[2]? = some (some (.lst (gD gs))) → ev (callN T (n + 1)) σ (.bi .len false (.cons (.var 2) .nil)) false S = .ok (.int (gD gs).length) S := fun σ S e => r_bi (s_cons (r_var e) s_nil) (biV_len_seq (fun _ h => nomatch h) rfl)
  have hc1 : ev (callN T (n + 1)) [some (.ref l), some (.tup (sD ns)), some (.lst (gD gs)), some (.int v), none, none, none, none, none] (.cmp .gt (.var 3) (.k (.int 5))) true S1 = .ok (.bl (decide ((5 : Int) < v))) S1 := r_cmp (r_var rfl) r_k rfl
  have hc2 : ev (callN T (n + 1)) [some (.ref l), some (.tup (sD ns)), some (.lst (gD gs)), some (.int v), none, none, none, none, none] (.cmp .gt (.bi .len false (.cons (.var 2) .nil)) (.k (.int 0))) true S1 = .ok (.bl (decide ((0 : Int) < (gD gs).length))) S1 := r_cmp (hlenG _ _ rfl) r_k rfl
  by_cases hb : 5 < v ∧ 0 < gs.length
  · have hgpos : (0 : Int) < (gD gs).length := by simp; omega
    obtain ⟨_, S2, h2, ⟨u, rfl, u0, u1⟩, a2, s2⟩ := call_take g (σ := [some (.ref l), some (.tup (sD ns)), some (.lst (gD gs)), some (.int v), none, none, none, none, none]) n s1 hgpos rfl (hlenG _ _ rfl)
    obtain ⟨x, hg1, hgm⟩ := atI_ok (xs := gD gs) u0 u1
    obtain ⟨⟨r, a⟩, hra, rfl⟩ := List.mem_map.mp hgm
    have ha := (hg.2 _ hra).2
    obtain ⟨xs, S3, h3, hxl, hx, a3, s3⟩ := picks g n (σ := [some (.ref l), some (.tup (sD ns)), some (.lst (gD gs)), some (.int v), none, none, some (.str r), some (.int a), none]) (i := 1) (j := 8) (k := 7) s2 hn.1 (by simp) (by decide) (by decide) (by decide) (by simp only at ha; omega) rfl rfl rfl
    refine ⟨.inn r xs, S3, ?_, ⟨rfl, rfl, fun lev => ⟨by rw [hxl]; exact hra, hx⟩⟩, (a1.trans a2).trans a3, s3⟩
    exact x_fn (fn := fAtom I) g.atom rfl (b_cons (x_asg h1 rfl) (b_ret (x_if_t (r_and_t hc1 (decide_eq_true hb.1) hc2) (decide_eq_true hgpos) (b_cons (x_asg (r_idx (r_var rfl) h2 (idxV_lst hg1)) rfl) (b_ret (x_ret (r_tup (s_cons r_k (s_cons (r_var rfl) (s_cons h3 s_nil))) (tup_len (by simp)))))))))
  · have hcond : ev (callN T (n + 1)) [some (.ref l), some (.tup (sD ns)), some (.lst (gD gs)), some (.int v), none, none, none, none, none] (.and (.cmp .gt (.var 3) (.k (.int 5))) (.cmp .gt (.bi .len false (.cons (.var 2) .nil)) (.k (.int 0)))) true S1 = .ok (.bl false) S1 := by
      by_cases h5 : (5 : Int) < v
      · have hg0 : ¬ (0 : Int) < (gD gs).length := by rw [show (gD gs).length = gs.length from List.length_map _]; omega
        have := r_and_t hc1 (decide_eq_true h5) hc2
        rw [decide_eq_false hg0] at this
        exact this
      · exact r_and_f hc1 (decide_eq_false h5)
    obtain ⟨one, S2, h2, ho, a2, s2⟩ := pick_s g (σ := [some (.ref l), some (.tup (sD ns)), some (.lst (gD gs)), some (.int v), none, none, none, none, none]) (i := 1) n s1 hn.1 rfl rfl
    obtain ⟨other, S3, h3, hq, a3, s3⟩ := pick_s g (σ := [some (.ref l), some (.tup (sD ns)), some (.lst (gD gs)), some (.int v), some (.str one), none, none, none, none]) (i := 1) n s2 hn.1 rfl rfl
    have a13 := (a1.trans a2).trans a3
    have ce : ∀ k : Int, ev (callN T (n + 1)) [some (.ref l), some (.tup (sD ns)), some (.lst (gD gs)), some (.int v), some (.str one), some (.str other), none, none, none] (.cmp .eq (.var 3) (.k (.int k))) true S3 = .ok (.bl (decide (v = k))) S3 := fun k => r_cmp (r_var rfl) r_k (pyEq_int _ _)
    have head : ∀ {q : Q} {S' : Store} {bb : B}, evB (callN T (n + 1)) bb [some (.ref l), some (.tup (sD ns)), some (.lst (gD gs)), some (.int v), some (.str one), some (.str other), none, none, none] S3 = .ok (.ret q.toD) S' → bb = (.cons (.if_ (.cmp .eq (.var 3) (.k (.int 0))) (.cons (.ret (.tup (.cons (.k (.str "same")) (.cons (.var 4) (.cons (.var 5) .nil))))) .nil) .nil)
        (.cons (.if_ (.cmp .eq (.var 3) (.k (.int 1))) (.cons (.ret (.idx (.lst false (.cons (.tup (.cons (.k (.str "given")) (.cons (.k (.str "p")) (.cons (.tup .nil) .nil)))) (.cons (.tup (.cons (.k (.str "true")) .nil)) (.cons (.tup (.cons (.k (.str "false")) .nil)) (.cons (.tup (.cons (.k (.str "given")) (.cons (.k (.str "p")) (.cons (.tup .nil) .nil)))) .nil))))) (.call I.take .val (.cons (.var 0) (.cons (.k (.int 4)) .nil))))) .nil) .nil)
        (.cons (.if_ (.cmp .lt (.var 3) (.k (.int 5))) (.cons (.ret (.tup (.cons (.k (.str "given")) (.cons (.idx (.lst false (.cons (.k (.str "c")) (.cons (.k (.str "d")) .nil))) (.call I.take .val (.cons (.var 0) (.cons (.k (.int 2)) .nil)))) (.cons (.tup (.cons (.var 4) .nil)) .nil))))) .nil) .nil)
        (.cons (.ret (.tup (.cons (.k (.str "given")) (.cons (.k (.str "e")) (.cons (.tup (.cons (.var 4) (.cons (.var 5) .nil))) .nil))))) .nil)))) → callN T (n + 2) I.atom [.ref l, .tup (sD ns), .lst (gD gs)] S = .ok q.toD S' := fun {q S' bb} h e => by
      subst e
      exact x_fn (fn := fAtom I) g.atom rfl (b_cons (x_asg h1 rfl) (b_cons (x_if_f hcond rfl b_nil) (b_cons (x_asg h2 rfl) (b_cons (x_asg h3 rfl) h))))
    by_cases v0' : v = 0
    · exact ⟨.same one other, S3, head (b_ret (x_if_t (ce 0) (decide_eq_true v0') (b_ret (x_ret (r_tup (s_cons r_k (s_cons (r_var rfl) (s_cons (r_var rfl) s_nil))) (tup_len (by simp))))))) rfl, ⟨rfl, rfl, fun lev => ⟨ho, hq⟩⟩, a13, s3⟩
    · by_cases v1' : v = 1
      · obtain ⟨d, S4, h4, hd, a4, s4⟩ := pick_lst g (σ := [some (.ref l), some (.tup (sD ns)), some (.lst (gD gs)), some (.int v), some (.str one), some (.str other), none, none, none]) (xs := [.tup [.str "given", .str "p", .tup []], .tup [.str "true"], .tup [.str "false"], .tup [.str "given", .str "p", .tup []]]) (a := .lst false (.cons (.tup (.cons (.k (.str "given")) (.cons (.k (.str "p")) (.cons (.tup .nil) .nil)))) (.cons (.tup (.cons (.k (.str "true")) .nil)) (.cons (.tup (.cons (.k (.str "false")) .nil)) (.cons (.tup (.cons (.k (.str "given")) (.cons (.k (.str "p")) (.cons (.tup .nil) .nil)))) .nil))))) n s3 (by simp) (by simp) rfl
          (r_lst (s_cons (r_tup (s_cons r_k (s_cons r_k (s_cons (r_tup s_nil (tup_len (by simp))) s_nil))) (tup_len (by simp))) (s_cons (r_tup (s_cons r_k s_nil) (tup_len (by simp))) (s_cons (r_tup (s_cons r_k s_nil) (tup_len (by simp))) (s_cons (r_tup (s_cons r_k (s_cons r_k (s_cons (r_tup s_nil (tup_len (by simp))) s_nil))) (tup_len (by simp))) s_nil)))) (cold (by simp)))
        obtain ⟨q, rfl, hq2⟩ : ∃ q : Q, d = q.toD ∧ (q.sz = 1 ∧ q.dep = 0 ∧ ∀ lev, wf ns gs lev q) := by
          simp only [List.mem_cons, List.not_mem_nil, or_false] at hd
          rcases hd with rfl | rfl | rfl | rfl
          · exact ⟨.given "p" [], rfl, rfl, rfl, fun _ => ⟨.inl ⟨rfl, rfl⟩, fun _ h => by cases h⟩⟩
          · exact ⟨.tru, rfl, rfl, rfl, fun _ => trivial⟩
          · exact ⟨.fal, rfl, rfl, rfl, fun _ => trivial⟩
          · exact ⟨.given "p" [], rfl, rfl, rfl, fun _ => ⟨.inl ⟨rfl, rfl⟩, fun _ h => by cases h⟩⟩
        exact ⟨q, S4, head (b_cons (x_if_f (ce 0) (decide_eq_false v0') b_nil) (b_ret (x_if_t (ce 1) (decide_eq_true v1') (b_ret (x_ret h4))))) rfl, hq2, a13.trans a4, s4⟩
      · have cl : ev (callN T (n + 1)) [some (.ref l), some (.tup (sD ns)), some (.lst (gD gs)), some (.int v), some (.str one), some (.str other), none, none, none] (.cmp .lt (.var 3) (.k (.int 5))) true S3 = .ok (.bl (decide (v < 5))) S3 := r_cmp (r_var rfl) r_k rfl
        by_cases v5 : v < 5
        · obtain ⟨d, S4, h4, hd, a4, s4⟩ := pick_lst g (σ := [some (.ref l), some (.tup (sD ns)), some (.lst (gD gs)), some (.int v), some (.str one), some (.str other), none, none, none]) (xs := [.str "c", .str "d"]) (a := .lst false (.cons (.k (.str "c")) (.cons (.k (.str "d")) .nil))) n s3 (by simp) (by simp) rfl (r_lst (s_cons r_k (s_cons r_k s_nil)) (cold (by simp)))
          obtain ⟨r, rfl, hr⟩ : ∃ r : Str, d = .str r ∧ (r = "c" ∨ r = "d") := by
            simp only [List.mem_cons, List.not_mem_nil, or_false] at hd
            rcases hd with rfl | rfl
            · exact ⟨_, rfl, .inl rfl⟩
            · exact ⟨_, rfl, .inr rfl⟩
          exact ⟨.given r [one], S4, head (b_cons (x_if_f (ce 0) (decide_eq_false v0') b_nil) (b_cons (x_if_f (ce 1) (decide_eq_false v1') b_nil) (b_ret (x_if_t cl (decide_eq_true v5) (b_ret (x_ret (r_tup (s_cons r_k (s_cons h4 (s_cons (r_tup (s_cons (r_var rfl) s_nil) (tup_len (by simp))) s_nil))) (tup_len (by simp))))))))) rfl, ⟨rfl, rfl, fun lev => ⟨.inr (.inl ⟨hr, rfl⟩), fun x hx => by
            rw [List.mem_singleton.mp hx]; exact ho⟩⟩, a13.trans a4, s4⟩
        · exact ⟨.given "e" [one, other], S3, head (b_cons (x_if_f (ce 0) (decide_eq_false v0') b_nil) (b_cons (x_if_f (ce 1) (decide_eq_false v1') b_nil) (b_cons (x_if_f cl (decide_eq_false v5) b_nil) (b_ret (x_ret (r_tup (s_cons r_k (s_cons r_k (s_cons (r_tup (s_cons (r_var rfl) (s_cons (r_var rfl) s_nil)) (tup_len (by simp))) s_nil))) (tup_len (by simp)))))))) rfl, ⟨rfl, rfl, fun lev => ⟨.inr (.inr ⟨rfl, rfl⟩), fun x hx => by
            rcases List.mem_cons.mp hx with rfl | hx
            · exact ho
            · rw [List.mem_singleton.mp hx]; exact hq⟩⟩, a13, s3⟩
end Zg

/-! GD: parts of _law_grow. -/
namespace Zg
open PySem Z
variable {T : Nat → Option Fn} {I : Ids}
/-- a comprehension that keeps some of what it walks -/
theorem mapR_filt {α : Type} {k : α → D} {p : α → Bool} {f : D → Store → R (List D)} {S : Store} : ∀ {l : List α}, (∀ a ∈ l, f (k a) S = .ok (if p a then [k a] else []) S) → mapR f (l.map k) S = .ok ((l.filter p).map k) S
  | [], _ => rfl
  | a :: l, h => by
    have ih := mapR_filt (l := l) fun z hz => h z (List.mem_cons_of_mem _ hz)
    rw [List.map_cons]
    simp only [mapR]
    rw [h a List.mem_cons_self]
    simp only [R.ok_bind]
    rw [ih]
    simp only [R.ok_bind, List.filter_cons]
    cases p a <;> rfl
/-- the slots of _law_grow -/
abbrev gE (l : Nat) (d lev : Int) (ns : List Str) (gs : List (Str × Nat)) (r5 r6 r7 r8 r9 r10 r11 r12 r13 r14 r15 : Option D) : Z.Env :=
  [some (.ref l), some (.int d), some (.int lev), some (.tup (sD ns)), some (.lst (gD gs)), r5, r6, r7, r8, r9, r10, r11, r12, r13, r14, r15, none, none, none]
def xyz (i : Int) : Str := if i % 3 = 0 then "x" else if i % 3 = 1 then "y" else "z"
theorem xyz_at (i : Int) : L2.atI [D.str "x", .str "y", .str "z"] (i % 3) = some (.str (xyz i)) := by
  have h0 : 0 ≤ i % 3 := Int.emod_nonneg _ (by decide)
  have h1 : i % 3 < 3 := Int.emod_lt_of_pos _ (by decide)
  unfold xyz
  by_cases a : i % 3 = 0
  · rw [if_pos a, a]; exact at0 _ _
  · by_cases b : i % 3 = 1
    · rw [if_neg a, if_pos b, b]; exact atN _ 1 _ rfl
    · have c : i % 3 = 2 := by omega
      rw [if_neg a, if_neg b, c]; exact atN _ 2 _ rfl
theorem xyz_mem (i : Int) : xyz i ∈ BN := by
  unfold xyz BN
  split
  · simp
  · split <;> simp
theorem xyz_ne (i : Int) : xyz i ≠ xyz (i + 1) := by
  have h0 : 0 ≤ i % 3 := Int.emod_nonneg _ (by decide)
  have h1 : i % 3 < 3 := Int.emod_lt_of_pos _ (by decide)
  have e : (i + 1) % 3 = (i % 3 + 1) % 3 := by omega
  unfold xyz
  rw [e]
  have h2 : i % 3 = 0 ∨ i % 3 = 1 ∨ i % 3 = 2 := by omega
  rcases h2 with h | h | h <;> rw [h] <;> decide
theorem g_bound (C : CallT) {σ : Z.Env} {S : Store} (m : Nat) (v : Int) (hm : m ≤ 2) (hl : σ.length = 19) (e6 : σ[6]? = some (some (.int m))) (e7 : σ[7]? = some (some (.int v))) :
    ∃ bs : List Str, bs.length = m ∧ (∀ b ∈ bs, b ∈ BN) ∧ bs.Nodup ∧ ev C σ (.bi .tuple false (.cons (.lc false [16] (.idx (.lst false (.cons (.k (.str "x")) (.cons (.k (.str "y")) (.cons (.k (.str "z")) .nil)))) (.bin .mod false (.bi .int false (.cons (.bin .add false (.var 7) (.var 16)) .nil)) (.k (.int 3)))) (.nm 16) (.rng (.cons (.var 6) .nil)) .nil) .nil)) false S = .ok (.tup (sD bs)) S := by
  have hrng : rngOf [.int (m : Int)] = some (rngV 0 m) := by
    have : small62 (m : Int) = true := by simp only [small62, Bool.and_eq_true, decide_eq_true_eq]; omega
    simp only [rngOf, this, if_true]
    simp
  have hmp := mapR_map (S := S) (l := List.range m) (k := fun i : Nat => D.int (0 + (i : Int))) (g := fun i : Nat => D.str (xyz (v + (0 + (i : Int))))) (f := fun d S2 => match asg (.nm 16) d (wipeE σ [16]) with
      | some σ1 => (evC C σ1 .nil S2).bind fun b S3 => if b then (ev C σ1 (.idx (.lst false (.cons (.k (.str "x")) (.cons (.k (.str "y")) (.cons (.k (.str "z")) .nil)))) (.bin .mod false (.bi .int false (.cons (.bin .add false (.var 7) (.var 16)) .nil)) (.k (.int 3)))) false S3).bind fun y S4 => .ok [y] S4 else .ok [] S3
      | none => .bad) fun i hi => by
    have ha : asg (.nm 16) (.int (0 + (i : Int))) (wipeE σ [16]) = some ((σ.set 16 none).set 16 (some (.int (0 + (i : Int))))) := by simp [asg, wipeE, hl]
    have g7 : ((σ.set 16 none).set 16 (some (D.int (0 + (i : Int)))))[7]? = some (some (.int v)) := by simp [e7]
    have g16 : ((σ.set 16 none).set 16 (some (D.int (0 + (i : Int)))))[16]? = some (some (.int (0 + (i : Int)))) := by simp [hl]
    have he : ev C ((σ.set 16 none).set 16 (some (.int (0 + (i : Int))))) (.idx (.lst false (.cons (.k (.str "x")) (.cons (.k (.str "y")) (.cons (.k (.str "z")) .nil)))) (.bin .mod false (.bi .int false (.cons (.bin .add false (.var 7) (.var 16)) .nil)) (.k (.int 3)))) false S = .ok (.str (xyz (v + (0 + (i : Int))))) S :=
      r_idx (r_lst (s_cons r_k (s_cons r_k (s_cons r_k s_nil))) (cold (by simp))) (r_bin (r_bi (s_cons (r_bin (r_var g7) (r_var g16) binV_add) s_nil) biV_int) r_k (binV_mod (by decide))) (idxV_lst (xyz_at _))
    simp only [ha, evC, R.ok_bind, if_true, he]
  have hre : (List.range m).map (fun i : Nat => D.str (xyz (v + (0 + (i : Int))))) = sD ((List.range m).map fun i : Nat => xyz (v + (0 + (i : Int)))) := by
    unfold sD
    rw [List.map_map]
    rfl
  rw [hre] at hmp
  refine ⟨(List.range m).map fun i : Nat => xyz (v + (0 + (i : Int))), by simp, fun b hb => ?_, ?_, r_bi (s_cons (r_lc (i_rng (s_cons (r_var e6) s_nil) hrng) hmp (cold (by simp; omega))) s_nil) rfl⟩
  · obtain ⟨i, _, rfl⟩ := List.mem_map.mp hb
    exact xyz_mem _
  · have h2 : m = 0 ∨ m = 1 ∨ m = 2 := by omega
    rcases h2 with h | h | h <;> subst h
    · simp
    · simp [List.range_succ]
    · have := xyz_ne v
      simp [List.range_succ]
      exact this
theorem g_around (C : CallT) {σ : Z.Env} {S : Store} {ns ys : List Str} (hnl : ns.length + ys.length ≤ 1000) (hl : σ.length = 19) (e3 : σ[3]? = some (some (.tup (sD ns)))) (e8 : σ[8]? = some (some (.tup (sD ys)))) :
    ev C σ (.bin .add false (.var 3) (.bi .tuple false (.cons (.lc false [18] (.var 18) (.nm 18) (.seq (.var 8)) (.cons (.cmp .notin (.var 18) (.var 3)) .nil)) .nil))) false S = .ok (.tup (sD (ns ++ ys.filter fun y => decide (y ∉ ns)))) S := by
  have hmp := mapR_filt (S := S) (k := D.str) (p := fun y => decide (y ∉ ns)) (l := ys) (f := fun d S2 => match asg (.nm 18) d (wipeE σ [18]) with
      | some σ1 => (evC C σ1 (.cons (.cmp .notin (.var 18) (.var 3)) .nil) S2).bind fun b S3 => if b then (ev C σ1 (.var 18) false S3).bind fun y S4 => .ok [y] S4 else .ok [] S3
      | none => .bad) fun s hs => by
    have ha : asg (.nm 18) (.str s) (wipeE σ [18]) = some ((σ.set 18 none).set 18 (some (.str s))) := by simp [asg, wipeE, hl]
    have g3 : ((σ.set 18 none).set 18 (some (D.str s)))[3]? = some (some (.tup (sD ns))) := by simp [e3]
    have g18 : ((σ.set 18 none).set 18 (some (D.str s)))[18]? = some (some (.str s)) := by simp [hl]
    have h1 := r_cmp (C := C) (t := true) (r_var (S := S) g18) (r_var g3) (cmp_notin (in_sD s ns S))
    have h2 := r_var (C := C) (S := S) g18
    by_cases h : s ∈ ns
    · simp only [ha, evC, h1, R.ok_bind, h, decide_true, Bool.not_true, Bool.false_eq_true, if_false, not_true_eq_false, decide_false]
    · simp only [ha, evC, h1, R.ok_bind, h, decide_false, Bool.not_false, if_true, h2, not_false_eq_true, decide_true]
  have hle := List.length_filter_le (fun y => decide (y ∉ ns)) ys
  have e : sD ns ++ (ys.filter fun y => decide (y ∉ ns)).map D.str = sD (ns ++ ys.filter fun y => decide (y ∉ ns)) := by simp
  rw [← e]
  exact r_bin (r_var e3) (r_bi (s_cons (r_lc (i_seq (r_var e8) rfl) hmp (cold (by rw [List.length_map]; omega))) s_nil) rfl) (binV_tupA (by rw [List.length_map, List.length_map]; omega))
theorem g_known (C : CallT) {σ : Z.Env} {S : Store} {gs : List (Str × Nat)} {r : Str} {m : Nat} (hg : GS gs) (hr : PyData.strOk r = true) (hl : σ.length = 19) (e4 : σ[4]? = some (some (.lst (gD gs)))) (e5 : σ[5]? = some (some (.str r))) (e6 : σ[6]? = some (some (.int m))) :
    ev C σ (.bin .add false (.lc false [17] (.var 17) (.nm 17) (.seq (.var 4)) (.cons (.cmp .ne (.idx (.var 17) (.k (.int 0))) (.var 5)) .nil)) (.lst false (.cons (.tup (.cons (.var 5) (.cons (.var 6) .nil))) .nil))) false S = .ok (.lst (gD ((gs.filter fun g => decide (g.1 ≠ r)) ++ [(r, m)]))) S := by
  have hmp := mapR_filt (S := S) (k := fun g : Str × Nat => D.tup [.str g.1, .int (g.2 : Nat)]) (p := fun g => decide (g.1 ≠ r)) (l := gs) (f := fun d S2 => match asg (.nm 17) d (wipeE σ [17]) with
      | some σ1 => (evC C σ1 (.cons (.cmp .ne (.idx (.var 17) (.k (.int 0))) (.var 5)) .nil) S2).bind fun b S3 => if b then (ev C σ1 (.var 17) false S3).bind fun y S4 => .ok [y] S4 else .ok [] S3
      | none => .bad) fun x hx => by
    have hs := (hg.2 x hx).1
    have ha : asg (.nm 17) (.tup [.str x.1, .int (x.2 : Nat)]) (wipeE σ [17]) = some ((σ.set 17 none).set 17 (some (.tup [.str x.1, .int (x.2 : Nat)]))) := by simp [asg, wipeE, hl]
    have g5 : ((σ.set 17 none).set 17 (some (D.tup [.str x.1, .int (x.2 : Nat)])))[5]? = some (some (.str r)) := by simp [e5]
    have g17 : ((σ.set 17 none).set 17 (some (D.tup [.str x.1, .int (x.2 : Nat)])))[17]? = some (some (.tup [.str x.1, .int (x.2 : Nat)])) := by simp [hl]
    have h1 := r_cmp (C := C) (t := true) (r_idx (r_var (S := S) g17) r_k (idxV_tup (at0 _ _))) (r_var g5) (ne_str hs hr S)
    have h2 := r_var (C := C) (S := S) g17
    by_cases h : x.1 = r
    · rw [decide_eq_true h] at h1
      have hp : decide (x.1 ≠ r) = false := decide_eq_false fun z => z h
      simp only [ha, evC, h1, R.ok_bind, Bool.not_true, Bool.false_eq_true, if_false, hp]
    · rw [decide_eq_false h] at h1
      have hp : decide (x.1 ≠ r) = true := decide_eq_true h
      simp only [ha, evC, h1, R.ok_bind, Bool.not_false, if_true, h2, hp]
  have hle := List.length_filter_le (fun g : Str × Nat => decide (g.1 ≠ r)) gs
  have hg1 := hg.1
  have e : gD (gs.filter fun g => decide (g.1 ≠ r)) ++ [D.tup [.str r, .int (m : Nat)]] = gD ((gs.filter fun g => decide (g.1 ≠ r)) ++ [(r, m)]) := by simp
  rw [← e]
  exact r_bin (r_lc (i_seq (r_var e4) rfl) hmp (cold (by rw [List.length_map]; omega))) (r_lst (s_cons (r_tup (s_cons (r_var e5) (s_cons (r_var e6) s_nil)) (tup_len (by simp))) s_nil) (cold (by simp))) (binV_lstA (by rw [List.length_append, List.length_map]; simp only [List.length_cons, List.length_nil]; omega))
end Zg

/-! GE: the step that _law_grow puts beside the definition. -/
namespace Zg
open PySem Z
variable {T : Nat → Option Fn} {I : Ids}
theorem cut_tail {α : Type} (a : α) (r : List α) : cut (a :: r) (some 1) none = r := by
  unfold cut
  have h1 : HT.sIx (a :: r).length 0 (some 1) = 1 := by simp [HT.sIx]
  have h2 : HT.sIx (a :: r).length (a :: r).length none = (a :: r).length := by simp [HT.sIx]
  rw [h1, h2]
  simp
def gIf (I : Ids) : Z.S := (.if_ (.and (.cmp .gt (.var 6) (.k (.int 0))) (.cmp .gt (.var 12) (.k (.int 1)))) (.cons (.asg (.nm 13) (.tup (.cons (.k (.str "in")) (.cons (.var 5) (.cons (.bin .add false (.tup (.cons (.k (.str "v1")) .nil)) (.slc false (.var 8) (.cons (.k (.int 1)) .nil) .nil)) .nil)))))
  (.cons (.if_ (.cmp .eq (.bin .mod false (.bi .int false (.cons (.var 12) .nil)) (.k (.int 2))) (.k (.int 1))) (.cons (.asg (.nm 13) (.tup (.cons (.k (.str "not")) (.cons (.var 13) .nil)))) .nil) .nil)
  (.cons (.asg (.nm 14) (.tup (.cons (.k (.str "given")) (.cons (.k (.str "e")) (.cons (.idx (.lst false (.cons (.tup (.cons (.k (.str "v1")) (.cons (.idx (.var 8) (.k (.int 0))) .nil))) (.cons (.tup (.cons (.idx (.var 8) (.k (.int 0))) (.cons (.k (.str "v1")) .nil))) .nil))) (.call I.take .val (.cons (.var 0) (.cons (.k (.int 2)) .nil)))) .nil)))))
  (.cons (.asg (.nm 15) (.tup (.cons (.k (.str "some")) (.cons (.k (.str "v1")) (.cons (.tup (.cons (.k (.str "and")) (.cons (.var 14) (.cons (.var 13) .nil)))) .nil)))))
  (.cons (.if_ (.cmp .gt (.var 12) (.k (.int 5))) (.cons (.asg (.nm 15) (.tup (.cons (.k (.str "all")) (.cons (.k (.str "v1")) (.cons (.tup (.cons (.k (.str "or")) (.cons (.tup (.cons (.k (.str "not")) (.cons (.var 14) .nil))) (.cons (.var 13) .nil)))) .nil))))) .nil) .nil)
  (.cons (.asg (.nm 11) (.tup (.cons (.idx (.lst false (.cons (.k (.str "or")) (.cons (.k (.str "and")) .nil))) (.bi .int false (.cons (.cmp .gt (.var 12) (.k (.int 7))) .nil))) (.cons (.var 11) (.cons (.var 15) .nil))))) .nil)))))) .nil)
theorem g_if (g : Gen T I) (n : Nat) {ds : List Int} {l : Nat} {S : Store} {d lev : Int} {ns : List Str} {gs : List (Str × Nat)} {bs : List Str} {r : Str} {m : Nat} {q : Q} {c : Int} {r7 r9 r10 : Option D} (hs : At ds l S) (hbl : bs.length = m) (hm : m ≤ 2) :
    ∃ (b : Q) (S' : Store) (x13 x14 x15 : Option D), evS (callN T (n + 2)) (gIf I) (gE l d lev ns gs (some (.str r)) (some (.int m)) r7 (some (.tup (sD bs))) r9 r10 (some q.toD) (some (.int c)) none none none) S
      = .ok (.nx (gE l d lev ns gs (some (.str r)) (some (.int m)) r7 (some (.tup (sD bs))) r9 r10 (some b.toD) (some (.int c)) x13 x14 x15)) S' ∧ (∀ ms hs lv, (∀ x ∈ bs, x ∈ ms) → (r, m) ∈ hs → wf ms hs lv q → wf ms hs lv b) ∧ b.dep ≤ max q.dep 3 + 1 ∧ b.sz ≤ q.sz + 7 ∧ Adv ds l S S' ∧ At ds l S' := by
  obtain ⟨hd, cc, hc⟩ := id hs
  have c1 : ev (callN T (n + 2)) (gE l d lev ns gs (some (.str r)) (some (.int m)) r7 (some (.tup (sD bs))) r9 r10 (some q.toD) (some (.int c)) none none none) (.cmp .gt (.var 6) (.k (.int 0))) true S = .ok (.bl (decide ((0 : Int) < m))) S := r_cmp (r_var rfl) r_k rfl
  have c2 : ev (callN T (n + 2)) (gE l d lev ns gs (some (.str r)) (some (.int m)) r7 (some (.tup (sD bs))) r9 r10 (some q.toD) (some (.int c)) none none none) (.cmp .gt (.var 12) (.k (.int 1))) true S = .ok (.bl (decide ((1 : Int) < c))) S := r_cmp (r_var rfl) r_k rfl
  by_cases h1 : (0 : Int) < m
  · by_cases h2 : (1 : Int) < c
    · obtain ⟨s0, br, rfl⟩ : ∃ y0 yr, bs = y0 :: yr := by
        cases bs with
        | nil => simp at hbl; omega
        | cons y0 yr => exact ⟨y0, yr, rfl⟩
      have hbr : br.length ≤ 10 := by simp at hbl; omega
      have hcut : slcV false (.tup (sD (s0 :: br))) (some 1) none S = .ok (.tup (sD br)) S := by
        show R.ok (D.tup (cut (D.str s0 :: sD br) (some 1) none)) S = _
        rw [cut_tail]
      have st1 : evS (callN T (n + 2)) (.asg (.nm 13) (.tup (.cons (.k (.str "in")) (.cons (.var 5) (.cons (.bin .add false (.tup (.cons (.k (.str "v1")) .nil)) (.slc false (.var 8) (.cons (.k (.int 1)) .nil) .nil)) .nil))))) (gE l d lev ns gs (some (.str r)) (some (.int m)) r7 (some (.tup (sD (s0 :: br)))) r9 r10 (some q.toD) (some (.int c)) none none none) S
          = .ok (.nx (gE l d lev ns gs (some (.str r)) (some (.int m)) r7 (some (.tup (sD (s0 :: br)))) r9 r10 (some q.toD) (some (.int c)) (some (Q.inn r ("v1" :: br)).toD) none none)) S :=
        x_asg (r_tup (s_cons r_k (s_cons (r_var rfl) (s_cons (r_bin (r_tup (s_cons r_k s_nil) (tup_len (by simp))) (r_slc (r_var rfl) (o_one r_k) o_nil hcut) (binV_tupA (by simp; omega))) s_nil))) (tup_len (by simp))) rfl
      obtain ⟨A, st2, wA, dA, zA⟩ : ∃ A : Q, evS (callN T (n + 2)) (.if_ (.cmp .eq (.bin .mod false (.bi .int false (.cons (.var 12) .nil)) (.k (.int 2))) (.k (.int 1))) (.cons (.asg (.nm 13) (.tup (.cons (.k (.str "not")) (.cons (.var 13) .nil)))) .nil) .nil) (gE l d lev ns gs (some (.str r)) (some (.int m)) r7 (some (.tup (sD (s0 :: br)))) r9 r10 (some q.toD) (some (.int c)) (some (Q.inn r ("v1" :: br)).toD) none none) S
          = .ok (.nx (gE l d lev ns gs (some (.str r)) (some (.int m)) r7 (some (.tup (sD (s0 :: br)))) r9 r10 (some q.toD) (some (.int c)) (some A.toD) none none)) S ∧ (∀ ms hs lv, (∀ x ∈ s0 :: br, x ∈ ms) → (r, m) ∈ hs → wf ("v1" :: ms) hs lv A) ∧ A.dep ≤ 1 ∧ A.sz ≤ 2 := by
        have cnd : ev (callN T (n + 2)) (gE l d lev ns gs (some (.str r)) (some (.int m)) r7 (some (.tup (sD (s0 :: br)))) r9 r10 (some q.toD) (some (.int c)) (some (Q.inn r ("v1" :: br)).toD) none none) (.cmp .eq (.bin .mod false (.bi .int false (.cons (.var 12) .nil)) (.k (.int 2))) (.k (.int 1))) true S = .ok (.bl (decide (c % 2 = 1))) S := r_cmp (r_bin (r_bi (s_cons (r_var rfl) s_nil) biV_int) r_k (binV_mod (by decide))) r_k (pyEq_int _ _)
        have w0 : ∀ ms hs lv, (∀ x ∈ s0 :: br, x ∈ ms) → (r, m) ∈ hs → wf ("v1" :: ms) hs lv (.inn r ("v1" :: br)) := fun ms hs lv hx hr => by
          refine ⟨?_, fun x h => ?_⟩
          · have e : ("v1" :: br : List Str).length = m := by rw [← hbl]; rfl
            rw [e]; exact hr
          · rcases List.mem_cons.mp h with rfl | h
            · exact List.mem_cons_self
            · exact List.mem_cons_of_mem _ (hx x (List.mem_cons_of_mem _ h))
        by_cases h : c % 2 = 1
        · exact ⟨.not (.inn r ("v1" :: br)), x_if_t cnd (decide_eq_true h) (b_cons (x_asg (r_tup (s_cons r_k (s_cons (r_var rfl) s_nil)) (tup_len (by simp))) rfl) b_nil), w0, by simp [Q.dep], by simp [Q.sz]⟩
        · exact ⟨.inn r ("v1" :: br), x_if_f cnd (decide_eq_false h) b_nil, w0, by simp [Q.dep], by simp [Q.sz]⟩
      obtain ⟨pk, S2, h3, hpk, a3, s3⟩ := pick_lst g (σ := gE l d lev ns gs (some (.str r)) (some (.int m)) r7 (some (.tup (sD (s0 :: br)))) r9 r10 (some q.toD) (some (.int c)) (some A.toD) none none) (xs := [.tup (sD ["v1", s0]), .tup (sD [s0, "v1"])]) (a := .lst false (.cons (.tup (.cons (.k (.str "v1")) (.cons (.idx (.var 8) (.k (.int 0))) .nil))) (.cons (.tup (.cons (.idx (.var 8) (.k (.int 0))) (.cons (.k (.str "v1")) .nil))) .nil))) (n + 1) hs (by simp) (by simp) rfl
        (r_lst (s_cons (r_tup (s_cons r_k (s_cons (r_idx (r_var rfl) r_k (idxV_tup (at0 _ _))) s_nil)) (tup_len (by simp))) (s_cons (r_tup (s_cons (r_idx (r_var rfl) r_k (idxV_tup (at0 _ _))) (s_cons r_k s_nil)) (tup_len (by simp))) s_nil)) (cold (by simp)))
      obtain ⟨ps, rfl, wps, lps⟩ : ∃ ps : List Str, pk = .tup (sD ps) ∧ (∀ x ∈ ps, x = "v1" ∨ x = s0) ∧ ps.length = 2 := by
        simp only [List.mem_cons, List.not_mem_nil, or_false] at hpk
        rcases hpk with rfl | rfl
        · exact ⟨_, rfl, fun x h => by simpa using h, rfl⟩
        · exact ⟨_, rfl, fun x h => by simpa [or_comm] using h, rfl⟩
      have wL : ∀ ms hs lv, (∀ x ∈ s0 :: br, x ∈ ms) → wf ("v1" :: ms) hs lv (.given "e" ps) := fun ms hs lv hx => ⟨.inr (.inr ⟨rfl, lps⟩), fun x h => by
        rcases wps x h with rfl | rfl
        · exact List.mem_cons_self
        · exact List.mem_cons_of_mem _ (hx _ List.mem_cons_self)⟩
      have vV : ("v1" : Str) ∈ VN := by simp [VN]
      have c5 : ∀ x15, ev (callN T (n + 2)) (gE l d lev ns gs (some (.str r)) (some (.int m)) r7 (some (.tup (sD (s0 :: br)))) r9 r10 (some q.toD) (some (.int c)) (some A.toD) (some (Q.given "e" ps).toD) x15) (.cmp .gt (.var 12) (.k (.int 5))) true S2 = .ok (.bl (decide ((5 : Int) < c))) S2 := fun _ => r_cmp (r_var rfl) r_k rfl
      obtain ⟨P, st5, wP, dP, zP⟩ : ∃ P : Q, evS (callN T (n + 2)) (.if_ (.cmp .gt (.var 12) (.k (.int 5))) (.cons (.asg (.nm 15) (.tup (.cons (.k (.str "all")) (.cons (.k (.str "v1")) (.cons (.tup (.cons (.k (.str "or")) (.cons (.tup (.cons (.k (.str "not")) (.cons (.var 14) .nil))) (.cons (.var 13) .nil)))) .nil))))) .nil) .nil) (gE l d lev ns gs (some (.str r)) (some (.int m)) r7 (some (.tup (sD (s0 :: br)))) r9 r10 (some q.toD) (some (.int c)) (some A.toD) (some (Q.given "e" ps).toD) (some (Q.qu true "v1" (.bi true (.given "e" ps) A)).toD)) S2
          = .ok (.nx (gE l d lev ns gs (some (.str r)) (some (.int m)) r7 (some (.tup (sD (s0 :: br)))) r9 r10 (some q.toD) (some (.int c)) (some A.toD) (some (Q.given "e" ps).toD) (some P.toD))) S2 ∧ (∀ ms hs lv, (∀ x ∈ s0 :: br, x ∈ ms) → (r, m) ∈ hs → wf ms hs lv P) ∧ P.dep ≤ 3 ∧ P.sz ≤ 6 := by
        by_cases h : (5 : Int) < c
        · exact ⟨.qu false "v1" (.bi false (.not (.given "e" ps)) A), x_if_t (c5 _) (decide_eq_true h) (b_cons (x_asg (r_tup (s_cons r_k (s_cons r_k (s_cons (r_tup (s_cons r_k (s_cons (r_tup (s_cons r_k (s_cons (r_var rfl) s_nil)) (tup_len (by simp))) (s_cons (r_var rfl) s_nil))) (tup_len (by simp))) s_nil))) (tup_len (by simp))) rfl) b_nil), fun ms hs lv hx hr => ⟨vV, wL ms hs lv hx, wA ms hs lv hx hr⟩, by simp only [Q.dep]; omega, by simp only [Q.sz]; omega⟩
        · exact ⟨.qu true "v1" (.bi true (.given "e" ps) A), x_if_f (c5 _) (decide_eq_false h) b_nil, fun ms hs lv hx hr => ⟨vV, wL ms hs lv hx, wA ms hs lv hx hr⟩, by simp only [Q.dep]; omega, by simp only [Q.sz]; omega⟩
      have c7 : ev (callN T (n + 2)) (gE l d lev ns gs (some (.str r)) (some (.int m)) r7 (some (.tup (sD (s0 :: br)))) r9 r10 (some q.toD) (some (.int c)) (some A.toD) (some (Q.given "e" ps).toD) (some P.toD)) (.cmp .gt (.var 12) (.k (.int 7))) false S2 = .ok (.bl (decide ((7 : Int) < c))) S2 := r_cmp (r_var rfl) r_k rfl
      have hidx : L2.atI [D.str "or", .str "and"] (if decide ((7 : Int) < c) = true then 1 else 0) = some (.str (if decide ((7 : Int) < c) = true then "and" else "or")) := by
        cases decide ((7 : Int) < c) with
        | true => exact atN _ 1 _ rfl
        | false => exact at0 _ _
      exact ⟨.bi (decide ((7 : Int) < c)) q P, S2, _, _, _, x_if_t (r_and_t c1 (decide_eq_true h1) c2) (decide_eq_true h2) (b_cons st1 (b_cons st2 (b_cons (x_asg (r_tup (s_cons r_k (s_cons r_k (s_cons h3 s_nil))) (tup_len (by simp))) rfl) (b_cons (x_asg (r_tup (s_cons r_k (s_cons r_k (s_cons (r_tup (s_cons r_k (s_cons (r_var rfl) (s_cons (r_var rfl) s_nil))) (tup_len (by simp))) s_nil))) (tup_len (by simp))) rfl) (b_cons st5 (b_cons (x_asg (r_tup (s_cons (r_idx (r_lst (s_cons r_k (s_cons r_k s_nil)) (cold (by simp))) (r_bi (s_cons c7 s_nil) rfl) (idxV_lst hidx)) (s_cons (r_var rfl) (s_cons (r_var rfl) s_nil))) (tup_len (by simp))) rfl) b_nil)))))),
        fun ms hs lv hx hr hq => ⟨hq, wP ms hs lv hx hr⟩, by simp only [Q.dep]; omega, by simp only [Q.sz]; omega, a3, s3⟩
    · exact ⟨q, S, none, none, none, x_if_f (r_and_t c1 (decide_eq_true h1) c2) (decide_eq_false h2) b_nil, fun _ _ _ _ _ h => h, by omega, by omega, adv_self hc, hs⟩
  · exact ⟨q, S, none, none, none, x_if_f (r_and_f c1 (decide_eq_false h1)) rfl b_nil, fun _ _ _ _ _ h => h, by omega, by omega, adv_self hc, hs⟩
end Zg

/-! GF: drawn questions and grow-parts. -/
namespace Zg
open PySem Z
variable {T : Nat → Option Fn} {I : Ids}
def QP (ns : List Str) (gs : List (Str × Nat)) (lev d : Nat) (q : Q) : Prop := wf ns gs lev q ∧ q.dep ≤ 5 * d ∧ q.sz + 8 ≤ 9 * 2 ^ d
def QQ (T : Nat → Option Fn) (I : Ids) (d n : Nat) : Prop := ∀ {ds : List Int} {l : Nat} {S : Store} {ns : List Str} {gs : List (Str × Nat)} (lev : Nat), At ds l S → NS ns → ns.length + 4 * d ≤ 100 → GS gs → gs.length + 2 * d ≤ 50 →
  Draws T I.quest n [.ref l, .int (d : Nat), .int (lev : Nat), .tup (sD ns), .lst (gD gs)] ds l S (QP ns gs lev d)
def QG (T : Nat → Option Fn) (I : Ids) (d n : Nat) : Prop := ∀ {ds : List Int} {l : Nat} {S : Store} {ns : List Str} {gs : List (Str × Nat)} (lev : Nat), At ds l S → NS ns → ns.length + 4 * d ≤ 100 → GS gs → gs.length + 2 * d ≤ 50 → 0 < lev →
  Draws T I.grow n [.ref l, .int (d : Nat), .int (lev : Nat), .tup (sD ns), .lst (gD gs)] ds l S fun q => QP ns gs lev d q ∧ ∃ r bs p ts, q = .grow r bs p ts
theorem call_q {f n : Nat} {q : Q} {ds : List Int} {l : Nat} {S S' : Store} {σ : Z.Env} {es : Es} {as : List D} (he : evs (callN T n) σ es S = .ok as S) (h : callN T n f as S = .ok q.toD S') (ha : Adv ds l S S') :
    ev (callN T n) σ (.call f .val es) false S = .ok q.toD S' := r_call he h (endV_qa ha)
theorem pow_le (d : Nat) : 9 ≤ 9 * 2 ^ d := by have := Nat.one_le_two_pow (n := d); omega
theorem sub1 {k : Nat} {S : Store} : binV .sub false (.int ((k + 1 : Nat) : Int)) (.int 1) S = .ok (.int (k : Nat)) S := by
  have hkd : (((k + 1 : Nat) : Int)) - 1 = (k : Int) := by omega
  show R.ok (D.int (((k + 1 : Nat) : Int) - 1)) S = _
  rw [hkd]
theorem question_step (g : Gen T I) (d n : Nat) (hq : ∀ k, d = k + 1 → QQ T I k (n + 2)) (hg : ∀ k, d = k + 1 → QG T I d (n + 2)) : QQ T I d (n + 3) := by
  intro ds l S ns gs lev hs hn hnl hgs hgl
  obtain ⟨_, S1, h1, ⟨v, rfl, v0, v1⟩, a1, s1⟩ := call_take g (σ := startE (fQuest I) [.ref l, .int (d : Nat), .int (lev : Nat), .tup (sD ns), .lst (gD gs)]) (e := .k (.int 10)) (many := 10) (n + 1) hs (by decide) rfl r_k
  have c1 : ∀ S, ev (callN T (n + 2)) [some (.ref l), some (.int (d : Nat)), some (.int (lev : Nat)), some (.tup (sD ns)), some (.lst (gD gs)), some (.int v), none, none, none] (.cmp .eq (.var 1) (.k (.int 0))) true S = .ok (.bl (decide ((d : Int) = 0))) S := fun S => r_cmp (r_var rfl) r_k (pyEq_int _ _)
  have c2 : ∀ (k : Int) S, ev (callN T (n + 2)) [some (.ref l), some (.int (d : Nat)), some (.int (lev : Nat)), some (.tup (sD ns)), some (.lst (gD gs)), some (.int v), none, none, none] (.cmp .lt (.var 5) (.k (.int k))) true S = .ok (.bl (decide (v < k))) S := fun k S => r_cmp (r_var rfl) r_k rfl
  have c3 : ∀ (k : Int) S, ev (callN T (n + 2)) [some (.ref l), some (.int (d : Nat)), some (.int (lev : Nat)), some (.tup (sD ns)), some (.lst (gD gs)), some (.int v), none, none, none] (.cmp .eq (.var 5) (.k (.int k))) true S = .ok (.bl (decide (v = k))) S := fun k S => r_cmp (r_var rfl) r_k (pyEq_int _ _)
  have p9 := pow_le d
  by_cases hb : (d : Int) = 0 ∨ v < 2
  · obtain ⟨q, S2, h2, ⟨z1, d1, w1⟩, a2, s2⟩ := atom g n s1 hn hgs
    have hc := call_q (σ := [some (.ref l), some (.int (d : Nat)), some (.int (lev : Nat)), some (.tup (sD ns)), some (.lst (gD gs)), some (.int v), none, none, none]) (s_cons (r_var (i := 0) rfl) (s_cons (r_var (i := 3) rfl) (s_cons (r_var (i := 4) rfl) s_nil))) h2 a2
    refine ⟨q, S2, x_fn (fn := fQuest I) g.quest rfl (b_cons (x_asg h1 rfl) ?_), ⟨w1 lev, by omega, by omega⟩, a1.trans a2, s2⟩
    by_cases h0 : (d : Int) = 0
    · exact b_ret (x_if_t (r_or_t (c1 _) (decide_eq_true h0)) rfl (b_ret (x_ret hc)))
    · exact b_ret (x_if_t (r_or_f (c1 _) (decide_eq_false h0) (c2 2 _)) (decide_eq_true (hb.resolve_left h0)) (b_ret (x_ret hc)))
  · have h0 : ¬ (d : Int) = 0 := fun h => hb (.inl h)
    have h2' : ¬ v < 2 := fun h => hb (.inr h)
    obtain ⟨k, rfl⟩ : ∃ k, d = k + 1 := ⟨d - 1, by omega⟩
    have hq' : QQ T I k (n + 2) := hq k rfl
    have pw : 9 * 2 ^ (k + 1) = 9 * 2 ^ k + 9 * 2 ^ k := by rw [Nat.pow_succ]; omega
    have pk := pow_le k
    have cA := r_or_f (c1 S1) (decide_eq_false h0) (c2 2 S1)
    by_cases hv2 : v = 2
    · obtain ⟨q, S2, h2, ⟨w, dq, zq⟩, a2, s2⟩ := hq' lev s1 hn (by omega) hgs (by omega)
      have hc := call_q (f := I.quest) (σ := [some (.ref l), some (.int (k + 1 : Nat)), some (.int (lev : Nat)), some (.tup (sD ns)), some (.lst (gD gs)), some (.int v), none, none, none]) (s_cons (r_var (i := 0) rfl) (s_cons (r_bin (r_var (i := 1) rfl) r_k sub1) (s_cons (r_var (i := 2) rfl) (s_cons (r_var (i := 3) rfl) (s_cons (r_var (i := 4) rfl) s_nil))))) h2 a2
      exact ⟨.not q, S2, x_fn (fn := fQuest I) g.quest rfl (b_cons (x_asg h1 rfl) (b_cons (x_if_f cA (decide_eq_false h2') b_nil) (b_ret (x_if_t (c3 2 _) (decide_eq_true hv2) (b_ret (x_ret (r_tup (s_cons r_k (s_cons hc s_nil)) (tup_len (by simp))))))))), ⟨w, by simp only [Q.dep]; omega, by simp only [Q.sz]; omega⟩, a1.trans a2, s2⟩
    · have m2 : ∀ S : Store, binV .mod false (.int v) (.int 2) S = .ok (.int (v % 2)) S := fun S => binV_mod (by decide)
      have e0 : 0 ≤ v % 2 := Int.emod_nonneg _ (by decide)
      have e1 : v % 2 < 2 := Int.emod_lt_of_pos _ (by decide)
      have pickW : ∀ (a b : Str), L2.atI [D.str a, .str b] (v % 2) = some (.str (if decide (v % 2 = 0) = true then a else b)) := fun a b => by
        by_cases h : v % 2 = 0
        · rw [h]; simp [at0]
        · have h' : v % 2 = ((1 : Nat) : Int) := by omega
          have hd : decide (v % 2 = 0) = false := decide_eq_false h
          rw [hd, h']
          exact atN _ 1 _ rfl
      have hw : ∀ (a b : Str) (σ : Z.Env) (S : Store), σ[5]? = some (some (.int v)) → ev (callN T (n + 2)) σ (.idx (.lst false (.cons (.k (.str a)) (.cons (.k (.str b)) .nil))) (.bin .mod false (.bi .int false (.cons (.var 5) .nil)) (.k (.int 2)))) false S = .ok (.str (if decide (v % 2 = 0) = true then a else b)) S := fun a b σ S h5 =>
        r_idx (r_lst (s_cons r_k (s_cons r_k s_nil)) (cold (by simp))) (r_bin (r_bi (s_cons (r_var h5) s_nil) biV_int) r_k (m2 _)) (idxV_lst (pickW a b))
      by_cases hv6 : v < 6
      · obtain ⟨p, S2, h2, ⟨wp, dp, zp⟩, a2, s2⟩ := hq' lev s1 hn (by omega) hgs (by omega)
        obtain ⟨q, S3, h3, ⟨wq, dq, zq⟩, a3, s3⟩ := hq' lev s2 hn (by omega) hgs (by omega)
        have hc := call_q (f := I.quest) (σ := [some (.ref l), some (.int (k + 1 : Nat)), some (.int (lev : Nat)), some (.tup (sD ns)), some (.lst (gD gs)), some (.int v), none, none, none]) (s_cons (r_var (i := 0) rfl) (s_cons (r_bin (r_var (i := 1) rfl) r_k sub1) (s_cons (r_var (i := 2) rfl) (s_cons (r_var (i := 3) rfl) (s_cons (r_var (i := 4) rfl) s_nil))))) h2 a2
        have hc3 := call_q (f := I.quest) (σ := [some (.ref l), some (.int (k + 1 : Nat)), some (.int (lev : Nat)), some (.tup (sD ns)), some (.lst (gD gs)), some (.int v), some p.toD, none, none]) (s_cons (r_var (i := 0) rfl) (s_cons (r_bin (r_var (i := 1) rfl) r_k sub1) (s_cons (r_var (i := 2) rfl) (s_cons (r_var (i := 3) rfl) (s_cons (r_var (i := 4) rfl) s_nil))))) h3 a3
        exact ⟨.bi (decide (v % 2 = 0)) p q, S3, x_fn (fn := fQuest I) g.quest rfl (b_cons (x_asg h1 rfl) (b_cons (x_if_f cA (decide_eq_false h2') b_nil) (b_cons (x_if_f (c3 2 _) (decide_eq_false hv2) b_nil) (b_ret (x_if_t (c2 6 _) (decide_eq_true hv6) (b_cons (x_asg hc rfl) (b_ret (x_ret (r_tup (s_cons (hw _ _ _ _ rfl) (s_cons (r_var rfl) (s_cons hc3 s_nil))) (tup_len (by simp))))))))))), ⟨⟨wp, wq⟩, by simp only [Q.dep]; omega, by simp only [Q.sz]; omega⟩, (a1.trans a2).trans a3, s3⟩
      · have cL : ev (callN T (n + 2)) [some (.ref l), some (.int (k + 1 : Nat)), some (.int (lev : Nat)), some (.tup (sD ns)), some (.lst (gD gs)), some (.int v), none, none, none] (.cmp .eq (.var 2) (.k (.int 0))) true S1 = .ok (.bl (decide ((lev : Int) = 0))) S1 := r_cmp (r_var rfl) r_k (pyEq_int _ _)
        by_cases hv8 : v < 8 ∨ (lev : Int) = 0
        · have cond : ∃ c, c = true ∧ ev (callN T (n + 2)) [some (.ref l), some (.int (k + 1 : Nat)), some (.int (lev : Nat)), some (.tup (sD ns)), some (.lst (gD gs)), some (.int v), none, none, none] (.or (.cmp .lt (.var 5) (.k (.int 8))) (.cmp .eq (.var 2) (.k (.int 0)))) true S1 = .ok (.bl c) S1 := by
            by_cases h8 : v < 8
            · exact ⟨true, rfl, r_or_t (c2 8 _) (decide_eq_true h8)⟩
            · exact ⟨_, decide_eq_true (hv8.resolve_left h8), r_or_f (c2 8 _) (decide_eq_false h8) cL⟩
          obtain ⟨c, hct, cond⟩ := cond
          obtain ⟨nm, S2, h2, hnm, a2, s2⟩ := pick_lst g (σ := [some (.ref l), some (.int (k + 1 : Nat)), some (.int (lev : Nat)), some (.tup (sD ns)), some (.lst (gD gs)), some (.int v), none, none, none]) (xs := [.str "x", .str "y", .str "z", .str "u1"]) (a := .lst false (.cons (.k (.str "x")) (.cons (.k (.str "y")) (.cons (.k (.str "z")) (.cons (.k (.str "u1")) .nil))))) (n + 1) s1 (by simp) (by simp) rfl (r_lst (s_cons r_k (s_cons r_k (s_cons r_k (s_cons r_k s_nil)))) (cold (by simp)))
          obtain ⟨z, rfl, hz⟩ : ∃ z : Str, nm = .str z ∧ z ∈ VN := by
            simp only [List.mem_cons, List.not_mem_nil, or_false] at hnm
            rcases hnm with rfl | rfl | rfl | rfl <;> exact ⟨_, rfl, by simp [VN]⟩
          obtain ⟨more, hmore, hm1, hm2, hm3⟩ : ∃ more : List Str, ev (callN T (n + 2)) [some (.ref l), some (.int (k + 1 : Nat)), some (.int (lev : Nat)), some (.tup (sD ns)), some (.lst (gD gs)), some (.int v), none, some (.str z), none] (.ite (.cmp .in_ (.var 7) (.var 3)) (.var 3) (.bin .add false (.var 3) (.tup (.cons (.var 7) .nil)))) false S2 = .ok (.tup (sD more)) S2 ∧ NS more ∧ more.length ≤ ns.length + 1 ∧ ∀ x ∈ more, x ∈ z :: ns := by
            by_cases b : z ∈ ns
            · exact ⟨ns, r_ite_t (r_cmp (r_var rfl) (r_var rfl) (cmp_in (in_sD z ns S2))) (decide_eq_true b) (r_var rfl), hn, by omega, fun x h => List.mem_cons_of_mem _ h⟩
            · have hadd : binV .add false (.tup (sD ns)) (.tup [.str z]) S2 = .ok (.tup (sD (ns ++ [z]))) S2 := by
                have := binV_tupA (xs := sD ns) (ys := [.str z]) (S := S2) (ow := false) (by simp; omega)
                rw [this]
                simp
              refine ⟨ns ++ [z], r_ite_f (r_cmp (r_var rfl) (r_var rfl) (cmp_in (in_sD z ns S2))) (decide_eq_false b) (r_bin (r_var rfl) (r_tup (s_cons (r_var rfl) s_nil) (tup_len (by simp))) hadd), ⟨by simp, by simp; omega⟩, by simp, fun x hx => ?_⟩
              rcases List.mem_append.mp hx with h | h
              · exact List.mem_cons_of_mem _ h
              · rw [List.mem_singleton] at h; rw [h]; exact List.mem_cons_self
          obtain ⟨q, S3, h3, ⟨w, dq, zq⟩, a3, s3⟩ := hq' lev s2 hm1 (by omega) hgs (by omega)
          have hc := call_q (f := I.quest) (σ := [some (.ref l), some (.int (k + 1 : Nat)), some (.int (lev : Nat)), some (.tup (sD ns)), some (.lst (gD gs)), some (.int v), none, some (.str z), some (.tup (sD more))]) (s_cons (r_var (i := 0) rfl) (s_cons (r_bin (r_var (i := 1) rfl) r_k sub1) (s_cons (r_var (i := 2) rfl) (s_cons (r_var (i := 8) rfl) (s_cons (r_var (i := 4) rfl) s_nil))))) h3 a3
          exact ⟨.qu (decide (v % 2 = 0)) z q, S3, x_fn (fn := fQuest I) g.quest rfl (b_cons (x_asg h1 rfl) (b_cons (x_if_f cA (decide_eq_false h2') b_nil) (b_cons (x_if_f (c3 2 _) (decide_eq_false hv2) b_nil) (b_cons (x_if_f (c2 6 _) (decide_eq_false hv6) b_nil) (b_ret (x_if_t cond hct (b_cons (x_asg h2 rfl) (b_cons (x_asg hmore rfl) (b_ret (x_ret (r_tup (s_cons (hw _ _ _ _ rfl) (s_cons (r_var rfl) (s_cons hc s_nil))) (tup_len (by simp))))))))))))), ⟨⟨hz, wf_mono hm3 (fun _ h => h) (Nat.le_refl _) w⟩, by simp only [Q.dep]; omega, by simp only [Q.sz]; omega⟩, (a1.trans a2).trans a3, s3⟩
        · have h8 : ¬ v < 8 := fun h => hv8 (.inl h)
          have hl0 : ¬ (lev : Int) = 0 := fun h => hv8 (.inr h)
          obtain ⟨q, S2, h2, ⟨hr, _⟩, a2, s2⟩ := hg k rfl lev s1 hn hnl hgs hgl (by omega)
          have hc := call_q (f := I.grow) (σ := [some (.ref l), some (.int (k + 1 : Nat)), some (.int (lev : Nat)), some (.tup (sD ns)), some (.lst (gD gs)), some (.int v), none, none, none]) (s_cons (r_var (i := 0) rfl) (s_cons (r_var (i := 1) rfl) (s_cons (r_var (i := 2) rfl) (s_cons (r_var (i := 3) rfl) (s_cons (r_var (i := 4) rfl) s_nil))))) h2 a2
          exact ⟨q, S2, x_fn (fn := fQuest I) g.quest rfl (b_cons (x_asg h1 rfl) (b_cons (x_if_f cA (decide_eq_false h2') b_nil) (b_cons (x_if_f (c3 2 _) (decide_eq_false hv2) b_nil) (b_cons (x_if_f (c2 6 _) (decide_eq_false hv6) b_nil) (b_cons (x_if_f (r_or_f (c2 8 _) (decide_eq_false h8) cL) (decide_eq_false hl0) b_nil) (b_ret (x_ret hc))))))), hr, a1.trans a2, s2⟩
theorem RN_ok {r : Str} (h : r ∈ RN) : PyData.strOk r = true := by
  simp only [RN, List.mem_cons, List.not_mem_nil, or_false] at h
  rcases h with rfl | rfl | rfl <;> decide +kernel
theorem grow_step (g : Gen T I) (k n : Nat) (hq : QQ T I k (n + 2)) : QG T I (k + 1) (n + 3) := by
  intro ds l S ns gs lev hs hn hnl hgs hgl hlev
  obtain ⟨lv, rfl⟩ : ∃ lv, lev = lv + 1 := ⟨lev - 1, by omega⟩
  obtain ⟨rel, S1, h5, hrm, a5, s5⟩ := pick_lst g (σ := gE l ((k + 1 : Nat) : Int) ((lv + 1 : Nat) : Int) ns gs none none none none none none none none none none none) (xs := [.str "q", .str "r", .str "e"]) (a := .lst false (.cons (.k (.str "q")) (.cons (.k (.str "r")) (.cons (.k (.str "e")) .nil)))) (n + 1) hs (by simp) (by simp) rfl (r_lst (s_cons r_k (s_cons r_k (s_cons r_k s_nil))) (cold (by simp)))
  obtain ⟨r, rfl, hr⟩ : ∃ r : Str, rel = .str r ∧ r ∈ RN := by
    simp only [List.mem_cons, List.not_mem_nil, or_false] at hrm
    rcases hrm with rfl | rfl | rfl <;> exact ⟨_, rfl, by simp [RN]⟩
  obtain ⟨ar, S2, h6, ham, a6, s6⟩ := pick_lst g (σ := gE l ((k + 1 : Nat) : Int) ((lv + 1 : Nat) : Int) ns gs (some (.str r)) none none none none none none none none none none) (xs := [.int 1, .int 1, .int 1, .int 1, .int 0, .int 2]) (a := .lst false (.cons (.k (.int 1)) (.cons (.k (.int 1)) (.cons (.k (.int 1)) (.cons (.k (.int 1)) (.cons (.k (.int 0)) (.cons (.k (.int 2)) .nil))))))) (n + 1) s5 (by simp) (by simp) rfl (r_lst (s_cons r_k (s_cons r_k (s_cons r_k (s_cons r_k (s_cons r_k (s_cons r_k s_nil)))))) (cold (by simp)))
  obtain ⟨m, rfl, hm⟩ : ∃ m : Nat, ar = .int (m : Nat) ∧ m ≤ 2 := by
    simp only [List.mem_cons, List.not_mem_nil, or_false] at ham
    rcases ham with rfl | rfl | rfl | rfl | rfl | rfl
    · exact ⟨1, rfl, by omega⟩
    · exact ⟨1, rfl, by omega⟩
    · exact ⟨1, rfl, by omega⟩
    · exact ⟨1, rfl, by omega⟩
    · exact ⟨0, rfl, by omega⟩
    · exact ⟨2, rfl, by omega⟩
  obtain ⟨_, S3, h7, ⟨v, rfl, _, _⟩, a7, s7⟩ := call_take g (σ := gE l ((k + 1 : Nat) : Int) ((lv + 1 : Nat) : Int) ns gs (some (.str r)) (some (.int m)) none none none none none none none none none) (e := .k (.int 3)) (many := 3) (n + 1) s6 (by decide) rfl r_k
  obtain ⟨bs, hbl, hbs, hbn, h8⟩ := g_bound (callN T (n + 2)) (σ := gE l ((k + 1 : Nat) : Int) ((lv + 1 : Nat) : Int) ns gs (some (.str r)) (some (.int m)) (some (.int v)) none none none none none none none none) (S := S3) m v hm rfl rfl rfl
  have h9 := g_around (callN T (n + 2)) (σ := gE l ((k + 1 : Nat) : Int) ((lv + 1 : Nat) : Int) ns gs (some (.str r)) (some (.int m)) (some (.int v)) (some (.tup (sD bs))) none none none none none none none) (S := S3) (ns := ns) (ys := bs) (by omega) rfl rfl rfl
  generalize hzs : ns ++ bs.filter (fun y => decide (y ∉ ns)) = zs at h9
  have hzl : zs.length ≤ ns.length + 2 := by
    rw [← hzs, List.length_append]
    have := List.length_filter_le (fun y => decide (y ∉ ns)) bs
    omega
  have hz1 : zs ≠ [] := by rw [← hzs]; simp [hn.1]
  have hz2 : ∀ x ∈ zs, x ∈ bs ++ ns := fun x hx => by
    rw [← hzs] at hx
    rcases List.mem_append.mp hx with h | h
    · exact List.mem_append_right _ h
    · exact List.mem_append_left _ (List.mem_filter.mp h).1
  have h10 := g_known (callN T (n + 2)) (σ := gE l ((k + 1 : Nat) : Int) ((lv + 1 : Nat) : Int) ns gs (some (.str r)) (some (.int m)) (some (.int v)) (some (.tup (sD bs))) (some (.tup (sD zs))) none none none none none none) (S := S3) (gs := gs) hgs (RN_ok hr) rfl rfl rfl rfl
  generalize hks : (gs.filter fun g => decide (g.1 ≠ r)) ++ [(r, m)] = ks at h10
  have hkl : ks.length ≤ gs.length + 1 := by
    rw [← hks, List.length_append]
    have := List.length_filter_le (fun g : Str × Nat => decide (g.1 ≠ r)) gs
    simp only [List.length_cons, List.length_nil]
    omega
  have hk2 : ∀ x ∈ ks, x ∈ (r, bs.length) :: gs.filter (fun g => decide (g.1 ≠ r)) := fun x hx => by
    rw [← hks] at hx
    rcases List.mem_append.mp hx with h | h
    · exact List.mem_cons_of_mem _ h
    · rw [List.mem_singleton.mp h, hbl]; exact List.mem_cons_self
  have hkg : GS ks := ⟨by omega, fun x hx => by
    rcases List.mem_cons.mp (hk2 x hx) with h | h
    · rw [h]; exact ⟨RN_ok hr, by show bs.length ≤ 5; omega⟩
    · exact hgs.2 x (List.mem_filter.mp h).1⟩
  obtain ⟨q, S4, h11, ⟨wq, dq, zq⟩, a11, s11⟩ := hq (ns := zs) (gs := ks) lv s7 ⟨hz1, by omega⟩ (by omega) hkg (by omega)
  have hc11 := call_q (f := I.quest) (σ := gE l ((k + 1 : Nat) : Int) ((lv + 1 : Nat) : Int) ns gs (some (.str r)) (some (.int m)) (some (.int v)) (some (.tup (sD bs))) (some (.tup (sD zs))) (some (.lst (gD ks))) none none none none none) (s_cons (r_var (i := 0) rfl) (s_cons (r_bin (r_var (i := 1) rfl) r_k sub1) (s_cons (r_bin (r_var (i := 2) rfl) r_k sub1) (s_cons (r_var (i := 9) rfl) (s_cons (r_var (i := 10) rfl) s_nil))))) h11 a11
  obtain ⟨_, S5, h12, ⟨c, rfl, _, _⟩, a12, s12⟩ := call_take g (σ := gE l ((k + 1 : Nat) : Int) ((lv + 1 : Nat) : Int) ns gs (some (.str r)) (some (.int m)) (some (.int v)) (some (.tup (sD bs))) (some (.tup (sD zs))) (some (.lst (gD ks))) (some q.toD) none none none none) (e := .k (.int 9)) (many := 9) (n + 1) s11 (by decide) rfl r_k
  obtain ⟨b, S6, x13, x14, x15, hif, wb, bd, bz, a13, s13⟩ := g_if g n (d := ((k + 1 : Nat) : Int)) (lev := ((lv + 1 : Nat) : Int)) (ns := ns) (gs := gs) (r := r) (q := q) (c := c) (r7 := some (.int v)) (r9 := some (.tup (sD zs))) (r10 := some (.lst (gD ks))) s12 hbl hm
  obtain ⟨ts, S7, h16, htl, hts, a14, s14⟩ := picks g (n + 1) (σ := gE l ((k + 1 : Nat) : Int) ((lv + 1 : Nat) : Int) ns gs (some (.str r)) (some (.int m)) (some (.int v)) (some (.tup (sD bs))) (some (.tup (sD zs))) (some (.lst (gD ks))) (some b.toD) (some (.int c)) x13 x14 x15) (i := 3) (j := 16) (k := 6) s13 hn.1 (by simp) (by decide) (by decide) (by decide) (by omega) rfl rfl rfl
  have wq' : wf (bs ++ ns) ((r, bs.length) :: gs.filter fun g => decide (g.1 ≠ r)) lv q := wf_mono hz2 hk2 (Nat.le_refl _) wq
  have pk := pow_le k
  have pw : 9 * 2 ^ (k + 1) = 9 * 2 ^ k + 9 * 2 ^ k := by rw [Nat.pow_succ]; omega
  refine ⟨.grow r bs b ts, S7, x_fn (fn := fGrow I) g.grow rfl (b_cons (x_asg h5 rfl) (b_cons (x_asg h6 rfl) (b_cons (x_asg h7 rfl) (b_cons (x_asg h8 rfl) (b_cons (x_asg h9 rfl) (b_cons (x_asg h10 rfl) (b_cons (x_asg hc11 rfl) (b_cons (x_asg h12 rfl) (b_cons hif (b_ret (x_ret (r_tup (s_cons r_k (s_cons (r_var rfl) (s_cons (r_var rfl) (s_cons (r_var rfl) (s_cons h16 s_nil))))) (tup_len (by simp)))))))))))))), ⟨⟨⟨hr, hbn, hbs, by omega, by omega, hts, by omega, ?_⟩, ?_, ?_⟩, r, bs, b, ts, rfl⟩, ((((((a5.trans a6).trans a7).trans a11).trans a12).trans a13).trans a14), s14⟩
  · exact wb _ _ _ (fun x hx => List.mem_append_left _ hx) (by rw [← hbl]; exact List.mem_cons_self) wq'
  · simp only [Q.dep]; omega
  · simp only [Q.sz]; omega
theorem all_q (g : Gen T I) : ∀ (d n : Nat), 2 * d + 3 ≤ n → QQ T I d n
  | 0, n, h => by
    obtain ⟨m, rfl⟩ : ∃ m, n = m + 3 := ⟨n - 3, by omega⟩
    exact question_step g 0 m (fun k e => by omega) (fun k e => by omega)
  | d + 1, n, h => by
    obtain ⟨m, rfl⟩ : ∃ m, n = m + 1 + 3 := ⟨n - 4, by omega⟩
    refine question_step g (d + 1) (m + 1) (fun k e => ?_) (fun k e => ?_)
    · obtain rfl : d = k := by omega
      exact all_q g d _ (by omega)
    · exact grow_step g d m (all_q g d _ (by omega))
theorem all_g (g : Gen T I) (d n : Nat) (h : 2 * d + 6 ≤ n) : QG T I (d + 1) n := by
  obtain ⟨m, rfl⟩ : ∃ m, n = m + 3 := ⟨n - 3, by omega⟩
  exact grow_step g d m (all_q g d _ (by omega))
end Zg

/-! GG: cells and digits. -/
namespace Zg
open PySem Z
variable {T : Nat → Option Fn} {I : Ids}
theorem cell (g : Gen T I) (n : Nat) (ns : List Int) (k : Nat) (S : Store) : ∃ v, callN T (n + 1) I.cell [.scr ns, .int (k : Nat)] S = .ok (.int v) S := by
  have hl : biV .len false [.scr ns] S = .ok (.int (ns.map D.int).length) S := biV_len_seq (fun _ h => nomatch h) rfl
  have hc : ev (callN T n) (startE fCell [.scr ns, .int (k : Nat)]) (.cmp .lt (.var 1) (.bi .len false (.cons (.var 0) .nil))) true S = .ok (.bl (decide ((k : Int) < ((ns.map D.int).length : Nat)))) S := r_cmp (r_var rfl) (r_bi (s_cons (r_var rfl) s_nil) hl) rfl
  by_cases h : k < ns.length
  · obtain ⟨d, h1, h2⟩ := atI_ok (xs := ns.map D.int) (i := k) (by omega) (by simp; omega)
    obtain ⟨v, _, rfl⟩ := List.mem_map.mp h2
    exact ⟨v, x_fn (fn := fCell) g.cell rfl (b_ret (x_if_t hc (decide_eq_true (by simp; omega)) (b_ret (x_ret (r_idx (r_var rfl) (r_var rfl) (idxV_scr h1))))))⟩
  · exact ⟨0, x_fn (fn := fCell) g.cell rfl (b_cons (x_if_f hc (decide_eq_false (by simp; omega)) b_nil) (b_ret (x_ret r_k)))⟩
theorem rng_nat {m : Nat} (h : m ≤ 1000000) : rngOf [.int (m : Nat)] = some (rngV 0 m) := by
  have : small62 (m : Int) = true := by simp only [small62, Bool.and_eq_true, decide_eq_true_eq]; omega
  simp only [rngOf, this, if_true]
  simp
theorem pow18 (S : Store) : binV .pow false (.int 10) (.int 18) S = .ok (.int 1000000000000000000) S := by
  have : (10 : Int) ^ (18 : Int).toNat = 1000000000000000000 := by decide +kernel
  simp [binV, this]
theorem dig_loop (C : CallT) (cell many : Int) (cnt : Nat) (S : Store) (hm0 : 0 < many) (hm1 : many < 1073741824) (hcnt : cnt ≤ 1000) : ∃ σ' S', evS C lDig [some (.int cell), some (.int many), some (.int (cnt : Nat)), some (.ref S.length), some (.int cell), none, none] (S ++ [some (.lst [])]) = .ok (.nx σ') S' ∧
    ∃ (ds : List Int) (rest : Int) (x y : Option D), ds.length = (rngV 0 cnt).length ∧ σ' = [some (.int cell), some (.int many), some (.int (cnt : Nat)), some (.ref S.length), some (.int rest), x, y] ∧ S' = S ++ [some (.lst (ds.map .int))] := by
  refine for_ok (ds := rngV 0 cnt) (fun i σ' S' => ∃ (ds : List Int) (rest : Int) (x y : Option D), ds.length = i ∧ σ' = [some (.int cell), some (.int many), some (.int (cnt : Nat)), some (.ref S.length), some (.int rest), x, y] ∧ S' = S ++ [some (.lst (ds.map .int))]) ?_ ⟨[], cell, none, none, rfl, rfl, rfl⟩ ?_
  · exact i_rng (s_cons (r_var rfl) s_nil) (rng_nat (by omega))
  · rintro i x σ S2 hx ⟨ds, rest, u, v, rfl, rfl, rfl⟩
    obtain ⟨rfl, hi⟩ := rngV_get hx
    rw [Int.zero_add]
    have hz : (ds.map D.int).length < sizeLine := by
      have : (1000 : Nat) < sizeLine := by decide
      simp; omega
    have ho : objAt (S ++ [some (.lst (ds.map D.int))]) S.length = some (.lst (ds.map D.int)) := objAt_last _ _
    have ht := bmT_app ho
    obtain ⟨B, pow18⟩ : ∃ B : Int, ∀ S, binV .pow false (.int 10) (.int 18) S = .ok (.int B) S := ⟨_, fun S => pow18 S⟩
    by_cases hc : B ≤ cell
    · refine ⟨[some (.int cell), some (.int many), some (.int (cnt : Nat)), some (.ref S.length), some (.int rest), some (.int ds.length), v], [some (.int cell), some (.int many), some (.int (cnt : Nat)), some (.ref S.length), some (.int (rest / many)), some (.int ds.length), v], S ++ [some (.lst ((ds ++ [rest % many]).map D.int))], rfl, .inl ?_, ds ++ [rest % many], _, _, _, by simp, rfl, rfl⟩
      have m1 := fun S : Store => binV_mod (i := rest) (j := many) (ow := false) (S := S) hm0
      have m2 := fun S : Store => binV_fdiv (i := rest) (j := many) (ow := false) (S := S) hm0 hm1
      have ha := append_ok_ (d := .int (rest % many)) ho hz
      rw [set_last, show ds.map D.int ++ [D.int (rest % many)] = (ds ++ [rest % many]).map D.int by simp] at ha
      refine b_cons (x_if_t (r_cmp (r_var rfl) (r_bin r_k r_k (pow18 _)) rfl) (decide_eq_true hc) (b_cons (x_expr (r_bm (r_var rfl) ht (s_cons (r_bin (r_bi (s_cons (r_var rfl) s_nil) rfl) (r_var rfl) (m1 _)) s_nil) ha)) (b_cons (x_asg (r_bin (r_var rfl) (r_var rfl) (m2 _)) rfl) b_nil))) b_nil
    · obtain ⟨d, e⟩ : ∃ d : Int, evB C bDig [some (.int cell), some (.int many), some (.int (cnt : Nat)), some (.ref S.length), some (.int rest), some (.int ds.length), v] (S ++ [some (.lst (ds.map D.int))]) = .ok (.nx [some (.int cell), some (.int many), some (.int (cnt : Nat)), some (.ref S.length), some (.int rest), some (.int ds.length), some (.int d)]) (S ++ [some (.lst ((ds ++ [d / 31 % many]).map D.int))]) := by
        have m1 := fun S : Store => binV_mulL (ow := false) (S := S) (cMul_r (i := cell) (j := 48271) (by decide) (by decide))
        have m2 := fun S : Store => binV_mulL (ow := false) (S := S) (cMul_r (i := ds.length) (j := 69621) (by decide) (by decide))
        generalize hM : (cell * 48271 + ds.length * 69621 + 1013) % 2147483647 = M
        have M0 : 0 ≤ M := by rw [← hM]; exact Int.emod_nonneg _ (by decide)
        have M1 : M < 2147483647 := by rw [← hM]; exact Int.emod_lt_of_pos _ (by decide)
        have m3 := fun S : Store => binV_mod (i := cell * 48271 + ds.length * 69621 + 1013) (j := 2147483647) (ow := false) (S := S) (by decide)
        have m4 := fun S : Store => binV_mulL (ow := false) (S := S) (cMul_r (i := M) (j := M) (by omega) (by omega))
        have m5 := fun S : Store => binV_mulL (ow := false) (S := S) (cMul_r (i := 7) (j := M) (by omega) (by omega))
        have m6 := fun S : Store => binV_mod (i := M * M + 7 * M + ds.length) (j := 2147483629) (ow := false) (S := S) (by decide)
        generalize hN : (M * M + 7 * M + ds.length) % 2147483629 = N at m6
        have m7 := fun S : Store => binV_fdiv (i := N) (j := 31) (ow := false) (S := S) (by decide) (by decide)
        have m8 := fun S : Store => binV_mod (i := N / 31) (j := many) (ow := false) (S := S) hm0
        have ha := append_ok_ (d := .int (N / 31 % many)) ho hz
        rw [set_last, show ds.map D.int ++ [D.int (N / 31 % many)] = (ds ++ [N / 31 % many]).map D.int by simp] at ha
        rw [hM] at m3
        refine ⟨N, b_cons (x_if_f (r_cmp (r_var rfl) (r_bin r_k r_k (pow18 _)) rfl) (decide_eq_false hc) ?_) b_nil⟩
        refine b_cons (x_asg (r_bin (r_bi (s_cons (r_bin (r_bin (r_bin (r_var rfl) r_k (m1 _)) (r_bin (r_var rfl) r_k (m2 _)) binV_add) r_k binV_add) s_nil) biV_int) r_k (m3 _)) rfl) ?_
        refine b_cons (x_asg (r_bin (r_bi (s_cons (r_bin (r_bin (r_bin (r_var rfl) (r_var rfl) (m4 _)) (r_bin r_k (r_var rfl) (m5 _)) binV_add) (r_var rfl) binV_add) s_nil) biV_int) r_k (m6 _)) rfl) ?_
        exact b_cons (x_expr (r_bm (r_var rfl) ht (s_cons (r_bin (r_bi (s_cons (r_bin (r_var rfl) r_k (m7 _)) s_nil) biV_int) (r_var rfl) (m8 _)) s_nil) ha)) b_nil
      exact ⟨_, _, _, rfl, .inl e, ds ++ [d / 31 % many], rest, _, _, by simp, rfl, rfl⟩
/-- the digits -/
theorem digits (g : Gen T I) (n : Nat) (cell many : Int) (cnt : Nat) (S : Store) (hm0 : 0 < many) (hm1 : many < 1073741824) (hcnt : cnt ≤ 1000) : ∃ ds : List Int, ds.length = cnt ∧ callN T (n + 1) I.digits [.int cell, .int many, .int (cnt : Nat)] S = .ok (.lst (ds.map .int)) (S ++ [none]) := by
  obtain ⟨σ', S', e, ds, rest, x, y, hl, rfl, rfl⟩ := dig_loop (callN T n) cell many cnt S hm0 hm1 hcnt
  have hz : frzD FRZ (S ++ [some (.lst (ds.map D.int))]) (.ref S.length) = some (.lst (ds.map D.int), S ++ [none]) := by
    simp [frzD, FRZ, frzL_map (f := D.int) (fun a S => by simp [frzD])]
  exact ⟨ds, by rw [hl, rngV_len], x_fn (fn := fDigits) g.digits rfl (b_cons (x_asg (r_lst s_nil (mkL_nil _)) rfl) (b_cons (x_asg (r_var rfl) rfl) (b_cons (x_frzv e rfl hz) (b_ret (x_ret (r_var rfl))))))⟩
theorem frz_state {ds : List Int} {l : Nat} {S : Store} {c : Int} (h : objAt S l = some (stO ds c)) : frzD FRZ S (.ref l) = some (.lst [.lst (ds.map .int), .int c], S.set l none) := by
  unfold stO at h
  simp [frzD, FRZ, h, frzL]
theorem dig_val {ds : List Int} {S : Store} : endV .val S (.ok (.lst (ds.map .int)) (S ++ [none])) = .ok (.lst (ds.map .int)) S :=
  endV_val (okOld_append _ _) (by simp only [D.nr]; exact nrL_map (fun _ => rfl) _) fun S => frzD_lst _ _ _
end Zg

/-! HA: the parts of questions, as the program and the laws take them. -/
namespace Zg
open PySem Z
/-- where the program's defs stand -/
structure PIds where
  (idx parts terms bound note free noter freer count : Nat)
/-- where the law's defs stand -/
structure LIds where
  (used parts free freen freer all : Nat)
def fIdx (J : PIds) : Fn := ⟨1, 1,
  (.cons (.ret (.bm .get2 (.gl "WITHIN" (.kd [("not", (.tup [(.int 1)])), ("and", (.tup [(.int 1), (.int 2)])), ("or", (.tup [(.int 1), (.int 2)])), ("some", (.tup [(.int 2)])), ("all", (.tup [(.int 2)])), ("grow", (.tup [(.int 3)]))])) (.cons (.idx (.var 0) (.k (.int 0))) (.cons (.tup .nil) .nil)))) .nil)⟩
def fParts (J : PIds) : Fn := ⟨1, 2,
  (.cons (.ret (.lc false [1] (.idx (.var 0) (.var 1)) (.nm 1) (.seq (.call J.idx .val (.cons (.var 0) .nil))) .nil)) .nil)⟩
def fTerms (J : PIds) : Fn := ⟨1, 2,
  (.cons (.asg (.nm 1) (.idx (.var 0) (.k (.int 0))))
  (.cons (.if_ (.cmp .eq (.var 1) (.k (.str "same"))) (.cons (.ret (.slc false (.var 0) (.cons (.k (.int 1)) .nil) .nil)) .nil) .nil)
  (.cons (.if_ (.or (.cmp .eq (.var 1) (.k (.str "given"))) (.cmp .eq (.var 1) (.k (.str "in")))) (.cons (.ret (.idx (.var 0) (.k (.int 2)))) .nil) .nil)
  (.cons (.if_ (.cmp .eq (.var 1) (.k (.str "grow"))) (.cons (.ret (.idx (.var 0) (.k (.int 4)))) .nil) .nil)
  (.cons (.ret (.tup .nil)) .nil)))))⟩
def fBound (J : PIds) : Fn := ⟨1, 1,
  (.cons (.if_ (.cmp .eq (.idx (.var 0) (.k (.int 0))) (.k (.str "grow"))) (.cons (.ret (.idx (.var 0) (.k (.int 2)))) .nil) .nil)
  (.cons (.if_ (.or (.cmp .eq (.idx (.var 0) (.k (.int 0))) (.k (.str "some"))) (.cmp .eq (.idx (.var 0) (.k (.int 0))) (.k (.str "all")))) (.cons (.ret (.tup (.cons (.idx (.var 0) (.k (.int 1))) .nil))) .nil) .nil)
  (.cons (.ret (.tup .nil)) .nil)))⟩
def bNote0 (J : PIds) : B := (.cons (.if_ (.cmp .notin (.var 3) (.var 1)) (.cons (.setI (.var 2) (.var 3) (.k (.bl true))) .nil) .nil) .nil)
def lNote0 (J : PIds) : S := .for_ (.nm 3) (.seq (.call J.terms .val (.cons (.var 0) .nil))) (bNote0 J)
def bNote1 (J : PIds) : B := (.cons (.expr (.call J.note .val (.cons (.var 5) (.cons (.var 4) (.cons (.var 2) .nil))))) .nil)
def lNote1 (J : PIds) : S := .for_ (.nm 5) (.seq (.call J.parts .val (.cons (.var 0) .nil))) (bNote1 J)
def fNote (J : PIds) : Fn := ⟨3, 6,
  (.cons (lNote0 J)
  (.cons (.asg (.nm 4) (.bin .add false (.var 1) (.call J.bound .val (.cons (.var 0) .nil))))
  (.cons (lNote1 J) .nil)))⟩
def fFree (ow : Bool) (J : PIds) : Fn := ⟨1, 2,
  (.cons (.asg (.nm 1) (.dct true .nil .nil))
  (.cons (.frzv (.expr (.call J.note .val (.cons (.var 0) (.cons (.tup .nil) (.cons (.var 1) .nil))))) 1)
  (.cons (.ret (.bi .sorted ow (.cons (.bi .list false (.cons (.var 1) .nil)) .nil))) .nil)))⟩
def bNoter0 (J : PIds) : B := (.cons (.expr (.call J.noter .val (.cons (.var 4) (.cons (.var 3) (.cons (.var 2) .nil))))) .nil)
def lNoter0 (J : PIds) : S := .for_ (.nm 4) (.seq (.call J.parts .val (.cons (.var 0) .nil))) (bNoter0 J)
def fNoter (J : PIds) : Fn := ⟨3, 5,
  (.cons (.if_ (.and (.cmp .eq (.idx (.var 0) (.k (.int 0))) (.k (.str "in"))) (.cmp .notin (.idx (.var 0) (.k (.int 1))) (.var 1))) (.cons (.setI (.var 2) (.idx (.var 0) (.k (.int 1))) (.k (.bl true))) .nil) .nil)
  (.cons (.asg (.nm 3) (.var 1))
  (.cons (.if_ (.cmp .eq (.idx (.var 0) (.k (.int 0))) (.k (.str "grow"))) (.cons (.asg (.nm 3) (.bin .add false (.var 1) (.tup (.cons (.idx (.var 0) (.k (.int 1))) .nil)))) .nil) .nil)
  (.cons (lNoter0 J) .nil))))⟩
def fFreer (ow : Bool) (J : PIds) : Fn := ⟨1, 2,
  (.cons (.asg (.nm 1) (.dct true .nil .nil))
  (.cons (.frzv (.expr (.call J.noter .val (.cons (.var 0) (.cons (.tup .nil) (.cons (.var 1) .nil))))) 1)
  (.cons (.ret (.bi .sorted ow (.cons (.bi .list false (.cons (.var 1) .nil)) .nil))) .nil)))⟩
def fCount (J : PIds) : Fn := ⟨1, 2,
  (.cons (.ret (.bin .add false (.k (.int 1)) (.bi .sum false (.cons (.lc false [1] (.call J.count .val (.cons (.var 1) .nil)) (.nm 1) (.seq (.call J.parts .val (.cons (.var 0) .nil))) .nil) .nil)))) .nil)⟩
def fLused (K : LIds) : Fn := ⟨1, 2,
  (.cons (.asg (.nm 1) (.idx (.var 0) (.k (.int 0))))
  (.cons (.if_ (.cmp .eq (.var 1) (.k (.str "same"))) (.cons (.ret (.slc false (.var 0) (.cons (.k (.int 1)) .nil) .nil)) .nil) .nil)
  (.cons (.if_ (.or (.cmp .eq (.var 1) (.k (.str "given"))) (.cmp .eq (.var 1) (.k (.str "in")))) (.cons (.ret (.idx (.var 0) (.k (.int 2)))) .nil) .nil)
  (.cons (.ret (.ite (.cmp .eq (.var 1) (.k (.str "grow"))) (.idx (.var 0) (.k (.int 4))) (.tup .nil))) .nil))))⟩
def fLparts (K : LIds) : Fn := ⟨1, 2,
  (.cons (.asg (.nm 1) (.idx (.var 0) (.k (.int 0))))
  (.cons (.if_ (.cmp .eq (.var 1) (.k (.str "not"))) (.cons (.ret (.lst false (.cons (.idx (.var 0) (.k (.int 1))) .nil))) .nil) .nil)
  (.cons (.if_ (.or (.cmp .eq (.var 1) (.k (.str "and"))) (.cmp .eq (.var 1) (.k (.str "or")))) (.cons (.ret (.lst false (.cons (.idx (.var 0) (.k (.int 1))) (.cons (.idx (.var 0) (.k (.int 2))) .nil)))) .nil) .nil)
  (.cons (.if_ (.or (.cmp .eq (.var 1) (.k (.str "some"))) (.cmp .eq (.var 1) (.k (.str "all")))) (.cons (.ret (.lst false (.cons (.idx (.var 0) (.k (.int 2))) .nil))) .nil) .nil)
  (.cons (.ret (.ite (.cmp .eq (.var 1) (.k (.str "grow"))) (.lst false (.cons (.idx (.var 0) (.k (.int 3))) .nil)) (.lst false .nil))) .nil)))))⟩
def bLfree0 (K : LIds) : B := (.cons (.asg (.nm 2) (.bin .add false (.var 2) (.call K.free .val (.cons (.var 3) (.cons (.var 1) .nil))))) .nil)
def lLfree0 (K : LIds) : S := .for_ (.nm 3) (.seq (.call K.parts .val (.cons (.var 0) .nil))) (bLfree0 K)
def fLfree (K : LIds) : Fn := ⟨2, 5,
  (.cons (.asg (.nm 2) (.lc false [4] (.var 4) (.nm 4) (.seq (.call K.used .val (.cons (.var 0) .nil))) (.cons (.cmp .notin (.var 4) (.var 1)) .nil)))
  (.cons (.if_ (.cmp .eq (.idx (.var 0) (.k (.int 0))) (.k (.str "grow"))) (.cons (.asg (.nm 1) (.bin .add false (.var 1) (.idx (.var 0) (.k (.int 2))))) .nil) .nil)
  (.cons (.if_ (.or (.cmp .eq (.idx (.var 0) (.k (.int 0))) (.k (.str "some"))) (.cmp .eq (.idx (.var 0) (.k (.int 0))) (.k (.str "all")))) (.cons (.asg (.nm 1) (.bin .add false (.var 1) (.tup (.cons (.idx (.var 0) (.k (.int 1))) .nil)))) .nil) .nil)
  (.cons (lLfree0 K)
  (.cons (.ret (.var 2)) .nil)))))⟩
def fLfreen (K : LIds) : Fn := ⟨1, 1,
  (.cons (.ret (.bi .sortedSet false (.cons (.call K.free .val (.cons (.var 0) (.cons (.tup .nil) .nil))) .nil))) .nil)⟩
def bLfreer0 (K : LIds) : B := (.cons (.asg (.nm 2) (.bin .add false (.var 2) (.call K.freer .val (.cons (.var 3) (.cons (.var 1) .nil))))) .nil)
def lLfreer0 (K : LIds) : S := .for_ (.nm 3) (.seq (.call K.parts .val (.cons (.var 0) .nil))) (bLfreer0 K)
def fLfreer (K : LIds) : Fn := ⟨2, 4,
  (.cons (.asg (.nm 2) (.lst false .nil))
  (.cons (.if_ (.and (.cmp .eq (.idx (.var 0) (.k (.int 0))) (.k (.str "in"))) (.cmp .notin (.idx (.var 0) (.k (.int 1))) (.var 1))) (.cons (.asg (.nm 2) (.lst false (.cons (.idx (.var 0) (.k (.int 1))) .nil))) .nil) .nil)
  (.cons (.if_ (.cmp .eq (.idx (.var 0) (.k (.int 0))) (.k (.str "grow"))) (.cons (.asg (.nm 1) (.bin .add false (.var 1) (.tup (.cons (.idx (.var 0) (.k (.int 1))) .nil)))) .nil) .nil)
  (.cons (lLfreer0 K)
  (.cons (.ret (.var 2)) .nil)))))⟩
def bLall0 (K : LIds) : B := (.cons (.asg (.nm 1) (.bin .add false (.var 1) (.call K.all .val (.cons (.var 2) .nil)))) .nil)
def lLall0 (K : LIds) : S := .for_ (.nm 2) (.seq (.call K.parts .val (.cons (.var 0) .nil))) (bLall0 K)
def fLall (K : LIds) : Fn := ⟨1, 3,
  (.cons (.asg (.nm 1) (.lst false (.cons (.var 0) .nil)))
  (.cons (lLall0 K)
  (.cons (.ret (.var 1)) .nil)))⟩

/-! ### what they say -/
def Q.terms : Q → List Str
  | .same x y => [x, y]
  | .given _ xs => xs
  | .inn _ xs => xs
  | .grow _ _ _ ts => ts
  | _ => []
def Q.bnd : Q → List Str
  | .grow _ bs _ _ => bs
  | .qu _ x _ => [x]
  | _ => []
def Q.idx : Q → List Nat
  | .not _ => [1]
  | .bi _ _ _ => [1, 2]
  | .qu _ _ _ => [2]
  | .grow _ _ _ _ => [3]
  | _ => []
def Q.word : Q → Str
  | .tru => "true"
  | .fal => "false"
  | .given _ _ => "given"
  | .same _ _ => "same"
  | .inn _ _ => "in"
  | .not _ => "not"
  | .bi w _ _ => if w then "and" else "or"
  | .qu w _ _ => if w then "some" else "all"
  | .grow _ _ _ _ => "grow"
def Q.items : Q → List D
  | .given r xs => [.str r, .tup (sD xs)]
  | .same x y => [.str x, .str y]
  | .inn r xs => [.str r, .tup (sD xs)]
  | .not p => [p.toD]
  | .bi _ p q => [p.toD, q.toD]
  | .qu _ x p => [.str x, p.toD]
  | .grow r bs p ts => [.str r, .tup (sD bs), p.toD, .tup (sD ts)]
  | _ => []
theorem toD_eq (q : Q) : q.toD = .tup (.str q.word :: q.items) := by cases q <;> rfl
class OkS (x : Str) : Prop where
  ok : PyData.strOk x = true
instance : OkS "true" := ⟨by decide +kernel⟩
instance : OkS "false" := ⟨by decide +kernel⟩
instance : OkS "given" := ⟨by decide +kernel⟩
instance : OkS "same" := ⟨by decide +kernel⟩
instance : OkS "in" := ⟨by decide +kernel⟩
instance : OkS "not" := ⟨by decide +kernel⟩
instance : OkS "and" := ⟨by decide +kernel⟩
instance : OkS "or" := ⟨by decide +kernel⟩
instance : OkS "some" := ⟨by decide +kernel⟩
instance : OkS "all" := ⟨by decide +kernel⟩
instance : OkS "grow" := ⟨by decide +kernel⟩
instance (w : Bool) : OkS (if w then "and" else "or") := by
  cases w
  · exact inferInstanceAs (OkS "or")
  · exact inferInstanceAs (OkS "and")
instance (w : Bool) : OkS (if w then "some" else "all") := by
  cases w
  · exact inferInstanceAs (OkS "all")
  · exact inferInstanceAs (OkS "some")
instance (q : Q) : OkS q.word := by cases q <;> (unfold Q.word; exact inferInstance)
theorem eqw (a b : Str) (S : Store) [OkS a] [OkS b] : cmpV .eq (.str a) (.str b) S = some (decide (a = b)) := eq_str OkS.ok OkS.ok S
theorem new_ (a b : Str) (S : Store) [OkS a] [OkS b] : cmpV .ne (.str a) (.str b) S = some (!decide (a = b)) := ne_str OkS.ok OkS.ok S
theorem s_nilE {C : CallT} {σ : Z.Env} {S : Store} {ds : List D} (h : [] = ds) : evs C σ .nil S = .ok ds S := h ▸ s_nil
theorem s_consE {C : CallT} {σ : Z.Env} {S S1 S2 : Store} {e : E} {es : Es} {d : D} {ds r : List D} (h : ev C σ e false S = .ok d S1) (h2 : evs C σ es S1 = .ok ds S2) (q : d :: ds = r) : evs C σ (.cons e es) S = .ok r S2 := q ▸ s_cons h h2
variable {T : Nat → Option Fn} {J : PIds} {K : LIds}
structure PG (T : Nat → Option Fn) (J : PIds) : Prop where
  idx : T J.idx = some (fIdx J)
  parts : T J.parts = some (fParts J)
structure LG (T : Nat → Option Fn) (K : LIds) : Prop where
  used : T K.used = some (fLused K)
  parts : T K.parts = some (fLparts K)
section
local macro_rules | `(tactic| walk_at "zV") => `(tactic| first | exact eqw _ _ _ | assumption | rfl | exact tupN _ rfl | exact idxV_tup (at0 _ _) | (focus (apply cold; simp [Q.terms, Q.parts, Q.bnd, Q.idx]; done)) | (focus (apply binV_tupA; simp; done)) | exact binV_mod (by decide) | exact cmp_notin (in_sD _ _ _) | exact cmp_in (in_sD _ _ _))
local macro_rules | `(tactic| walk_at "zC") => `(tactic| first | rfl | assumption | decide)
local macro_rules | `(tactic| walk_at "zN") => `(tactic| (focus (apply tup_len; simp [Q.terms, Q.parts, Q.bnd, Q.idx]; done)))
local macro_rules | `(tactic| walk_at "zW") => `(tactic| first | assumption | exact endV_q _ _ | exact endV_qs _ _ | exact endV_bl _ _ | exact endV_int _ _ | exact endV_tup (sD_nr _) _ | exact endV_lst (sD_nr _) _ | rfl)
local macro_rules | `(tactic| walk_at "zO") => `(tactic| first | (with_reducible exact o_nil) | ((with_reducible apply o_one); walk_at "zE"))
local macro_rules | `(tactic| walk_at "zL") => `(tactic| first | ((with_reducible apply s_nilE); rfl) | ((with_reducible apply s_consE); walk_at "zE"; walk_at "zL"; rfl))
local macro_rules | `(tactic| walk_at "zE") => `(tactic| first | (with_reducible exact r_k) | ((with_reducible apply r_var); rfl) | (with_reducible exact r_gl) | (with_reducible assumption) | ((with_reducible apply r_tup); walk_at "zL"; walk_at "zN") | ((with_reducible apply r_lst); walk_at "zL"; walk_at "zV") | ((with_reducible apply r_cmp); walk_at "zE"; walk_at "zE"; walk_at "zV") | ((with_reducible apply r_bin); walk_at "zE"; walk_at "zE"; walk_at "zV") | ((with_reducible apply r_idx); walk_at "zE"; walk_at "zE"; walk_at "zV") | ((with_reducible apply r_slc); walk_at "zE"; walk_at "zO"; walk_at "zO"; walk_at "zV") | ((with_reducible apply r_bi); walk_at "zL"; walk_at "zV") | ((with_reducible apply r_bm); walk_at "zE"; walk_at "zV"; walk_at "zL"; walk_at "zV") | ((with_reducible apply r_isi); walk_at "zE"; walk_at "zV") | ((with_reducible apply r_call); walk_at "zL"; (with_reducible assumption); walk_at "zW") | ((with_reducible apply r_not_t); walk_at "zE") | ((with_reducible apply r_or_t); walk_at "zE"; walk_at "zC") | ((with_reducible apply r_or_f); walk_at "zE"; walk_at "zC"; walk_at "zE") | ((with_reducible apply r_and_f); walk_at "zE"; walk_at "zC") | ((with_reducible apply r_and_t); walk_at "zE"; walk_at "zC"; walk_at "zE") | ((with_reducible apply r_ite_t); walk_at "zE"; walk_at "zC"; walk_at "zE") | ((with_reducible apply r_ite_f); walk_at "zE"; walk_at "zC"; walk_at "zE"))
local macro_rules | `(tactic| walk_at "zS") => `(tactic| first | ((with_reducible apply x_asg); walk_at "zE"; rfl) | ((with_reducible apply x_ret); walk_at "zE") | (with_reducible assumption) | ((with_reducible apply x_if_f); walk_at "zE"; walk_at "zC"; walk_at "zB") | ((with_reducible apply x_if_t); walk_at "zE"; walk_at "zC"; walk_at "zB") | ((with_reducible apply x_setI); walk_at "zE"; walk_at "zE"; walk_at "zE"; walk_at "zV") | ((with_reducible apply x_expr); walk_at "zE"))
local macro_rules | `(tactic| walk_at "zB") => `(tactic| first | (with_reducible exact b_nil) | ((with_reducible apply b_cons); walk_at "zS"; walk_at "zB") | ((with_reducible apply b_ret); walk_at "zS"))
theorem lused (h : LG T K) (q : Q) (n : Nat) (S : Store) : callN T (n + 1) K.used [q.toD] S = .ok (.tup (sD q.terms)) S := by
  apply x_fn (fn := fLused K) h.used rfl
  rw [show startE (fLused K) [q.toD] = [some q.toD, none] from rfl]
  dsimp only [fLused]
  cases q with
  | bi w p r => cases w <;> walk_at "zB"
  | qu w x p => cases w <;> walk_at "zB"
  | same x y =>
    have hc : slcV false (Q.same x y).toD (some 1) none S = .ok (.tup (sD [x, y])) S := by
      show R.ok (D.tup (cut (D.str "same" :: sD [x, y]) (some 1) none)) S = _
      rw [cut_tail]
    walk_at "zB"
  | _ => walk_at "zB"
theorem lparts (h : LG T K) (q : Q) (n : Nat) (S : Store) : callN T (n + 1) K.parts [q.toD] S = .ok (.lst (q.parts.map Q.toD)) S := by
  apply x_fn (fn := fLparts K) h.parts rfl
  rw [show startE (fLparts K) [q.toD] = [some q.toD, none] from rfl]
  dsimp only [fLparts]
  cases q with
  | bi w p r => cases w <;> walk_at "zB"
  | qu w x p => cases w <;> walk_at "zB"
  | _ => walk_at "zB"
end
end Zg

/-! HB: what is free, plain facts. -/
namespace Zg
open PySem Z
/-! ### what is free -/
/-- names that occur and are not bound, in order -/
def fr : List Str → Q → List Str
  | b, .not p => fr b p
  | b, .bi _ p q => fr b p ++ fr b q
  | b, .qu _ x p => fr (b ++ [x]) p
  | b, .grow _ bs p ts => ts.filter (fun y => decide (y ∉ b)) ++ fr (b ++ bs) p
  | b, q => q.terms.filter fun y => decide (y ∉ b)
theorem fr_eq (b : List Str) (q : Q) : fr b q = (q.terms.filter fun y => decide (y ∉ b)) ++ q.parts.flatMap (fr (b ++ q.bnd)) := by
  cases q <;> simp [fr, Q.terms, Q.parts, Q.bnd]
/-- growing relations that are asked and not bound, in order -/
def frR : List Str → Q → List Str
  | b, .inn r _ => if r ∈ b then [] else [r]
  | b, .not p => frR b p
  | b, .bi _ p q => frR b p ++ frR b q
  | b, .qu _ _ p => frR b p
  | b, .grow r _ p _ => frR (b ++ [r]) p
  | _, _ => []
def Q.bndR : Q → List Str
  | .grow r _ _ _ => [r]
  | _ => []
def Q.askR : Q → List Str
  | .inn r _ => [r]
  | _ => []
theorem frR_eq (b : List Str) (q : Q) : frR b q = (q.askR.filter fun y => decide (y ∉ b)) ++ q.parts.flatMap (frR (b ++ q.bndR)) := by
  cases q with
  | inn r xs =>
    by_cases h : r ∈ b
    · simp [frR, Q.askR, Q.parts, h]
    · simp [frR, Q.askR, Q.parts, h]
  | _ => simp [frR, Q.askR, Q.parts, Q.bndR]
/-- how many names stand in a question -/
def Q.tot : Q → Nat
  | .not p => p.tot
  | .bi _ p q => p.tot + q.tot
  | .qu _ _ p => 1 + p.tot
  | .grow _ bs p ts => 1 + (bs.length + (ts.length + p.tot))
  | .inn _ xs => 1 + xs.length
  | q => q.terms.length
theorem tot_eq (q : Q) : q.terms.length + q.bnd.length + (q.parts.map Q.tot).sum ≤ q.tot := by
  cases q <;> simp [Q.terms, Q.bnd, Q.parts, Q.tot] <;> omega
theorem fr_len : ∀ (q : Q) (b : List Str), (fr b q).length ≤ q.tot
  | .tru, _ => by simp [fr, Q.terms]
  | .fal, _ => by simp [fr, Q.terms]
  | .given _ xs, b => List.length_filter_le _ _
  | .same x y, b => List.length_filter_le _ _
  | .inn _ xs, b => Nat.le_trans (List.length_filter_le _ _) (by simp [Q.tot, Q.terms])
  | .not p, b => fr_len p b
  | .bi _ p q, b => by
    have h1 := fr_len p b
    have h2 := fr_len q b
    simp only [fr, List.length_append, Q.tot]
    omega
  | .qu _ x p, b => by
    have h1 := fr_len p (b ++ [x])
    simp only [fr, Q.tot]
    omega
  | .grow _ bs p ts, b => by
    have h1 := fr_len p (b ++ bs)
    have h2 := List.length_filter_le (fun y => decide (y ∉ b)) ts
    simp only [fr, List.length_append, Q.tot]
    omega
theorem frR_len : ∀ (q : Q) (b : List Str), (frR b q).length ≤ q.tot
  | .tru, _ => by simp [frR]
  | .fal, _ => by simp [frR]
  | .given _ xs, b => by simp [frR]
  | .same x y, b => by simp [frR]
  | .inn r xs, b => by
    simp only [frR, Q.tot]
    split <;> simp
  | .not p, b => frR_len p b
  | .bi _ p q, b => by
    have h1 := frR_len p b
    have h2 := frR_len q b
    simp only [frR, List.length_append, Q.tot]
    omega
  | .qu _ x p, b => by
    have h1 := frR_len p b
    simp only [frR, Q.tot]
    omega
  | .grow r bs p ts, b => by
    have h1 := frR_len p (b ++ [r])
    simp only [frR, Q.tot]
    omega
/-- all parts, the question first -/
def Q.all : Q → List Q
  | .not p => .not p :: p.all
  | .bi w p q => .bi w p q :: (p.all ++ q.all)
  | .qu w x p => .qu w x p :: p.all
  | .grow r bs p ts => .grow r bs p ts :: p.all
  | q => [q]
theorem all_eq (q : Q) : q.all = q :: q.parts.flatMap Q.all := by cases q <;> simp [Q.all, Q.parts]
theorem all_len : ∀ q : Q, q.all.length = q.sz
  | .tru => rfl
  | .fal => rfl
  | .given _ _ => rfl
  | .same _ _ => rfl
  | .inn _ _ => rfl
  | .not p => by simp only [Q.all, List.length_cons, all_len p, Q.sz]; omega
  | .bi _ p q => by simp only [Q.all, List.length_cons, List.length_append, all_len p, all_len q, Q.sz]; omega
  | .qu _ _ p => by simp only [Q.all, List.length_cons, all_len p, Q.sz]; omega
  | .grow _ _ p _ => by simp only [Q.all, List.length_cons, all_len p, Q.sz]; omega
theorem all_dep : ∀ {q p : Q}, p ∈ q.all → p.dep ≤ q.dep
  | .tru, p, h => by rw [List.mem_singleton.mp h]; exact Nat.le_refl _
  | .fal, p, h => by rw [List.mem_singleton.mp h]; exact Nat.le_refl _
  | .given _ _, p, h => by rw [List.mem_singleton.mp h]; exact Nat.le_refl _
  | .same _ _, p, h => by rw [List.mem_singleton.mp h]; exact Nat.le_refl _
  | .inn _ _, p, h => by rw [List.mem_singleton.mp h]; exact Nat.le_refl _
  | .not q, p, h => by
    rcases List.mem_cons.mp h with rfl | h
    · exact Nat.le_refl _
    · have := all_dep (q := q) h; simp only [Q.dep]; omega
  | .bi _ q r, p, h => by
    rcases List.mem_cons.mp h with rfl | h
    · exact Nat.le_refl _
    · rcases List.mem_append.mp h with h | h
      · have := all_dep (q := q) h; simp only [Q.dep]; omega
      · have := all_dep (q := r) h; simp only [Q.dep]; omega
  | .qu _ _ q, p, h => by
    rcases List.mem_cons.mp h with rfl | h
    · exact Nat.le_refl _
    · have := all_dep (q := q) h; simp only [Q.dep]; omega
  | .grow _ _ q _, p, h => by
    rcases List.mem_cons.mp h with rfl | h
    · exact Nat.le_refl _
    · have := all_dep (q := q) h; simp only [Q.dep]; omega
theorem part_dep {q p : Q} (h : p ∈ q.parts) : p.dep < q.dep := by
  cases q <;> simp only [Q.parts, List.mem_cons, List.not_mem_nil, or_false] at h
  · subst h; simp only [Q.dep]; omega
  · rcases h with rfl | rfl <;> simp only [Q.dep] <;> omega
  · subst h; simp only [Q.dep]; omega
  · subst h; simp only [Q.dep]; omega
theorem part_tot {q p : Q} (h : p ∈ q.parts) : p.tot + q.bnd.length + q.bndR.length ≤ q.tot := by
  cases q <;> simp only [Q.parts, List.mem_cons, List.not_mem_nil, or_false] at h
  · subst h; simp only [Q.tot, Q.bnd, Q.bndR, List.length_nil]; omega
  · rcases h with rfl | rfl <;> simp only [Q.tot, Q.bnd, Q.bndR, List.length_nil] <;> omega
  · subst h; simp only [Q.tot, Q.bnd, Q.bndR, List.length_nil, List.length_cons]; omega
  · subst h; simp only [Q.tot, Q.bnd, Q.bndR, List.length_nil, List.length_cons]; omega
theorem parts_sz (q : Q) : (q.parts.map fun p => (p.sz : Int)).sum + 1 = q.sz := by
  cases q <;> simp [Q.parts, Q.sz] <;> omega
theorem parts_len (q : Q) : q.parts.length ≤ 2 := by cases q <;> simp [Q.parts]
/-- the texts are texts, the rows short -/
def nice : Q → Prop
  | .given r xs => PyData.strOk r = true ∧ (∀ x ∈ xs, PyData.strOk x = true) ∧ xs.length ≤ 2
  | .same x y => PyData.strOk x = true ∧ PyData.strOk y = true
  | .inn r xs => PyData.strOk r = true ∧ (∀ x ∈ xs, PyData.strOk x = true) ∧ xs.length ≤ 2
  | .not p => nice p
  | .bi _ p q => nice p ∧ nice q
  | .qu _ x p => PyData.strOk x = true ∧ nice p
  | .grow r bs p ts => PyData.strOk r = true ∧ (∀ x ∈ bs, PyData.strOk x = true) ∧ bs.length ≤ 2 ∧ (∀ x ∈ ts, PyData.strOk x = true) ∧ ts.length ≤ 2 ∧ nice p
  | _ => True
theorem VN_ok {r : Str} (h : r ∈ VN) : PyData.strOk r = true := by
  simp only [VN, List.mem_cons, List.not_mem_nil, or_false] at h
  rcases h with rfl | rfl | rfl | rfl | rfl <;> decide +kernel
theorem BN_ok {r : Str} (h : r ∈ BN) : PyData.strOk r = true := by
  simp only [BN, List.mem_cons, List.not_mem_nil, or_false] at h
  rcases h with rfl | rfl | rfl <;> decide +kernel
theorem wf_nice : ∀ {q : Q} {ns : List Str} {gs : List (Str × Nat)} {l : Nat}, (∀ x ∈ ns, PyData.strOk x = true) → (∀ g ∈ gs, PyData.strOk g.1 = true ∧ g.2 ≤ 2) → wf ns gs l q → nice q
  | .tru, _, _, _, _, _, _ => trivial
  | .fal, _, _, _, _, _, _ => trivial
  | .given r xs, _, _, _, hn, _, h => by
    refine ⟨?_, fun x hx => hn x (h.2 x hx), ?_⟩
    · rcases h.1 with ⟨rfl, _⟩ | ⟨rfl | rfl, _⟩ | ⟨rfl, _⟩ <;> decide +kernel
    · rcases h.1 with ⟨_, e⟩ | ⟨_, e⟩ | ⟨_, e⟩ <;> omega
  | .same x y, _, _, _, hn, _, h => ⟨hn x h.1, hn y h.2⟩
  | .inn r xs, _, _, _, hn, hg, h => ⟨(hg _ h.1).1, fun x hx => hn x (h.2 x hx), (hg _ h.1).2⟩
  | .not p, _, _, _, hn, hg, h => wf_nice (q := p) hn hg h
  | .bi _ p q, _, _, _, hn, hg, h => ⟨wf_nice (q := p) hn hg h.1, wf_nice (q := q) hn hg h.2⟩
  | .qu _ x p, _, _, _, hn, hg, h => ⟨VN_ok h.1, wf_nice (q := p) (fun y hy => by
      rcases List.mem_cons.mp hy with rfl | hy
      · exact VN_ok h.1
      · exact hn y hy) hg h.2⟩
  | .grow r bs p ts, _, _, _, hn, hg, h => by
    obtain ⟨h1, h2, h3, h4, h5, h6, h7, h8⟩ := h
    refine ⟨RN_ok h1, fun x hx => BN_ok (h3 x hx), h4, fun x hx => hn x (h6 x hx), by omega, wf_nice (q := p) (fun y hy => ?_) (fun g hgm => ?_) h8⟩
    · rcases List.mem_append.mp hy with e | e
      · exact BN_ok (h3 y e)
      · exact hn y e
    · rcases List.mem_cons.mp hgm with e | e
      · rw [e]; exact ⟨RN_ok h1, h4⟩
      · exact hg g (List.mem_filter.mp e).1
theorem nice_tot : ∀ {q : Q}, nice q → q.tot ≤ 6 * q.sz
  | .tru, _ => by simp [Q.tot, Q.terms]
  | .fal, _ => by simp [Q.tot, Q.terms]
  | .given r xs, h => by have := h.2.2; simp only [Q.tot, Q.terms, Q.sz]; omega
  | .same x y, h => by simp [Q.tot, Q.terms, Q.sz]
  | .inn r xs, h => by have := h.2.2; simp only [Q.tot, Q.sz]; omega
  | .not p, h => by have := nice_tot (q := p) h; simp only [Q.tot, Q.sz]; omega
  | .bi _ p q, h => by have := nice_tot (q := p) h.1; have := nice_tot (q := q) h.2; simp only [Q.tot, Q.sz]; omega
  | .qu _ x p, h => by have := nice_tot (q := p) h.2; simp only [Q.tot, Q.sz]; omega
  | .grow r bs p ts, h => by
    obtain ⟨_, _, h1, _, h2, h3⟩ := h
    have := nice_tot (q := p) h3
    simp only [Q.tot, Q.sz]
    omega
theorem nice_all : ∀ {q p : Q}, nice q → p ∈ q.all → nice p
  | .tru, p, h, hp => by rw [List.mem_singleton.mp hp]; exact h
  | .fal, p, h, hp => by rw [List.mem_singleton.mp hp]; exact h
  | .given _ _, p, h, hp => by rw [List.mem_singleton.mp hp]; exact h
  | .same _ _, p, h, hp => by rw [List.mem_singleton.mp hp]; exact h
  | .inn _ _, p, h, hp => by rw [List.mem_singleton.mp hp]; exact h
  | .not q, p, h, hp => by
    rcases List.mem_cons.mp hp with rfl | hp
    · exact h
    · exact nice_all (q := q) h hp
  | .bi _ q r, p, h, hp => by
    rcases List.mem_cons.mp hp with rfl | hp
    · exact h
    · rcases List.mem_append.mp hp with hp | hp
      · exact nice_all (q := q) h.1 hp
      · exact nice_all (q := r) h.2 hp
  | .qu _ _ q, p, h, hp => by
    rcases List.mem_cons.mp hp with rfl | hp
    · exact h
    · exact nice_all (q := q) h.2 hp
  | .grow _ _ q _, p, h, hp => by
    rcases List.mem_cons.mp hp with rfl | hp
    · exact h
    · exact nice_all (q := q) h.2.2.2.2.2 hp
theorem all_sz : ∀ {q p : Q}, p ∈ q.all → p.sz ≤ q.sz
  | .tru, p, h => by rw [List.mem_singleton.mp h]; exact Nat.le_refl _
  | .fal, p, h => by rw [List.mem_singleton.mp h]; exact Nat.le_refl _
  | .given _ _, p, h => by rw [List.mem_singleton.mp h]; exact Nat.le_refl _
  | .same _ _, p, h => by rw [List.mem_singleton.mp h]; exact Nat.le_refl _
  | .inn _ _, p, h => by rw [List.mem_singleton.mp h]; exact Nat.le_refl _
  | .not q, p, h => by
    rcases List.mem_cons.mp h with rfl | h
    · exact Nat.le_refl _
    · have := all_sz (q := q) h; simp only [Q.sz]; omega
  | .bi _ q r, p, h => by
    rcases List.mem_cons.mp h with rfl | h
    · exact Nat.le_refl _
    · rcases List.mem_append.mp h with h | h
      · have := all_sz (q := q) h; simp only [Q.sz]; omega
      · have := all_sz (q := r) h; simp only [Q.sz]; omega
  | .qu _ _ q, p, h => by
    rcases List.mem_cons.mp h with rfl | h
    · exact Nat.le_refl _
    · have := all_sz (q := q) h; simp only [Q.sz]; omega
  | .grow _ _ q _, p, h => by
    rcases List.mem_cons.mp h with rfl | h
    · exact Nat.le_refl _
    · have := all_sz (q := q) h; simp only [Q.sz]; omega
theorem fr_ok : ∀ {q : Q}, nice q → ∀ (b : List Str), ∀ x ∈ fr b q, PyData.strOk x = true
  | .tru, _, b, x, hx => by simp [fr, Q.terms] at hx
  | .fal, _, b, x, hx => by simp [fr, Q.terms] at hx
  | .given r xs, h, b, x, hx => h.2.1 x (List.mem_filter.mp hx).1
  | .same y z, h, b, x, hx => by
    have := (List.mem_filter.mp hx).1
    simp only [Q.terms, List.mem_cons, List.not_mem_nil, or_false] at this
    rcases this with rfl | rfl
    · exact h.1
    · exact h.2
  | .inn r xs, h, b, x, hx => h.2.1 x (List.mem_filter.mp hx).1
  | .not p, h, b, x, hx => fr_ok (q := p) h b x hx
  | .bi _ p q, h, b, x, hx => by
    rcases List.mem_append.mp hx with hx | hx
    · exact fr_ok (q := p) h.1 b x hx
    · exact fr_ok (q := q) h.2 b x hx
  | .qu _ y p, h, b, x, hx => fr_ok (q := p) h.2 _ x hx
  | .grow r bs p ts, h, b, x, hx => by
    rcases List.mem_append.mp hx with hx | hx
    · exact h.2.2.2.1 x (List.mem_filter.mp hx).1
    · exact fr_ok (q := p) h.2.2.2.2.2 _ x hx
theorem frR_ok : ∀ {q : Q}, nice q → ∀ (b : List Str), ∀ x ∈ frR b q, PyData.strOk x = true
  | .tru, _, b, x, hx => by simp [frR] at hx
  | .fal, _, b, x, hx => by simp [frR] at hx
  | .given r xs, h, b, x, hx => by simp [frR] at hx
  | .same y z, h, b, x, hx => by simp [frR] at hx
  | .inn r xs, h, b, x, hx => by
    simp only [frR] at hx
    split at hx
    · cases hx
    · rw [List.mem_singleton.mp hx]; exact h.1
  | .not p, h, b, x, hx => frR_ok (q := p) h b x hx
  | .bi _ p q, h, b, x, hx => by
    rcases List.mem_append.mp hx with hx | hx
    · exact frR_ok (q := p) h.1 b x hx
    · exact frR_ok (q := q) h.2 b x hx
  | .qu _ y p, h, b, x, hx => frR_ok (q := p) h.2 b x hx
  | .grow r bs p ts, h, b, x, hx => frR_ok (q := p) h.2.2.2.2.2 _ x hx
end Zg

/-! HC: the program's and the law's readings of a question. -/
namespace Zg
open PySem Z
variable {T : Nat → Option Fn} {J : PIds} {K : LIds} {ow owr : Bool}
theorem x_fnN {T : Nat → Option Fn} {n k : Nat} {fn : Fn} {ds : List D} {σ : Z.Env} {S S1 : Store} (hT : T k = some fn) (hl : ds.length = fn.np) (h : evB (callN T n) fn.body (startE fn ds) S = .ok (.nx σ) S1) : callN T (n + 1) k ds S = .ok .non S1 := by
  simp [callN, hT, runFn, hl, h]
structure PN (T : Nat → Option Fn) (J : PIds) (ow : Bool) : Prop extends PG T J where
  terms : T J.terms = some (fTerms J)
  bound : T J.bound = some (fBound J)
  note : T J.note = some (fNote J)
  free : T J.free = some (fFree ow J)
structure PF (T : Nat → Option Fn) (J : PIds) (ow owr : Bool) : Prop extends PN T J ow where
  noter : T J.noter = some (fNoter J)
  freer : T J.freer = some (fFreer owr J)
  count : T J.count = some (fCount J)
structure LF (T : Nat → Option Fn) (K : LIds) : Prop extends LG T K where
  free : T K.free = some (fLfree K)
  freen : T K.freen = some (fLfreen K)
theorem idxs (h : PG T J) (q : Q) (n : Nat) (S : Store) : callN T (n + 1) J.idx [q.toD] S = .ok (.tup (q.idx.map fun i => .int (i : Nat))) S := by
  apply x_fn h.idx rfl
  rw [show startE (fIdx J) [q.toD] = [some q.toD] from rfl]
  have hw : ev (callN T n) [some q.toD] (.idx (.var 0) (.k (.int 0))) false S = .ok (.str q.word) S := r_idx (r_var rfl) r_k (by rw [toD_eq]; exact idxV_tup (at0 _ _))
  refine b_ret (x_ret (r_bm r_gl rfl (s_cons hw (s_cons (r_tup s_nil (tup_len (by simp))) s_nil)) ?_))
  cases q with
  | bi w p r => cases w <;> rfl
  | qu w x p => cases w <;> rfl
  | _ => rfl
theorem nr_ints (l : List Nat) : D.nrL (l.map fun i => .int (i : Nat)) = true := nrL_map (fun _ => rfl) l
theorem parts_in (h : PG T J) (q : Q) (n : Nat) (S : Store) : callN T (n + 2) J.parts [q.toD] S = .ok (.lst (q.parts.map Q.toD)) S := by
  have h1 := idxs h q n S
  have hc : ev (callN T (n + 1)) [some q.toD, none] (.call J.idx .val (.cons (.var 0) .nil)) false S = .ok (.tup (q.idx.map fun i => .int (i : Nat))) S := r_call (s_cons (r_var rfl) s_nil) h1 (endV_tup (nr_ints _) _)
  have hz : ∀ p ∈ q.idx.zip q.parts, ∀ S, idxV q.toD (.int (p.1 : Nat)) S = some p.2.toD := by
    intro p hp S
    cases q <;> simp only [Q.idx, Q.parts, List.zip_cons_cons, List.zip_nil_right, List.zip_nil_left, List.mem_cons, List.not_mem_nil, or_false] at hp
    · subst hp; exact tupN _ rfl
    · rcases hp with rfl | rfl <;> exact tupN _ rfl
    · subst hp; exact tupN _ rfl
    · subst hp; exact tupN _ rfl
  have hm := mapR_map (S := S) (l := q.idx.zip q.parts) (k := fun p : Nat × Q => D.int (p.1 : Nat)) (g := fun p => p.2.toD) (f := fun d S2 => match asg (.nm 1) d (wipeE [some q.toD, none] [1]) with
      | some σ1 => (evC (callN T (n + 1)) σ1 .nil S2).bind fun b S3 => if b then (ev (callN T (n + 1)) σ1 (.idx (.var 0) (.var 1)) false S3).bind fun y S4 => .ok [y] S4 else .ok [] S3
      | none => .bad) fun p hp => by
    have ha : asg (.nm 1) (.int (p.1 : Nat)) (wipeE [some q.toD, none] [1]) = some [some q.toD, some (.int (p.1 : Nat))] := rfl
    have he : ev (callN T (n + 1)) [some q.toD, some (.int (p.1 : Nat))] (.idx (.var 0) (.var 1)) false S = .ok p.2.toD S := r_idx (r_var rfl) (r_var rfl) (hz p hp S)
    simp only [ha, evC, R.ok_bind, if_true, he]
  have e1 : (q.idx.zip q.parts).map (fun p : Nat × Q => D.int (p.1 : Nat)) = q.idx.map fun i => .int (i : Nat) := by cases q <;> rfl
  have e2 : (q.idx.zip q.parts).map (fun p : Nat × Q => p.2.toD) = q.parts.map Q.toD := by cases q <;> rfl
  rw [e1, e2] at hm
  have hl := parts_len q
  exact x_fn h.parts rfl (b_ret (x_ret (r_lc (i_seq hc rfl) hm (cold (by rw [List.length_map]; omega)))))
section
local macro_rules | `(tactic| walk_at "zV") => `(tactic| first | exact eqw _ _ _ | assumption | rfl | exact tupN _ rfl | exact idxV_tup (at0 _ _) | (focus (apply cold; simp [Q.terms, Q.parts, Q.bnd, Q.idx]; done)) | (focus (apply binV_tupA; simp; done)) | exact binV_mod (by decide) | exact cmp_notin (in_sD _ _ _) | exact cmp_in (in_sD _ _ _))
local macro_rules | `(tactic| walk_at "zC") => `(tactic| first | rfl | assumption | decide)
local macro_rules | `(tactic| walk_at "zN") => `(tactic| (focus (apply tup_len; simp [Q.terms, Q.parts, Q.bnd, Q.idx]; done)))
local macro_rules | `(tactic| walk_at "zW") => `(tactic| first | assumption | exact endV_q _ _ | exact endV_qs _ _ | exact endV_bl _ _ | exact endV_int _ _ | exact endV_tup (sD_nr _) _ | exact endV_lst (sD_nr _) _ | rfl)
local macro_rules | `(tactic| walk_at "zO") => `(tactic| first | (with_reducible exact o_nil) | ((with_reducible apply o_one); walk_at "zE"))
local macro_rules | `(tactic| walk_at "zL") => `(tactic| first | ((with_reducible apply s_nilE); rfl) | ((with_reducible apply s_consE); walk_at "zE"; walk_at "zL"; rfl))
local macro_rules | `(tactic| walk_at "zE") => `(tactic| first | (with_reducible exact r_k) | ((with_reducible apply r_var); rfl) | (with_reducible exact r_gl) | (with_reducible assumption) | ((with_reducible apply r_tup); walk_at "zL"; walk_at "zN") | ((with_reducible apply r_lst); walk_at "zL"; walk_at "zV") | ((with_reducible apply r_cmp); walk_at "zE"; walk_at "zE"; walk_at "zV") | ((with_reducible apply r_bin); walk_at "zE"; walk_at "zE"; walk_at "zV") | ((with_reducible apply r_idx); walk_at "zE"; walk_at "zE"; walk_at "zV") | ((with_reducible apply r_slc); walk_at "zE"; walk_at "zO"; walk_at "zO"; walk_at "zV") | ((with_reducible apply r_bi); walk_at "zL"; walk_at "zV") | ((with_reducible apply r_bm); walk_at "zE"; walk_at "zV"; walk_at "zL"; walk_at "zV") | ((with_reducible apply r_isi); walk_at "zE"; walk_at "zV") | ((with_reducible apply r_call); walk_at "zL"; (with_reducible assumption); walk_at "zW") | ((with_reducible apply r_not_t); walk_at "zE") | ((with_reducible apply r_or_t); walk_at "zE"; walk_at "zC") | ((with_reducible apply r_or_f); walk_at "zE"; walk_at "zC"; walk_at "zE") | ((with_reducible apply r_and_f); walk_at "zE"; walk_at "zC") | ((with_reducible apply r_and_t); walk_at "zE"; walk_at "zC"; walk_at "zE") | ((with_reducible apply r_ite_t); walk_at "zE"; walk_at "zC"; walk_at "zE") | ((with_reducible apply r_ite_f); walk_at "zE"; walk_at "zC"; walk_at "zE"))
local macro_rules | `(tactic| walk_at "zS") => `(tactic| first | ((with_reducible apply x_asg); walk_at "zE"; rfl) | ((with_reducible apply x_ret); walk_at "zE") | (with_reducible assumption) | ((with_reducible apply x_if_f); walk_at "zE"; walk_at "zC"; walk_at "zB") | ((with_reducible apply x_if_t); walk_at "zE"; walk_at "zC"; walk_at "zB") | ((with_reducible apply x_setI); walk_at "zE"; walk_at "zE"; walk_at "zE"; walk_at "zV") | ((with_reducible apply x_expr); walk_at "zE"))
local macro_rules | `(tactic| walk_at "zB") => `(tactic| first | (with_reducible exact b_nil) | ((with_reducible apply b_cons); walk_at "zS"; walk_at "zB") | ((with_reducible apply b_ret); walk_at "zS"))
theorem terms_in (hT : T J.terms = some (fTerms J)) (q : Q) (n : Nat) (S : Store) : callN T (n + 1) J.terms [q.toD] S = .ok (.tup (sD q.terms)) S := by
  apply x_fn (fn := fTerms J) hT rfl
  rw [show startE (fTerms J) [q.toD] = [some q.toD, none] from rfl]
  dsimp only [fTerms]
  cases q with
  | bi w p r => cases w <;> walk_at "zB"
  | qu w x p => cases w <;> walk_at "zB"
  | same x y =>
    have hc : slcV false (Q.same x y).toD (some 1) none S = .ok (.tup (sD [x, y])) S := by
      show R.ok (D.tup (cut (D.str "same" :: sD [x, y]) (some 1) none)) S = _
      rw [cut_tail]
    walk_at "zB"
  | _ => walk_at "zB"
theorem bound_in (hT : T J.bound = some (fBound J)) (q : Q) (n : Nat) (S : Store) : callN T (n + 1) J.bound [q.toD] S = .ok (.tup (sD q.bnd)) S := by
  apply x_fn (fn := fBound J) hT rfl
  rw [show startE (fBound J) [q.toD] = [some q.toD] from rfl]
  dsimp only [fBound]
  cases q with
  | bi w p r => cases w <;> walk_at "zB"
  | qu w x p => cases w <;> walk_at "zB"
  | _ => walk_at "zB"
end
/-! ### noting in a dict -/
def nk (ks : List Str) : List (D × D) := ks.map fun k => (.str k, .bl true)
def addS (ks : List Str) (x : Str) : List Str := if x ∈ ks then ks else ks ++ [x]
def addAll (ks xs : List Str) : List Str := xs.foldl addS ks
theorem nk_nr : ∀ ks : List Str, (Z.Obj.dct (nk ks)).nr = true
  | [] => rfl
  | k :: ks => by
    have := nk_nr ks
    simpa [nk, Z.Obj.nr, D.nrK, D.nr] using this
theorem put_nk (ks : List Str) (x : Str) : putD (nk ks) (.str x) (.bl true) = nk (addS ks x) := by
  have h1 : ((nk ks).any fun p => decide (p.1 = D.str x)) = decide (x ∈ ks) := by
    induction ks with
    | nil => rfl
    | cons k ks ih =>
      show (decide (D.str k = D.str x) || (nk ks).any _) = _
      rw [ih]
      by_cases e : k = x
      · subst e; simp
      · have e' : ¬ x = k := fun h => e h.symm
        simp [e, e']
  have h2 : ((nk ks).map fun p => if p.1 = D.str x then (p.1, D.bl true) else p) = nk ks := by
    unfold nk
    rw [List.map_map]
    refine List.map_congr_left fun k _ => ?_
    show (if D.str k = D.str x then (D.str k, D.bl true) else (D.str k, D.bl true)) = _
    split <;> rfl
  unfold putD addS
  rw [h1, h2]
  by_cases e : x ∈ ks
  · simp [e]
  · simp [e, nk]
theorem addS_len (ks : List Str) (x : Str) : (addS ks x).length ≤ ks.length + 1 := by
  unfold addS
  split
  · omega
  · simp
theorem addAll_len : ∀ (xs ks : List Str), (addAll ks xs).length ≤ ks.length + xs.length
  | [], ks => Nat.le_refl _
  | x :: xs, ks => by
    have h1 := addAll_len xs (addS ks x)
    have h2 := addS_len ks x
    show (addAll (addS ks x) xs).length ≤ _
    rw [List.length_cons]
    omega
theorem addAll_app (ks xs ys : List Str) : addAll ks (xs ++ ys) = addAll (addAll ks xs) ys := List.foldl_append
theorem addAll_dd : ∀ (xs ks : List Str), addAll ks xs = ks ++ (dedupS xs).filter fun y => decide (y ∉ ks)
  | [], ks => by simp [addAll, dedupS]
  | x :: xs, ks => by
    have ih := addAll_dd xs (addS ks x)
    show addAll (addS ks x) xs = ks ++ (x :: (dedupS xs).filter fun y => decide (y ≠ x)).filter _
    rw [ih]
    by_cases e : x ∈ ks
    · rw [show addS ks x = ks from if_pos e, List.filter_cons, if_neg (by simp [e]), List.filter_filter]
      congr 1
      refine List.filter_congr fun y _ => ?_
      by_cases hy : y ∈ ks
      · simp [hy]
      · have : y ≠ x := fun h => hy (h ▸ e)
        simp [hy, this]
    · rw [show addS ks x = ks ++ [x] from if_neg e, List.filter_cons, if_pos (by simp [e]), List.filter_filter, List.append_assoc]
      congr 1
      show x :: _ = x :: _
      congr 1
      refine List.filter_congr fun y _ => ?_
      by_cases hy : y ∈ ks <;> by_cases hx : y = x <;> simp [hy, hx]
theorem addAll_nil (xs : List Str) : addAll [] xs = dedupS xs := by
  rw [addAll_dd]
  simp
theorem setI_nk {S : Store} {l : Nat} {ks : List Str} {x : Str} (h : objAt S l = some (.dct (nk ks))) (hl : ks.length < 100000) : setIV (.ref l) (.str x) (.bl true) S = some (S.set l (some (.dct (nk (addS ks x))))) := by
  have hz : (nk ks).length < sizeLine := by
    have : (100000 : Nat) < sizeLine := by decide
    simp only [nk, List.length_map]
    omega
  simp only [setIV, h, okKey, kFlat, put_nk]
  simp [hz]
theorem endV_set {S : Store} {l : Nat} {o : Z.Obj} {d : D} (ho : o.nr = true) (hn : d.nr = true) (hz : ∀ S, frzD FRZ S d = some (d, S)) : endV .val S (.ok d (S.set l (some o))) = .ok d (S.set l (some o)) := by
  have h1 : okOld S (S.set l (some o)) = true := okOld_set S l o ho
  have h2 : (S.set l (some o)).take S.length = S.set l (some o) := by
    rw [List.take_of_length_le]; simp
  simp [endV, hz, hn, h1, h2]
theorem frz_non (S : Store) : frzD FRZ S .non = some (.non, S) := by simp [frzD]
theorem set_self {S : Store} {l : Nat} {o : Z.Obj} (h : objAt S l = some o) : S.set l (some o) = S := by
  have hl : l < S.length := objAt_lt h
  have : S[l]? = some (some o) := objAt_iff.mp h
  apply List.ext_getElem?
  intro j
  by_cases hj : l = j
  · subst hj; rw [List.getElem?_set_self hl, this]
  · rw [List.getElem?_set_ne hj]
theorem note_names (h : PN T J ow) : ∀ (n : Nat) (q : Q) (b ks : List Str) (S : Store) (l : Nat), q.dep < n → objAt S l = some (.dct (nk ks)) → ks.length + q.tot ≤ 50000 → b.length + q.tot ≤ 50000 →
    callN T (n + 2) J.note [q.toD, .tup (sD b), .ref l] S = .ok .non (S.set l (some (.dct (nk (addAll ks (fr b q))))))
  | 0, q, b, ks, S, l, hd, _, _, _ => by omega
  | n + 1, q, b, ks, S, l, hd, ho, hk, hb => by
    have ht := terms_in h.terms q (n + 1) S
    have hte := tot_eq q
    obtain ⟨σ1, S1, e1, x3, rfl, rfl⟩ : ∃ σ' S', evS (callN T (n + 2)) (lNote0 J) [some q.toD, some (.tup (sD b)), some (.ref l), none, none, none] S = .ok (.nx σ') S' ∧ ∃ x3 : Option D, σ' = [some q.toD, some (.tup (sD b)), some (.ref l), x3, none, none] ∧ S' = S.set l (some (.dct (nk (addAll ks (((q.terms).take (sD q.terms).length).filter fun y => decide (y ∉ b)))))) := by
      refine for_ok (S1 := S) (ds := sD q.terms) (fun i σ' S' => ∃ x3 : Option D, σ' = [some q.toD, some (.tup (sD b)), some (.ref l), x3, none, none] ∧ S' = S.set l (some (.dct (nk (addAll ks ((q.terms.take i).filter fun y => decide (y ∉ b))))))) ?_ ⟨none, rfl, ?_⟩ ?_
      · exact i_seq (r_call (s_cons (r_var rfl) s_nil) ht (endV_tup (sD_nr _) _)) rfl
      · exact (set_self ho).symm
      · rintro i x σ S2 hx ⟨x3, rfl, rfl⟩
        rw [List.getElem?_map, Option.map_eq_some_iff] at hx
        obtain ⟨y, hy, rfl⟩ := hx
        have hi : i < q.terms.length := (List.getElem?_eq_some_iff.mp hy).1
        have hl : (addAll ks ((q.terms.take i).filter fun y => decide (y ∉ b))).length < 100000 := by
          have h1 := addAll_len ((q.terms.take i).filter fun y => decide (y ∉ b)) ks
          have h2 := List.length_filter_le (fun y => decide (y ∉ b)) (q.terms.take i)
          have h3 : (q.terms.take i).length ≤ i := by simp; omega
          omega
        have hs := setI_nk (x := y) (objAt_put ho) hl
        rw [List.set_set] at hs
        have hc : ev (callN T (n + 2)) [some q.toD, some (.tup (sD b)), some (.ref l), some (.str y), none, none] (.cmp .notin (.var 3) (.var 1)) true (S.set l (some (.dct (nk (addAll ks ((q.terms.take i).filter fun y => decide (y ∉ b)))))))
            = .ok (.bl (!decide (y ∈ b))) (S.set l (some (.dct (nk (addAll ks ((q.terms.take i).filter fun y => decide (y ∉ b))))))) := r_cmp (r_var rfl) (r_var rfl) (cmp_notin (in_sD _ _ _))
        have e : (q.terms.take (i + 1)).filter (fun y => decide (y ∉ b)) = (q.terms.take i).filter (fun y => decide (y ∉ b)) ++ (if y ∈ b then [] else [y]) := by
          rw [List.take_succ, hy, List.filter_append]
          by_cases hyb : y ∈ b <;> simp [hyb]
        refine ⟨[some q.toD, some (.tup (sD b)), some (.ref l), some (.str y), none, none], [some q.toD, some (.tup (sD b)), some (.ref l), some (.str y), none, none], S.set l (some (.dct (nk (addAll ks ((q.terms.take (i + 1)).filter fun y => decide (y ∉ b)))))), rfl, .inl ?_, _, rfl, rfl⟩
        by_cases hyb : y ∈ b
        · rw [e, if_pos hyb, List.append_nil]
          exact b_cons (x_if_f hc (by simp [hyb]) b_nil) b_nil
        · rw [e, if_neg hyb, addAll_app]
          exact b_cons (x_if_t hc (by simp [hyb]) (b_cons (x_setI r_k (r_var rfl) (r_var rfl) hs) b_nil)) b_nil
    rw [show (q.terms).take (sD q.terms).length = q.terms from by rw [List.length_map, List.take_length]] at e1
    have hbd := bound_in h.bound q (n + 1) (S.set l (some (.dct (nk (addAll ks (q.terms.filter fun y => decide (y ∉ b)))))))
    have hin : ev (callN T (n + 2)) [some q.toD, some (.tup (sD b)), some (.ref l), x3, none, none] (.bin .add false (.var 1) (.call J.bound .val (.cons (.var 0) .nil))) false (S.set l (some (.dct (nk (addAll ks (q.terms.filter fun y => decide (y ∉ b)))))))
        = .ok (.tup (sD (b ++ q.bnd))) (S.set l (some (.dct (nk (addAll ks (q.terms.filter fun y => decide (y ∉ b))))))) := by
      have := r_bin (op := .add) (ow := false) (C := callN T (n + 2)) (σ := [some q.toD, some (.tup (sD b)), some (.ref l), x3, none, none]) (r_var (i := 1) rfl) (r_call (s_cons (r_var (i := 0) rfl) s_nil) hbd (endV_tup (sD_nr _) _)) (binV_tupA (by rw [List.length_map, List.length_map]; omega))
      rw [this]
      simp
    generalize hk0 : addAll ks (q.terms.filter fun y => decide (y ∉ b)) = k0 at e1 hbd hin
    have hk0l : k0.length ≤ ks.length + q.terms.length := by
      rw [← hk0]
      have h1 := addAll_len (q.terms.filter fun y => decide (y ∉ b)) ks
      have h2 := List.length_filter_le (fun y => decide (y ∉ b)) q.terms
      omega
    have ho0 : objAt (S.set l (some (.dct (nk k0)))) l = some (.dct (nk k0)) := objAt_put ho
    have hp := parts_in h.toPG q n (S.set l (some (.dct (nk k0))))
    have hpre : ∀ i, ((q.parts.take i).flatMap (fr (b ++ q.bnd))).length ≤ ((q.parts.take i).map Q.tot).sum := fun i => by
      generalize q.parts.take i = ps
      induction ps with
      | nil => simp
      | cons p ps ih =>
        have := fr_len p (b ++ q.bnd)
        simp only [List.flatMap_cons, List.length_append, List.map_cons, List.sum_cons]
        omega
    have hsum : ∀ i, ((q.parts.take i).map Q.tot).sum + ((q.parts.drop i).map Q.tot).sum = (q.parts.map Q.tot).sum := fun i => by
      rw [← List.sum_append, ← List.map_append, List.take_append_drop]
    obtain ⟨σ2, S2, e2, x5, rfl, rfl⟩ : ∃ σ' S', evS (callN T (n + 2)) (lNote1 J) [some q.toD, some (.tup (sD b)), some (.ref l), x3, some (.tup (sD (b ++ q.bnd))), none] (S.set l (some (.dct (nk k0)))) = .ok (.nx σ') S' ∧ ∃ x5 : Option D, σ' = [some q.toD, some (.tup (sD b)), some (.ref l), x3, some (.tup (sD (b ++ q.bnd))), x5] ∧ S' = S.set l (some (.dct (nk (addAll k0 ((q.parts.take (q.parts.map Q.toD).length).flatMap (fr (b ++ q.bnd))))))) := by
      refine for_ok (ds := q.parts.map Q.toD) (fun i σ' S' => ∃ x5 : Option D, σ' = [some q.toD, some (.tup (sD b)), some (.ref l), x3, some (.tup (sD (b ++ q.bnd))), x5] ∧ S' = S.set l (some (.dct (nk (addAll k0 ((q.parts.take i).flatMap (fr (b ++ q.bnd)))))))) ?_ ⟨none, rfl, rfl⟩ ?_
      · exact i_seq (r_call (s_cons (r_var rfl) s_nil) hp (endV_qs _ _)) rfl
      · rintro i x σ S2 hx ⟨x5, rfl, rfl⟩
        rw [List.getElem?_map, Option.map_eq_some_iff] at hx
        obtain ⟨p, hp1, rfl⟩ := hx
        have hm := List.mem_of_getElem? hp1
        have hpt := part_tot hm
        have hpd := part_dep hm
        have h1 := addAll_len ((q.parts.take i).flatMap (fr (b ++ q.bnd))) k0
        have h2 := hpre i
        have h3 : ((q.parts.take i).map Q.tot).sum + p.tot ≤ (q.parts.map Q.tot).sum := by
          have h4 := hsum i
          have h5 : q.parts.drop i = p :: q.parts.drop (i + 1) := (List.drop_eq_getElem_cons (List.getElem?_eq_some_iff.mp hp1).1).trans (by rw [(List.getElem?_eq_some_iff.mp hp1).2])
          rw [h5, List.map_cons, List.sum_cons] at h4
          omega
        have ih := note_names h n p (b ++ q.bnd) (addAll k0 ((q.parts.take i).flatMap (fr (b ++ q.bnd)))) (S.set l (some (.dct (nk (addAll k0 ((q.parts.take i).flatMap (fr (b ++ q.bnd)))))))) l (by omega) (objAt_put ho) (by omega) (by rw [List.length_append]; omega)
        rw [List.set_set, ← addAll_app] at ih
        have e : (q.parts.take i).flatMap (fr (b ++ q.bnd)) ++ fr (b ++ q.bnd) p = (q.parts.take (i + 1)).flatMap (fr (b ++ q.bnd)) := by
          rw [List.take_succ, hp1]
          simp
        rw [e] at ih
        refine ⟨[some q.toD, some (.tup (sD b)), some (.ref l), x3, some (.tup (sD (b ++ q.bnd))), some p.toD], [some q.toD, some (.tup (sD b)), some (.ref l), x3, some (.tup (sD (b ++ q.bnd))), some p.toD], _, rfl, .inl ?_, _, rfl, rfl⟩
        refine b_cons (x_expr (d := .non) (r_call (s_cons (r_var rfl) (s_cons (r_var rfl) (s_cons (r_var rfl) s_nil))) ih ?_)) b_nil
        have := endV_set (S := S.set l (some (.dct (nk (addAll k0 ((q.parts.take i).flatMap (fr (b ++ q.bnd)))))))) (l := l) (d := .non) (nk_nr (addAll k0 ((q.parts.take (i + 1)).flatMap (fr (b ++ q.bnd))))) rfl frz_non
        rw [List.set_set] at this
        exact this
    rw [List.length_map, List.take_length, ← hk0, ← addAll_app, ← fr_eq] at e2
    exact x_fnN h.note rfl (b_cons e1 (b_cons (x_asg hin rfl) (b_cons (hk0 ▸ e2) b_nil)))
end Zg

/-! HD: free names, counts, all parts; the law's free names. -/
namespace Zg
open PySem Z
variable {T : Nat → Option Fn} {J : PIds} {K : LIds} {ow owr : Bool}
theorem all_str : ∀ xs : List Str, allStr (sD xs) = some xs
  | [] => rfl
  | x :: xs => by
    show (allStr (sD xs)).map (x :: ·) = _
    rw [all_str xs]
    rfl
theorem keys_nk (ks : List Str) : (nk ks).map (·.1) = sD ks := by
  unfold nk sD
  rw [List.map_map]
  rfl
/-- the names in ascending order, each once -/
def sdd (xs : List Str) : List Str := srtS (dedupS xs)
theorem srtS_len (xs : List Str) : (srtS xs).length = xs.length := (srtS_perm xs).length_eq
theorem dedupS_len : ∀ xs : List Str, (dedupS xs).length ≤ xs.length
  | [] => Nat.le_refl _
  | x :: xs => by
    have h1 := dedupS_len xs
    have h2 := List.length_filter_le (fun y => decide (y ≠ x)) (dedupS xs)
    show (x :: (dedupS xs).filter _).length ≤ _
    rw [List.length_cons, List.length_cons]
    omega
theorem sdd_len (xs : List Str) : (sdd xs).length ≤ xs.length := by unfold sdd; rw [srtS_len]; exact dedupS_len xs
theorem sdd_mem {x : Str} {xs : List Str} : x ∈ sdd xs ↔ x ∈ xs := (srtS_perm _).mem_iff.trans mem_dedupS
theorem sorted_keys {xs : List Str} {ow : Bool} {S : Store} (h : xs.length ≤ 50000) : biV .sorted ow [.lst (sD (addAll [] xs))] S = mkL ow (sD (sdd xs)) S := by
  have h1 : sortable (sD (addAll [] xs)) = true := by simp [sortable, all_str]
  show (if sortable (sD (addAll [] xs)) = true then mkL ow (sortD (sD (addAll [] xs))) S else .bad) = _
  rw [if_pos h1, addAll_nil]
  show mkL ow (sortD ((dedupS xs).map D.str)) S = _
  rw [srtS_D]
  rfl
theorem sorted_set {xs : List Str} {ow : Bool} {S : Store} (h : xs.length < 4000) : biV .sortedSet ow [.lst (sD xs)] S = mkL ow (sD (sdd xs)) S := by
  have h2 : (sD xs).length < 4000 := by rw [List.length_map]; exact h
  show (match seqOf S (.lst (sD xs)) with
    | some ys => match allStr ys with
      | some _ => if ys.length < 4000 then mkL ow (sortD (dedup ys)) S else .bad
      | none => .bad
    | none => .bad) = _
  show (match allStr (sD xs) with
      | some _ => if (sD xs).length < 4000 then mkL ow (sortD (dedup (sD xs))) S else .bad
      | none => .bad) = _
  rw [all_str]
  show (if (sD xs).length < 4000 then mkL ow (sortD (dedup (sD xs))) S else .bad) = _
  rw [if_pos h2]
  show mkL ow (sortD (dedup (xs.map D.str))) S = _
  rw [dedup_D, srtS_D]
  rfl
theorem list_keys {ks : List Str} {S : Store} (h : ks.length ≤ 100000) : biV .list false [.dct (nk ks)] S = .ok (.lst (sD ks)) S := by
  show mkL false ((nk ks).map (·.1)) S = _
  rw [keys_nk]
  exact cold (by rw [List.length_map]; exact h)
theorem frz_nk {S : Store} {ks : List Str} : frzD FRZ (S ++ [some (.dct (nk ks))]) (.ref S.length) = some (.dct (nk ks), S ++ [none]) := by
  have h1 : ∀ (n : Nat) (S : Store) (ks : List Str), frzK n S (nk ks) = some (nk ks, S) := fun n S ks => by
    induction ks with
    | nil => simp [nk, frzK]
    | cons k ks ih =>
      have e : nk (k :: ks) = (D.str k, D.bl true) :: nk ks := rfl
      rw [e]
      simp only [frzK, frzD, ih, Option.map_some]
  simp [frzD, FRZ, h1]
/-- free_names: a new list, owned or not -/
theorem free_names (h : PN T J ow) (n : Nat) (q : Q) (S : Store) (hd : q.dep < n) (ht : q.tot ≤ 40000) : callN T (n + 3) J.free [q.toD] S = mkL ow (sD (sdd (fr [] q))) (S ++ [none]) := by
  have ho : objAt (S ++ [some (Z.Obj.dct (nk []))]) S.length = some (.dct (nk [])) := objAt_last _ _
  have h1 := note_names h n q [] [] (S ++ [some (.dct (nk []))]) S.length hd ho (by simp; omega) (by simp; omega)
  rw [set_last] at h1
  have h1 : callN T (n + 2) J.note [q.toD, .tup [], .ref S.length] (S ++ [some (.dct (nk []))]) = .ok .non (S ++ [some (.dct (nk (addAll [] (fr [] q))))]) := h1
  have h2 := endV_set (S := S ++ [some (Z.Obj.dct (nk []))]) (l := S.length) (d := .non) (nk_nr (addAll [] (fr [] q))) rfl frz_non
  rw [set_last] at h2
  have hl := fr_len q []
  have hl2 := addAll_len (fr [] q) []
  have hm : mkL ow (sD (sdd (fr [] q))) (S ++ [none]) = .ok (if ow then .ref (S ++ [none]).length else .lst (sD (sdd (fr [] q)))) (if ow then S ++ [none] ++ [some (.lst (sD (sdd (fr [] q))))] else S ++ [none]) := by
    have h3 := sdd_len (fr [] q)
    have h4 : (sD (sdd (fr [] q))).length ≤ sizeLine := small5 (by rw [List.length_map]; omega)
    unfold mkL
    rw [if_pos h4]
    cases ow <;> rfl
  have hs := sorted_keys (xs := fr [] q) (ow := ow) (S := S ++ [none]) (by omega)
  rw [hm] at hs ⊢
  refine x_fn h.free rfl (b_cons (x_asg (d := .ref S.length) (S1 := S ++ [some (.dct (nk []))]) ?_ rfl) (b_cons (x_frzv (x_expr (d := .non) (r_call (s_cons (r_var rfl) (s_cons (r_tup s_nil (tup_len (by simp))) (s_cons (r_var rfl) s_nil))) h1 h2)) rfl frz_nk) (b_ret (x_ret (r_bi (s_cons (r_bi (s_cons (r_var rfl) s_nil) (list_keys (by simp at hl2; omega))) s_nil) hs)))))
  have : (0 : Nat) ≤ sizeLine := Nat.zero_le _
  simp [ev, evs, pairUp, flatKeys, putAll, mkD, nk]
theorem word_in {q : Q} (h : q.word = "in") : ∃ r xs, q = .inn r xs := by
  cases q with
  | inn r xs => exact ⟨r, xs, rfl⟩
  | tru => exact absurd h (show ¬ (("true" : Str) = "in") by decide)
  | fal => exact absurd h (show ¬ (("false" : Str) = "in") by decide)
  | given _ _ => exact absurd h (show ¬ (("given" : Str) = "in") by decide)
  | same _ _ => exact absurd h (show ¬ (("same" : Str) = "in") by decide)
  | not _ => exact absurd h (show ¬ (("not" : Str) = "in") by decide)
  | bi w _ _ => cases w <;> first | exact absurd h (show ¬ (("and" : Str) = "in") by decide) | exact absurd h (show ¬ (("or" : Str) = "in") by decide)
  | qu w _ _ => cases w <;> first | exact absurd h (show ¬ (("some" : Str) = "in") by decide) | exact absurd h (show ¬ (("all" : Str) = "in") by decide)
  | grow _ _ _ _ => exact absurd h (show ¬ (("grow" : Str) = "in") by decide)
theorem word_grow {q : Q} (h : q.word = "grow") : ∃ r bs p ts, q = .grow r bs p ts := by
  cases q with
  | grow r bs p ts => exact ⟨r, bs, p, ts, rfl⟩
  | tru => exact absurd h (show ¬ (("true" : Str) = "grow") by decide)
  | fal => exact absurd h (show ¬ (("false" : Str) = "grow") by decide)
  | given _ _ => exact absurd h (show ¬ (("given" : Str) = "grow") by decide)
  | same _ _ => exact absurd h (show ¬ (("same" : Str) = "grow") by decide)
  | not _ => exact absurd h (show ¬ (("not" : Str) = "grow") by decide)
  | bi w _ _ => cases w <;> first | exact absurd h (show ¬ (("and" : Str) = "grow") by decide) | exact absurd h (show ¬ (("or" : Str) = "grow") by decide)
  | qu w _ _ => cases w <;> first | exact absurd h (show ¬ (("some" : Str) = "grow") by decide) | exact absurd h (show ¬ (("all" : Str) = "grow") by decide)
  | inn _ _ => exact absurd h (show ¬ (("in" : Str) = "grow") by decide)
theorem note_rels (h : PF T J ow owr) : ∀ (n : Nat) (q : Q) (b ks : List Str) (S : Store) (l : Nat), q.dep < n → objAt S l = some (.dct (nk ks)) → ks.length + q.tot ≤ 50000 → b.length + q.tot ≤ 50000 →
    callN T (n + 2) J.noter [q.toD, .tup (sD b), .ref l] S = .ok .non (S.set l (some (.dct (nk (addAll ks (frR b q))))))
  | 0, q, b, ks, S, l, hd, _, _, _ => by omega
  | n + 1, q, b, ks, S, l, hd, ho, hk, hb => by
    have hw : ∀ (σ : Z.Env) (S : Store), σ[0]? = some (some q.toD) → ev (callN T (n + 2)) σ (.idx (.var 0) (.k (.int 0))) false S = .ok (.str q.word) S := fun σ S e => r_idx (r_var e) r_k (by rw [toD_eq]; exact idxV_tup (at0 _ _))
    -- the part itself
    have st1 : evS (callN T (n + 2)) (.if_ (.and (.cmp .eq (.idx (.var 0) (.k (.int 0))) (.k (.str "in"))) (.cmp .notin (.idx (.var 0) (.k (.int 1))) (.var 1))) (.cons (.setI (.var 2) (.idx (.var 0) (.k (.int 1))) (.k (.bl true))) .nil) .nil) [some q.toD, some (.tup (sD b)), some (.ref l), none, none] S
        = .ok (.nx [some q.toD, some (.tup (sD b)), some (.ref l), none, none]) (S.set l (some (.dct (nk (addAll ks (q.askR.filter fun y => decide (y ∉ b))))))) := by
      have hc := r_cmp (C := callN T (n + 2)) (t := true) (hw [some q.toD, some (.tup (sD b)), some (.ref l), none, none] S rfl) (r_k (d := .str "in")) (eqw q.word "in" S)
      by_cases hin : ∃ r xs, q = .inn r xs
      · obtain ⟨r, xs, rfl⟩ := hin
        have h1 : ev (callN T (n + 2)) [some (Q.inn r xs).toD, some (.tup (sD b)), some (.ref l), none, none] (.idx (.var 0) (.k (.int 1))) false S = .ok (.str r) S := r_idx (r_var rfl) r_k (tupN 1 rfl)
        have hc2 := r_and_t hc (decide_eq_true rfl) (r_cmp h1 (r_var (i := 1) rfl) (cmp_notin (in_sD r b S)))
        by_cases hr : r ∈ b
        · have e : (Q.inn r xs).askR.filter (fun y => decide (y ∉ b)) = [] := by simp [Q.askR, hr]
          rw [e]
          show _ = R.ok _ (S.set l (some (.dct (nk ks))))
          rw [set_self ho]
          exact x_if_f hc2 (by simp [hr]) b_nil
        · have e : (Q.inn r xs).askR.filter (fun y => decide (y ∉ b)) = [r] := by simp [Q.askR, hr]
          rw [e]
          exact x_if_t hc2 (by simp [hr]) (b_cons (x_setI r_k (r_var rfl) h1 (setI_nk ho (by omega))) b_nil)
      · have e : q.askR = [] := by cases q <;> first | rfl | exact absurd ⟨_, _, rfl⟩ hin
        rw [e]
        show _ = R.ok _ (S.set l (some (.dct (nk ks))))
        rw [set_self ho]
        exact x_if_f (r_and_f hc (decide_eq_false fun z => hin (word_in z))) rfl b_nil
    generalize hk0 : addAll ks (q.askR.filter fun y => decide (y ∉ b)) = k0 at st1
    have hask : q.askR.length + q.bndR.length + (q.parts.map Q.tot).sum ≤ q.tot := by cases q <;> simp [Q.askR, Q.bndR, Q.parts, Q.tot] <;> omega
    have hk0l : k0.length ≤ ks.length + q.askR.length := by
      rw [← hk0]
      have h1 := addAll_len (q.askR.filter fun y => decide (y ∉ b)) ks
      have h2 := List.length_filter_le (fun y => decide (y ∉ b)) q.askR
      omega
    have ho0 : objAt (S.set l (some (.dct (nk k0)))) l = some (.dct (nk k0)) := objAt_put ho
    -- what it binds
    have st2 : evS (callN T (n + 2)) (.if_ (.cmp .eq (.idx (.var 0) (.k (.int 0))) (.k (.str "grow"))) (.cons (.asg (.nm 3) (.bin .add false (.var 1) (.tup (.cons (.idx (.var 0) (.k (.int 1))) .nil)))) .nil) .nil) [some q.toD, some (.tup (sD b)), some (.ref l), some (.tup (sD b)), none] (S.set l (some (.dct (nk k0))))
        = .ok (.nx [some q.toD, some (.tup (sD b)), some (.ref l), some (.tup (sD (b ++ q.bndR))), none]) (S.set l (some (.dct (nk k0)))) := by
      have hc := r_cmp (C := callN T (n + 2)) (t := true) (hw [some q.toD, some (.tup (sD b)), some (.ref l), some (.tup (sD b)), none] (S.set l (some (.dct (nk k0)))) rfl) (r_k (d := .str "grow")) (eqw q.word "grow" _)
      by_cases hin : ∃ r bs p ts, q = .grow r bs p ts
      · obtain ⟨r, bs, p, ts, rfl⟩ := hin
        have h1 : ev (callN T (n + 2)) [some (Q.grow r bs p ts).toD, some (.tup (sD b)), some (.ref l), some (.tup (sD b)), none] (.idx (.var 0) (.k (.int 1))) false (S.set l (some (.dct (nk k0)))) = .ok (.str r) (S.set l (some (.dct (nk k0)))) := r_idx (r_var rfl) r_k (tupN 1 rfl)
        have hadd : binV .add false (.tup (sD b)) (.tup [.str r]) (S.set l (some (.dct (nk k0)))) = .ok (.tup (sD (b ++ [r]))) (S.set l (some (.dct (nk k0)))) := by
          rw [binV_tupA (by rw [List.length_map]; simp; omega)]
          simp
        exact x_if_t hc (decide_eq_true rfl) (b_cons (x_asg (r_bin (r_var rfl) (r_tup (s_cons h1 s_nil) (tup_len (by simp))) hadd) rfl) b_nil)
      · have e : q.bndR = [] := by cases q <;> first | rfl | exact absurd ⟨_, _, _, _, rfl⟩ hin
        rw [e, List.append_nil]
        exact x_if_f hc (decide_eq_false fun z => hin (word_grow z)) b_nil
    have hp := parts_in h.toPG q n (S.set l (some (.dct (nk k0))))
    have hpre : ∀ i, ((q.parts.take i).flatMap (frR (b ++ q.bndR))).length ≤ ((q.parts.take i).map Q.tot).sum := fun i => by
      generalize q.parts.take i = ps
      induction ps with
      | nil => simp
      | cons p ps ih =>
        have := frR_len p (b ++ q.bndR)
        simp only [List.flatMap_cons, List.length_append, List.map_cons, List.sum_cons]
        omega
    have hsum : ∀ i, ((q.parts.take i).map Q.tot).sum + ((q.parts.drop i).map Q.tot).sum = (q.parts.map Q.tot).sum := fun i => by
      rw [← List.sum_append, ← List.map_append, List.take_append_drop]
    obtain ⟨σ2, S2, e2, x5, rfl, rfl⟩ : ∃ σ' S', evS (callN T (n + 2)) (lNoter0 J) [some q.toD, some (.tup (sD b)), some (.ref l), some (.tup (sD (b ++ q.bndR))), none] (S.set l (some (.dct (nk k0)))) = .ok (.nx σ') S' ∧ ∃ x5 : Option D, σ' = [some q.toD, some (.tup (sD b)), some (.ref l), some (.tup (sD (b ++ q.bndR))), x5] ∧ S' = S.set l (some (.dct (nk (addAll k0 ((q.parts.take (q.parts.map Q.toD).length).flatMap (frR (b ++ q.bndR))))))) := by
      refine for_ok (S1 := S.set l (some (.dct (nk k0)))) (ds := q.parts.map Q.toD) (fun i σ' S' => ∃ x5 : Option D, σ' = [some q.toD, some (.tup (sD b)), some (.ref l), some (.tup (sD (b ++ q.bndR))), x5] ∧ S' = S.set l (some (.dct (nk (addAll k0 ((q.parts.take i).flatMap (frR (b ++ q.bndR)))))))) ?_ ⟨none, rfl, rfl⟩ ?_
      · exact i_seq (r_call (s_cons (r_var rfl) s_nil) hp (endV_qs _ _)) rfl
      · rintro i x σ S2 hx ⟨x5, rfl, rfl⟩
        rw [List.getElem?_map, Option.map_eq_some_iff] at hx
        obtain ⟨p, hp1, rfl⟩ := hx
        have hm := List.mem_of_getElem? hp1
        have hpt := part_tot hm
        have hpd := part_dep hm
        have h1 := addAll_len ((q.parts.take i).flatMap (frR (b ++ q.bndR))) k0
        have h2 := hpre i
        have h3 : ((q.parts.take i).map Q.tot).sum + p.tot ≤ (q.parts.map Q.tot).sum := by
          have h4 := hsum i
          have h5 : q.parts.drop i = p :: q.parts.drop (i + 1) := (List.drop_eq_getElem_cons (List.getElem?_eq_some_iff.mp hp1).1).trans (by rw [(List.getElem?_eq_some_iff.mp hp1).2])
          rw [h5, List.map_cons, List.sum_cons] at h4
          omega
        have ih := note_rels h n p (b ++ q.bndR) (addAll k0 ((q.parts.take i).flatMap (frR (b ++ q.bndR)))) (S.set l (some (.dct (nk (addAll k0 ((q.parts.take i).flatMap (frR (b ++ q.bndR)))))))) l (by omega) (objAt_put ho) (by omega) (by rw [List.length_append]; omega)
        rw [List.set_set, ← addAll_app] at ih
        have e : (q.parts.take i).flatMap (frR (b ++ q.bndR)) ++ frR (b ++ q.bndR) p = (q.parts.take (i + 1)).flatMap (frR (b ++ q.bndR)) := by
          rw [List.take_succ, hp1]
          simp
        rw [e] at ih
        refine ⟨[some q.toD, some (.tup (sD b)), some (.ref l), some (.tup (sD (b ++ q.bndR))), some p.toD], [some q.toD, some (.tup (sD b)), some (.ref l), some (.tup (sD (b ++ q.bndR))), some p.toD], _, rfl, .inl ?_, _, rfl, rfl⟩
        refine b_cons (x_expr (d := .non) (r_call (s_cons (r_var rfl) (s_cons (r_var rfl) (s_cons (r_var rfl) s_nil))) ih ?_)) b_nil
        have := endV_set (S := S.set l (some (.dct (nk (addAll k0 ((q.parts.take i).flatMap (frR (b ++ q.bndR)))))))) (l := l) (d := .non) (nk_nr (addAll k0 ((q.parts.take (i + 1)).flatMap (frR (b ++ q.bndR))))) rfl frz_non
        rw [List.set_set] at this
        exact this
    rw [List.length_map, List.take_length, ← hk0, ← addAll_app, ← frR_eq] at e2
    exact x_fnN h.noter rfl (b_cons st1 (b_cons (x_asg (r_var rfl) rfl) (b_cons st2 (b_cons (hk0 ▸ e2) b_nil))))
theorem free_rels (h : PF T J ow owr) (n : Nat) (q : Q) (S : Store) (hd : q.dep < n) (ht : q.tot ≤ 40000) : callN T (n + 3) J.freer [q.toD] S = mkL owr (sD (sdd (frR [] q))) (S ++ [none]) := by
  have ho : objAt (S ++ [some (Z.Obj.dct (nk []))]) S.length = some (.dct (nk [])) := objAt_last _ _
  have h1 := note_rels h n q [] [] (S ++ [some (.dct (nk []))]) S.length hd ho (by simp; omega) (by simp; omega)
  rw [set_last] at h1
  have h1 : callN T (n + 2) J.noter [q.toD, .tup [], .ref S.length] (S ++ [some (.dct (nk []))]) = .ok .non (S ++ [some (.dct (nk (addAll [] (frR [] q))))]) := h1
  have h2 := endV_set (S := S ++ [some (Z.Obj.dct (nk []))]) (l := S.length) (d := .non) (nk_nr (addAll [] (frR [] q))) rfl frz_non
  rw [set_last] at h2
  have hl := frR_len q []
  have hl2 := addAll_len (frR [] q) []
  have hm : mkL owr (sD (sdd (frR [] q))) (S ++ [none]) = .ok (if owr then .ref (S ++ [none]).length else .lst (sD (sdd (frR [] q)))) (if owr then S ++ [none] ++ [some (.lst (sD (sdd (frR [] q))))] else S ++ [none]) := by
    have h3 := sdd_len (frR [] q)
    have h4 : (sD (sdd (frR [] q))).length ≤ sizeLine := small5 (by rw [List.length_map]; omega)
    unfold mkL
    rw [if_pos h4]
    cases owr <;> rfl
  have hs := sorted_keys (xs := frR [] q) (ow := owr) (S := S ++ [none]) (by omega)
  rw [hm] at hs ⊢
  refine x_fn h.freer rfl (b_cons (x_asg (d := .ref S.length) (S1 := S ++ [some (.dct (nk []))]) ?_ rfl) (b_cons (x_frzv (x_expr (d := .non) (r_call (s_cons (r_var rfl) (s_cons (r_tup s_nil (tup_len (by simp))) (s_cons (r_var rfl) s_nil))) h1 h2)) rfl frz_nk) (b_ret (x_ret (r_bi (s_cons (r_bi (s_cons (r_var rfl) s_nil) (list_keys (by simp at hl2; omega))) s_nil) hs)))))
  simp [ev, evs, pairUp, flatKeys, putAll, mkD, nk]
end Zg

/-! HE: counts, the law's own free names, all parts. -/
namespace Zg
open PySem Z
variable {T : Nat → Option Fn} {J : PIds} {K : LIds} {ow owr : Bool}
theorem allInt_map : ∀ l : List Int, allInt (l.map D.int) = some l
  | [] => rfl
  | x :: xs => by
    show (allInt (xs.map D.int)).map (x :: ·) = _
    rw [allInt_map xs]
    rfl
theorem count_parts (hg : PG T J) (hc : T J.count = some (fCount J)) : ∀ (n : Nat) (q : Q) (S : Store), q.dep < n → callN T (n + 2) J.count [q.toD] S = .ok (.int (q.sz : Nat)) S
  | 0, q, S, h => by omega
  | n + 1, q, S, h => by
    have hp := parts_in hg q n S
    have hi : evI (callN T (n + 2)) [some q.toD, none] (.seq (.call J.parts .val (.cons (.var 0) .nil))) S = .ok (q.parts.map Q.toD) S := i_seq (r_call (s_cons (r_var rfl) s_nil) hp (endV_qs _ _)) rfl
    have hm := mapR_map (S := S) (l := q.parts) (k := Q.toD) (g := fun p => D.int (p.sz : Nat)) (f := fun d S2 => match asg (.nm 1) d (wipeE [some q.toD, none] [1]) with
        | some σ1 => (evC (callN T (n + 2)) σ1 .nil S2).bind fun b S3 => if b then (ev (callN T (n + 2)) σ1 (.call J.count .val (.cons (.var 1) .nil)) false S3).bind fun y S4 => .ok [y] S4 else .ok [] S3
        | none => .bad) fun p hp => by
      have ha : asg (.nm 1) p.toD (wipeE [some q.toD, none] [1]) = some [some q.toD, some p.toD] := rfl
      have ih := count_parts hg hc n p S (by have := part_dep hp; omega)
      have he : ev (callN T (n + 2)) [some q.toD, some p.toD] (.call J.count .val (.cons (.var 1) .nil)) false S = .ok (.int (p.sz : Nat)) S := r_call (s_cons (r_var rfl) s_nil) ih (endV_int _ _)
      simp only [ha, evC, R.ok_bind, if_true, he]
    have hl := parts_len q
    have hs : biV .sum false [.lst (q.parts.map fun p => D.int (p.sz : Nat))] S = .ok (.int (q.parts.map fun p => (p.sz : Int)).sum) S := by
      have e : (q.parts.map fun p => D.int (p.sz : Nat)) = (q.parts.map fun p => (p.sz : Int)).map D.int := by rw [List.map_map]; rfl
      rw [e]
      show (match allInt ((q.parts.map fun p => (p.sz : Int)).map D.int) with
        | some ns => R.ok (D.int ns.sum) S
        | none => .bad) = _
      rw [allInt_map]
    have hb : binV .add false (.int 1) (.int (q.parts.map fun p => (p.sz : Int)).sum) S = .ok (.int (q.sz : Nat)) S := by
      have := parts_sz q
      have e : (1 : Int) + (q.parts.map fun p => (p.sz : Int)).sum = (q.sz : Nat) := by omega
      rw [← e]
      rfl
    exact x_fn hc rfl (b_ret (x_ret (r_bin r_k (r_bi (s_cons (r_lc hi hm (cold (by rw [List.length_map]; omega))) s_nil) hs) hb)))
/-- _law_free -/
theorem law_free (h : LF T K) : ∀ (n : Nat) (q : Q) (b : List Str) (S : Store), q.dep < n → q.tot ≤ 40000 → b.length + q.tot ≤ 50000 → callN T (n + 1) K.free [q.toD, .tup (sD b)] S = .ok (.lst (sD (fr b q))) S
  | 0, q, b, S, hd, _, _ => by omega
  | n + 1, q, b, S, hd, ht, hb => by
    have hte := tot_eq q
    have hu := lused h.toLG q n S
    have hfil := mapR_filt (S := S) (k := D.str) (p := fun y => decide (y ∉ b)) (l := q.terms) (f := fun d S2 => match asg (.nm 4) d (wipeE [some q.toD, some (.tup (sD b)), none, none, none] [4]) with
        | some σ1 => (evC (callN T (n + 1)) σ1 (.cons (.cmp .notin (.var 4) (.var 1)) .nil) S2).bind fun b S3 => if b then (ev (callN T (n + 1)) σ1 (.var 4) false S3).bind fun y S4 => .ok [y] S4 else .ok [] S3
        | none => .bad) fun y hy => by
      have ha : asg (.nm 4) (.str y) (wipeE [some q.toD, some (.tup (sD b)), none, none, none] [4]) = some [some q.toD, some (.tup (sD b)), none, none, some (.str y)] := rfl
      have h1 := r_cmp (C := callN T (n + 1)) (σ := [some q.toD, some (.tup (sD b)), none, none, some (.str y)]) (t := true) (r_var (i := 4) rfl) (r_var (i := 1) rfl) (cmp_notin (in_sD y b S))
      have h2 : ev (callN T (n + 1)) [some q.toD, some (.tup (sD b)), none, none, some (.str y)] (.var 4) false S = .ok (.str y) S := r_var rfl
      by_cases e : y ∈ b
      · rw [decide_eq_true e] at h1
        have hp : decide (y ∉ b) = false := decide_eq_false fun z => z e
        simp only [ha, evC, h1, R.ok_bind, Bool.not_true, Bool.false_eq_true, if_false, hp]
      · rw [decide_eq_false e] at h1
        have hp : decide (y ∉ b) = true := decide_eq_true e
        simp only [ha, evC, h1, R.ok_bind, Bool.not_false, if_true, h2, hp]
    have hfl := List.length_filter_le (fun y => decide (y ∉ b)) q.terms
    have st1 : evS (callN T (n + 1)) (.asg (.nm 2) (.lc false [4] (.var 4) (.nm 4) (.seq (.call K.used .val (.cons (.var 0) .nil))) (.cons (.cmp .notin (.var 4) (.var 1)) .nil))) [some q.toD, some (.tup (sD b)), none, none, none] S
        = .ok (.nx [some q.toD, some (.tup (sD b)), some (.lst (sD (q.terms.filter fun y => decide (y ∉ b)))), none, none]) S :=
      x_asg (r_lc (i_seq (r_call (s_cons (r_var rfl) s_nil) hu (endV_tup (sD_nr _) _)) rfl) hfil (cold (by rw [List.length_map]; omega))) rfl
    have hw : ∀ (σ : Z.Env) (S : Store), σ[0]? = some (some q.toD) → ev (callN T (n + 1)) σ (.idx (.var 0) (.k (.int 0))) false S = .ok (.str q.word) S := fun σ S e => r_idx (r_var e) r_k (by rw [toD_eq]; exact idxV_tup (at0 _ _))
    generalize hf0 : q.terms.filter (fun y => decide (y ∉ b)) = f0 at st1 hfl
    -- what it binds
    have st2 : ∃ b1, (∃ S1 : Store, S1 = S) ∧ evS (callN T (n + 1)) (.if_ (.cmp .eq (.idx (.var 0) (.k (.int 0))) (.k (.str "grow"))) (.cons (.asg (.nm 1) (.bin .add false (.var 1) (.idx (.var 0) (.k (.int 2))))) .nil) .nil) [some q.toD, some (.tup (sD b)), some (.lst (sD f0)), none, none] S
        = .ok (.nx [some q.toD, some (.tup (sD b1)), some (.lst (sD f0)), none, none]) S ∧ evS (callN T (n + 1)) (.if_ (.or (.cmp .eq (.idx (.var 0) (.k (.int 0))) (.k (.str "some"))) (.cmp .eq (.idx (.var 0) (.k (.int 0))) (.k (.str "all")))) (.cons (.asg (.nm 1) (.bin .add false (.var 1) (.tup (.cons (.idx (.var 0) (.k (.int 1))) .nil)))) .nil) .nil) [some q.toD, some (.tup (sD b1)), some (.lst (sD f0)), none, none] S
        = .ok (.nx [some q.toD, some (.tup (sD (b ++ q.bnd))), some (.lst (sD f0)), none, none]) S := by
      have hc1 : ∀ (b1 : List Str) (w : Str) [OkS w], ev (callN T (n + 1)) [some q.toD, some (.tup (sD b1)), some (.lst (sD f0)), none, none] (.cmp .eq (.idx (.var 0) (.k (.int 0))) (.k (.str w))) true S = .ok (.bl (decide (q.word = w))) S := fun b1 w _ => r_cmp (hw _ _ rfl) r_k (eqw q.word w S)
      by_cases hg : ∃ r bs p ts, q = .grow r bs p ts
      · obtain ⟨r, bs, p, ts, rfl⟩ := hg
        have h1 : ev (callN T (n + 1)) [some (Q.grow r bs p ts).toD, some (.tup (sD b)), some (.lst (sD f0)), none, none] (.idx (.var 0) (.k (.int 2))) false S = .ok (.tup (sD bs)) S := r_idx (r_var rfl) r_k (tupN 2 rfl)
        have hadd : binV .add false (.tup (sD b)) (.tup (sD bs)) S = .ok (.tup (sD (b ++ bs))) S := by
          rw [binV_tupA (by rw [List.length_map, List.length_map]; simp only [Q.bnd] at hte; omega)]
          simp
        exact ⟨b ++ bs, ⟨S, rfl⟩, x_if_t (hc1 b "grow") (decide_eq_true rfl) (b_cons (x_asg (r_bin (r_var rfl) h1 hadd) rfl) b_nil), x_if_f (r_or_f (hc1 _ "some") (decide_eq_false (show ¬ (("grow" : Str) = "some") by decide)) (hc1 _ "all")) (decide_eq_false (show ¬ (("grow" : Str) = "all") by decide)) b_nil⟩
      · have hng : decide (q.word = "grow") = false := decide_eq_false fun z => hg (word_grow z)
        refine ⟨b, ⟨S, rfl⟩, x_if_f (hc1 b "grow") hng b_nil, ?_⟩
        by_cases hq : ∃ w x p, q = .qu w x p
        · obtain ⟨w, x, p, rfl⟩ := hq
          have h1 : ev (callN T (n + 1)) [some (Q.qu w x p).toD, some (.tup (sD b)), some (.lst (sD f0)), none, none] (.idx (.var 0) (.k (.int 1))) false S = .ok (.str x) S := r_idx (r_var rfl) r_k (tupN 1 rfl)
          have hadd : binV .add false (.tup (sD b)) (.tup [.str x]) S = .ok (.tup (sD (b ++ [x]))) S := by
            rw [binV_tupA (by rw [List.length_map]; simp; omega)]
            simp
          have body : evB (callN T (n + 1)) (.cons (.asg (.nm 1) (.bin .add false (.var 1) (.tup (.cons (.idx (.var 0) (.k (.int 1))) .nil)))) .nil) [some (Q.qu w x p).toD, some (.tup (sD b)), some (.lst (sD f0)), none, none] S = .ok (.nx [some (Q.qu w x p).toD, some (.tup (sD (b ++ [x]))), some (.lst (sD f0)), none, none]) S :=
            b_cons (x_asg (r_bin (r_var rfl) (r_tup (s_cons h1 s_nil) (tup_len (by simp))) hadd) rfl) b_nil
          cases w with
          | true => exact x_if_t (r_or_t (hc1 b "some") (decide_eq_true rfl)) rfl body
          | false => exact x_if_t (r_or_f (hc1 b "some") (decide_eq_false (show ¬ (("all" : Str) = "some") by decide)) (hc1 b "all")) (decide_eq_true rfl) body
        · have e : q.bnd = [] := by cases q <;> first | rfl | exact absurd ⟨_, _, _, _, rfl⟩ hg | exact absurd ⟨_, _, _, rfl⟩ hq
          rw [e, List.append_nil]
          have nos : ¬ (q.word = "some" ∨ q.word = "all") := by
            intro z
            cases q with
            | qu w x p => exact hq ⟨_, _, _, rfl⟩
            | grow r bs p ts => exact hg ⟨_, _, _, _, rfl⟩
            | tru => exact absurd z (show ¬ (("true" : Str) = "some" ∨ ("true" : Str) = "all") by decide)
            | fal => exact absurd z (show ¬ (("false" : Str) = "some" ∨ ("false" : Str) = "all") by decide)
            | given _ _ => exact absurd z (show ¬ (("given" : Str) = "some" ∨ ("given" : Str) = "all") by decide)
            | same _ _ => exact absurd z (show ¬ (("same" : Str) = "some" ∨ ("same" : Str) = "all") by decide)
            | inn _ _ => exact absurd z (show ¬ (("in" : Str) = "some" ∨ ("in" : Str) = "all") by decide)
            | not _ => exact absurd z (show ¬ (("not" : Str) = "some" ∨ ("not" : Str) = "all") by decide)
            | bi w _ _ => cases w <;> first | exact absurd z (show ¬ (("or" : Str) = "some" ∨ ("or" : Str) = "all") by decide) | exact absurd z (show ¬ (("and" : Str) = "some" ∨ ("and" : Str) = "all") by decide)
          exact x_if_f (r_or_f (hc1 b "some") (decide_eq_false fun z => nos (.inl z)) (hc1 b "all")) (decide_eq_false fun z => nos (.inr z)) b_nil
    obtain ⟨b1, _, st2, st3⟩ := st2
    have hp := lparts h.toLG q n S
    have hpre : ∀ i, ((q.parts.take i).flatMap (fr (b ++ q.bnd))).length ≤ (q.parts.map Q.tot).sum := fun i => by
      have h1 : ∀ ps : List Q, (ps.flatMap (fr (b ++ q.bnd))).length ≤ (ps.map Q.tot).sum := fun ps => by
        induction ps with
        | nil => simp
        | cons p ps ih =>
          have := fr_len p (b ++ q.bnd)
          simp only [List.flatMap_cons, List.length_append, List.map_cons, List.sum_cons]
          omega
      have h2 : ((q.parts.take i).map Q.tot).sum + ((q.parts.drop i).map Q.tot).sum = (q.parts.map Q.tot).sum := by
        rw [← List.sum_append, ← List.map_append, List.take_append_drop]
      have := h1 (q.parts.take i)
      omega
    obtain ⟨σ2, S2, e2, x3, rfl, rfl⟩ : ∃ σ' S', evS (callN T (n + 1)) (lLfree0 K) [some q.toD, some (.tup (sD (b ++ q.bnd))), some (.lst (sD f0)), none, none] S = .ok (.nx σ') S' ∧ ∃ x3 : Option D, σ' = [some q.toD, some (.tup (sD (b ++ q.bnd))), some (.lst (sD (f0 ++ (q.parts.take (q.parts.map Q.toD).length).flatMap (fr (b ++ q.bnd))))), x3, none] ∧ S' = S := by
      refine for_ok (S1 := S) (ds := q.parts.map Q.toD) (fun i σ' S' => ∃ x3 : Option D, σ' = [some q.toD, some (.tup (sD (b ++ q.bnd))), some (.lst (sD (f0 ++ (q.parts.take i).flatMap (fr (b ++ q.bnd))))), x3, none] ∧ S' = S) ?_ ⟨none, by simp, rfl⟩ ?_
      · exact i_seq (r_call (s_cons (r_var rfl) s_nil) hp (endV_qs _ _)) rfl
      · rintro i x σ S2 hx ⟨x3, rfl, rfl⟩
        rw [List.getElem?_map, Option.map_eq_some_iff] at hx
        obtain ⟨p, hp1, rfl⟩ := hx
        have hm := List.mem_of_getElem? hp1
        have hpt := part_tot hm
        have hpd := part_dep hm
        have ih := law_free h n p (b ++ q.bnd) S2 (by omega) (by omega) (by rw [List.length_append]; omega)
        have e : f0 ++ (q.parts.take i).flatMap (fr (b ++ q.bnd)) ++ fr (b ++ q.bnd) p = f0 ++ (q.parts.take (i + 1)).flatMap (fr (b ++ q.bnd)) := by
          rw [List.take_succ, hp1]
          simp
        have h5 := hpre (i + 1)
        have hadd : binV .add false (.lst (sD (f0 ++ (q.parts.take i).flatMap (fr (b ++ q.bnd))))) (.lst (sD (fr (b ++ q.bnd) p))) S2 = .ok (.lst (sD (f0 ++ (q.parts.take (i + 1)).flatMap (fr (b ++ q.bnd))))) S2 := by
          have e3 : sD (f0 ++ (q.parts.take i).flatMap (fr (b ++ q.bnd))) ++ sD (fr (b ++ q.bnd) p) = sD (f0 ++ (q.parts.take (i + 1)).flatMap (fr (b ++ q.bnd))) := by rw [← e]; simp
          rw [binV_lstA (by rw [e3, List.length_map, List.length_append]; omega), e3]
        exact ⟨[some q.toD, some (.tup (sD (b ++ q.bnd))), some (.lst (sD (f0 ++ (q.parts.take i).flatMap (fr (b ++ q.bnd))))), some p.toD, none], _, S2, rfl, .inl (b_cons (x_asg (r_bin (r_var rfl) (r_call (s_cons (r_var rfl) (s_cons (r_var rfl) s_nil)) ih (endV_lst (sD_nr _) _)) hadd) rfl) b_nil), _, rfl, rfl⟩
    rw [List.length_map, List.take_length, ← hf0, ← fr_eq] at e2
    exact x_fn h.free rfl (b_cons st1 (b_cons st2 (b_cons st3 (b_cons (hf0 ▸ e2) (b_ret (x_ret (r_var rfl)))))))
/-- _law_free_names -/
theorem law_freen (h : LF T K) (n : Nat) (q : Q) (S : Store) (hd : q.dep < n) (ht : q.tot < 4000) : callN T (n + 2) K.freen [q.toD] S = .ok (.lst (sD (sdd (fr [] q)))) S := by
  have h1 : callN T (n + 1) K.free [q.toD, .tup []] S = .ok (.lst (sD (fr [] q))) S := law_free h n q [] S hd (by omega) (by simp; omega)
  have hl := fr_len q []
  have hl2 := sdd_len (fr [] q)
  exact x_fn h.freen rfl (b_ret (x_ret (r_bi (s_cons (r_call (s_cons (r_var rfl) (s_cons (r_tup s_nil (tup_len (by simp))) s_nil)) h1 (endV_lst (sD_nr _) _)) s_nil) ((sorted_set (by omega)).trans (cold (by rw [List.length_map]; omega))))))
/-- _law_free_relations -/
theorem law_freer (h : LG T K) (hT : T K.freer = some (fLfreer K)) : ∀ (n : Nat) (q : Q) (b : List Str) (S : Store), q.dep < n → q.tot ≤ 40000 → b.length + q.tot ≤ 50000 → callN T (n + 1) K.freer [q.toD, .tup (sD b)] S = .ok (.lst (sD (frR b q))) S
  | 0, q, b, S, hd, _, _ => by omega
  | n + 1, q, b, S, hd, ht, hb => by
    have hask : q.askR.length + q.bndR.length + (q.parts.map Q.tot).sum ≤ q.tot := by cases q <;> simp [Q.askR, Q.bndR, Q.parts, Q.tot] <;> omega
    have hw : ∀ (σ : Z.Env) (S : Store), σ[0]? = some (some q.toD) → ev (callN T (n + 1)) σ (.idx (.var 0) (.k (.int 0))) false S = .ok (.str q.word) S := fun σ S e => r_idx (r_var e) r_k (by rw [toD_eq]; exact idxV_tup (at0 _ _))
    have st1 : evS (callN T (n + 1)) (.if_ (.and (.cmp .eq (.idx (.var 0) (.k (.int 0))) (.k (.str "in"))) (.cmp .notin (.idx (.var 0) (.k (.int 1))) (.var 1))) (.cons (.asg (.nm 2) (.lst false (.cons (.idx (.var 0) (.k (.int 1))) .nil))) .nil) .nil) [some q.toD, some (.tup (sD b)), some (.lst []), none] S
        = .ok (.nx [some q.toD, some (.tup (sD b)), some (.lst (sD (q.askR.filter fun y => decide (y ∉ b)))), none]) S := by
      have hc := r_cmp (C := callN T (n + 1)) (t := true) (hw [some q.toD, some (.tup (sD b)), some (.lst []), none] S rfl) (r_k (d := .str "in")) (eqw q.word "in" S)
      by_cases hin : ∃ r xs, q = .inn r xs
      · obtain ⟨r, xs, rfl⟩ := hin
        have h1 : ev (callN T (n + 1)) [some (Q.inn r xs).toD, some (.tup (sD b)), some (.lst []), none] (.idx (.var 0) (.k (.int 1))) false S = .ok (.str r) S := r_idx (r_var rfl) r_k (tupN 1 rfl)
        have hc2 := r_and_t hc (decide_eq_true rfl) (r_cmp h1 (r_var (i := 1) rfl) (cmp_notin (in_sD r b S)))
        by_cases hr : r ∈ b
        · have e : (Q.inn r xs).askR.filter (fun y => decide (y ∉ b)) = [] := by simp [Q.askR, hr]
          rw [e]
          exact x_if_f hc2 (by simp [hr]) b_nil
        · have e : (Q.inn r xs).askR.filter (fun y => decide (y ∉ b)) = [r] := by simp [Q.askR, hr]
          rw [e]
          exact x_if_t hc2 (by simp [hr]) (b_cons (x_asg (r_lst (s_cons h1 s_nil) (cold (by simp))) rfl) b_nil)
      · have e : q.askR = [] := by cases q <;> first | rfl | exact absurd ⟨_, _, rfl⟩ hin
        rw [e]
        exact x_if_f (r_and_f hc (decide_eq_false fun z => hin (word_in z))) rfl b_nil
    have hfl := List.length_filter_le (fun y => decide (y ∉ b)) q.askR
    generalize hf0 : q.askR.filter (fun y => decide (y ∉ b)) = f0 at st1 hfl
    have st2 : evS (callN T (n + 1)) (.if_ (.cmp .eq (.idx (.var 0) (.k (.int 0))) (.k (.str "grow"))) (.cons (.asg (.nm 1) (.bin .add false (.var 1) (.tup (.cons (.idx (.var 0) (.k (.int 1))) .nil)))) .nil) .nil) [some q.toD, some (.tup (sD b)), some (.lst (sD f0)), none] S
        = .ok (.nx [some q.toD, some (.tup (sD (b ++ q.bndR))), some (.lst (sD f0)), none]) S := by
      have hc := r_cmp (C := callN T (n + 1)) (t := true) (hw [some q.toD, some (.tup (sD b)), some (.lst (sD f0)), none] S rfl) (r_k (d := .str "grow")) (eqw q.word "grow" S)
      by_cases hin : ∃ r bs p ts, q = .grow r bs p ts
      · obtain ⟨r, bs, p, ts, rfl⟩ := hin
        have h1 : ev (callN T (n + 1)) [some (Q.grow r bs p ts).toD, some (.tup (sD b)), some (.lst (sD f0)), none] (.idx (.var 0) (.k (.int 1))) false S = .ok (.str r) S := r_idx (r_var rfl) r_k (tupN 1 rfl)
        have hadd : binV .add false (.tup (sD b)) (.tup [.str r]) S = .ok (.tup (sD (b ++ [r]))) S := by
          rw [binV_tupA (by rw [List.length_map]; simp; omega)]
          simp
        exact x_if_t hc (decide_eq_true rfl) (b_cons (x_asg (r_bin (r_var rfl) (r_tup (s_cons h1 s_nil) (tup_len (by simp))) hadd) rfl) b_nil)
      · have e : q.bndR = [] := by cases q <;> first | rfl | exact absurd ⟨_, _, _, _, rfl⟩ hin
        rw [e, List.append_nil]
        exact x_if_f hc (decide_eq_false fun z => hin (word_grow z)) b_nil
    have hp := lparts h q n S
    have hpre : ∀ i, ((q.parts.take i).flatMap (frR (b ++ q.bndR))).length ≤ (q.parts.map Q.tot).sum := fun i => by
      have h1 : ∀ ps : List Q, (ps.flatMap (frR (b ++ q.bndR))).length ≤ (ps.map Q.tot).sum := fun ps => by
        induction ps with
        | nil => simp
        | cons p ps ih =>
          have := frR_len p (b ++ q.bndR)
          simp only [List.flatMap_cons, List.length_append, List.map_cons, List.sum_cons]
          omega
      have h2 : ((q.parts.take i).map Q.tot).sum + ((q.parts.drop i).map Q.tot).sum = (q.parts.map Q.tot).sum := by
        rw [← List.sum_append, ← List.map_append, List.take_append_drop]
      have := h1 (q.parts.take i)
      omega
    obtain ⟨σ2, S2, e2, x3, rfl, rfl⟩ : ∃ σ' S', evS (callN T (n + 1)) (lLfreer0 K) [some q.toD, some (.tup (sD (b ++ q.bndR))), some (.lst (sD f0)), none] S = .ok (.nx σ') S' ∧ ∃ x3 : Option D, σ' = [some q.toD, some (.tup (sD (b ++ q.bndR))), some (.lst (sD (f0 ++ (q.parts.take (q.parts.map Q.toD).length).flatMap (frR (b ++ q.bndR))))), x3] ∧ S' = S := by
      refine for_ok (S1 := S) (ds := q.parts.map Q.toD) (fun i σ' S' => ∃ x3 : Option D, σ' = [some q.toD, some (.tup (sD (b ++ q.bndR))), some (.lst (sD (f0 ++ (q.parts.take i).flatMap (frR (b ++ q.bndR))))), x3] ∧ S' = S) ?_ ⟨none, by simp, rfl⟩ ?_
      · exact i_seq (r_call (s_cons (r_var rfl) s_nil) hp (endV_qs _ _)) rfl
      · rintro i x σ S2 hx ⟨x3, rfl, rfl⟩
        rw [List.getElem?_map, Option.map_eq_some_iff] at hx
        obtain ⟨p, hp1, rfl⟩ := hx
        have hm := List.mem_of_getElem? hp1
        have hpt := part_tot hm
        have hpd := part_dep hm
        have ih := law_freer h hT n p (b ++ q.bndR) S2 (by omega) (by omega) (by rw [List.length_append]; omega)
        have e : f0 ++ (q.parts.take i).flatMap (frR (b ++ q.bndR)) ++ frR (b ++ q.bndR) p = f0 ++ (q.parts.take (i + 1)).flatMap (frR (b ++ q.bndR)) := by
          rw [List.take_succ, hp1]
          simp
        have h5 := hpre (i + 1)
        have hadd : binV .add false (.lst (sD (f0 ++ (q.parts.take i).flatMap (frR (b ++ q.bndR))))) (.lst (sD (frR (b ++ q.bndR) p))) S2 = .ok (.lst (sD (f0 ++ (q.parts.take (i + 1)).flatMap (frR (b ++ q.bndR))))) S2 := by
          have e3 : sD (f0 ++ (q.parts.take i).flatMap (frR (b ++ q.bndR))) ++ sD (frR (b ++ q.bndR) p) = sD (f0 ++ (q.parts.take (i + 1)).flatMap (frR (b ++ q.bndR))) := by rw [← e]; simp
          rw [binV_lstA (by rw [e3, List.length_map, List.length_append]; omega), e3]
        exact ⟨[some q.toD, some (.tup (sD (b ++ q.bndR))), some (.lst (sD (f0 ++ (q.parts.take i).flatMap (frR (b ++ q.bndR))))), some p.toD], _, S2, rfl, .inl (b_cons (x_asg (r_bin (r_var rfl) (r_call (s_cons (r_var rfl) (s_cons (r_var rfl) s_nil)) ih (endV_lst (sD_nr _) _)) hadd) rfl) b_nil), _, rfl, rfl⟩
    rw [List.length_map, List.take_length, ← hf0, ← frR_eq] at e2
    exact x_fn hT rfl (b_cons (x_asg (r_lst s_nil (cold (by simp))) rfl) (b_cons st1 (b_cons st2 (b_cons (hf0 ▸ e2) (b_ret (x_ret (r_var rfl)))))))
/-- _law_all_parts -/
theorem law_all (h : LG T K) (hT : T K.all = some (fLall K)) : ∀ (n : Nat) (q : Q) (S : Store), q.sz ≤ 100000 → q.dep < n → callN T (n + 1) K.all [q.toD] S = .ok (.lst (q.all.map Q.toD)) S
  | 0, q, S, _, h => by omega
  | n + 1, q, S, hz, hd => by
    have hp := lparts h q n S
    have hpre : ∀ i, (q :: (q.parts.take i).flatMap Q.all).length ≤ 100000 := fun i => by
      rw [← all_len, all_eq] at hz
      have e : q.parts.flatMap Q.all = (q.parts.take i).flatMap Q.all ++ (q.parts.drop i).flatMap Q.all := by rw [← List.flatMap_append, List.take_append_drop]
      rw [e] at hz
      simp only [List.length_cons, List.length_append] at hz ⊢
      omega
    obtain ⟨σ', S', e, x, rfl, rfl⟩ : ∃ σ' S', evS (callN T (n + 1)) (lLall0 K) [some q.toD, some (.lst [q.toD]), none] S = .ok (.nx σ') S' ∧ ∃ x : Option D, σ' = [some q.toD, some (.lst ((q :: (q.parts.take (q.parts.map Q.toD).length).flatMap Q.all).map Q.toD)), x] ∧ S' = S := by
      refine for_ok (S1 := S) (ds := q.parts.map Q.toD) (fun i σ' S' => ∃ x : Option D, σ' = [some q.toD, some (.lst ((q :: (q.parts.take i).flatMap Q.all).map Q.toD)), x] ∧ S' = S) ?_ ⟨none, by simp, rfl⟩ ?_
      · exact i_seq (r_call (s_cons (r_var rfl) s_nil) hp (endV_qs _ _)) rfl
      · rintro i x σ S2 hx ⟨y, rfl, rfl⟩
        rw [List.getElem?_map, Option.map_eq_some_iff] at hx
        obtain ⟨p, hp1, rfl⟩ := hx
        have hm := List.mem_of_getElem? hp1
        have h5 := hpre (i + 1)
        have e5 : (q :: (q.parts.take (i + 1)).flatMap Q.all) = (q :: (q.parts.take i).flatMap Q.all) ++ p.all := by
          rw [List.take_succ, hp1]
          simp
        have hpz : p.sz ≤ 100000 := by
          rw [e5, List.length_append, all_len] at h5
          omega
        have ih := law_all h hT n p S2 hpz (by have := part_dep hm; omega)
        have hadd : binV .add false (.lst ((q :: (q.parts.take i).flatMap Q.all).map Q.toD)) (.lst (p.all.map Q.toD)) S2 = .ok (.lst ((q :: (q.parts.take (i + 1)).flatMap Q.all).map Q.toD)) S2 := by
          rw [e5] at h5 ⊢
          rw [List.map_append]
          exact binV_lstA (by rw [← List.map_append, List.length_map]; exact h5)
        exact ⟨[some q.toD, some (.lst ((q :: (q.parts.take i).flatMap Q.all).map Q.toD)), some p.toD], _, S2, rfl, .inl (b_cons (x_asg (r_bin (r_var rfl) (r_call (s_cons (r_var rfl) s_nil) ih (endV_qs _ _)) hadd) rfl) b_nil), _, rfl, rfl⟩
    rw [List.length_map, List.take_length, ← all_eq] at e
    exact x_fn hT rfl (b_cons (x_asg (r_lst (s_cons (r_var rfl) s_nil) (cold (by simp))) rfl) (b_cons e (b_ret (x_ret (r_var rfl)))))
end Zg

/-! HF: == of lists of texts, own lists. -/
namespace Zg
open PySem Z
theorem pyEq_self {d : D} {x : PyData} (h : pd d = some x) (hs : SeqAt.shaped x = true) : pyEq d d = some true := by
  have h2 : PyData.eqv x x = true := SeqAt.eqv_refl x (SeqAt.canLay_of_shaped hs)
  simp only [pyEq, h, hs, Bool.and_self, if_true, h2]
theorem strs_lay : ∀ {xs : List Str}, (∀ x ∈ xs, PyData.strOk x = true) → PyData.canLayAll0 (xs.map PyData.str) = true ∧ PyData.depthAll (xs.map PyData.str) = 0
  | [], _ => ⟨rfl, rfl⟩
  | x :: xs, h => by
    obtain ⟨h1, h2⟩ := strs_lay (xs := xs) fun y hy => h y (List.mem_cons_of_mem _ hy)
    have h0 := h x List.mem_cons_self
    refine ⟨?_, ?_⟩
    · simp only [List.map_cons, PyData.canLayAll0, PyData.canLay0, h0, h1, Bool.and_self]
    · simp only [List.map_cons, PyData.depthAll, PyData.depth, h2, Nat.max_self]
theorem shaped_list {xs : List Str} (h : ∀ x ∈ xs, PyData.strOk x = true) : SeqAt.shaped (.list (xs.map PyData.str)) = true := by
  obtain ⟨h1, h2⟩ := strs_lay h
  simp [SeqAt.shaped, PyData.canLay0, PyData.depth, h1, h2]
theorem ne_sD {xs : List Str} (h : ∀ x ∈ xs, PyData.strOk x = true) (S : Store) : cmpV .ne (.lst (sD xs)) (.lst (sD xs)) S = some false := by
  have h1 : pd (.lst (sD xs)) = some (.list (xs.map PyData.str)) := by
    show (pds (sD xs)).map PyData.list = _
    rw [pds_sD]
    rfl
  show (pyEq (.lst (sD xs)) (.lst (sD xs))).map (!·) = _
  rw [pyEq_self h1 (shaped_list h)]
  rfl
/-- a new list of texts as a def's answer: by value -/
theorem endV_new {xs : List Str} {S : Store} (hl : xs.length ≤ 100000) : endV .val S (mkL true (sD xs) (S ++ [none])) = .ok (.lst (sD xs)) S := by
  have h1 : (sD xs).length ≤ sizeLine := small5 (by rw [List.length_map]; exact hl)
  have h2 : mkL true (sD xs) (S ++ [none]) = .ok (.ref (S ++ [none]).length) (S ++ [none] ++ [some (.lst (sD xs))]) := mkL_hot h1
  rw [h2]
  have h3 : frzD FRZ (S ++ [none] ++ [some (Z.Obj.lst (sD xs))]) (.ref (S ++ [none]).length) = some (.lst (sD xs), S ++ [none] ++ [none]) := by
    have ho : objAt (S ++ [none] ++ [some (Z.Obj.lst (sD xs))]) (S ++ [none]).length = some (.lst (sD xs)) := objAt_last _ _
    have hf : frzL 3 (S ++ [none] ++ [none]) (sD xs) = some (sD xs, S ++ [none] ++ [none]) := frzL_map (f := D.str) (fun a S => by simp [frzD]) xs _
    have hset : (S ++ [none] ++ [some (Z.Obj.lst (sD xs))]).set (S ++ [none]).length none = S ++ [none] ++ [none] := set_last _ _ _
    show frzD 4 _ _ = _
    simp only [frzD, ho, hset, hf, Option.map_some]
  have h4 : okOld S (S ++ [none] ++ [none]) = true := by rw [List.append_assoc]; exact okOld_append _ _
  have h5 : (S ++ [none] ++ [none]).take S.length = S := by rw [List.append_assoc, List.take_left']; rfl
  simp only [endV, h3, h4, h5, Bool.and_true, D.nr, sD_nr, if_true]
/-- .. as an owned list -/
theorem endV_own {xs : List Str} {S : Store} (hl : xs.length ≤ 100000) : endV .own S (mkL true (sD xs) (S ++ [none])) = .ok (.ref S.length) (S ++ [some (.lst (sD xs))]) := by
  have h1 : (sD xs).length ≤ sizeLine := small5 (by rw [List.length_map]; exact hl)
  have h2 : mkL true (sD xs) (S ++ [none]) = .ok (.ref (S ++ [none]).length) (S ++ [none] ++ [some (.lst (sD xs))]) := mkL_hot h1
  rw [h2]
  have ho : objAt (S ++ [none] ++ [some (Z.Obj.lst (sD xs))]) (S ++ [none]).length = some (.lst (sD xs)) := objAt_last _ _
  have h4 : okOld S (S ++ [none] ++ [some (Z.Obj.lst (sD xs))]) = true := by rw [List.append_assoc]; exact okOld_append _ _
  have h5 : (S ++ [none] ++ [some (Z.Obj.lst (sD xs))]).take S.length = S := by rw [List.append_assoc, List.take_left']; rfl
  have h6 : (S.length ≤ (S ++ [none]).length) = True := by simp
  simp only [endV, ho, h4, h5, Z.Obj.nr, sD_nr, Bool.and_true, h6, decide_true, if_true]
end Zg

/-! HG: rules for own classes; counting through any def that gives the parts. -/
namespace Z
open PySem
section
variable {C : CallT} {σ : Env} {S S1 S2 S3 S4 : Store} {o e : E} {es : Es} {x d y : D} {ds : List D} {r r1 : R D}
theorem r_fld {f : Str} {c : Nat} {fs : List (Str × D)} (ho : ev C σ o false S = .ok x S1) (hi : insOf S1 x = some (c, fs)) (hf : lkF fs f = some d) : ev C σ (.fld o f) false S = .ok d S1 := by simp [ev, ho, hi, hf]
theorem r_mcall {nm : Str} {cf : List (Nat × Nat)} {m : Md} {f c : Nat} {fs : List (Str × D)} (ho : ev C σ o false S = .ok x S1) (hi : insOf S1 x = some (c, fs)) (hn : lkF fs nm = none) (he : evs C σ es S1 = .ok ds S2)
    (hc : cf.lookup c = some f) (h1 : C f (x :: ds) S2 = r1) (h2 : endV m S2 r1 = r) : ev C σ (.mcall nm cf m o es) false S = r := by simp [ev, ho, hi, hn, he, hc, h1, h2]
theorem r_makeO {c f : Nat} (he : evs C σ es S = .ok ds S1) (h : C f (.ref S1.length :: ds) (S1 ++ [some (.ins c [])]) = .ok .non S2) : ev C σ (.make c f true es) false S = .ok (.ref S1.length) S2 := by simp [ev, he, h]
theorem r_makeV {c f : Nat} (he : evs C σ es S = .ok ds S1) (h : C f (.ref S1.length :: ds) (S1 ++ [some (.ins c [])]) = .ok .non S2) (h2 : endV .val S1 (.ok (.ref S1.length) S2) = r) : ev C σ (.make c f false es) false S = r := by simp [ev, he, h, h2]
theorem r_prop {nm : Str} {c f : Nat} {fs : List (Str × D)} (ho : ev C σ o false S = .ok x S1) (hi : insOf S1 x = some (c, fs)) (h1 : C f [x] S1 = r1) (h2 : endV .val S1 r1 = r) : ev C σ (.prop nm c f o) false S = r := by simp [ev, ho, hi, h1, h2]
theorem r_not_f {a : E} {c : Bool} (ha : ev C σ a false S = .ok x S1) (h : truV x S1 = some c) : ev C σ (.not a) false S = .ok (.bl (!c)) S1 := by simp [ev, ha, h]
theorem t_bi {k : Bi} {ow c : Bool} (h : ev C σ (.bi k ow es) false S = .ok d S1) (hc : truV d S1 = some c) : ev C σ (.bi k ow es) true S = .ok (.bl c) S1 := by
  simp only [ev, fin] at h ⊢
  simp only [if_neg Bool.false_ne_true, if_true] at h ⊢
  rw [h]; simp [hc]
theorem t_call {f : Nat} {m : Md} {c : Bool} (h : ev C σ (.call f m es) false S = .ok d S1) (hc : truV d S1 = some c) : ev C σ (.call f m es) true S = .ok (.bl c) S1 := by
  simp only [ev, fin] at h ⊢
  simp only [if_neg Bool.false_ne_true, if_true] at h ⊢
  rw [h]; simp [hc]
theorem t_mcall {nm : Str} {cf : List (Nat × Nat)} {m : Md} {c : Bool} (h : ev C σ (.mcall nm cf m o es) false S = .ok d S1) (hc : truV d S1 = some c) : ev C σ (.mcall nm cf m o es) true S = .ok (.bl c) S1 := by
  simp only [ev, fin] at h ⊢
  simp only [if_neg Bool.false_ne_true, if_true] at h ⊢
  rw [h]; simp [hc]
theorem t_var {i : Nat} {c : Bool} (h : σ[i]? = some (some d)) (hc : truV d S = some c) : ev C σ (.var i) true S = .ok (.bl c) S := by simp [ev, fin, h, hc]
theorem x_setF {f : Str} (h : ev C σ e false S = .ok d S1) (ho : ev C σ o false S1 = .ok x S2) (h2 : setFV x f d S2 = some S3) : evS C (.setF o f e) σ S = .ok (.nx σ) S3 := by simp [evS, h, ho, h2]
theorem x_augF {f : Str} {c : Nat} {fs fs' : List (Str × D)} {i j : Int} (ho : ev C σ o false S = .ok x S1) (hi : insOf S1 x = some (c, fs)) (hf : lkF fs f = some (.int i)) (he : ev C σ e false S1 = .ok (.int j) S2) (hi2 : insOf S2 x = some (c, fs'))
    (h2 : setFV x f (.int (i + j)) S2 = some S3) : evS C (.augF o f .add e) σ S = .ok (.nx σ) S3 := by simp [evS, ho, hi, hf, he, hi2, h2]
end
end Z
namespace Zg
open PySem Z
variable {T : Nat → Option Fn}
def fCountG (P c : Nat) : Fn := ⟨1, 2,
  (.cons (.ret (.bin .add false (.k (.int 1)) (.bi .sum false (.cons (.lc false [1] (.call c .val (.cons (.var 1) .nil)) (.nm 1) (.seq (.call P .val (.cons (.var 0) .nil))) .nil) .nil)))) .nil)⟩
theorem count_gen {P c : Nat} (hc : T c = some (fCountG P c)) (hg : ∀ (q : Q) (n : Nat) (S : Store), callN T (n + 2) P [q.toD] S = .ok (.lst (q.parts.map Q.toD)) S) : ∀ (n : Nat) (q : Q) (S : Store), q.dep < n → callN T (n + 2) c [q.toD] S = .ok (.int (q.sz : Nat)) S
  | 0, q, S, h => by omega
  | n + 1, q, S, h => by
    have hp := hg q n S
    have hi : evI (callN T (n + 2)) [some q.toD, none] (.seq (.call P .val (.cons (.var 0) .nil))) S = .ok (q.parts.map Q.toD) S := i_seq (r_call (s_cons (r_var rfl) s_nil) hp (endV_qs _ _)) rfl
    have hm := mapR_map (S := S) (l := q.parts) (k := Q.toD) (g := fun p => D.int (p.sz : Nat)) (f := fun d S2 => match asg (.nm 1) d (wipeE [some q.toD, none] [1]) with
        | some σ1 => (evC (callN T (n + 2)) σ1 .nil S2).bind fun b S3 => if b then (ev (callN T (n + 2)) σ1 (.call c .val (.cons (.var 1) .nil)) false S3).bind fun y S4 => .ok [y] S4 else .ok [] S3
        | none => .bad) fun p hp => by
      have ha : asg (.nm 1) p.toD (wipeE [some q.toD, none] [1]) = some [some q.toD, some p.toD] := rfl
      have ih := count_gen hc hg n p S (by have := part_dep hp; omega)
      have he : ev (callN T (n + 2)) [some q.toD, some p.toD] (.call c .val (.cons (.var 1) .nil)) false S = .ok (.int (p.sz : Nat)) S := r_call (s_cons (r_var rfl) s_nil) ih (endV_int _ _)
      simp only [ha, evC, R.ok_bind, if_true, he]
    have hl := parts_len q
    have hs : biV .sum false [.lst (q.parts.map fun p => D.int (p.sz : Nat))] S = .ok (.int (q.parts.map fun p => (p.sz : Int)).sum) S := by
      have e : (q.parts.map fun p => D.int (p.sz : Nat)) = (q.parts.map fun p => (p.sz : Int)).map D.int := by rw [List.map_map]; rfl
      rw [e]
      show (match allInt ((q.parts.map fun p => (p.sz : Int)).map D.int) with
        | some ns => R.ok (D.int ns.sum) S
        | none => .bad) = _
      rw [allInt_map]
    have hb : binV .add false (.int 1) (.int (q.parts.map fun p => (p.sz : Int)).sum) S = .ok (.int (q.sz : Nat)) S := by
      have := parts_sz q
      have e : (1 : Int) + (q.parts.map fun p => (p.sz : Int)).sum = (q.sz : Nat) := by omega
      rw [← e]
      rfl
    exact x_fn hc rfl (b_ret (x_ret (r_bin r_k (r_bi (s_cons (r_lc hi hm (cold (by rw [List.length_map]; omega))) s_nil) hs) hb)))
/-- no more levels of growth than that -/
def Q.lev : Q → Nat
  | .not p => p.lev
  | .bi _ p q => max p.lev q.lev
  | .qu _ _ p => p.lev
  | .grow _ _ p _ => p.lev + 1
  | _ => 0
theorem wf_lev : ∀ {q : Q} {ns : List Str} {gs : List (Str × Nat)} {l : Nat}, wf ns gs l q → q.lev ≤ l
  | .tru, _, _, _, _ => Nat.zero_le _
  | .fal, _, _, _, _ => Nat.zero_le _
  | .given _ _, _, _, _, _ => Nat.zero_le _
  | .same _ _, _, _, _, _ => Nat.zero_le _
  | .inn _ _, _, _, _, _ => Nat.zero_le _
  | .not p, _, _, _, h => wf_lev (q := p) h
  | .bi _ p q, _, _, _, h => Nat.max_le.mpr ⟨wf_lev (q := p) h.1, wf_lev (q := q) h.2⟩
  | .qu _ _ p, _, _, _, h => wf_lev (q := p) h.2
  | .grow _ _ p _, _, _, _, h => by
    obtain ⟨_, _, _, _, _, _, h7, h8⟩ := h
    have := wf_lev (q := p) h8
    simp only [Q.lev]
    omega
theorem part_lev {q p : Q} (h : p ∈ q.parts) : p.lev ≤ q.lev := by
  cases q <;> simp only [Q.parts, List.mem_cons, List.not_mem_nil, or_false] at h <;> first | (subst h; simp [Q.lev]) | (rcases h with rfl | rfl <;> simp only [Q.lev] <;> omega)
end Zg

/-! HH: dicts by names, rows, _law_with, _law_rows. -/
namespace Zg
open PySem Z
/-- where the defs stand -/
structure SIds where
  (rows given with_ leaf holds rounds : Nat)
def bRows (Y : SIds) : B := (.cons (.expr (.bm .extend (.var 2) (.cons (.lc false [4] (.bin .add false (.var 3) (.tup (.cons (.var 4) .nil))) (.nm 4) (.rng (.cons (.var 0) .nil)) .nil) .nil))) .nil)
def lRows (Y : SIds) : S := .for_ (.nm 3) (.seq (.call Y.rows .val (.cons (.var 0) (.cons (.bin .sub false (.var 1) (.k (.int 1))) .nil)))) (bRows Y)
def fRows (Y : SIds) : Fn := ⟨2, 5,
  (.cons (.if_ (.cmp .eq (.var 1) (.k (.int 0))) (.cons (.ret (.lst false (.cons (.tup .nil) .nil))) .nil) .nil)
  (.cons (.asg (.nm 2) (.lst true .nil))
  (.cons (.frzv (lRows Y) 2)
  (.cons (.ret (.var 2)) .nil))))⟩
def bWith : B := (.cons (.setI (.var 3) (.idx (.var 1) (.var 4)) (.idx (.var 2) (.var 4))) .nil)
def lWith : S := .for_ (.nm 4) (.rng (.cons (.bi .len false (.cons (.var 1) .nil)) .nil)) bWith
def fWith : Fn := ⟨3, 5,
  (.cons (.asg (.nm 3) (.bi .dict true (.cons (.var 0) .nil)))
  (.cons (.frzv lWith 3)
  (.cons (.ret (.var 3)) .nil)))⟩
variable {T : Nat → Option Fn} {Y : SIds}

/-! ### dicts by names -/
section
variable {α : Type} {f : α → D}
def kD (f : α → D) (l : List (Str × α)) : List (D × D) := l.map fun p => (.str p.1, f p.2)
def putA (x : Str) (a : α) (l : List (Str × α)) : List (Str × α) := if l.any (fun p => decide (p.1 = x)) then l.map fun p => if p.1 = x then (p.1, a) else p else l ++ [(x, a)]
def lookA (x : Str) (l : List (Str × α)) : Option α := (l.find? fun p => decide (p.1 = x)).map (·.2)
def withA (xs : List Str) (as : List α) (l : List (Str × α)) : List (Str × α) := (xs.zip as).foldl (fun l p => putA p.1 p.2 l) l
theorem str_inj {x y : Str} : (D.str x = D.str y) ↔ x = y := ⟨fun h => by cases h; rfl, fun h => by rw [h]⟩
theorem get_kD (x : Str) : ∀ l : List (Str × α), getK (kD f l) (.str x) = (lookA x l).map f
  | [] => rfl
  | p :: l => by
    have ih := get_kD x l
    unfold getK lookA at ih ⊢
    simp only [kD, List.map_cons, List.find?_cons] at ih ⊢
    by_cases h : p.1 = x
    · simp [h]
    · simp [h, str_inj] at ih ⊢
      exact ih
theorem any_kD (x : Str) (l : List (Str × α)) : ((kD f l).any fun p => decide (p.1 = .str x)) = l.any fun p => decide (p.1 = x) := by
  unfold kD
  rw [List.any_map]
  congr 1
  funext p
  simp [str_inj]
theorem put_kD (x : Str) (a : α) (l : List (Str × α)) : putD (kD f l) (.str x) (f a) = kD f (putA x a l) := by
  unfold putD putA
  rw [any_kD]
  split
  · unfold kD
    rw [List.map_map, List.map_map]
    apply List.map_congr_left
    intro p _
    by_cases h : p.1 = x <;> simp [h, str_inj]
  · simp [kD]
theorem look_put (x y : Str) (a : α) : ∀ l : List (Str × α), lookA y (putA x a l) = if y = x then some a else lookA y l := by
  intro l
  unfold putA
  split
  · rename_i h
    induction l with
    | nil => simp at h
    | cons p l ih =>
      simp only [List.map_cons, lookA, List.find?_cons] at ih ⊢
      by_cases hp : p.1 = x
      · rw [if_pos hp]
        by_cases hy : y = x
        · simp [hp, hy]
        · have : ¬ p.1 = y := fun e => hy (e.symm.trans hp)
          have h2 : ¬ x = y := fun e => hy e.symm
          simp only [this, decide_false, if_neg hy]
          -- the rest
          have hr : ∀ l : List (Str × α), (List.find? (fun p => decide (p.1 = y)) (l.map fun p => if p.1 = x then (p.1, a) else p)).map (·.2) = (l.find? fun p => decide (p.1 = y)).map (·.2) := by
            intro l
            induction l with
            | nil => rfl
            | cons q l ih2 =>
              simp only [List.map_cons, List.find?_cons]
              by_cases hq : q.1 = x
              · have : ¬ q.1 = y := fun e => hy (e.symm.trans hq)
                simp only [if_pos hq, this, decide_false]
                exact ih2
              · simp only [if_neg hq]
                by_cases hq2 : q.1 = y
                · simp [hq2]
                · simp only [hq2, decide_false]; exact ih2
          exact hr l
      · rw [if_neg hp]
        by_cases hpy : p.1 = y
        · have : ¬ y = x := fun e => hp (hpy.trans e)
          simp [hpy, this]
        · simp only [hpy, decide_false]
          refine ih ?_
          simpa [hp] using h
  · rename_i h
    induction l with
    | nil =>
      by_cases hy : y = x
      · simp [lookA, hy]
      · have : ¬ x = y := fun e => hy e.symm
        simp [lookA, hy, this]
    | cons p l ih =>
      simp only [List.any_cons, Bool.or_eq_true, not_or, decide_eq_true_eq] at h
      simp only [List.cons_append, lookA, List.find?_cons] at ih ⊢
      by_cases hpy : p.1 = y
      · have : ¬ y = x := fun e => h.1 (hpy.trans e)
        simp [hpy, this]
      · simp only [hpy, decide_false]
        exact ih (by simpa using h.2)
theorem len_putA (x : Str) (a : α) (l : List (Str × α)) : (putA x a l).length ≤ l.length + 1 := by
  unfold putA
  split <;> simp
theorem len_withA (xs : List Str) (as : List α) (l : List (Str × α)) : (withA xs as l).length ≤ l.length + xs.length := by
  unfold withA
  have : (xs.zip as).length ≤ xs.length := by simp; omega
  generalize xs.zip as = ps at this
  have h : ∀ (ps : List (Str × α)) (l : List (Str × α)), (ps.foldl (fun l p => putA p.1 p.2 l) l).length ≤ l.length + ps.length := by
    intro ps
    induction ps with
    | nil => intro l; simp
    | cons p ps ih =>
      intro l
      have h1 := ih (putA p.1 p.2 l)
      have h2 := len_putA p.1 p.2 l
      simp only [List.foldl_cons, List.length_cons]
      omega
  have := h ps l
  omega
/-- a value that freezing leaves alone -/
structure Val (f : α → D) : Prop where
  nr : ∀ a, (f a).nr = true
  frz : ∀ n S a, frzD n S (f a) = some (f a, S)
theorem nrK_kD (v : Val f) : ∀ l : List (Str × α), D.nrK (kD f l) = true
  | [] => rfl
  | p :: l => by
    have := nrK_kD v l
    simp only [kD, List.map_cons, D.nrK, D.nr, v.nr, Bool.and_self, Bool.true_and] at this ⊢
    exact this
theorem frzK_kD (v : Val f) (n : Nat) (S : Store) : ∀ l : List (Str × α), frzK n S (kD f l) = some (kD f l, S)
  | [] => by simp [kD, frzK]
  | p :: l => by
    have := frzK_kD v n S l
    simp only [kD, List.map_cons, frzK, v.frz, Option.map_some] at this ⊢
    rw [this]; rfl
theorem frzD_dct (n : Nat) (S : Store) (kvs : List (D × D)) : frzD n S (.dct kvs) = some (.dct kvs, S) := by cases n <;> simp [frzD]
theorem frzD_bl (n : Nat) (S : Store) (b : Bool) : frzD n S (.bl b) = some (.bl b, S) := by cases n <;> simp [frzD]
theorem endV_dct (v : Val f) (l : List (Str × α)) (S T : Store) : endV .val S (.ok (.dct (kD f l)) (S ++ T)) = .ok (.dct (kD f l)) S := by
  have h1 : okOld S (S ++ T) = true := okOld_append _ _
  have h2 : (S ++ T).take S.length = S := by rw [List.take_left']; rfl
  simp only [endV, frzD_dct, h1, h2, D.nr, nrK_kD v, Bool.and_self, if_true]
/-- a list or a tuple -/
def sq (t : Bool) (xs : List D) : D := if t then .tup xs else .lst xs
theorem idx_sq {t : Bool} {xs : List D} {i : Nat} {d : D} {S : Store} (h : xs[i]? = some d) : idxV (sq t xs) (.int (i : Nat)) S = some d := by
  cases t
  · exact idxV_lst (atN _ _ _ h)
  · exact tupN i h
theorem len_sq {t : Bool} {xs : List D} {S : Store} : biV .len false [sq t xs] S = .ok (.int (xs.length : Nat)) S := by
  cases t
  · exact biV_len_seq (d := .lst xs) (fun _ h => nomatch h) rfl
  · exact biV_len_seq (d := .tup xs) (fun _ h => nomatch h) rfl
theorem small9 {n : Nat} (h : n < 100000) : n < sizeLine := by
  have : (100000 : Nat) ≤ sizeLine := by decide
  omega
theorem zip_take_len {β : Type} : ∀ (xs : List β) (as : List α), xs.zip (as.take xs.length) = xs.zip as
  | [], _ => rfl
  | x :: xs, [] => rfl
  | x :: xs, a :: as => by
    simp only [List.length_cons, List.take_succ_cons, List.zip_cons_cons, zip_take_len xs as]
theorem with_ok (hT : T Y.with_ = some fWith) (v : Val f) (n : Nat) (t u : Bool) (xs : List Str) (as : List α) (l : List (Str × α)) (S : Store) (hl : xs.length ≤ as.length) (hz : l.length + xs.length < 50000) :
    callN T (n + 1) Y.with_ [.dct (kD f l), sq t (sD xs), sq u (as.map f)] S = .ok (.dct (kD f (withA xs as l))) (S ++ [none]) := by
  have hd : biV .dict true [.dct (kD f l)] S = .ok (.ref S.length) (S ++ [some (.dct (kD f l))]) := by
    have : (kD f l).length ≤ sizeLine := small5 (by simp [kD]; omega)
    simp [biV, dctOf, mkD, this]
  obtain ⟨σ1, S1, e1, x4, rfl, rfl⟩ : ∃ σ' S', evS (callN T n) lWith [some (.dct (kD f l)), some (sq t (sD xs)), some (sq u (as.map f)), some (.ref S.length), none] (S ++ [some (.dct (kD f l))]) = .ok (.nx σ') S' ∧
      ∃ x4 : Option D, σ' = [some (.dct (kD f l)), some (sq t (sD xs)), some (sq u (as.map f)), some (.ref S.length), x4] ∧ S' = S ++ [some (.dct (kD f (withA (xs.take (rngV 0 xs.length).length) (as.take (rngV 0 xs.length).length) l)))] := by
    refine for_ok (S1 := S ++ [some (.dct (kD f l))]) (ds := rngV 0 xs.length) (fun i σ' S' => ∃ x4 : Option D, σ' = [some (.dct (kD f l)), some (sq t (sD xs)), some (sq u (as.map f)), some (.ref S.length), x4] ∧ S' = S ++ [some (.dct (kD f (withA (xs.take i) (as.take i) l)))]) ?_ ⟨none, rfl, rfl⟩ ?_
    · have := len_sq (t := t) (xs := sD xs) (S := S ++ [some (.dct (kD f l))])
      rw [List.length_map] at this
      exact i_rng (s_cons (r_bi (s_cons (r_var rfl) s_nil) this) s_nil) (rng_nat (by omega))
    · rintro i x σ S2 hx ⟨x4, rfl, rfl⟩
      obtain ⟨rfl, hi⟩ := rngV_get hx
      rw [Int.zero_add]
      have hi2 : i < as.length := by omega
      have h1 : (sD xs)[i]? = some (.str xs[i]) := by rw [List.getElem?_map, List.getElem?_eq_getElem hi]; rfl
      have h2 : (as.map f)[i]? = some (f as[i]) := by rw [List.getElem?_map, List.getElem?_eq_getElem hi2]; rfl
      have e : withA (xs.take (i + 1)) (as.take (i + 1)) l = putA xs[i] as[i] (withA (xs.take i) (as.take i) l) := by
        unfold withA
        rw [List.take_succ, List.take_succ, List.getElem?_eq_getElem hi, List.getElem?_eq_getElem hi2, List.zip_append (by simp; omega), List.foldl_append]
        rfl
      have hk : (kD f (withA (xs.take i) (as.take i) l)).length < sizeLine := by
        have := len_withA (xs.take i) (as.take i) l
        have h3 : (xs.take i).length ≤ i := by simp; omega
        exact small9 (by simp only [kD, List.length_map]; omega)
      have hs : setIV (.ref S.length) (.str xs[i]) (f as[i]) (S ++ [some (.dct (kD f (withA (xs.take i) (as.take i) l)))]) = some (S ++ [some (.dct (kD f (withA (xs.take (i + 1)) (as.take (i + 1)) l)))]) := by
        simp only [setIV, objAt_last, okKey, kFlat, Option.isSome_some, Bool.true_and, decide_eq_true hk, if_true, put_kD, set_last, e]
      exact ⟨[some (.dct (kD f l)), some (sq t (sD xs)), some (sq u (as.map f)), some (.ref S.length), some (.int (i : Nat))], _, _, rfl, .inl (b_cons (x_setI (r_idx (r_var rfl) (r_var rfl) (idx_sq h2)) (r_var rfl) (r_idx (r_var rfl) (r_var rfl) (idx_sq h1)) hs) b_nil), _, rfl, rfl⟩
  rw [rngV_len, List.take_length] at e1
  have hw : withA xs (as.take xs.length) l = withA xs as l := by
    unfold withA
    rw [zip_take_len]
  rw [hw] at e1
  have hf : frzD FRZ (S ++ [some (.dct (kD f (withA xs as l)))]) (.ref S.length) = some (.dct (kD f (withA xs as l)), S ++ [none]) := by
    show frzD 4 _ _ = _
    simp only [frzD, objAt_last, set_last, frzK_kD v, Option.map_some]
  exact x_fn hT rfl (b_cons (x_asg (r_bi (s_cons (r_var rfl) s_nil) hd) rfl) (b_cons (x_frzv e1 rfl hf) (b_ret (x_ret (r_var rfl)))))
end

/-! ### rows -/
abbrev Row := List Nat
def rowD (r : Row) : D := .tup (r.map fun i => .int (i : Nat))
def rowsD (rs : List Row) : D := .lst (rs.map rowD)
theorem nr_nats (l : List Nat) : D.nrL (l.map fun i => .int (i : Nat)) = true := nrL_map (fun _ => rfl) l
theorem rowD_val : Val rowD := ⟨fun r => nr_nats r, fun n S r => frzD_tup _ _ _⟩
theorem nr_rows (rs : List Row) : D.nrL (rs.map rowD) = true := nrL_map rowD_val.nr rs
theorem rowsD_val : Val rowsD := ⟨fun r => nr_rows r, fun n S r => frzD_lst _ _ _⟩
def intD (i : Nat) : D := .int (i : Nat)
theorem intD_val : Val intD := ⟨fun _ => rfl, fun n S r => by cases n <;> simp [intD, frzD]⟩
def rowsOf (n : Nat) : Nat → List Row
  | 0 => [[]]
  | k + 1 => (rowsOf n k).flatMap fun r => (List.range n).map fun i => r ++ [i]
theorem rowsOf_len (n : Nat) : ∀ k, (rowsOf n k).length = n ^ k
  | 0 => rfl
  | k + 1 => by
    have h : ∀ l : List Row, (l.flatMap fun r => (List.range n).map fun i => r ++ [i]).length = l.length * n := by
      intro l
      induction l with
      | nil => simp
      | cons r l ih => simp only [List.flatMap_cons, List.length_append, List.length_map, List.length_range, ih, List.length_cons, Nat.succ_mul]; omega
    rw [rowsOf, h, rowsOf_len n k, Nat.pow_succ]
theorem rowsOf_row (n : Nat) : ∀ (k : Nat) (r : Row), r ∈ rowsOf n k → r.length = k ∧ ∀ i ∈ r, i < n
  | 0, r, h => by
    simp only [rowsOf, List.mem_singleton] at h
    subst h
    exact ⟨rfl, fun i hi => nomatch hi⟩
  | k + 1, r, h => by
    simp only [rowsOf, List.mem_flatMap, List.mem_map, List.mem_range] at h
    obtain ⟨r', h1, i, hi, rfl⟩ := h
    obtain ⟨h2, h3⟩ := rowsOf_row n k r' h1
    refine ⟨by simp [h2], fun j hj => ?_⟩
    rcases List.mem_append.mp hj with e | e
    · exact h3 j e
    · rw [List.mem_singleton] at e; subst e; exact hi
theorem endV_app {d : D} (hn : d.nr = true) (hz : ∀ S, frzD FRZ S d = some (d, S)) (S T' : Store) : endV .val S (.ok d (S ++ T')) = .ok d S := by
  have h1 : okOld S (S ++ T') = true := okOld_append _ _
  have h2 : (S ++ T').take S.length = S := by rw [List.take_left']; rfl
  simp only [endV, hz, h1, h2, hn, Bool.and_self, if_true]
theorem rows_val (S : Store) (T' : Store) (rs : List Row) : endV .val S (.ok (rowsD rs) (S ++ T')) = .ok (rowsD rs) S := endV_app (rowsD_val.nr rs) (fun S => rowsD_val.frz _ S _) S T'
theorem sub_one (k : Nat) (S : Store) : binV .sub false (.int ((k + 1 : Nat) : Int)) (.int 1) S = .ok (.int (k : Nat)) S := by
  have h : ((k + 1 : Nat) : Int) - 1 = (k : Nat) := by omega
  have h2 : binV .sub false (.int ((k + 1 : Nat) : Int)) (.int 1) S = .ok (.int (((k + 1 : Nat) : Int) - 1)) S := rfl
  rw [h2, h]
theorem rows_ok (hT : T Y.rows = some (fRows Y)) (m : Nat) (hm : 0 < m) : ∀ (k n : Nat) (S : Store), m ^ k ≤ 5000 → k < 1000 → k < n → ∃ T', callN T n Y.rows [.int (m : Nat), .int (k : Nat)] S = .ok (rowsD (rowsOf m k)) (S ++ T')
  | 0, n + 1, S, hz, _, h => by
    refine ⟨[], ?_⟩
    rw [List.append_nil]
    exact x_fn hT rfl (b_ret (x_if_t (r_cmp (r_var rfl) r_k (by simp [cmpV, pyEq_int])) rfl (b_ret (x_ret (r_lst (s_cons (r_tup s_nil (tup_len (by simp))) s_nil) (cold (by simp)))))))
  | k + 1, 0, S, hz, _, h => by omega
  | k + 1, n + 1, S, hz, hk, h => by
    have hz' : m ^ k ≤ m ^ (k + 1) := Nat.pow_le_pow_right hm (by omega)
    obtain ⟨T', ih⟩ := rows_ok hT m hm k n (S ++ [some (.lst [])]) (by omega) (by omega) (by omega)
    have hm5 : m ≤ 5000 := by
      have : m ^ 1 ≤ m ^ (k + 1) := Nat.pow_le_pow_right hm (by omega)
      rw [Nat.pow_one] at this
      omega
    have hc : ev (callN T n) [some (.int (m : Nat)), some (.int (k + 1 : Nat)), none, none, none] (.cmp .eq (.var 1) (.k (.int 0))) true S = .ok (.bl false) S := by
      refine r_cmp (r_var rfl) r_k ?_
      have : ¬ (((k + 1 : Nat) : Int) = 0) := by omega
      simp only [cmpV, pyEq_int, decide_eq_false this]
    obtain ⟨σ1, S1, e1, x3, rfl, rfl⟩ : ∃ σ' S', evS (callN T n) (lRows Y) [some (.int (m : Nat)), some (.int (k + 1 : Nat)), some (.ref S.length), none, none] (S ++ [some (.lst [])]) = .ok (.nx σ') S' ∧
        ∃ x3 : Option D, σ' = [some (.int (m : Nat)), some (.int (k + 1 : Nat)), some (.ref S.length), x3, none] ∧ S' = S ++ [some (.lst ((((rowsOf m k).take ((rowsOf m k).map rowD).length).flatMap fun r => (List.range m).map fun i => r ++ [i]).map rowD))] := by
      refine for_ok (S1 := S ++ [some (.lst [])]) (ds := (rowsOf m k).map rowD) (fun i σ' S' => ∃ x3 : Option D, σ' = [some (.int (m : Nat)), some (.int (k + 1 : Nat)), some (.ref S.length), x3, none] ∧ S' = S ++ [some (.lst ((((rowsOf m k).take i).flatMap fun r => (List.range m).map fun i => r ++ [i]).map rowD))]) ?_ ⟨none, rfl, rfl⟩ ?_
      · exact i_seq (r_call (s_cons (r_var rfl) (s_cons (r_bin (r_var rfl) r_k (sub_one k _)) s_nil)) ih (rows_val _ _ _)) rfl
      · rintro i x σ S2 hx ⟨x3, rfl, rfl⟩
        rw [List.getElem?_map, Option.map_eq_some_iff] at hx
        obtain ⟨r, hr, rfl⟩ := hx
        have hi : i < (rowsOf m k).length := (List.getElem?_eq_some_iff.mp hr).1
        have hr1 := (rowsOf_row m k r (List.mem_of_getElem? hr)).1
        generalize hS2 : S ++ [some (Z.Obj.lst ((((rowsOf m k).take i).flatMap fun r => (List.range m).map fun i => r ++ [i]).map rowD))] = S2
        have hm2 := mapR_map (S := S2) (l := List.range m) (k := fun i : Nat => D.int (0 + (i : Int))) (g := fun i => rowD (r ++ [i])) (f := fun d S2 => match asg (.nm 4) d (wipeE [some (.int (m : Nat)), some (.int (k + 1 : Nat)), some (.ref S.length), some (rowD r), none] [4]) with
            | some σ1 => (evC (callN T n) σ1 .nil S2).bind fun b S3 => if b then (ev (callN T n) σ1 (.bin .add false (.var 3) (.tup (.cons (.var 4) .nil))) false S3).bind fun y S4 => .ok [y] S4 else .ok [] S3
            | none => .bad) fun j hj => by
          have ha : asg (.nm 4) (.int (0 + (j : Int))) (wipeE [some (.int (m : Nat)), some (.int (k + 1 : Nat)), some (.ref S.length), some (rowD r), none] [4]) = some [some (.int (m : Nat)), some (.int (k + 1 : Nat)), some (.ref S.length), some (rowD r), some (.int (j : Nat))] := by
            rw [Int.zero_add]; rfl
          have hb : binV .add false (rowD r) (.tup [.int (j : Nat)]) S2 = .ok (rowD (r ++ [j])) S2 := by
            have := binV_tupA (xs := r.map fun i => D.int (i : Nat)) (ys := [.int (j : Nat)]) (S := S2) (ow := false) (by
              rw [List.length_map, hr1]
              simp; omega)
            rw [rowD, this]
            simp [rowD]
          have he : ev (callN T n) [some (.int (m : Nat)), some (.int (k + 1 : Nat)), some (.ref S.length), some (rowD r), some (.int (j : Nat))] (.bin .add false (.var 3) (.tup (.cons (.var 4) .nil))) false S2 = .ok (rowD (r ++ [j])) S2 :=
            r_bin (r_var rfl) (r_tup (s_cons (r_var rfl) s_nil) (tup_len (by simp))) hb
          simp only [ha, evC, R.ok_bind, if_true, he]
        have hlc : ev (callN T n) [some (.int (m : Nat)), some (.int (k + 1 : Nat)), some (.ref S.length), some (rowD r), none] (.lc false [4] (.bin .add false (.var 3) (.tup (.cons (.var 4) .nil))) (.nm 4) (.rng (.cons (.var 0) .nil)) .nil) false S2 = .ok (.lst ((List.range m).map fun i => rowD (r ++ [i]))) S2 :=
          r_lc (i_rng (s_cons (r_var rfl) s_nil) (rng_nat (by omega))) hm2 (cold (by simp; omega))
        have hlen : ((((rowsOf m k).take i).flatMap fun r => (List.range m).map fun i => r ++ [i]).map rowD).length + m ≤ 5000 := by
          have h1 : ∀ l : List Row, (l.flatMap fun r => (List.range m).map fun i => r ++ [i]).length = l.length * m := by
            intro l
            induction l with
            | nil => simp
            | cons r l ih => simp only [List.flatMap_cons, List.length_append, List.length_map, List.length_range, ih, List.length_cons, Nat.succ_mul]; omega
          rw [List.length_map, h1]
          have h2 : ((rowsOf m k).take i).length = i := by simp; omega
          rw [h2, show i * m + m = (i + 1) * m from (Nat.succ_mul i m).symm]
          have h3 : (i + 1) * m ≤ m ^ k * m := Nat.mul_le_mul_right m (by rw [← rowsOf_len m k]; omega)
          have h4 : m ^ k * m = m ^ (k + 1) := (Nat.pow_succ m k).symm
          omega
        have hx : bmV .extend (.ref S.length) [.lst ((List.range m).map fun i => rowD (r ++ [i]))] S2 = .ok .non (S ++ [some (.lst ((((rowsOf m k).take (i + 1)).flatMap fun r => (List.range m).map fun i => r ++ [i]).map rowD))]) := by
          have ho : objAt S2 S.length = some (.lst ((((rowsOf m k).take i).flatMap fun r => (List.range m).map fun i => r ++ [i]).map rowD)) := by rw [← hS2]; exact objAt_last _ _
          have hl2 : ((((rowsOf m k).take i).flatMap fun r => (List.range m).map fun i => r ++ [i]).map rowD).length + ((List.range m).map fun i => rowD (r ++ [i])).length ≤ sizeLine := small5 (by rw [List.length_map (as := List.range m), List.length_range]; omega)
          have e : (((rowsOf m k).take (i + 1)).flatMap fun r => (List.range m).map fun i => r ++ [i]).map rowD = ((((rowsOf m k).take i).flatMap fun r => (List.range m).map fun i => r ++ [i]).map rowD) ++ ((List.range m).map fun i => rowD (r ++ [i])) := by
            rw [List.take_succ, hr]
            simp
          simp only [bmV, ho, lstOf, if_pos hl2]
          rw [e, ← hS2, set_last]
        have ht : bmT .extend (.ref S.length) S2 = true := by
          rw [← hS2]
          simp [bmT, lstOf]
        exact ⟨[some (.int (m : Nat)), some (.int (k + 1 : Nat)), some (.ref S.length), some (rowD r), none], _, _, rfl, .inl (b_cons (x_expr (r_bm (r_var rfl) ht (s_cons hlc s_nil) hx)) b_nil), _, rfl, rfl⟩
    rw [List.length_map, List.take_length] at e1
    have hf : frzD FRZ (S ++ [some (.lst ((rowsOf m (k + 1)).map rowD))]) (.ref S.length) = some (rowsD (rowsOf m (k + 1)), S ++ [none]) := by
      show frzD 4 _ _ = _
      simp only [frzD, objAt_last, set_last, frzL_map (fun a S => rowD_val.frz 3 S a), Option.map_some]
      rfl
    exact ⟨[none], x_fn hT rfl (b_cons (x_if_f hc rfl b_nil) (b_cons (x_asg (r_lst s_nil (mkL_hot (small5 (by simp)))) rfl) (b_cons (x_frzv e1 rfl hf) (b_ret (x_ret (r_var rfl))))))⟩
end Zg

/-! HI: what the law's own _law_holds and _law_rounds compute. -/
namespace Zg
open PySem Z
def fLeaf (Y : SIds) : Fn := ⟨4, 6,
  (.cons (.asg (.nm 4) (.idx (.var 1) (.k (.int 0))))
  (.cons (.if_ (.cmp .eq (.var 4) (.k (.str "same"))) (.cons (.ret (.cmp .eq (.idx (.var 2) (.idx (.var 1) (.k (.int 1)))) (.idx (.var 2) (.idx (.var 1) (.k (.int 2)))))) .nil) .nil)
  (.cons (.if_ (.cmp .eq (.var 4) (.k (.str "given"))) (.cons (.ret (.cmp .in_ (.bi .tuple false (.cons (.lc false [5] (.idx (.var 2) (.var 5)) (.nm 5) (.seq (.idx (.var 1) (.k (.int 2)))) .nil) .nil)) (.idx (.var 0) (.idx (.var 1) (.k (.int 1)))))) .nil) .nil)
  (.cons (.if_ (.cmp .eq (.var 4) (.k (.str "in"))) (.cons (.ret (.cmp .in_ (.bi .tuple false (.cons (.lc false [5] (.idx (.var 2) (.var 5)) (.nm 5) (.seq (.idx (.var 1) (.k (.int 2)))) .nil) .nil)) (.idx (.var 3) (.idx (.var 1) (.k (.int 1)))))) .nil) .nil)
  (.cons (.ret (.cmp .eq (.var 4) (.k (.str "true")))) .nil)))))⟩
def bHolds (Y : SIds) : B := (.cons (.asg (.nm 9) (.call Y.with_ .val (.cons (.var 3) (.cons (.lst false (.cons (.idx (.var 2) (.k (.int 1))) .nil)) (.cons (.lst false (.cons (.var 7) .nil)) .nil)))))
  (.cons (.if_ (.cmp .eq (.call Y.holds .val (.cons (.var 0) (.cons (.var 1) (.cons (.idx (.var 2) (.k (.int 2))) (.cons (.var 9) (.cons (.var 4) .nil)))))) (.cmp .eq (.var 5) (.k (.str "some")))) (.cons (.ret (.cmp .eq (.var 5) (.k (.str "some")))) .nil) .nil) .nil))
def lHolds (Y : SIds) : S := .for_ (.nm 7) (.rng (.cons (.var 0) .nil)) (bHolds Y)
def fHolds (Y : SIds) : Fn := ⟨5, 12,
  (.cons (.asg (.nm 5) (.idx (.var 2) (.k (.int 0))))
  (.cons (.if_ (.cmp .eq (.var 5) (.k (.str "not"))) (.cons (.ret (.not (.call Y.holds .val (.cons (.var 0) (.cons (.var 1) (.cons (.idx (.var 2) (.k (.int 1))) (.cons (.var 3) (.cons (.var 4) .nil)))))))) .nil) .nil)
  (.cons (.if_ (.or (.cmp .eq (.var 5) (.k (.str "and"))) (.cmp .eq (.var 5) (.k (.str "or")))) (.cons (.asg (.nm 6) (.call Y.holds .val (.cons (.var 0) (.cons (.var 1) (.cons (.idx (.var 2) (.k (.int 1))) (.cons (.var 3) (.cons (.var 4) .nil)))))))
  (.cons (.if_ (.cmp .eq (.var 6) (.cmp .eq (.var 5) (.k (.str "or")))) (.cons (.ret (.var 6)) .nil) .nil)
  (.cons (.ret (.call Y.holds .val (.cons (.var 0) (.cons (.var 1) (.cons (.idx (.var 2) (.k (.int 2))) (.cons (.var 3) (.cons (.var 4) .nil))))))) .nil))) .nil)
  (.cons (.if_ (.or (.cmp .eq (.var 5) (.k (.str "some"))) (.cmp .eq (.var 5) (.k (.str "all")))) (.cons (lHolds Y)
  (.cons (.ret (.cmp .eq (.var 5) (.k (.str "all")))) .nil)) .nil)
  (.cons (.if_ (.cmp .eq (.var 5) (.k (.str "grow"))) (.cons (.asg (.nm 8) (.bi .tuple false (.cons (.lc false [10] (.idx (.var 3) (.var 10)) (.nm 10) (.seq (.idx (.var 2) (.k (.int 4)))) .nil) .nil)))
  (.cons (.ret (.bi .any false (.cons (.lc false [11] (.cmp .in_ (.var 8) (.var 11)) (.nm 11) (.seq (.call Y.rounds .val (.cons (.var 0) (.cons (.var 1) (.cons (.var 2) (.cons (.var 3) (.cons (.var 4) .nil))))))) .nil) .nil))) .nil)) .nil)
  (.cons (.ret (.call Y.leaf .val (.cons (.var 1) (.cons (.var 2) (.cons (.var 3) (.cons (.var 4) .nil)))))) .nil))))))⟩
def bRnd0 (Y : SIds) : B := (.cons (.asg (.nm 13) (.call Y.with_ .val (.cons (.var 3) (.cons (.idx (.var 2) (.k (.int 2))) (.cons (.var 12) .nil)))))
  (.cons (.if_ (.and (.cmp .notin (.var 12) (.var 5)) (.call Y.holds .val (.cons (.var 0) (.cons (.var 1) (.cons (.idx (.var 2) (.k (.int 3))) (.cons (.var 13) (.cons (.var 10) .nil))))))) (.cons (.expr (.bm .append (.var 11) (.cons (.var 12) .nil))) .nil) .nil) .nil))
def lRnd0 (Y : SIds) : S := .for_ (.nm 12) (.seq (.var 8)) (bRnd0 Y)
def bRnd1 (Y : SIds) : B := (.cons (.if_ (.var 7) (.cons (.asg (.nm 10) (.call Y.with_ .val (.cons (.var 4) (.cons (.lst false (.cons (.idx (.var 2) (.k (.int 1))) .nil)) (.cons (.lst false (.cons (.bi .list false (.cons (.var 5) .nil)) .nil)) .nil)))))
  (.cons (.asg (.nm 11) (.lst true .nil))
  (.cons (.frzv (lRnd0 Y) 11)
  (.cons (.asg (.nm 7) (.cmp .gt (.bi .len false (.cons (.var 11) .nil)) (.k (.int 0))))
  (.cons (.if_ (.var 7) (.cons (.expr (.bm .append (.var 6) (.cons (.var 11) .nil)))
  (.cons (.asg (.nm 5) (.bin .add false (.var 5) (.var 11))) .nil)) .nil) .nil))))) .nil) .nil)
def lRnd1 (Y : SIds) : S := .for_ (.nm 9) (.rng (.cons (.bin .add false (.bi .len false (.cons (.var 8) .nil)) (.k (.int 1))) .nil)) (bRnd1 Y)
def fRounds (Y : SIds) : Fn := ⟨5, 14,
  (.cons (.asg (.nm 5) (.lst false .nil))
  (.cons (.asg (.nm 6) (.lst true .nil))
  (.cons (.asg (.nm 7) (.k (.bl true)))
  (.cons (.asg (.nm 8) (.call Y.rows .val (.cons (.var 0) (.cons (.bi .len false (.cons (.idx (.var 2) (.k (.int 2))) .nil)) .nil))))
  (.cons (.frzv (lRnd1 Y) 6)
  (.cons (.ret (.var 6)) .nil))))))⟩
structure SG (T : Nat → Option Fn) (Y : SIds) : Prop where
  rows : T Y.rows = some (fRows Y)
  with_ : T Y.with_ = some fWith
  leaf : T Y.leaf = some (fLeaf Y)
  holds : T Y.holds = some (fHolds Y)
  rounds : T Y.rounds = some (fRounds Y)

/-! ### the meaning -/
abbrev Vals_ := List (Str × Nat)
abbrev Tabs := List (Str × List Row)
def lk (vs : Vals_) (x : Str) : Nat := (lookA x vs).getD 0
def row (vs : Vals_) (xs : List Str) : Row := xs.map (lk vs)
def tb (ts : Tabs) (r : Str) : List Row := (lookA r ts).getD []
/-- the rounds: fresh ones until none comes -/
def rnds (F : List Row → Row → Bool) (every : List Row) : Nat → List Row → List (List Row)
  | 0, _ => []
  | k + 1, ins => if (every.filter fun r => decide (r ∉ ins) && F ins r) = [] then [] else (every.filter fun r => decide (r ∉ ins) && F ins r) :: rnds F every k (ins ++ every.filter fun r => decide (r ∉ ins) && F ins r)
def sem (m : Nat) (gv : Tabs) : Q → Vals_ → Tabs → Bool
  | .tru, _, _ => true
  | .fal, _, _ => false
  | .given r xs, vs, _ => decide (row vs xs ∈ tb gv r)
  | .same x y, vs, _ => decide (lk vs x = lk vs y)
  | .inn r xs, vs, ts => decide (row vs xs ∈ tb ts r)
  | .not p, vs, ts => !sem m gv p vs ts
  | .bi w p q, vs, ts => if w then sem m gv p vs ts && sem m gv q vs ts else sem m gv p vs ts || sem m gv q vs ts
  | .qu w x p, vs, ts => if w then (List.range m).any fun i => sem m gv p (putA x i vs) ts else (List.range m).all fun i => sem m gv p (putA x i vs) ts
  | .grow r bs p xs, vs, ts => (rnds (fun ins rw => sem m gv p (withA bs rw vs) (putA r ins ts)) (rowsOf m bs.length) ((rowsOf m bs.length).length + 1) []).any fun rs => decide (row vs xs ∈ rs)
/-- where the names have values, the relations rows -/
structure Dom (ns : List Str) (gs : List (Str × Nat)) (vs : Vals_) (ts : Tabs) : Prop where
  v : ∀ x ∈ ns, (lookA x vs).isSome = true
  t : ∀ g ∈ gs, (lookA g.1 ts).isSome = true
  s : ∀ r rs, lookA r ts = some rs → rs.length ≤ 5000
theorem lookA_with {α : Type} (y : Str) : ∀ (xs : List Str) (as : List α) (l : List (Str × α)), xs.length ≤ as.length → (y ∈ xs ∨ (lookA y l).isSome = true) → (lookA y (withA xs as l)).isSome = true := by
  intro xs
  induction xs with
  | nil => intro as l _ h; rcases h with h | h; cases h; exact h
  | cons x xs ih =>
    intro as l hl h
    cases as with
    | nil => simp at hl
    | cons a as =>
      have : withA (x :: xs) (a :: as) l = withA xs as (putA x a l) := rfl
      rw [this]
      refine ih as _ (by simpa using hl) ?_
      by_cases hy : y ∈ xs
      · exact .inl hy
      · right
        rw [look_put]
        by_cases e : y = x
        · simp [e]
        · rw [if_neg e]
          rcases h with h | h
          · rcases List.mem_cons.mp h with h | h
            · exact absurd h e
            · exact absurd h hy
          · exact h

/-! rows as data -/
theorem lay_ints : ∀ l : List Nat, PyData.canLayAll0 (l.map fun i : Nat => PyData.int i) = true ∧ PyData.depthAll (l.map fun i : Nat => PyData.int i) = 0
  | [] => ⟨rfl, rfl⟩
  | x :: xs => by
    obtain ⟨h1, h2⟩ := lay_ints xs
    refine ⟨?_, ?_⟩
    · simp only [List.map_cons, PyData.canLayAll0, PyData.canLay0, h1, Bool.and_self]
    · simp only [List.map_cons, PyData.depthAll, PyData.depth, h2, Nat.max_self]
def rowP (r : Row) : PyData := .tuple (r.map fun i : Nat => PyData.int i)
theorem pds_ints : ∀ l : List Nat, pds (l.map fun i : Nat => D.int i) = some (l.map fun i : Nat => PyData.int i)
  | [] => rfl
  | x :: xs => by
    have := pds_ints xs
    simp only [List.map_cons, pds, pd, this]
theorem pd_row (r : Row) : pd (rowD r) = some (rowP r) := by
  show (pds (r.map fun i : Nat => D.int i)).map PyData.tuple = _
  rw [pds_ints]; rfl
theorem pds_rows : ∀ rs : List Row, pds (rs.map rowD) = some (rs.map rowP)
  | [] => rfl
  | r :: rs => by
    have := pds_rows rs
    simp only [List.map_cons, pds, pd_row, this]
theorem lay_rows : ∀ rs : List Row, PyData.canLayAll0 (rs.map rowP) = true ∧ PyData.depthAll (rs.map rowP) ≤ 1
  | [] => ⟨rfl, by decide⟩
  | r :: rs => by
    obtain ⟨h1, h2⟩ := lay_rows rs
    obtain ⟨h3, h4⟩ := lay_ints r
    refine ⟨?_, ?_⟩
    · simp only [List.map_cons, PyData.canLayAll0, rowP, PyData.canLay0, h3, h1, Bool.and_self]
    · simp only [List.map_cons, PyData.depthAll, rowP, PyData.depth, h4]
      exact Nat.max_le.mpr ⟨by decide, h2⟩
theorem shaped_row (r : Row) : SeqAt.shaped (rowP r) = true := by
  obtain ⟨h3, h4⟩ := lay_ints r
  simp [SeqAt.shaped, rowP, PyData.canLay0, PyData.depth, h3, h4]
theorem shaped_rows (rs : List Row) : SeqAt.shaped (.list (rs.map rowP)) = true := by
  obtain ⟨h3, h4⟩ := lay_rows rs
  simp [SeqAt.shaped, PyData.canLay0, PyData.depth, h3]
  omega
theorem eqv_ints : ∀ a b : List Nat, PyData.eqvAll (a.map fun i : Nat => PyData.int i) (b.map fun i : Nat => PyData.int i) = decide (a = b)
  | [], [] => rfl
  | [], _ :: _ => rfl
  | _ :: _, [] => rfl
  | x :: xs, y :: ys => by
    have h := eqv_ints xs ys
    have h2 : PyData.eqv (.int (x : Int)) (.int (y : Int)) = decide (x = y) := by
      simp only [PyData.eqv]
      by_cases e : x = y
      · subst e; simp
      · have : ¬ (x : Int) = (y : Int) := by omega
        simp [e, this]
    simp only [List.map_cons, PyData.eqvAll, h, h2, List.cons.injEq]
    by_cases e : x = y <;> by_cases e2 : xs = ys <;> simp [e, e2]
theorem eqv_row (a b : Row) : PyData.eqv (rowP a) (rowP b) = decide (a = b) := by
  simp only [rowP, PyData.eqv]
  exact eqv_ints a b
theorem in_rows (r : Row) (rs : List Row) (S : Store) : inV (rowD r) (rowsD rs) S = some (decide (r ∈ rs)) := by
  have h : ((rs.map rowP).any fun z => PyData.eqv z (rowP r)) = decide (r ∈ rs) := by
    induction rs with
    | nil => rfl
    | cons x xs ih =>
      rw [List.map_cons, List.any_cons, ih, eqv_row]
      by_cases e : x = r
      · subst e; simp
      · have : ¬ r = x := fun z => e z.symm
        simp [e, this]
  unfold inV
  simp only [rowsD, dctOf, lstOf, pd_row, pds_rows, shaped_row, shaped_rows, Bool.and_self, if_true, h]
theorem idx_vs {vs : Vals_} {x : Str} (h : (lookA x vs).isSome = true) (S : Store) : idxV (.dct (kD intD vs)) (.str x) S = some (.int (lk vs x)) := by
  obtain ⟨v, e⟩ := Option.isSome_iff_exists.mp h
  have : getK (kD intD vs) (.str x) = some (.int (lk vs x)) := by rw [get_kD, lk, e]; rfl
  simp [idxV, seqOf, lstOf, dctOf, okKey, kFlat, this]
theorem idx_ts {ts : Tabs} {r : Str} (h : (lookA r ts).isSome = true) (S : Store) : idxV (.dct (kD rowsD ts)) (.str r) S = some (rowsD (tb ts r)) := by
  obtain ⟨v, e⟩ := Option.isSome_iff_exists.mp h
  have : getK (kD rowsD ts) (.str r) = some (rowsD (tb ts r)) := by rw [get_kD, tb, e]; rfl
  simp [idxV, seqOf, lstOf, dctOf, okKey, kFlat, this]
theorem row_ev (C : CallT) {σ : Z.Env} {S : Store} {j a : Nat} {vs : Vals_} {xs : List Str} {src : E} (hj : j < σ.length) (ha : a ≠ j) (hv : σ[a]? = some (some (.dct (kD intD vs)))) (hs : ev C σ src false S = .ok (.tup (sD xs)) S) (hx : ∀ x ∈ xs, (lookA x vs).isSome = true) (hl : xs.length ≤ 1000) :
    ev C σ (.bi .tuple false (.cons (.lc false [j] (.idx (.var a) (.var j)) (.nm j) (.seq src) .nil) .nil)) false S = .ok (rowD (row vs xs)) S := by
  have hm := mapR_map (S := S) (l := xs) (k := D.str) (g := fun x => D.int (lk vs x)) (f := fun d S2 => match asg (.nm j) d (wipeE σ [j]) with
      | some σ1 => (evC C σ1 .nil S2).bind fun b S3 => if b then (ev C σ1 (.idx (.var a) (.var j)) false S3).bind fun y S4 => .ok [y] S4 else .ok [] S3
      | none => .bad) fun x hxm => by
    have h1 : asg (.nm j) (.str x) (wipeE σ [j]) = some ((σ.set j none).set j (some (.str x))) := by simp [asg, wipeE, hj]
    have ga : ((σ.set j none).set j (some (D.str x)))[a]? = some (some (.dct (kD intD vs))) := by
      rw [List.getElem?_set_ne (Ne.symm ha), List.getElem?_set_ne (Ne.symm ha)]; exact hv
    have gj : ((σ.set j none).set j (some (D.str x)))[j]? = some (some (.str x)) := by simp [hj]
    have he : ev C ((σ.set j none).set j (some (D.str x))) (.idx (.var a) (.var j)) false S = .ok (.int (lk vs x)) S := r_idx (r_var ga) (r_var gj) (idx_vs (hx x hxm) S)
    simp only [h1, evC, R.ok_bind, if_true, he]
  have e : (row vs xs).map (fun i : Nat => D.int i) = xs.map fun x => D.int (lk vs x) := by simp [row]
  refine r_bi (s_cons (r_lc (i_seq hs rfl) hm (cold (by rw [List.length_map]; omega))) s_nil) ?_
  rw [rowD, e]; rfl
/-- names and relations are known, rows are few -/
def clo (G : List Str) (m : Nat) : List Str → List Str → Q → Prop
  | ns, _, .given r xs => r ∈ G ∧ (∀ x ∈ xs, x ∈ ns) ∧ xs.length ≤ 100
  | ns, _, .same x y => x ∈ ns ∧ y ∈ ns
  | ns, rs, .inn r xs => r ∈ rs ∧ (∀ x ∈ xs, x ∈ ns) ∧ xs.length ≤ 100
  | ns, rs, .not p => clo G m ns rs p
  | ns, rs, .bi _ p q => clo G m ns rs p ∧ clo G m ns rs q
  | ns, rs, .qu _ x p => clo G m (x :: ns) rs p
  | ns, rs, .grow r bs p ts => bs.length ≤ 8 ∧ m ^ bs.length ≤ 1000 ∧ ts.length ≤ 100 ∧ (∀ t ∈ ts, t ∈ ns) ∧ clo G m (bs ++ ns) (r :: rs) p
  | _, _, _ => True
structure Dm (G ns rs : List Str) (gv : Tabs) (vs : Vals_) (ts : Tabs) : Prop where
  g : ∀ r ∈ G, (lookA r gv).isSome = true
  v : ∀ x ∈ ns, (lookA x vs).isSome = true
  t : ∀ r ∈ rs, (lookA r ts).isSome = true
theorem Dm.putv {G ns rs : List Str} {gv : Tabs} {vs : Vals_} {ts : Tabs} (h : Dm G ns rs gv vs ts) (x : Str) (i : Nat) : Dm G (x :: ns) rs gv (putA x i vs) ts :=
  ⟨h.g, fun y hy => by
    rw [look_put]
    by_cases e : y = x
    · simp [e]
    · rw [if_neg e]; exact h.v y ((List.mem_cons.mp hy).resolve_left e), h.t⟩
theorem Dm.grow {G ns rs : List Str} {gv : Tabs} {vs : Vals_} {ts : Tabs} (h : Dm G ns rs gv vs ts) (bs : List Str) (rw_ : Row) (hl : bs.length ≤ rw_.length) (r : Str) (ins : List Row) : Dm G (bs ++ ns) (r :: rs) gv (withA bs rw_ vs) (putA r ins ts) :=
  ⟨h.g, fun y hy => lookA_with y bs rw_ vs hl (by
    rcases List.mem_append.mp hy with e | e
    · exact .inl e
    · exact .inr (h.v y e)), fun y hy => by
    rw [look_put]
    by_cases e : y = r
    · simp [e]
    · rw [if_neg e]; exact h.t y ((List.mem_cons.mp hy).resolve_left e)⟩
abbrev vD (vs : Vals_) : D := .dct (kD intD vs)
abbrev tD (ts : Tabs) : D := .dct (kD rowsD ts)
theorem word_at (C : CallT) (q : Q) {σ : Z.Env} (S : Store) {i : Nat} (h : σ[i]? = some (some q.toD)) : ev C σ (.idx (.var i) (.k (.int 0))) false S = .ok (.str q.word) S :=
  r_idx (r_var h) r_k (by rw [toD_eq]; exact idxV_tup (at0 _ _))
theorem eq_word (C : CallT) (q : Q) (w : Str) [OkS w] {σ : Z.Env} {S : Store} {i : Nat} {t : Bool} (h : σ[i]? = some (some (.str q.word))) : ev C σ (.cmp .eq (.var i) (.k (.str w))) t S = .ok (.bl (decide (q.word = w))) S := r_cmp (r_var h) r_k (eqw q.word w S)
/-- _law_leaf -/
theorem leaf_ok {T : Nat → Option Fn} {Y : SIds} (hT : T Y.leaf = some (fLeaf Y)) (m n : Nat) {G ns rs : List Str} {gv : Tabs} {vs : Vals_} {ts : Tabs} (q : Q) (S : Store) (hc : clo G m ns rs q) (hd : Dm G ns rs gv vs ts) (hq : q.parts = []) :
    callN T (n + 1) Y.leaf [tD gv, q.toD, vD vs, tD ts] S = .ok (.bl (sem m gv q vs ts)) S := by
  have hw := word_at (callN T n) q (σ := [some (tD gv), some q.toD, some (vD vs), some (tD ts), none, none]) S (i := 1) rfl
  have c : ∀ (w : Str) [OkS w] (t : Bool), ev (callN T n) [some (tD gv), some q.toD, some (vD vs), some (tD ts), some (.str q.word), none] (.cmp .eq (.var 4) (.k (.str w))) t S = .ok (.bl (decide (q.word = w))) S := fun w _ t => eq_word _ q w rfl
  cases q with
  | tru => exact x_fn hT rfl (b_cons (x_asg hw rfl) (b_cons (x_if_f (c "same" true) rfl b_nil) (b_cons (x_if_f (c "given" true) rfl b_nil) (b_cons (x_if_f (c "in" true) rfl b_nil) (b_ret (x_ret (c "true" false)))))))
  | fal => exact x_fn hT rfl (b_cons (x_asg hw rfl) (b_cons (x_if_f (c "same" true) rfl b_nil) (b_cons (x_if_f (c "given" true) rfl b_nil) (b_cons (x_if_f (c "in" true) rfl b_nil) (b_ret (x_ret (c "true" false)))))))
  | same x y =>
    have h1 : ev (callN T n) [some (tD gv), some (Q.same x y).toD, some (vD vs), some (tD ts), some (.str (Q.same x y).word), none] (.idx (.var 2) (.idx (.var 1) (.k (.int 1)))) false S = .ok (.int (lk vs x)) S := r_idx (r_var rfl) (r_idx (r_var rfl) r_k (tupN 1 rfl)) (idx_vs (hd.v x hc.1) S)
    have h2 : ev (callN T n) [some (tD gv), some (Q.same x y).toD, some (vD vs), some (tD ts), some (.str (Q.same x y).word), none] (.idx (.var 2) (.idx (.var 1) (.k (.int 2)))) false S = .ok (.int (lk vs y)) S := r_idx (r_var rfl) (r_idx (r_var rfl) r_k (tupN 2 rfl)) (idx_vs (hd.v y hc.2) S)
    have h3 : cmpV .eq (.int (lk vs x)) (.int (lk vs y)) S = some (sem m gv (.same x y) vs ts) := by
      simp only [cmpV, pyEq_int, sem]
      congr 1
      by_cases e : lk vs x = lk vs y
      · simp [e]
      · have : ¬ (lk vs x : Int) = (lk vs y : Int) := by omega
        simp [e, this]
    exact x_fn hT rfl (b_cons (x_asg hw rfl) (b_ret (x_if_t (c "same" true) rfl (b_ret (x_ret (r_cmp h1 h2 h3))))))
  | given r xs =>
    have h1 := row_ev (callN T n) (σ := [some (tD gv), some (Q.given r xs).toD, some (vD vs), some (tD ts), some (.str (Q.given r xs).word), none]) (S := S) (j := 5) (a := 2) (vs := vs) (xs := xs) (src := .idx (.var 1) (.k (.int 2))) (by simp) (by decide) rfl (r_idx (r_var rfl) r_k (tupN 2 rfl)) (fun x hx => hd.v x (hc.2.1 x hx)) (by have := hc.2.2; omega)
    have h2 : ev (callN T n) [some (tD gv), some (Q.given r xs).toD, some (vD vs), some (tD ts), some (.str (Q.given r xs).word), none] (.idx (.var 0) (.idx (.var 1) (.k (.int 1)))) false S = .ok (rowsD (tb gv r)) S := r_idx (r_var rfl) (r_idx (r_var rfl) r_k (tupN 1 rfl)) (idx_ts (hd.g r hc.1) S)
    exact x_fn hT rfl (b_cons (x_asg hw rfl) (b_cons (x_if_f (c "same" true) rfl b_nil) (b_ret (x_if_t (c "given" true) rfl (b_ret (x_ret (r_cmp h1 h2 (cmp_in (in_rows _ _ _)))))))))
  | inn r xs =>
    have h1 := row_ev (callN T n) (σ := [some (tD gv), some (Q.inn r xs).toD, some (vD vs), some (tD ts), some (.str (Q.inn r xs).word), none]) (S := S) (j := 5) (a := 2) (vs := vs) (xs := xs) (src := .idx (.var 1) (.k (.int 2))) (by simp) (by decide) rfl (r_idx (r_var rfl) r_k (tupN 2 rfl)) (fun x hx => hd.v x (hc.2.1 x hx)) (by have := hc.2.2; omega)
    have h2 : ev (callN T n) [some (tD gv), some (Q.inn r xs).toD, some (vD vs), some (tD ts), some (.str (Q.inn r xs).word), none] (.idx (.var 3) (.idx (.var 1) (.k (.int 1)))) false S = .ok (rowsD (tb ts r)) S := r_idx (r_var rfl) (r_idx (r_var rfl) r_k (tupN 1 rfl)) (idx_ts (hd.t r hc.1) S)
    exact x_fn hT rfl (b_cons (x_asg hw rfl) (b_cons (x_if_f (c "same" true) rfl b_nil) (b_cons (x_if_f (c "given" true) rfl b_nil) (b_ret (x_if_t (c "in" true) rfl (b_ret (x_ret (r_cmp h1 h2 (cmp_in (in_rows _ _ _))))))))))
  | _ => simp [Q.parts] at hq
/-- a for that may answer -/
theorem for_find {C : CallT} {tg : Tg} {it : Iy} {b : B} {σ : Z.Env} {S S1 : Store} {ds : List D} {r : D} (P : Nat → Z.Env → Prop) (hit : Nat → Bool) (hI : evI C σ it S = .ok ds S1) (h0 : P 0 σ)
    (step : ∀ i x σ, ds[i]? = some x → P i σ → ∃ σ2, asg tg x σ = some σ2 ∧ if hit i = true then evB C b σ2 S1 = .ok (.ret r) S1 else ∃ σ', evB C b σ2 S1 = .ok (.nx σ') S1 ∧ P (i + 1) σ') :
    if (List.range ds.length).any hit = true then evS C (.for_ tg it b) σ S = .ok (.ret r) S1 else ∃ σ', evS C (.for_ tg it b) σ S = .ok (.nx σ') S1 ∧ P ds.length σ' := by
  have key : ∀ (es : List D) (k : Nat) (σ : Z.Env), (∀ i, es[i]? = ds[k + i]?) → k + es.length = ds.length → P k σ →
      if ((List.range es.length).any fun i => hit (k + i)) = true then forR (fun d σ1 S2 => match asg tg d σ1 with
        | some σ2 => evB C b σ2 S2
        | none => .bad) es σ S1 = .ok (.ret r) S1 else ∃ σ', forR (fun d σ1 S2 => match asg tg d σ1 with
        | some σ2 => evB C b σ2 S2
        | none => .bad) es σ S1 = .ok (.nx σ') S1 ∧ P ds.length σ' := by
    intro es
    induction es with
    | nil =>
      intro k σ _ hl hp
      simp only [List.length_nil, List.range_zero, List.any_nil, Bool.false_eq_true, if_false, forR]
      simp only [List.length_nil, Nat.add_zero] at hl
      exact ⟨σ, rfl, hl ▸ hp⟩
    | cons e es ih =>
      intro k σ hg hl hp
      have he : ds[k]? = some e := by have := hg 0; simpa using this.symm
      obtain ⟨σ2, ha, hb⟩ := step k e σ he hp
      have hr : (List.range (es.length + 1)).any (fun i => hit (k + i)) = (hit k || (List.range es.length).any fun i => hit (k + 1 + i)) := by
        rw [List.range_succ_eq_map, List.any_cons, List.any_map]
        congr 1
        congr 1
        funext i
        show hit (k + (i + 1)) = hit (k + 1 + i)
        congr 1; omega
      rw [List.length_cons, hr]
      by_cases hk : hit k = true
      · rw [if_pos hk] at hb
        rw [hk, Bool.true_or, if_pos rfl]
        simp only [forR, ha, hb, R.ok_bind]
      · rw [if_neg hk] at hb
        obtain ⟨σ', hb, hp'⟩ := hb
        have hk' : hit k = false := by simpa using hk
        rw [hk', Bool.false_or]
        have := ih (k + 1) σ' (fun i => by
          have := hg (i + 1)
          rw [List.getElem?_cons_succ] at this
          rw [this]; congr 1; omega) (by simp only [List.length_cons] at hl; omega) hp'
        simp only [forR, ha, hb, R.ok_bind]
        exact this
  have := key ds 0 σ (fun i => by rw [Nat.zero_add]) (by omega) h0
  simp only [Nat.zero_add] at this
  simp only [evS, hI, R.ok_bind]
  exact this
end Zg

/-! HJ: _law_rounds and _law_holds compute the meaning. -/
namespace Zg
open PySem Z
variable {T : Nat → Option Fn} {Y : SIds}
/-- what is fresh -/
def fresh (F : List Row → Row → Bool) (every ins : List Row) : List Row := every.filter fun r => decide (r ∉ ins) && F ins r
theorem rnds_succ (F : List Row → Row → Bool) (every : List Row) (k : Nat) (ins : List Row) : rnds F every (k + 1) ins = if fresh F every ins = [] then [] else fresh F every ins :: rnds F every k (ins ++ fresh F every ins) := rfl
/-- a turn: going, inside, found -/
def turnR (F : List Row → Row → Bool) (every : List Row) (s : Bool × List Row × List (List Row)) : Bool × List Row × List (List Row) :=
  if s.1 then (if fresh F every s.2.1 = [] then (false, s.2.1, s.2.2) else (true, s.2.1 ++ fresh F every s.2.1, s.2.2 ++ [fresh F every s.2.1])) else s
def itR (F : List Row → Row → Bool) (every : List Row) : Nat → Bool × List Row × List (List Row) → Bool × List Row × List (List Row)
  | 0, s => s
  | k + 1, s => itR F every k (turnR F every s)
theorem itR_succ (F : List Row → Row → Bool) (every : List Row) : ∀ (k : Nat) (s : Bool × List Row × List (List Row)), itR F every (k + 1) s = turnR F every (itR F every k s)
  | 0, s => rfl
  | k + 1, s => itR_succ F every k (turnR F every s)
theorem itR_stop (F : List Row → Row → Bool) (every : List Row) (ins : List Row) (fd : List (List Row)) : ∀ k, itR F every k (false, ins, fd) = (false, ins, fd)
  | 0 => rfl
  | k + 1 => itR_stop F every ins fd k
theorem turns_from (F : List Row → Row → Bool) (every : List Row) : ∀ (k : Nat) (ins : List Row) (fd : List (List Row)), (itR F every k (true, ins, fd)).2.2 = fd ++ rnds F every k ins
  | 0, ins, fd => by simp [rnds, itR]
  | k + 1, ins, fd => by
    have e : itR F every (k + 1) (true, ins, fd) = itR F every k (turnR F every (true, ins, fd)) := rfl
    rw [e, rnds_succ]
    by_cases h : fresh F every ins = []
    · have : turnR F every (true, ins, fd) = (false, ins, fd) := by simp [turnR, h]
      rw [this, itR_stop, if_pos h]
      simp
    · have : turnR F every (true, ins, fd) = (true, ins ++ fresh F every ins, fd ++ [fresh F every ins]) := by simp [turnR, h]
      rw [this, if_neg h, turns_from F every k]
      simp
theorem fresh_len (F : List Row → Row → Bool) (every ins : List Row) : (fresh F every ins).length ≤ every.length := List.length_filter_le _ _
theorem turnR_len (F : List Row → Row → Bool) (every : List Row) (s : Bool × List Row × List (List Row)) : (turnR F every s).2.1.length ≤ s.2.1.length + every.length ∧ (turnR F every s).2.2.length ≤ s.2.2.length + 1 := by
  have := fresh_len F every s.2.1
  unfold turnR
  split
  · split
    · simp
    · simp; omega
  · simp
theorem itR_len (F : List Row → Row → Bool) (every : List Row) : ∀ k, (itR F every k (true, [], [])).2.1.length ≤ k * every.length ∧ (itR F every k (true, [], [])).2.2.length ≤ k
  | 0 => by simp [itR]
  | k + 1 => by
    have h1 := itR_len F every k
    have h2 := turnR_len F every (itR F every k (true, [], []))
    rw [itR_succ, Nat.succ_mul]
    omega
theorem big {n : Nat} (h : n ≤ 10000000) : n ≤ sizeLine := by
  have : (10000000 : Nat) ≤ sizeLine := by decide
  omega
/-- the rows of one turn -/
theorem rnd0 (g : SG T Y) (m n : Nat) (gv : Tabs) (vs : Vals_) (ts : Tabs) (bs : List Str) (F : List Row → Row → Bool) (every ins : List Row) (p q : Q) (inner : Tabs) (S0 : Store) (x6 x7 x9 x12 x13 : Option D)
    (hq3 : idxV q.toD (.int 3) (S0 ++ [none]) = some p.toD) (hq : ∃ r xs, q = .grow r bs p xs) (he : ∀ r ∈ every, r.length = bs.length) (hz : vs.length + bs.length < 50000) (hev : every.length ≤ 1000)
    (hp : ∀ (rw_ : Row) (S : Store), rw_.length = bs.length → callN T (n + 1) Y.holds [.int (m : Nat), tD gv, p.toD, vD (withA bs rw_ vs), tD inner] S = .ok (.bl (F ins rw_)) S) :
    ∃ y12 y13, evS (callN T (n + 1)) (lRnd0 Y) [some (.int (m : Nat)), some (tD gv), some q.toD, some (vD vs), some (tD ts), some (rowsD ins), x6, x7, some (rowsD every), x9, some (tD inner), some (.ref S0.length), x12, x13] (S0 ++ [some (.lst [])])
      = .ok (.nx [some (.int (m : Nat)), some (tD gv), some q.toD, some (vD vs), some (tD ts), some (rowsD ins), x6, x7, some (rowsD every), x9, some (tD inner), some (.ref S0.length), y12, y13]) (S0 ++ [some (.lst ((fresh F every ins).map rowD))]) := by
  obtain ⟨r, xs, rfl⟩ := hq
  obtain ⟨σ1, S1, e1, ⟨y12, y13, rfl⟩, rfl⟩ : ∃ σ' S', evS (callN T (n + 1)) (lRnd0 Y) [some (.int (m : Nat)), some (tD gv), some (Q.grow r bs p xs).toD, some (vD vs), some (tD ts), some (rowsD ins), x6, x7, some (rowsD every), x9, some (tD inner), some (.ref S0.length), x12, x13] (S0 ++ [some (.lst [])]) = .ok (.nx σ') S' ∧
      (∃ y12 y13 : Option D, σ' = [some (.int (m : Nat)), some (tD gv), some (Q.grow r bs p xs).toD, some (vD vs), some (tD ts), some (rowsD ins), x6, x7, some (rowsD every), x9, some (tD inner), some (.ref S0.length), y12, y13]) ∧ S' = S0 ++ [some (.lst ((fresh F (every.take (every.map rowD).length) ins).map rowD))] := by
    refine for_ok (S1 := S0 ++ [some (.lst [])]) (ds := every.map rowD) (fun i σ' S' => (∃ y12 y13 : Option D, σ' = [some (.int (m : Nat)), some (tD gv), some (Q.grow r bs p xs).toD, some (vD vs), some (tD ts), some (rowsD ins), x6, x7, some (rowsD every), x9, some (tD inner), some (.ref S0.length), y12, y13]) ∧ S' = S0 ++ [some (.lst ((fresh F (every.take i) ins).map rowD))]) ?_ ⟨⟨_, _, rfl⟩, rfl⟩ ?_
    · exact i_seq (d := rowsD every) (r_var rfl) rfl
    rintro i x σ S2 hx ⟨⟨y12, y13, rfl⟩, rfl⟩
    rw [List.getElem?_map, Option.map_eq_some_iff] at hx
    obtain ⟨rw_, hr, rfl⟩ := hx
    have hi : i < every.length := (List.getElem?_eq_some_iff.mp hr).1
    have hrl := he rw_ (List.mem_of_getElem? hr)
    generalize hS2 : S0 ++ [some (Z.Obj.lst ((fresh F (every.take i) ins).map rowD))] = S2
    have hwith := with_ok g.with_ intD_val n true true bs rw_ vs S2 (by omega) hz
    have hw : ev (callN T (n + 1)) [some (.int (m : Nat)), some (tD gv), some (Q.grow r bs p xs).toD, some (vD vs), some (tD ts), some (rowsD ins), x6, x7, some (rowsD every), x9, some (tD inner), some (.ref S0.length), some (rowD rw_), y13] (.call Y.with_ .val (.cons (.var 3) (.cons (.idx (.var 2) (.k (.int 2))) (.cons (.var 12) .nil)))) false S2 = .ok (vD (withA bs rw_ vs)) S2 :=
      r_call (s_cons (r_var rfl) (s_cons (r_idx (r_var rfl) r_k (tupN 2 rfl)) (s_cons (r_var rfl) s_nil))) hwith (endV_dct intD_val _ _ _)
    have hc1 : ev (callN T (n + 1)) [some (.int (m : Nat)), some (tD gv), some (Q.grow r bs p xs).toD, some (vD vs), some (tD ts), some (rowsD ins), x6, x7, some (rowsD every), x9, some (tD inner), some (.ref S0.length), some (rowD rw_), some (vD (withA bs rw_ vs))] (.cmp .notin (.var 12) (.var 5)) true S2 = .ok (.bl (!decide (rw_ ∈ ins))) S2 := r_cmp (r_var rfl) (r_var rfl) (cmp_notin (in_rows _ _ _))
    have hc2 : ev (callN T (n + 1)) [some (.int (m : Nat)), some (tD gv), some (Q.grow r bs p xs).toD, some (vD vs), some (tD ts), some (rowsD ins), x6, x7, some (rowsD every), x9, some (tD inner), some (.ref S0.length), some (rowD rw_), some (vD (withA bs rw_ vs))] (.call Y.holds .val (.cons (.var 0) (.cons (.var 1) (.cons (.idx (.var 2) (.k (.int 3))) (.cons (.var 13) (.cons (.var 10) .nil)))))) true S2 = .ok (.bl (F ins rw_)) S2 :=
      t_call (r_call (s_cons (r_var rfl) (s_cons (r_var rfl) (s_cons (r_idx (r_var rfl) r_k (tupN 3 rfl)) (s_cons (r_var rfl) (s_cons (r_var rfl) s_nil))))) (hp rw_ S2 hrl) (endV_bl _ _)) rfl
    have e2 : fresh F (every.take (i + 1)) ins = fresh F (every.take i) ins ++ (if (decide (rw_ ∉ ins) && F ins rw_) = true then [rw_] else []) := by
      unfold fresh
      rw [List.take_succ, hr, List.filter_append]
      by_cases h : (decide (rw_ ∉ ins) && F ins rw_) = true
      · simp only [Option.toList, List.filter_cons, List.filter_nil, h, if_true]
      · simp only [Option.toList, List.filter_cons, List.filter_nil, h, if_false]
    have hand : ev (callN T (n + 1)) [some (.int (m : Nat)), some (tD gv), some (Q.grow r bs p xs).toD, some (vD vs), some (tD ts), some (rowsD ins), x6, x7, some (rowsD every), x9, some (tD inner), some (.ref S0.length), some (rowD rw_), some (vD (withA bs rw_ vs))] (.and (.cmp .notin (.var 12) (.var 5)) (.call Y.holds .val (.cons (.var 0) (.cons (.var 1) (.cons (.idx (.var 2) (.k (.int 3))) (.cons (.var 13) (.cons (.var 10) .nil))))))) true S2 = .ok (.bl (decide (rw_ ∉ ins) && F ins rw_)) S2 := by
      by_cases h : rw_ ∈ ins
      · rw [decide_eq_false (fun z => z h), Bool.false_and]
        exact r_and_f hc1 (by simp [h])
      · rw [decide_eq_true h, Bool.true_and]
        exact r_and_t hc1 (by simp [h]) hc2
    refine ⟨[some (.int (m : Nat)), some (tD gv), some (Q.grow r bs p xs).toD, some (vD vs), some (tD ts), some (rowsD ins), x6, x7, some (rowsD every), x9, some (tD inner), some (.ref S0.length), some (rowD rw_), y13], [some (.int (m : Nat)), some (tD gv), some (Q.grow r bs p xs).toD, some (vD vs), some (tD ts), some (rowsD ins), x6, x7, some (rowsD every), x9, some (tD inner), some (.ref S0.length), some (rowD rw_), some (vD (withA bs rw_ vs))], _, rfl, .inl (b_cons (x_asg hw rfl) ?_), ⟨_, _, rfl⟩, rfl⟩
    rw [e2]
    by_cases h : (decide (rw_ ∉ ins) && F ins rw_) = true
    · rw [if_pos h]
      have ho : objAt S2 S0.length = some (.lst ((fresh F (every.take i) ins).map rowD)) := by rw [← hS2]; exact objAt_last _ _
      have hl2 : ((fresh F (every.take i) ins).map rowD).length < sizeLine := by
        have := fresh_len F (every.take i) ins
        have h3 : (every.take i).length ≤ i := by simp; omega
        rw [List.length_map]
        exact small9 (by omega)
      have hx := append_ok_ (d := rowD rw_) ho hl2
      have e3 : S2.set S0.length (some (.lst ((fresh F (every.take i) ins).map rowD ++ [rowD rw_]))) = S0 ++ [some (.lst ((fresh F (every.take i) ins ++ [rw_]).map rowD))] := by rw [← hS2, set_last]; simp
      rw [e3] at hx
      exact b_cons (x_if_t hand h (b_cons (x_expr (r_bm (r_var rfl) (bmT_app ho) (s_cons (r_var rfl) s_nil) hx)) b_nil)) b_nil
    · rw [if_neg h, List.append_nil, hS2]
      exact b_cons (x_if_f hand (by simpa using h) b_nil) b_nil
  rw [List.length_map, List.take_length] at e1
  exact ⟨y12, y13, e1⟩
theorem objAt_mid (S : Store) (o : Option Z.Obj) (T' : Store) : objAt (S ++ [o] ++ T') S.length = o := by
  unfold objAt
  rw [List.append_assoc, List.getElem?_append_right (Nat.le_refl _)]
  simp
theorem set_mid (S : Store) (o o' : Option Z.Obj) (T' : Store) : (S ++ [o] ++ T').set S.length o' = S ++ [o'] ++ T' := by
  rw [List.append_assoc, List.set_append_right _ _ (Nat.le_refl _)]
  simp
def rndsD (l : List (List Row)) : D := .lst (l.map rowsD)
theorem rndsD_val : Val rndsD := ⟨fun r => nrL_map rowsD_val.nr r, fun n S r => frzD_lst _ _ _⟩
theorem gt_zero (k : Nat) (S : Store) : cmpV .gt (.int (k : Nat)) (.int 0) S = some (decide (k ≠ 0)) := by
  simp only [cmpV]
  congr 1
  by_cases h : k = 0
  · subst h; rfl
  · have h1 : (0 : Int) < (k : Int) := by omega
    rw [decide_eq_true h1, decide_eq_true h]
/-- _law_rounds -/
theorem rounds_ok (g : SG T Y) (m n : Nat) (hm : 0 < m) (gv : Tabs) (vs : Vals_) (ts : Tabs) (r : Str) (bs : List Str) (p : Q) (xs : List Str) (F : List Row → Row → Bool) (S : Store) (hb : bs.length ≤ 8) (hmb : m ^ bs.length ≤ 1000) (hn : bs.length < n + 1) (hz : vs.length + bs.length < 50000) (hz2 : ts.length + 1 < 50000)
    (hp : ∀ (ins : List Row) (rw_ : Row) (S : Store), rw_.length = bs.length → callN T (n + 1) Y.holds [.int (m : Nat), tD gv, p.toD, vD (withA bs rw_ vs), tD (putA r ins ts)] S = .ok (.bl (F ins rw_)) S) :
    ∃ T', callN T (n + 2) Y.rounds [.int (m : Nat), tD gv, (Q.grow r bs p xs).toD, vD vs, tD ts] S = .ok (rndsD (rnds F (rowsOf m bs.length) ((rowsOf m bs.length).length + 1) [])) (S ++ T') := by
  obtain ⟨T1, hrows⟩ := rows_ok g.rows m hm bs.length (n + 1) (S ++ [some (.lst [])]) (by omega) (by omega) hn
  have hlen : ∀ r ∈ rowsOf m bs.length, r.length = bs.length := fun r hr => (rowsOf_row m bs.length r hr).1
  have hev : (rowsOf m bs.length).length ≤ 1000 := by rw [rowsOf_len]; exact hmb
  generalize rowsOf m bs.length = every at hrows hlen hev ⊢
  have hbl : ∀ (σ : Z.Env) (S : Store), σ[2]? = some (some (Q.grow r bs p xs).toD) → ev (callN T (n + 1)) σ (.bi .len false (.cons (.idx (.var 2) (.k (.int 2))) .nil)) false S = .ok (.int (bs.length : Nat)) S := fun σ S h => by
    refine r_bi (s_cons (r_idx (r_var h) r_k (tupN 2 rfl)) s_nil) ?_
    rw [biV_len_seq (d := .tup (sD bs)) (xs := sD bs) (fun _ h => nomatch h) rfl, List.length_map]
  have hrows2 : ev (callN T (n + 1)) [some (.int (m : Nat)), some (tD gv), some (Q.grow r bs p xs).toD, some (vD vs), some (tD ts), some (.lst []), some (.ref S.length), some (.bl true), none, none, none, none, none, none] (.call Y.rows .val (.cons (.var 0) (.cons (.bi .len false (.cons (.idx (.var 2) (.k (.int 2))) .nil)) .nil))) false (S ++ [some (.lst [])]) = .ok (rowsD every) (S ++ [some (.lst [])]) :=
    r_call (s_cons (r_var rfl) (s_cons (hbl _ _ rfl) s_nil)) hrows (rows_val _ _ _)
  obtain ⟨σ1, S1, e1, ⟨x9, x10, x11, x12, x13, rfl⟩, T2, rfl⟩ : ∃ σ' S', evS (callN T (n + 1)) (lRnd1 Y) [some (.int (m : Nat)), some (tD gv), some (Q.grow r bs p xs).toD, some (vD vs), some (tD ts), some (.lst []), some (.ref S.length), some (.bl true), some (rowsD every), none, none, none, none, none] (S ++ [some (.lst [])]) = .ok (.nx σ') S' ∧
      (∃ x9 x10 x11 x12 x13 : Option D, σ' = [some (.int (m : Nat)), some (tD gv), some (Q.grow r bs p xs).toD, some (vD vs), some (tD ts), some (rowsD (itR F every (rngV 0 (every.length + 1)).length (true, [], [])).2.1), some (.ref S.length), some (.bl (itR F every (rngV 0 (every.length + 1)).length (true, [], [])).1), some (rowsD every), x9, x10, x11, x12, x13]) ∧ ∃ T2, S' = S ++ [some (.lst ((itR F every (rngV 0 (every.length + 1)).length (true, [], [])).2.2.map rowsD))] ++ T2 := by
    refine for_ok (S1 := S ++ [some (.lst [])]) (ds := rngV 0 (every.length + 1)) (fun i σ' S' => (∃ x9 x10 x11 x12 x13 : Option D, σ' = [some (.int (m : Nat)), some (tD gv), some (Q.grow r bs p xs).toD, some (vD vs), some (tD ts), some (rowsD (itR F every i (true, [], [])).2.1), some (.ref S.length), some (.bl (itR F every i (true, [], [])).1), some (rowsD every), x9, x10, x11, x12, x13]) ∧ ∃ T2, S' = S ++ [some (.lst ((itR F every i (true, [], [])).2.2.map rowsD))] ++ T2) ?_ ⟨⟨_, _, _, _, _, rfl⟩, [], by simp [itR]⟩ ?_
    · have hl : biV .len false [rowsD every] (S ++ [some (.lst [])]) = .ok (.int (every.length : Nat)) (S ++ [some (.lst [])]) := by
        rw [rowsD, biV_len_seq (d := .lst (every.map rowD)) (xs := every.map rowD) (fun _ h => nomatch h) rfl, List.length_map]
      have hr2 : rngOf [.int ((every.length : Nat) + 1)] = some (rngV 0 (every.length + 1)) := rng_nat (m := every.length + 1) (by omega)
      exact i_rng (s_cons (r_bin (r_bi (s_cons (r_var rfl) s_nil) hl) r_k binV_add) s_nil) hr2
    · rintro i x σ S2 hx ⟨⟨x9, x10, x11, x12, x13, rfl⟩, T2, rfl⟩
      have hi : i < every.length + 1 := (rngV_get hx).2
      have hil := itR_len F every i
      rw [itR_succ]
      generalize hst : itR F every i (true, [], []) = st at hil ⊢
      obtain ⟨go, ins, fd⟩ := st
      refine ⟨[some (.int (m : Nat)), some (tD gv), some (Q.grow r bs p xs).toD, some (vD vs), some (tD ts), some (rowsD ins), some (.ref S.length), some (.bl go), some (rowsD every), some x, x10, x11, x12, x13], ?_⟩
      cases go with
      | false =>
        refine ⟨_, _, rfl, .inl (b_cons (x_if_f (t_var rfl rfl) rfl b_nil) b_nil), ⟨_, _, _, _, _, rfl⟩, T2, rfl⟩
      | true =>
        generalize hS2 : S ++ [some (Z.Obj.lst (fd.map rowsD))] ++ T2 = S2
        have hil1 : ins.length ≤ 2000000 := by
          have : i * every.length ≤ 1000 * 1000 := Nat.mul_le_mul (by omega) hev
          have := hil.1
          simp only at this
          omega
        have hcopy : biV .list false [rowsD ins] S2 = .ok (rowsD ins) S2 := by
          have : (ins.map rowD).length ≤ sizeLine := big (by rw [List.length_map]; omega)
          simp only [biV, rowsD, seqOf, lstOf, mkL, if_pos this, Bool.false_eq_true, if_false]
        have hwith := with_ok g.with_ rowsD_val n false false [r] [ins] ts S2 (by simp) (by simpa using hz2)
        have hw : ev (callN T (n + 1)) [some (.int (m : Nat)), some (tD gv), some (Q.grow r bs p xs).toD, some (vD vs), some (tD ts), some (rowsD ins), some (.ref S.length), some (.bl true), some (rowsD every), some x, x10, x11, x12, x13] (.call Y.with_ .val (.cons (.var 4) (.cons (.lst false (.cons (.idx (.var 2) (.k (.int 1))) .nil)) (.cons (.lst false (.cons (.bi .list false (.cons (.var 5) .nil)) .nil)) .nil)))) false S2 = .ok (tD (putA r ins ts)) S2 :=
          r_call (s_cons (r_var rfl) (s_cons (r_lst (s_cons (r_idx (r_var rfl) r_k (tupN 1 rfl)) s_nil) (cold (by simp))) (s_cons (r_lst (s_cons (r_bi (s_cons (r_var rfl) s_nil) hcopy) s_nil) (cold (by simp))) s_nil))) hwith (endV_dct rowsD_val _ _ _)
        obtain ⟨y12, y13, h0⟩ := rnd0 g m n gv vs ts bs F every ins p (.grow r bs p xs) (putA r ins ts) S2 (some (.ref S.length)) (some (.bl true)) (some x) x12 x13 (tupN 3 rfl) ⟨_, _, rfl⟩ hlen hz hev (hp ins)
        have hf : frzD FRZ (S2 ++ [some (.lst ((fresh F every ins).map rowD))]) (.ref S2.length) = some (rowsD (fresh F every ins), S2 ++ [none]) := by
          show frzD 4 _ _ = _
          simp only [frzD, objAt_last, set_last, frzL_map (fun a S => rowD_val.frz 3 S a), Option.map_some]
          rfl
        have hgo : ev (callN T (n + 1)) [some (.int (m : Nat)), some (tD gv), some (Q.grow r bs p xs).toD, some (vD vs), some (tD ts), some (rowsD ins), some (.ref S.length), some (.bl true), some (rowsD every), some x, some (tD (putA r ins ts)), some (rowsD (fresh F every ins)), y12, y13] (.cmp .gt (.bi .len false (.cons (.var 11) .nil)) (.k (.int 0))) false (S2 ++ [none]) = .ok (.bl (decide ((fresh F every ins).length ≠ 0))) (S2 ++ [none]) := by
          refine r_cmp (r_bi (s_cons (r_var rfl) s_nil) ?_) r_k (gt_zero _ _)
          rw [rowsD, biV_len_seq (d := .lst ((fresh F every ins).map rowD)) (xs := (fresh F every ins).map rowD) (fun _ h => nomatch h) rfl, List.length_map]
        have pre : ∀ {f : Z.R Fl}, evS (callN T (n + 1)) (.if_ (.var 7) (.cons (.expr (.bm .append (.var 6) (.cons (.var 11) .nil)))
            (.cons (.asg (.nm 5) (.bin .add false (.var 5) (.var 11))) .nil)) .nil) [some (.int (m : Nat)), some (tD gv), some (Q.grow r bs p xs).toD, some (vD vs), some (tD ts), some (rowsD ins), some (.ref S.length), some (.bl (decide ((fresh F every ins).length ≠ 0))), some (rowsD every), some x, some (tD (putA r ins ts)), some (rowsD (fresh F every ins)), y12, y13] (S2 ++ [none]) = f → (∃ σ S', f = .ok (.nx σ) S') →
            evB (callN T (n + 1)) (bRnd1 Y) [some (.int (m : Nat)), some (tD gv), some (Q.grow r bs p xs).toD, some (vD vs), some (tD ts), some (rowsD ins), some (.ref S.length), some (.bl true), some (rowsD every), some x, x10, x11, x12, x13] S2 = f := by
          rintro f h ⟨σ, S', rfl⟩
          exact b_cons (x_if_t (t_var rfl rfl) rfl (b_cons (x_asg hw rfl) (b_cons (x_asg (r_lst s_nil (mkL_hot (small5 (by simp)))) rfl) (b_cons (x_frzv h0 rfl hf) (b_cons (x_asg hgo rfl) (b_cons h b_nil)))))) b_nil
        by_cases hfr : fresh F every ins = []
        · have hd : decide ((fresh F every ins).length ≠ 0) = false := by simp [hfr]
          have ht : turnR F every (true, ins, fd) = (false, ins, fd) := by simp [turnR, hfr]
          rw [ht]
          refine ⟨_, _, rfl, .inl (pre (x_if_f (t_var rfl rfl) hd b_nil) ⟨_, _, rfl⟩), ⟨_, _, _, _, _, by rw [hd]⟩, T2 ++ [none], by rw [← hS2, List.append_assoc]⟩
        · have hd : decide ((fresh F every ins).length ≠ 0) = true := by simp [hfr]
          have ht : turnR F every (true, ins, fd) = (true, ins ++ fresh F every ins, fd ++ [fresh F every ins]) := by simp [turnR, hfr]
          rw [ht]
          have ho : objAt (S2 ++ [none]) S.length = some (.lst (fd.map rowsD)) := by rw [← hS2, List.append_assoc]; exact objAt_mid _ _ _
          have hfl : (fd.map rowsD).length < sizeLine := by
            have := hil.2
            simp only at this
            rw [List.length_map]; exact small9 (by omega)
          have hx := append_ok_ (d := rowsD (fresh F every ins)) ho hfl
          have e3 : (S2 ++ [none]).set S.length (some (.lst (fd.map rowsD ++ [rowsD (fresh F every ins)]))) = S ++ [some (.lst ((fd ++ [fresh F every ins]).map rowsD))] ++ (T2 ++ [none]) := by
            rw [← hS2, List.append_assoc _ T2, set_mid]; simp
          rw [e3] at hx
          have hadd : ∀ S, binV .add false (rowsD ins) (rowsD (fresh F every ins)) S = .ok (rowsD (ins ++ fresh F every ins)) S := fun S => by
            have h1 : binV .add false (rowsD ins) (rowsD (fresh F every ins)) S = mkL false (ins.map rowD ++ (fresh F every ins).map rowD) S := by simp [binV, rowsD, lstOf]
            have h2 := fresh_len F every ins
            rw [h1, mkL_cold (big (by rw [List.length_append, List.length_map, List.length_map]; omega))]
            simp [rowsD]
          refine ⟨_, _, rfl, .inl (pre (x_if_t (t_var rfl rfl) hd (b_cons (x_expr (r_bm (r_var rfl) (bmT_app ho) (s_cons (r_var rfl) s_nil) hx)) (b_cons (x_asg (r_bin (r_var rfl) (r_var rfl) (hadd _)) rfl) b_nil))) ⟨_, _, rfl⟩), ⟨_, _, _, _, _, by rw [hd]; rfl⟩, T2 ++ [none], rfl⟩
  rw [rngV_len] at e1
  have hfin := turns_from F every (every.length + 1) [] []
  rw [List.nil_append] at hfin
  rw [hfin] at e1
  have hf : frzD FRZ (S ++ [some (.lst ((rnds F every (every.length + 1) []).map rowsD))] ++ T2) (.ref S.length) = some (rndsD (rnds F every (every.length + 1) []), S ++ [none] ++ T2) := by
    show frzD 4 _ _ = _
    simp only [frzD, objAt_mid, set_mid, frzL_map (fun a S => rowsD_val.frz 3 S a), Option.map_some]
    rfl
  refine ⟨[none] ++ T2, ?_⟩
  rw [← List.append_assoc]
  exact x_fn g.rounds rfl (b_cons (x_asg (r_lst s_nil (cold (by simp))) rfl) (b_cons (x_asg (r_lst s_nil (mkL_hot (small5 (by simp)))) rfl) (b_cons (x_asg r_k rfl) (b_cons (x_asg hrows2 rfl) (b_cons (x_frzv e1 rfl hf) (b_ret (x_ret (r_var rfl))))))))
end Zg

/-! HK: _law_holds computes the meaning. -/
namespace Zg
open PySem Z
variable {T : Nat → Option Fn} {Y : SIds}
theorem eq_bl (a b : Bool) (S : Store) : cmpV .eq (.bl a) (.bl b) S = some (decide (a = b)) := by simp only [cmpV, pyEq_bl]
theorem holds_ok (g : SG T Y) (m : Nat) (hm : 0 < m) (hm8 : m ≤ 1000) (gv : Tabs) (G : List Str) : ∀ (q : Q) (n : Nat) (ns rs : List Str) (vs : Vals_) (ts : Tabs) (S : Store), clo G m ns rs q → Dm G ns rs gv vs ts → 2 * q.dep + 12 ≤ n → vs.length + 10 * q.dep < 40000 → ts.length + q.dep < 40000 →
    callN T n Y.holds [.int (m : Nat), tD gv, q.toD, vD vs, tD ts] S = .ok (.bl (sem m gv q vs ts)) S := by
  intro q
  induction q with
  | not p ih =>
    intro n ns rs vs ts S hc hd hn hv ht
    obtain ⟨k, rfl⟩ : ∃ k, n = k + 1 := ⟨n - 1, by omega⟩
    simp only [Q.dep] at hn hv ht
    have h1 := ih k ns rs vs ts S hc hd (by omega) (by omega) (by omega)
    have hw := word_at (callN T k) (.not p) (σ := [some (.int (m : Nat)), some (tD gv), some (Q.not p).toD, some (vD vs), some (tD ts), none, none, none, none, none, none, none]) S (i := 2) rfl
    have c : ev (callN T k) [some (.int (m : Nat)), some (tD gv), some (Q.not p).toD, some (vD vs), some (tD ts), some (.str (Q.not p).word), none, none, none, none, none, none] (.cmp .eq (.var 5) (.k (.str "not"))) true S = .ok (.bl (decide ((Q.not p).word = "not"))) S := eq_word _ _ "not" rfl
    refine x_fn g.holds rfl (b_cons (x_asg hw rfl) (b_ret (x_if_t c rfl (b_ret (x_ret (r_not_f (r_call (s_cons (r_var rfl) (s_cons (r_var rfl) (s_cons (r_idx (r_var rfl) r_k (tupN 1 rfl)) (s_cons (r_var rfl) (s_cons (r_var rfl) s_nil))))) h1 (endV_bl _ _)) rfl))))))
  | bi w p q ihp ihq =>
    intro n ns rs vs ts S hc hd hn hv ht
    obtain ⟨k, rfl⟩ : ∃ k, n = k + 1 := ⟨n - 1, by omega⟩
    simp only [Q.dep] at hn hv ht
    have h1 := ihp k ns rs vs ts S hc.1 hd (by omega) (by omega) (by omega)
    have h2 := ihq k ns rs vs ts S hc.2 hd (by omega) (by omega) (by omega)
    have hw := word_at (callN T k) (.bi w p q) (σ := [some (.int (m : Nat)), some (tD gv), some (Q.bi w p q).toD, some (vD vs), some (tD ts), none, none, none, none, none, none, none]) S (i := 2) rfl
    have c : ∀ (u : Str) [OkS u] (t : Bool) (x6 : Option D), ev (callN T k) [some (.int (m : Nat)), some (tD gv), some (Q.bi w p q).toD, some (vD vs), some (tD ts), some (.str (Q.bi w p q).word), x6, none, none, none, none, none] (.cmp .eq (.var 5) (.k (.str u))) t S = .ok (.bl (decide ((Q.bi w p q).word = u))) S := fun u _ t x6 => eq_word _ _ u rfl
    have hor : ev (callN T k) [some (.int (m : Nat)), some (tD gv), some (Q.bi w p q).toD, some (vD vs), some (tD ts), some (.str (Q.bi w p q).word), none, none, none, none, none, none] (.or (.cmp .eq (.var 5) (.k (.str "and"))) (.cmp .eq (.var 5) (.k (.str "or")))) true S = .ok (.bl true) S := by
      cases w with
      | true => exact r_or_t (c "and" true none) rfl
      | false => exact r_or_f (c "and" true none) rfl (c "or" true none)
    have ca : ev (callN T k) [some (.int (m : Nat)), some (tD gv), some (Q.bi w p q).toD, some (vD vs), some (tD ts), some (.str (Q.bi w p q).word), none, none, none, none, none, none] (.call Y.holds .val (.cons (.var 0) (.cons (.var 1) (.cons (.idx (.var 2) (.k (.int 1))) (.cons (.var 3) (.cons (.var 4) .nil)))))) false S = .ok (.bl (sem m gv p vs ts)) S :=
      r_call (s_cons (r_var rfl) (s_cons (r_var rfl) (s_cons (r_idx (r_var rfl) r_k (tupN 1 rfl)) (s_cons (r_var rfl) (s_cons (r_var rfl) s_nil))))) h1 (endV_bl _ _)
    have cb : ∀ x6, ev (callN T k) [some (.int (m : Nat)), some (tD gv), some (Q.bi w p q).toD, some (vD vs), some (tD ts), some (.str (Q.bi w p q).word), x6, none, none, none, none, none] (.call Y.holds .val (.cons (.var 0) (.cons (.var 1) (.cons (.idx (.var 2) (.k (.int 2))) (.cons (.var 3) (.cons (.var 4) .nil)))))) false S = .ok (.bl (sem m gv q vs ts)) S := fun x6 =>
      r_call (s_cons (r_var rfl) (s_cons (r_var rfl) (s_cons (r_idx (r_var rfl) r_k (tupN 2 rfl)) (s_cons (r_var rfl) (s_cons (r_var rfl) s_nil))))) h2 (endV_bl _ _)
    have ceq : ev (callN T k) [some (.int (m : Nat)), some (tD gv), some (Q.bi w p q).toD, some (vD vs), some (tD ts), some (.str (Q.bi w p q).word), some (.bl (sem m gv p vs ts)), none, none, none, none, none] (.cmp .eq (.var 6) (.cmp .eq (.var 5) (.k (.str "or")))) true S = .ok (.bl (decide (sem m gv p vs ts = decide ((Q.bi w p q).word = "or")))) S := r_cmp (r_var rfl) (c "or" false _) (eq_bl _ _ _)
    have cn : evS (callN T k) (.if_ (.cmp .eq (.var 5) (.k (.str "not"))) (.cons (.ret (.not (.call Y.holds .val (.cons (.var 0) (.cons (.var 1) (.cons (.idx (.var 2) (.k (.int 1))) (.cons (.var 3) (.cons (.var 4) .nil)))))))) .nil) .nil) [some (.int (m : Nat)), some (tD gv), some (Q.bi w p q).toD, some (vD vs), some (tD ts), some (.str (Q.bi w p q).word), none, none, none, none, none, none] S = .ok (.nx [some (.int (m : Nat)), some (tD gv), some (Q.bi w p q).toD, some (vD vs), some (tD ts), some (.str (Q.bi w p q).word), none, none, none, none, none, none]) S := x_if_f (c "not" true none) (by cases w <;> rfl) b_nil
    by_cases he : sem m gv p vs ts = decide ((Q.bi w p q).word = "or")
    · have hr : sem m gv (.bi w p q) vs ts = sem m gv p vs ts := by
        cases w
        · have : sem m gv p vs ts = true := he
          simp [sem, this]
        · have : sem m gv p vs ts = false := he
          simp [sem, this]
      rw [hr]
      exact x_fn g.holds rfl (b_cons (x_asg hw rfl) (b_cons cn (b_ret (x_if_t hor rfl (b_cons (x_asg ca rfl) (b_ret (x_if_t ceq (decide_eq_true he) (b_ret (x_ret (r_var rfl))))))))))
    · have hr : sem m gv (.bi w p q) vs ts = sem m gv q vs ts := by
        cases w
        · have : sem m gv p vs ts = false := by
            cases h : sem m gv p vs ts with
            | false => rfl
            | true => exact absurd (show sem m gv p vs ts = true from h) he
          simp [sem, this]
        · have : sem m gv p vs ts = true := by
            cases h : sem m gv p vs ts with
            | true => rfl
            | false => exact absurd (show sem m gv p vs ts = false from h) he
          simp [sem, this]
      rw [hr]
      exact x_fn g.holds rfl (b_cons (x_asg hw rfl) (b_cons cn (b_ret (x_if_t hor rfl (b_cons (x_asg ca rfl) (b_cons (x_if_f ceq (decide_eq_false he) b_nil) (b_ret (x_ret (cb _)))))))))
  | qu w x p ih =>
    intro n ns rs vs ts S hc hd hn hv ht
    obtain ⟨k, rfl⟩ : ∃ k, n = k + 1 + 1 := ⟨n - 2, by omega⟩
    simp only [Q.dep] at hn hv ht
    have h1 := fun (i : Nat) (S : Store) => ih (k + 1) (x :: ns) rs (putA x i vs) ts S hc (hd.putv x i) (by omega) (by have := len_putA x i vs; omega) (by omega)
    have hw := word_at (callN T (k + 1)) (.qu w x p) (σ := [some (.int (m : Nat)), some (tD gv), some (Q.qu w x p).toD, some (vD vs), some (tD ts), none, none, none, none, none, none, none]) S (i := 2) rfl
    have c : ∀ (u : Str) [OkS u] (t : Bool) (x7 x9 : Option D), ev (callN T (k + 1)) [some (.int (m : Nat)), some (tD gv), some (Q.qu w x p).toD, some (vD vs), some (tD ts), some (.str (Q.qu w x p).word), none, x7, none, x9, none, none] (.cmp .eq (.var 5) (.k (.str u))) t S = .ok (.bl (decide ((Q.qu w x p).word = u))) S := fun u _ t x7 x9 => eq_word _ _ u rfl
    have hsome : decide ((Q.qu w x p).word = "some") = w := by cases w <;> rfl
    have hall : decide ((Q.qu w x p).word = "all") = !w := by cases w <;> rfl
    have hor : ev (callN T (k + 1)) [some (.int (m : Nat)), some (tD gv), some (Q.qu w x p).toD, some (vD vs), some (tD ts), some (.str (Q.qu w x p).word), none, none, none, none, none, none] (.or (.cmp .eq (.var 5) (.k (.str "some"))) (.cmp .eq (.var 5) (.k (.str "all")))) true S = .ok (.bl true) S := by
      cases w with
      | true => exact r_or_t (c "some" true none none) rfl
      | false => exact r_or_f (c "some" true none none) rfl (c "all" true none none)
    have hfind := for_find (C := callN T (k + 1)) (tg := .nm 7) (it := .rng (.cons (.var 0) .nil)) (b := bHolds Y) (σ := [some (.int (m : Nat)), some (tD gv), some (Q.qu w x p).toD, some (vD vs), some (tD ts), some (.str (Q.qu w x p).word), none, none, none, none, none, none]) (S := S) (S1 := S) (ds := rngV 0 m) (r := .bl w)
      (fun _ σ => ∃ x7 x9 : Option D, σ = [some (.int (m : Nat)), some (tD gv), some (Q.qu w x p).toD, some (vD vs), some (tD ts), some (.str (Q.qu w x p).word), none, x7, none, x9, none, none]) (fun i => decide (sem m gv p (putA x i vs) ts = w)) (i_rng (s_cons (r_var rfl) s_nil) (rng_nat (by omega))) ⟨_, _, rfl⟩ (fun i y σ hy ⟨x7, x9, e⟩ => by
        subst e
        obtain ⟨rfl, hi⟩ := rngV_get hy
        rw [Int.zero_add]
        refine ⟨[some (.int (m : Nat)), some (tD gv), some (Q.qu w x p).toD, some (vD vs), some (tD ts), some (.str (Q.qu w x p).word), none, some (.int (i : Nat)), none, x9, none, none], rfl, ?_⟩
        have hwith := with_ok g.with_ intD_val k false false [x] [i] vs S (by simp) (by simp; omega)
        have hwi : ev (callN T (k + 1)) [some (.int (m : Nat)), some (tD gv), some (Q.qu w x p).toD, some (vD vs), some (tD ts), some (.str (Q.qu w x p).word), none, some (.int (i : Nat)), none, x9, none, none] (.call Y.with_ .val (.cons (.var 3) (.cons (.lst false (.cons (.idx (.var 2) (.k (.int 1))) .nil)) (.cons (.lst false (.cons (.var 7) .nil)) .nil)))) false S = .ok (vD (putA x i vs)) S :=
          r_call (s_cons (r_var rfl) (s_cons (r_lst (s_cons (r_idx (r_var rfl) r_k (tupN 1 rfl)) s_nil) (cold (by simp))) (s_cons (r_lst (s_cons (r_var rfl) s_nil) (cold (by simp))) s_nil))) hwith (endV_dct intD_val _ _ _)
        have hh : ev (callN T (k + 1)) [some (.int (m : Nat)), some (tD gv), some (Q.qu w x p).toD, some (vD vs), some (tD ts), some (.str (Q.qu w x p).word), none, some (.int (i : Nat)), none, some (vD (putA x i vs)), none, none] (.call Y.holds .val (.cons (.var 0) (.cons (.var 1) (.cons (.idx (.var 2) (.k (.int 2))) (.cons (.var 9) (.cons (.var 4) .nil)))))) false S = .ok (.bl (sem m gv p (putA x i vs) ts)) S :=
          r_call (s_cons (r_var rfl) (s_cons (r_var rfl) (s_cons (r_idx (r_var rfl) r_k (tupN 2 rfl)) (s_cons (r_var rfl) (s_cons (r_var rfl) s_nil))))) (h1 i S) (endV_bl _ _)
        have hce : ev (callN T (k + 1)) [some (.int (m : Nat)), some (tD gv), some (Q.qu w x p).toD, some (vD vs), some (tD ts), some (.str (Q.qu w x p).word), none, some (.int (i : Nat)), none, some (vD (putA x i vs)), none, none] (.cmp .eq (.call Y.holds .val (.cons (.var 0) (.cons (.var 1) (.cons (.idx (.var 2) (.k (.int 2))) (.cons (.var 9) (.cons (.var 4) .nil)))))) (.cmp .eq (.var 5) (.k (.str "some")))) true S = .ok (.bl (decide (sem m gv p (putA x i vs) ts = w))) S := by
          have h2 := c "some" false (some (.int (i : Nat))) (some (vD (putA x i vs)))
          rw [hsome] at h2
          exact r_cmp hh h2 (eq_bl _ _ _)
        by_cases he : sem m gv p (putA x i vs) ts = w
        · rw [if_pos (decide_eq_true he)]
          have h2 := c "some" false (some (.int (i : Nat))) (some (vD (putA x i vs)))
          rw [hsome] at h2
          exact b_cons (x_asg hwi rfl) (b_ret (x_if_t hce (decide_eq_true he) (b_ret (x_ret h2))))
        · rw [if_neg (by simp [he])]
          exact ⟨_, b_cons (x_asg hwi rfl) (b_cons (x_if_f hce (decide_eq_false he) b_nil) b_nil), _, _, rfl⟩)
    rw [rngV_len] at hfind
    have hnot : decide ((Q.qu w x p).word = "not") = false := by cases w <;> rfl
    have hand : decide ((Q.qu w x p).word = "and") = false := by cases w <;> rfl
    have hor2 : decide ((Q.qu w x p).word = "or") = false := by cases w <;> rfl
    by_cases hany : ((List.range m).any fun i => decide (sem m gv p (putA x i vs) ts = w)) = true
    · rw [if_pos hany] at hfind
      have hr : sem m gv (.qu w x p) vs ts = w := by
        cases w
        · rw [List.any_eq_true] at hany
          obtain ⟨i, h2, h3⟩ := hany
          have h3 := of_decide_eq_true h3
          simp only [sem, Bool.false_eq_true, if_false]
          rw [List.all_eq_false]
          exact ⟨i, h2, by simp [h3]⟩
        · rw [List.any_eq_true] at hany
          obtain ⟨i, h2, h3⟩ := hany
          have h3 := of_decide_eq_true h3
          simp only [sem, if_true]
          rw [List.any_eq_true]
          exact ⟨i, h2, h3⟩
      rw [hr]
      exact x_fn g.holds rfl (b_cons (x_asg hw rfl) (b_cons (x_if_f (c "not" true none none) hnot b_nil) (b_cons (x_if_f (r_or_f (c "and" true none none) hand (c "or" true none none)) hor2 b_nil) (b_ret (x_if_t hor rfl (b_ret hfind))))))
    · rw [if_neg hany] at hfind
      obtain ⟨σ', h2, x7, x9, rfl⟩ := hfind
      have hr : sem m gv (.qu w x p) vs ts = !w := by
        have hno : ∀ i ∈ List.range m, ¬ sem m gv p (putA x i vs) ts = w := fun i hi he => hany (List.any_eq_true.mpr ⟨i, hi, decide_eq_true he⟩)
        cases w
        · simp only [sem, Bool.false_eq_true, if_false]
          rw [Bool.not_false, List.all_eq_true]
          exact fun i hi => by simpa using hno i hi
        · simp only [sem, if_true]
          rw [Bool.not_true, List.any_eq_false]
          exact fun i hi => by simpa using hno i hi
      have h3 := c "all" false x7 x9
      rw [hall, ← hr] at h3
      exact x_fn g.holds rfl (b_cons (x_asg hw rfl) (b_cons (x_if_f (c "not" true none none) hnot b_nil) (b_cons (x_if_f (r_or_f (c "and" true none none) hand (c "or" true none none)) hor2 b_nil) (b_ret (x_if_t hor rfl (b_cons h2 (b_ret (x_ret h3))))))))
  | grow r bs p xs ih =>
    intro n ns rs vs ts S hc hd hn hv ht
    obtain ⟨k, rfl⟩ : ∃ k, n = k + 1 + 1 + 1 := ⟨n - 3, by omega⟩
    simp only [Q.dep] at hn hv ht
    obtain ⟨hc1, hc2, hc3, hc4, hc5⟩ := hc
    obtain ⟨T', hr⟩ := rounds_ok g m k hm gv vs ts r bs p xs (fun ins rw_ => sem m gv p (withA bs rw_ vs) (putA r ins ts)) S hc1 hc2 (by omega) (by omega) (by omega) (fun ins rw_ S hl => ih (k + 1) (bs ++ ns) (r :: rs) (withA bs rw_ vs) (putA r ins ts) S hc5 (hd.grow bs rw_ (by omega) r ins) (by omega) (by have := len_withA bs rw_ vs; omega) (by have := len_putA r ins ts; omega))
    have hw := word_at (callN T (k + 2)) (.grow r bs p xs) (σ := [some (.int (m : Nat)), some (tD gv), some (Q.grow r bs p xs).toD, some (vD vs), some (tD ts), none, none, none, none, none, none, none]) S (i := 2) rfl
    have c : ∀ (u : Str) [OkS u] (t : Bool), ev (callN T (k + 2)) [some (.int (m : Nat)), some (tD gv), some (Q.grow r bs p xs).toD, some (vD vs), some (tD ts), some (.str (Q.grow r bs p xs).word), none, none, none, none, none, none] (.cmp .eq (.var 5) (.k (.str u))) t S = .ok (.bl (decide ((Q.grow r bs p xs).word = u))) S := fun u _ t => eq_word _ _ u rfl
    have hrow := row_ev (callN T (k + 2)) (σ := [some (.int (m : Nat)), some (tD gv), some (Q.grow r bs p xs).toD, some (vD vs), some (tD ts), some (.str (Q.grow r bs p xs).word), none, none, none, none, none, none]) (S := S) (j := 10) (a := 3) (vs := vs) (xs := xs) (src := .idx (.var 2) (.k (.int 4))) (by simp) (by decide) rfl (r_idx (r_var rfl) r_k (tupN 4 rfl)) (fun x hx => hd.v x (hc4 x hx)) (by omega)
    have hlc := mapR_map (S := S) (l := rnds (fun ins rw_ => sem m gv p (withA bs rw_ vs) (putA r ins ts)) (rowsOf m bs.length) ((rowsOf m bs.length).length + 1) []) (k := rowsD) (g := fun l => D.bl (decide (row vs xs ∈ l))) (f := fun d S2 => match asg (.nm 11) d (wipeE [some (.int (m : Nat)), some (tD gv), some (Q.grow r bs p xs).toD, some (vD vs), some (tD ts), some (.str (Q.grow r bs p xs).word), none, none, some (rowD (row vs xs)), none, none, none] [11]) with
        | some σ1 => (evC (callN T (k + 2)) σ1 .nil S2).bind fun b S3 => if b then (ev (callN T (k + 2)) σ1 (.cmp .in_ (.var 8) (.var 11)) false S3).bind fun y S4 => .ok [y] S4 else .ok [] S3
        | none => .bad) fun l hl => by
      have ha : asg (.nm 11) (rowsD l) (wipeE [some (.int (m : Nat)), some (tD gv), some (Q.grow r bs p xs).toD, some (vD vs), some (tD ts), some (.str (Q.grow r bs p xs).word), none, none, some (rowD (row vs xs)), none, none, none] [11]) = some [some (.int (m : Nat)), some (tD gv), some (Q.grow r bs p xs).toD, some (vD vs), some (tD ts), some (.str (Q.grow r bs p xs).word), none, none, some (rowD (row vs xs)), none, none, some (rowsD l)] := rfl
      have he : ev (callN T (k + 2)) [some (.int (m : Nat)), some (tD gv), some (Q.grow r bs p xs).toD, some (vD vs), some (tD ts), some (.str (Q.grow r bs p xs).word), none, none, some (rowD (row vs xs)), none, none, some (rowsD l)] (.cmp .in_ (.var 8) (.var 11)) false S = .ok (.bl (decide (row vs xs ∈ l))) S := r_cmp (r_var rfl) (r_var rfl) (cmp_in (in_rows _ _ _))
      simp only [ha, evC, R.ok_bind, if_true, he]
    have hrl : (rnds (fun ins rw_ => sem m gv p (withA bs rw_ vs) (putA r ins ts)) (rowsOf m bs.length) ((rowsOf m bs.length).length + 1) []).length ≤ 1001 := by
      have h1 := turns_from (fun ins rw_ => sem m gv p (withA bs rw_ vs) (putA r ins ts)) (rowsOf m bs.length) ((rowsOf m bs.length).length + 1) [] []
      have h2 := (itR_len (fun ins rw_ => sem m gv p (withA bs rw_ vs) (putA r ins ts)) (rowsOf m bs.length) ((rowsOf m bs.length).length + 1)).2
      rw [h1, List.nil_append, rowsOf_len] at h2
      rw [rowsOf_len]
      omega
    have hcall : ev (callN T (k + 2)) [some (.int (m : Nat)), some (tD gv), some (Q.grow r bs p xs).toD, some (vD vs), some (tD ts), some (.str (Q.grow r bs p xs).word), none, none, some (rowD (row vs xs)), none, none, none] (.call Y.rounds .val (.cons (.var 0) (.cons (.var 1) (.cons (.var 2) (.cons (.var 3) (.cons (.var 4) .nil)))))) false S = .ok (rndsD (rnds (fun ins rw_ => sem m gv p (withA bs rw_ vs) (putA r ins ts)) (rowsOf m bs.length) ((rowsOf m bs.length).length + 1) [])) S :=
      r_call (s_cons (r_var rfl) (s_cons (r_var rfl) (s_cons (r_var rfl) (s_cons (r_var rfl) (s_cons (r_var rfl) s_nil))))) hr (endV_app (rndsD_val.nr _) (fun S => rndsD_val.frz _ S _) _ _)
    have hany : biV .any false [.lst ((rnds (fun ins rw_ => sem m gv p (withA bs rw_ vs) (putA r ins ts)) (rowsOf m bs.length) ((rowsOf m bs.length).length + 1) []).map fun l => D.bl (decide (row vs xs ∈ l)))] S = .ok (.bl (sem m gv (.grow r bs p xs) vs ts)) S := by
      simp only [biV, lstOf, allBl_map, List.any_map]
      rfl
    exact x_fn g.holds rfl (b_cons (x_asg hw rfl) (b_cons (x_if_f (c "not" true) rfl b_nil) (b_cons (x_if_f (r_or_f (c "and" true) rfl (c "or" true)) rfl b_nil) (b_cons (x_if_f (r_or_f (c "some" true) rfl (c "all" true)) rfl b_nil) (b_ret (x_if_t (c "grow" true) rfl (b_cons (x_asg hrow rfl) (b_ret (x_ret (r_bi (s_cons (r_lc (i_seq hcall rfl) hlc (cold (by rw [List.length_map]; omega))) s_nil) hany))))))))))
  | tru  =>
    intro n ns rs vs ts S hc hd hn hv ht
    obtain ⟨k, rfl⟩ : ∃ k, n = k + 1 + 1 := ⟨n - 2, by omega⟩
    have hlf := leaf_ok g.leaf m k (Q.tru) S hc hd rfl
    have hw := word_at (callN T (k + 1)) (Q.tru) (σ := [some (.int (m : Nat)), some (tD gv), some (Q.tru).toD, some (vD vs), some (tD ts), none, none, none, none, none, none, none]) S (i := 2) rfl
    have c : ∀ (u : Str) [OkS u] (t : Bool), ev (callN T (k + 1)) [some (.int (m : Nat)), some (tD gv), some (Q.tru).toD, some (vD vs), some (tD ts), some (.str (Q.tru).word), none, none, none, none, none, none] (.cmp .eq (.var 5) (.k (.str u))) t S = .ok (.bl (decide ((Q.tru).word = u))) S := fun u _ t => eq_word _ _ u rfl
    exact x_fn g.holds rfl (b_cons (x_asg hw rfl) (b_cons (x_if_f (c "not" true) rfl b_nil) (b_cons (x_if_f (r_or_f (c "and" true) rfl (c "or" true)) rfl b_nil) (b_cons (x_if_f (r_or_f (c "some" true) rfl (c "all" true)) rfl b_nil) (b_cons (x_if_f (c "grow" true) rfl b_nil) (b_ret (x_ret (r_call (s_cons (r_var rfl) (s_cons (r_var rfl) (s_cons (r_var rfl) (s_cons (r_var rfl) s_nil)))) hlf (endV_bl _ _)))))))))
  | fal  =>
    intro n ns rs vs ts S hc hd hn hv ht
    obtain ⟨k, rfl⟩ : ∃ k, n = k + 1 + 1 := ⟨n - 2, by omega⟩
    have hlf := leaf_ok g.leaf m k (Q.fal) S hc hd rfl
    have hw := word_at (callN T (k + 1)) (Q.fal) (σ := [some (.int (m : Nat)), some (tD gv), some (Q.fal).toD, some (vD vs), some (tD ts), none, none, none, none, none, none, none]) S (i := 2) rfl
    have c : ∀ (u : Str) [OkS u] (t : Bool), ev (callN T (k + 1)) [some (.int (m : Nat)), some (tD gv), some (Q.fal).toD, some (vD vs), some (tD ts), some (.str (Q.fal).word), none, none, none, none, none, none] (.cmp .eq (.var 5) (.k (.str u))) t S = .ok (.bl (decide ((Q.fal).word = u))) S := fun u _ t => eq_word _ _ u rfl
    exact x_fn g.holds rfl (b_cons (x_asg hw rfl) (b_cons (x_if_f (c "not" true) rfl b_nil) (b_cons (x_if_f (r_or_f (c "and" true) rfl (c "or" true)) rfl b_nil) (b_cons (x_if_f (r_or_f (c "some" true) rfl (c "all" true)) rfl b_nil) (b_cons (x_if_f (c "grow" true) rfl b_nil) (b_ret (x_ret (r_call (s_cons (r_var rfl) (s_cons (r_var rfl) (s_cons (r_var rfl) (s_cons (r_var rfl) s_nil)))) hlf (endV_bl _ _)))))))))
  | given r xs =>
    intro n ns rs vs ts S hc hd hn hv ht
    obtain ⟨k, rfl⟩ : ∃ k, n = k + 1 + 1 := ⟨n - 2, by omega⟩
    have hlf := leaf_ok g.leaf m k (Q.given r xs) S hc hd rfl
    have hw := word_at (callN T (k + 1)) (Q.given r xs) (σ := [some (.int (m : Nat)), some (tD gv), some (Q.given r xs).toD, some (vD vs), some (tD ts), none, none, none, none, none, none, none]) S (i := 2) rfl
    have c : ∀ (u : Str) [OkS u] (t : Bool), ev (callN T (k + 1)) [some (.int (m : Nat)), some (tD gv), some (Q.given r xs).toD, some (vD vs), some (tD ts), some (.str (Q.given r xs).word), none, none, none, none, none, none] (.cmp .eq (.var 5) (.k (.str u))) t S = .ok (.bl (decide ((Q.given r xs).word = u))) S := fun u _ t => eq_word _ _ u rfl
    exact x_fn g.holds rfl (b_cons (x_asg hw rfl) (b_cons (x_if_f (c "not" true) rfl b_nil) (b_cons (x_if_f (r_or_f (c "and" true) rfl (c "or" true)) rfl b_nil) (b_cons (x_if_f (r_or_f (c "some" true) rfl (c "all" true)) rfl b_nil) (b_cons (x_if_f (c "grow" true) rfl b_nil) (b_ret (x_ret (r_call (s_cons (r_var rfl) (s_cons (r_var rfl) (s_cons (r_var rfl) (s_cons (r_var rfl) s_nil)))) hlf (endV_bl _ _)))))))))
  | same x y =>
    intro n ns rs vs ts S hc hd hn hv ht
    obtain ⟨k, rfl⟩ : ∃ k, n = k + 1 + 1 := ⟨n - 2, by omega⟩
    have hlf := leaf_ok g.leaf m k (Q.same x y) S hc hd rfl
    have hw := word_at (callN T (k + 1)) (Q.same x y) (σ := [some (.int (m : Nat)), some (tD gv), some (Q.same x y).toD, some (vD vs), some (tD ts), none, none, none, none, none, none, none]) S (i := 2) rfl
    have c : ∀ (u : Str) [OkS u] (t : Bool), ev (callN T (k + 1)) [some (.int (m : Nat)), some (tD gv), some (Q.same x y).toD, some (vD vs), some (tD ts), some (.str (Q.same x y).word), none, none, none, none, none, none] (.cmp .eq (.var 5) (.k (.str u))) t S = .ok (.bl (decide ((Q.same x y).word = u))) S := fun u _ t => eq_word _ _ u rfl
    exact x_fn g.holds rfl (b_cons (x_asg hw rfl) (b_cons (x_if_f (c "not" true) rfl b_nil) (b_cons (x_if_f (r_or_f (c "and" true) rfl (c "or" true)) rfl b_nil) (b_cons (x_if_f (r_or_f (c "some" true) rfl (c "all" true)) rfl b_nil) (b_cons (x_if_f (c "grow" true) rfl b_nil) (b_ret (x_ret (r_call (s_cons (r_var rfl) (s_cons (r_var rfl) (s_cons (r_var rfl) (s_cons (r_var rfl) s_nil)))) hlf (endV_bl _ _)))))))))
  | inn r xs =>
    intro n ns rs vs ts S hc hd hn hv ht
    obtain ⟨k, rfl⟩ : ∃ k, n = k + 1 + 1 := ⟨n - 2, by omega⟩
    have hlf := leaf_ok g.leaf m k (Q.inn r xs) S hc hd rfl
    have hw := word_at (callN T (k + 1)) (Q.inn r xs) (σ := [some (.int (m : Nat)), some (tD gv), some (Q.inn r xs).toD, some (vD vs), some (tD ts), none, none, none, none, none, none, none]) S (i := 2) rfl
    have c : ∀ (u : Str) [OkS u] (t : Bool), ev (callN T (k + 1)) [some (.int (m : Nat)), some (tD gv), some (Q.inn r xs).toD, some (vD vs), some (tD ts), some (.str (Q.inn r xs).word), none, none, none, none, none, none] (.cmp .eq (.var 5) (.k (.str u))) t S = .ok (.bl (decide ((Q.inn r xs).word = u))) S := fun u _ t => eq_word _ _ u rfl
    exact x_fn g.holds rfl (b_cons (x_asg hw rfl) (b_cons (x_if_f (c "not" true) rfl b_nil) (b_cons (x_if_f (r_or_f (c "and" true) rfl (c "or" true)) rfl b_nil) (b_cons (x_if_f (r_or_f (c "some" true) rfl (c "all" true)) rfl b_nil) (b_cons (x_if_f (c "grow" true) rfl b_nil) (b_ret (x_ret (r_call (s_cons (r_var rfl) (s_cons (r_var rfl) (s_cons (r_var rfl) (s_cons (r_var rfl) s_nil)))) hlf (endV_bl _ _)))))))))
end Zg

/-! HL: _law_sums, _law_bounds. -/
namespace Zg
open PySem Z
structure UIds where
  (parts count freen sums bounds : Nat)
def bSums (U : UIds) : B := (.cons (.asg (.nm 6) (.call U.sums .val (.cons (.var 4) (.cons (.var 1) .nil))))
  (.cons (.asg (.nm 3) (.lc false [7] (.bin .add false (.idx (.var 3) (.var 7)) (.idx (.var 6) (.var 7))) (.nm 7) (.rng (.cons (.k (.int 4)) .nil)) .nil)) .nil))
def lSums (U : UIds) : S := .for_ (.nm 4) (.seq (.call U.parts .val (.cons (.var 0) .nil))) (bSums U)
def fSums (U : UIds) : Fn := ⟨2, 8,
  (.cons (.asg (.nm 2) (.idx (.var 0) (.k (.int 0))))
  (.cons (.asg (.nm 3) (.lst false (.cons (.bi .int false (.cons (.or (.cmp .eq (.var 2) (.k (.str "some"))) (.cmp .eq (.var 2) (.k (.str "all")))) .nil)) (.cons (.k (.int 0)) (.cons (.k (.int 0)) (.cons (.k (.int 0)) .nil))))))
  (.cons (.if_ (.cmp .eq (.var 2) (.k (.str "grow"))) (.cons (.asg (.nm 5) (.idx (.lst false (.cons (.k (.int 1)) (.cons (.k (.int 2)) (.cons (.k (.int 4)) (.cons (.k (.int 8)) (.cons (.k (.int 16)) .nil)))))) (.var 1)))
  (.cons (.asg (.nm 3) (.lst false (.cons (.k (.int 0)) (.cons (.bi .len false (.cons (.idx (.var 0) (.k (.int 2))) .nil)) (.cons (.var 5) (.cons (.bin .mul false (.var 5) (.bin .add false (.bin .add false (.call U.count .val (.cons (.idx (.var 0) (.k (.int 3))) .nil)) (.bi .len false (.cons (.idx (.var 0) (.k (.int 2))) .nil))) (.k (.int 4)))) .nil))))))
  (.cons (.asg (.nm 1) (.bin .add false (.var 1) (.k (.int 1)))) .nil))) .nil)
  (.cons (lSums U)
  (.cons (.ret (.var 3)) .nil)))))⟩
def fBounds (U : UIds) : Fn := ⟨1, 6,
  (.cons (.asg (.tp [(.nm 2), (.nm 3), (.nm 4), (.nm 5)]) (.call U.sums .val (.cons (.var 0) (.cons (.k (.int 0)) .nil))))
  (.cons (.asg (.nm 1) (.bi .len false (.cons (.call U.freen .val (.cons (.var 0) .nil)) .nil)))
  (.cons (.ret (.tup (.cons (.bin .add false (.k (.int 2)) (.bin .mul false (.k (.int 3)) (.var 4))) (.cons (.bin .add false (.bin .add false (.var 1) (.var 2)) (.bin .mul false (.k (.int 2)) (.var 3))) (.cons (.bin .add false (.bin .mul false (.k (.int 4)) (.call U.count .val (.cons (.var 0) .nil))) (.bin .mul false (.k (.int 20)) (.var 5))) .nil))))) .nil)))⟩
structure UG (T : Nat → Option Fn) (K : LIds) (U : UIds) : Prop where
  lf : LF T K
  p : U.parts = K.parts
  f : U.freen = K.freen
  count : T U.count = some (fCountG U.parts U.count)
  sums : T U.sums = some (fSums U)
  bounds : T U.bounds = some (fBounds U)
variable {T : Nat → Option Fn} {K : LIds} {U : UIds}
theorem UG.parts (g : UG T K U) (q : Q) (n : Nat) (S : Store) : callN T (n + 1) U.parts [q.toD] S = .ok (.lst (q.parts.map Q.toD)) S := by rw [g.p]; exact lparts g.lf.toLG q n S
theorem UG.cnt (g : UG T K U) (n : Nat) (q : Q) (S : Store) (h : q.dep < n) : callN T (n + 2) U.count [q.toD] S = .ok (.int (q.sz : Nat)) S := count_gen g.count (fun q n S => g.parts q (n + 1) S) n q S h
structure Tl where
  (b s g h : Int)
def Tl.add (x y : Tl) : Tl := ⟨x.b + y.b, x.s + y.s, x.g + y.g, x.h + y.h⟩
theorem add_assoc4 (x y z : Tl) : (x.add y).add z = x.add (y.add z) := by
  simp only [Tl.add, Tl.mk.injEq]
  exact ⟨by omega, by omega, by omega, by omega⟩
theorem add_zero4 (x : Tl) : x.add ⟨0, 0, 0, 0⟩ = x := by simp [Tl.add]
def own4 (a : Nat) : Q → Tl
  | .qu _ _ _ => ⟨1, 0, 0, 0⟩
  | .grow _ bs p _ => ⟨0, bs.length, (2 ^ a : Nat), (2 ^ a : Nat) * ((p.sz : Nat) + bs.length + 4)⟩
  | _ => ⟨0, 0, 0, 0⟩
def nx4 (a : Nat) : Q → Nat
  | .grow _ _ _ _ => a + 1
  | _ => a
def t4 : Q → Nat → Tl
  | .not p, a => t4 p a
  | .bi _ p q, a => (t4 p a).add (t4 q a)
  | .qu w x p, a => (own4 a (.qu w x p)).add (t4 p a)
  | .grow r bs p ts, a => (own4 a (.grow r bs p ts)).add (t4 p (a + 1))
  | _, _ => ⟨0, 0, 0, 0⟩
def sum4 (a : Nat) : List Q → Tl
  | [] => ⟨0, 0, 0, 0⟩
  | p :: ps => (t4 p a).add (sum4 a ps)
theorem sum4_app (a : Nat) : ∀ ps qs : List Q, sum4 a (ps ++ qs) = (sum4 a ps).add (sum4 a qs)
  | [], qs => by simp [sum4, Tl.add]
  | p :: ps, qs => by simp only [List.cons_append, sum4, sum4_app a ps qs, add_assoc4]
theorem t4_eq (q : Q) (a : Nat) : t4 q a = (own4 a q).add (sum4 (nx4 a q) q.parts) := by
  cases q <;> simp [t4, own4, nx4, sum4, Q.parts, Tl.add]
theorem word_is (C : CallT) (q : Q) (σ : Z.Env) (S : Store) {i : Nat} (h : σ[i]? = some (some q.toD)) : ev C σ (.idx (.var i) (.k (.int 0))) false S = .ok (.str q.word) S :=
  r_idx (r_var h) r_k (by rw [toD_eq]; exact idxV_tup (at0 _ _))
theorem eqw' (C : CallT) (q : Q) (w : Str) [OkS w] {σ : Z.Env} {S : Store} {i : Nat} {t : Bool} (h : σ[i]? = some (some (.str q.word))) : ev C σ (.cmp .eq (.var i) (.k (.str w))) t S = .ok (.bl (decide (q.word = w))) S := r_cmp (r_var h) r_k (eqw q.word w S)
theorem pow_le4 {a : Nat} (h : a ≤ 4) : 2 ^ a ≤ 16 := by
  have : 2 ^ a ≤ 2 ^ 4 := Nat.pow_le_pow_right (by omega) h
  omega
theorem len_tup (C : CallT) {σ : Z.Env} {S : Store} {e : E} {xs : List Str} (h : ev C σ e false S = .ok (.tup (sD xs)) S) : ev C σ (.bi .len false (.cons e .nil)) false S = .ok (.int (xs.length : Nat)) S := by
  refine r_bi (s_cons h s_nil) ?_
  rw [biV_len_seq (d := .tup (sD xs)) (xs := sD xs) (fun _ h => nomatch h) rfl, List.length_map]
theorem cMul_small {x y : Nat} (h : y < 2 ^ 60) : cMul (x : Int) (y : Int) = true := cMul_r (by omega) (by omega)
theorem part_nx (a : Nat) {q p : Q} (h : p ∈ q.parts) : nx4 a q + p.lev ≤ a + q.lev := by
  cases q <;> simp only [Q.parts, List.mem_cons, List.not_mem_nil, or_false] at h <;> first | (subst h; simp only [nx4, Q.lev]; omega) | (rcases h with rfl | rfl <;> simp only [nx4, Q.lev] <;> omega)
theorem part_sz {q p : Q} (h : p ∈ q.parts) : p.sz ≤ q.sz := by
  cases q <;> simp only [Q.parts, List.mem_cons, List.not_mem_nil, or_false] at h <;> first | (subst h; simp only [Q.sz]; omega) | (rcases h with rfl | rfl <;> simp only [Q.sz] <;> omega)
theorem nice_part {q p : Q} (hq : nice q) (h : p ∈ q.parts) : nice p := by
  cases q <;> simp only [Q.parts, List.mem_cons, List.not_mem_nil, or_false] at h
  · subst h; exact hq
  · rcases h with rfl | rfl
    · exact hq.1
    · exact hq.2
  · subst h; exact hq.2
  · subst h; exact hq.2.2.2.2.2
/-- three statements, and what follows -/
theorem b_app3 {C : CallT} {a b c : Z.S} {r : Z.B} {σ σ1 : Z.Env} {S S1 : Store} {f : R Fl} (h : evB C (.cons a (.cons b (.cons c .nil))) σ S = .ok (.nx σ1) S1) (h2 : evB C r σ1 S1 = f) : evB C (.cons a (.cons b (.cons c r))) σ S = f := by
  simp only [evB] at h ⊢
  cases ha : evS C a σ S with
  | bad => rw [ha] at h; cases h
  | ok fl S2 =>
    rw [ha] at h
    cases fl with
    | ret d => cases h
    | ct σ => cases h
    | nx σ2 =>
      simp only [R.ok_bind] at h ⊢
      cases hb : evS C b σ2 S2 with
      | bad => rw [hb] at h; cases h
      | ok fl S3 =>
        rw [hb] at h
        cases fl with
        | ret d => cases h
        | ct σ => cases h
        | nx σ3 =>
          simp only [R.ok_bind] at h ⊢
          cases hc : evS C c σ3 S3 with
          | bad => rw [hc] at h; cases h
          | ok fl S4 =>
            rw [hc] at h
            cases fl with
            | ret d => cases h
            | ct σ => cases h
            | nx σ4 =>
              simp only [R.ok_bind] at h ⊢
              cases h
              exact h2
def out (q : Q) : D := .tup [.int (2 + 3 * (t4 q 0).g), .int ((sdd (fr [] q)).length + (t4 q 0).b + 2 * (t4 q 0).s), .int (4 * (q.sz : Nat) + 20 * (t4 q 0).h)]
theorem mul_small {i j : Int} (h : i = 2 ∨ i = 3 ∨ i = 4 ∨ i = 20) {S : Store} : binV .mul false (.int i) (.int j) S = .ok (.int (i * j)) S := by
  refine binV_mulL ?_
  have h1 : -18446744073709551616 < i ∧ i < 18446744073709551616 := by omega
  simp [cMul, h1]
/-! the law's own sums -/
def l4 (t : Tl) : D := .lst [.int t.b, .int t.s, .int t.g, .int t.h]
theorem add_l4 (C : CallT) (x0 x1 x2 x4 x5 x7 : Option D) (t u : Tl) (S : Store) : ev C [x0, x1, x2, some (l4 t), x4, x5, some (l4 u), x7] (.lc false [7] (.bin .add false (.idx (.var 3) (.var 7)) (.idx (.var 6) (.var 7))) (.nm 7) (.rng (.cons (.k (.int 4)) .nil)) .nil) false S = .ok (l4 (t.add u)) S := by
  have hi : evI C [x0, x1, x2, some (l4 t), x4, x5, some (l4 u), x7] (.rng (.cons (.k (.int 4)) .nil)) S = .ok ([0, 1, 2, 3].map D.int) S := i_rng (s_cons r_k s_nil) rfl
  have hm := mapR_map (S := S) (l := [0, 1, 2, 3]) (k := D.int) (g := fun i => D.int (([t.b, t.s, t.g, t.h].getD i.toNat 0) + ([u.b, u.s, u.g, u.h].getD i.toNat 0))) (f := fun d S2 => match asg (.nm 7) d (wipeE [x0, x1, x2, some (l4 t), x4, x5, some (l4 u), x7] [7]) with
        | some σ1 => (evC C σ1 .nil S2).bind fun b S3 => if b then (ev C σ1 (.bin .add false (.idx (.var 3) (.var 7)) (.idx (.var 6) (.var 7))) false S3).bind fun y S4 => .ok [y] S4 else .ok [] S3
        | none => .bad) fun i hi => by
      have ha : asg (.nm 7) (.int i) (wipeE [x0, x1, x2, some (l4 t), x4, x5, some (l4 u), x7] [7]) = some [x0, x1, x2, some (l4 t), x4, x5, some (l4 u), some (.int i)] := rfl
      have he : ev C [x0, x1, x2, some (l4 t), x4, x5, some (l4 u), some (.int i)] (.bin .add false (.idx (.var 3) (.var 7)) (.idx (.var 6) (.var 7))) false S = .ok (.int (([t.b, t.s, t.g, t.h].getD i.toNat 0) + ([u.b, u.s, u.g, u.h].getD i.toNat 0))) S := by
        simp only [List.mem_cons, List.not_mem_nil, or_false] at hi
        rcases hi with rfl | rfl | rfl | rfl <;> exact r_bin (r_idx (r_var rfl) (r_var rfl) rfl) (r_idx (r_var rfl) (r_var rfl) rfl) binV_add
      simp only [ha, evC, R.ok_bind, if_true, he]
  exact r_lc hi hm (cold (by simp))
theorem l4_nr (t : Tl) (S : Store) : endV .val S (.ok (l4 t) S) = .ok (l4 t) S := endV_lst rfl S
/-- _law_sums -/
theorem sums (g : UG T K U) : ∀ (n : Nat) (q : Q) (a : Nat) (S : Store), q.dep < n → a + q.lev ≤ 4 → nice q → q.sz ≤ 1000 → callN T (n + 3) U.sums [q.toD, .int (a : Nat)] S = .ok (l4 (t4 q a)) S
  | 0, q, a, S, hd, _, _, _ => by omega
  | n + 1, q, a, S, hd, hl, hq, hz => by
    have st : ∃ y5, evB (callN T (n + 3)) (.cons (.asg (.nm 2) (.idx (.var 0) (.k (.int 0))))
  (.cons (.asg (.nm 3) (.lst false (.cons (.bi .int false (.cons (.or (.cmp .eq (.var 2) (.k (.str "some"))) (.cmp .eq (.var 2) (.k (.str "all")))) .nil)) (.cons (.k (.int 0)) (.cons (.k (.int 0)) (.cons (.k (.int 0)) .nil))))))
  (.cons (.if_ (.cmp .eq (.var 2) (.k (.str "grow"))) (.cons (.asg (.nm 5) (.idx (.lst false (.cons (.k (.int 1)) (.cons (.k (.int 2)) (.cons (.k (.int 4)) (.cons (.k (.int 8)) (.cons (.k (.int 16)) .nil)))))) (.var 1)))
  (.cons (.asg (.nm 3) (.lst false (.cons (.k (.int 0)) (.cons (.bi .len false (.cons (.idx (.var 0) (.k (.int 2))) .nil)) (.cons (.var 5) (.cons (.bin .mul false (.var 5) (.bin .add false (.bin .add false (.call U.count .val (.cons (.idx (.var 0) (.k (.int 3))) .nil)) (.bi .len false (.cons (.idx (.var 0) (.k (.int 2))) .nil))) (.k (.int 4)))) .nil))))))
  (.cons (.asg (.nm 1) (.bin .add false (.var 1) (.k (.int 1)))) .nil))) .nil) .nil))) [some q.toD, some (.int (a : Nat)), none, none, none, none, none, none] S
        = .ok (.nx [some q.toD, some (.int (nx4 a q : Nat)), some (.str q.word), some (l4 (own4 a q)), none, y5, none, none]) S := by
      have hw := word_is (callN T (n + 3)) q [some q.toD, some (.int (a : Nat)), none, none, none, none, none, none] S (i := 0) rfl
      have c0 : ∀ (w : Str) [OkS w] (t : Bool), ev (callN T (n + 3)) [some q.toD, some (.int (a : Nat)), some (.str q.word), none, none, none, none, none] (.cmp .eq (.var 2) (.k (.str w))) t S = .ok (.bl (decide (q.word = w))) S := fun w _ t => eqw' _ q w rfl
      have c1 : ∀ (w : Str) [OkS w] (x3 : Option D), ev (callN T (n + 3)) [some q.toD, some (.int (a : Nat)), some (.str q.word), x3, none, none, none, none] (.cmp .eq (.var 2) (.k (.str w))) true S = .ok (.bl (decide (q.word = w))) S := fun w _ x3 => eqw' _ q w rfl
      have st3 : ∀ b : Bool, (decide (q.word = "some") || decide (q.word = "all")) = b → evS (callN T (n + 3)) (.asg (.nm 3) (.lst false (.cons (.bi .int false (.cons (.or (.cmp .eq (.var 2) (.k (.str "some"))) (.cmp .eq (.var 2) (.k (.str "all")))) .nil)) (.cons (.k (.int 0)) (.cons (.k (.int 0)) (.cons (.k (.int 0)) .nil)))))) [some q.toD, some (.int (a : Nat)), some (.str q.word), none, none, none, none, none] S
          = .ok (.nx [some q.toD, some (.int (a : Nat)), some (.str q.word), some (l4 ⟨if b then 1 else 0, 0, 0, 0⟩), none, none, none, none]) S := fun b hb => by
        have ho : ev (callN T (n + 3)) [some q.toD, some (.int (a : Nat)), some (.str q.word), none, none, none, none, none] (.or (.cmp .eq (.var 2) (.k (.str "some"))) (.cmp .eq (.var 2) (.k (.str "all")))) false S = .ok (.bl b) S := by
          cases h1 : decide (q.word = "some") with
          | true =>
            rw [h1, Bool.true_or] at hb
            subst hb
            exact r_or_t (c0 "some" false) h1
          | false =>
            rw [h1, Bool.false_or] at hb
            subst hb
            exact r_or_f (c0 "some" false) h1 (c0 "all" false)
        have hb2 : biV .int false [.bl b] S = .ok (.int (if b then 1 else 0)) S := by cases b <;> rfl
        exact x_asg (r_lst (s_cons (r_bi (s_cons ho s_nil) hb2) (s_cons r_k (s_cons r_k (s_cons r_k s_nil)))) (cold (by simp))) rfl
      cases q with
      | qu w x p =>
        refine ⟨none, b_cons (x_asg hw rfl) (b_cons (st3 true (by cases w <;> rfl)) (b_cons (x_if_f (c1 "grow" _) (by cases w <;> rfl) b_nil) b_nil))⟩
      | bi w p q =>
        refine ⟨none, b_cons (x_asg hw rfl) (b_cons (st3 false (by cases w <;> rfl)) (b_cons (x_if_f (c1 "grow" _) (by cases w <;> rfl) b_nil) b_nil))⟩
      | grow r bs p ts =>
        simp only [Q.lev] at hl
        have hb2 : bs.length ≤ 2 := hq.2.2.1
        simp only [Q.sz] at hz
        have hp4 := pow_le4 (a := a) (by omega)
        have hpw : L2.atI ([.int 1, .int 2, .int 4, .int 8, .int 16] : List D) (a : Nat) = some (.int (2 ^ a : Nat)) := by
          refine atN _ a _ ?_
          have : a = 0 ∨ a = 1 ∨ a = 2 ∨ a = 3 ∨ a = 4 := by omega
          rcases this with rfl | rfl | rfl | rfl | rfl <;> rfl
        have h5 : ev (callN T (n + 3)) [some (Q.grow r bs p ts).toD, some (.int (a : Nat)), some (.str (Q.grow r bs p ts).word), some (l4 ⟨0, 0, 0, 0⟩), none, none, none, none] (.idx (.lst false (.cons (.k (.int 1)) (.cons (.k (.int 2)) (.cons (.k (.int 4)) (.cons (.k (.int 8)) (.cons (.k (.int 16)) .nil)))))) (.var 1)) false S = .ok (.int (2 ^ a : Nat)) S :=
          r_idx (r_lst (s_cons r_k (s_cons r_k (s_cons r_k (s_cons r_k (s_cons r_k s_nil))))) (cold (by simp))) (r_var rfl) (idxV_lst hpw)
        have hbs : ev (callN T (n + 3)) [some (Q.grow r bs p ts).toD, some (.int (a : Nat)), some (.str (Q.grow r bs p ts).word), some (l4 ⟨0, 0, 0, 0⟩), none, some (.int (2 ^ a : Nat)), none, none] (.bi .len false (.cons (.idx (.var 0) (.k (.int 2))) .nil)) false S = .ok (.int (bs.length : Nat)) S := len_tup _ (r_idx (r_var rfl) r_k (tupN 2 rfl))
        have hc := g.cnt (n + 1) p S (by simp only [Q.dep] at hd; omega)
        have hcount : ev (callN T (n + 3)) [some (Q.grow r bs p ts).toD, some (.int (a : Nat)), some (.str (Q.grow r bs p ts).word), some (l4 ⟨0, 0, 0, 0⟩), none, some (.int (2 ^ a : Nat)), none, none] (.call U.count .val (.cons (.idx (.var 0) (.k (.int 3))) .nil)) false S = .ok (.int (p.sz : Nat)) S :=
          r_call (s_cons (r_idx (r_var rfl) r_k (tupN 3 rfl)) s_nil) hc (endV_int _ _)
        refine ⟨some (.int (2 ^ a : Nat)), b_cons (x_asg hw rfl) (b_cons (st3 false rfl) (b_cons (x_if_t (c1 "grow" _) rfl ?_) b_nil))⟩
        refine b_cons (x_asg h5 rfl) (b_cons (x_asg (r_lst (s_cons r_k (s_cons hbs (s_cons (r_var rfl) (s_cons (r_bin (r_var rfl) (r_bin (r_bin hcount hbs binV_add) r_k binV_add) (binV_mulL (cMul_r (by omega) (by omega)))) s_nil)))) (cold (by simp))) rfl) (b_cons (x_asg (r_bin (r_var rfl) r_k binV_add) rfl) b_nil))
      | tru  => exact ⟨none, b_cons (x_asg hw rfl) (b_cons (st3 false rfl) (b_cons (x_if_f (c1 "grow" _) rfl b_nil) b_nil))⟩
      | fal  => exact ⟨none, b_cons (x_asg hw rfl) (b_cons (st3 false rfl) (b_cons (x_if_f (c1 "grow" _) rfl b_nil) b_nil))⟩
      | given r xs => exact ⟨none, b_cons (x_asg hw rfl) (b_cons (st3 false rfl) (b_cons (x_if_f (c1 "grow" _) rfl b_nil) b_nil))⟩
      | same x y => exact ⟨none, b_cons (x_asg hw rfl) (b_cons (st3 false rfl) (b_cons (x_if_f (c1 "grow" _) rfl b_nil) b_nil))⟩
      | inn r xs => exact ⟨none, b_cons (x_asg hw rfl) (b_cons (st3 false rfl) (b_cons (x_if_f (c1 "grow" _) rfl b_nil) b_nil))⟩
      | not p => exact ⟨none, b_cons (x_asg hw rfl) (b_cons (st3 false rfl) (b_cons (x_if_f (c1 "grow" _) rfl b_nil) b_nil))⟩
    obtain ⟨y5, st⟩ := st
    have hp := g.parts q (n + 2) S
    obtain ⟨σ2, S2, e2, ⟨x4, x6, rfl⟩, rfl⟩ : ∃ σ' S', evS (callN T (n + 3)) (lSums U) [some q.toD, some (.int (nx4 a q : Nat)), some (.str q.word), some (l4 (own4 a q)), none, y5, none, none] S = .ok (.nx σ') S' ∧ (∃ x4 x6 : Option D, σ' = [some q.toD, some (.int (nx4 a q : Nat)), some (.str q.word), some (l4 ((own4 a q).add (sum4 (nx4 a q) (q.parts.take (q.parts.map Q.toD).length)))), x4, y5, x6, none]) ∧ S' = S := by
      refine for_ok (S1 := S) (ds := q.parts.map Q.toD) (fun i σ' S' => (∃ x4 x6 : Option D, σ' = [some q.toD, some (.int (nx4 a q : Nat)), some (.str q.word), some (l4 ((own4 a q).add (sum4 (nx4 a q) (q.parts.take i)))), x4, y5, x6, none]) ∧ S' = S) ?_ ⟨⟨none, none, ?_⟩, rfl⟩ ?_
      · exact i_seq (r_call (s_cons (r_var rfl) s_nil) hp (endV_qs _ _)) rfl
      · rw [show (own4 a q).add (sum4 (nx4 a q) (q.parts.take 0)) = own4 a q from add_zero4 _]
      · rintro i x σ S2 hx ⟨⟨x4, x6, rfl⟩, rfl⟩
        rw [List.getElem?_map, Option.map_eq_some_iff] at hx
        obtain ⟨p, hp1, rfl⟩ := hx
        have hm := List.mem_of_getElem? hp1
        have hpd := part_dep hm
        have hpl := part_nx a hm
        have ih := sums g n p (nx4 a q) S2 (by omega) (by omega) (nice_part hq hm) (by have := part_sz hm; omega)
        have e : (q.parts.take (i + 1)) = q.parts.take i ++ [p] := by
          rw [List.take_succ, hp1]
          simp
        have e4 : ((own4 a q).add (sum4 (nx4 a q) (q.parts.take i))).add (t4 p (nx4 a q)) = (own4 a q).add (sum4 (nx4 a q) (q.parts.take (i + 1))) := by
          rw [e, sum4_app, add_assoc4]
          simp [sum4, add_zero4]
        have had := add_l4 (callN T (n + 3)) (some q.toD) (some (.int (nx4 a q : Nat))) (some (.str q.word)) (some p.toD) y5 none ((own4 a q).add (sum4 (nx4 a q) (q.parts.take i))) (t4 p (nx4 a q)) S2
        rw [e4] at had
        refine ⟨[some q.toD, some (.int (nx4 a q : Nat)), some (.str q.word), some (l4 ((own4 a q).add (sum4 (nx4 a q) (q.parts.take i)))), some p.toD, y5, x6, none], [some q.toD, some (.int (nx4 a q : Nat)), some (.str q.word), some (l4 ((own4 a q).add (sum4 (nx4 a q) (q.parts.take (i + 1))))), some p.toD, y5, some (l4 (t4 p (nx4 a q))), none], S2, rfl, .inl ?_, ⟨_, _, rfl⟩, rfl⟩
        exact b_cons (x_asg (r_call (s_cons (r_var rfl) (s_cons (r_var rfl) s_nil)) ih (l4_nr _ _)) rfl) (b_cons (x_asg had rfl) b_nil)
    rw [List.length_map, List.take_length, ← t4_eq] at e2
    exact x_fn g.sums rfl (b_app3 st (b_cons e2 (b_ret (x_ret (r_var rfl)))))
/-- _law_bounds -/
theorem lbounds (g : UG T K U) (n : Nat) (q : Q) (S : Store) (hd : q.dep < n) (hl : q.lev ≤ 4) (hq : nice q) (hz : q.sz ≤ 600) : callN T (n + 4) U.bounds [q.toD] S = .ok (out q) S := by
  have ht := nice_tot hq
  have hs := sums g n q 0 S hd (by omega) hq (by omega)
  have hfree : callN T (n + 3) U.freen [q.toD] S = .ok (.lst (sD (sdd (fr [] q)))) S := (g.f ▸ law_freen g.lf (n + 1) q S (by omega) (by omega))
  have hc : callN T (n + 3) U.count [q.toD] S = .ok (.int (q.sz : Nat)) S := g.cnt (n + 1) q S (by omega)
  have hlen : biV .len false [.lst (sD (sdd (fr [] q)))] S = .ok (.int ((sdd (fr [] q)).length : Nat)) S := by
    rw [biV_len_seq (d := .lst (sD (sdd (fr [] q)))) (xs := sD (sdd (fr [] q))) (fun _ h => nomatch h) rfl, List.length_map]
  have cnt : ∀ x1 x2 x3 x4 x5, ev (callN T (n + 3)) [some q.toD, x1, x2, x3, x4, x5] (.call U.count .val (.cons (.var 0) .nil)) false S = .ok (.int (q.sz : Nat)) S := fun _ _ _ _ _ => r_call (s_cons (r_var rfl) s_nil) hc (endV_int _ _)
  refine x_fn g.bounds rfl (b_cons (σ1 := [some q.toD, none, some (.int (t4 q 0).b), some (.int (t4 q 0).s), some (.int (t4 q 0).g), some (.int (t4 q 0).h)]) (x_asg (r_call (s_cons (r_var rfl) (s_cons r_k s_nil)) hs (l4_nr _ _)) rfl) (b_cons (x_asg (r_bi (s_cons (r_call (s_cons (r_var rfl) s_nil) hfree (endV_lst (sD_nr _) _)) s_nil) hlen) rfl) (b_ret (x_ret ?_))))
  exact r_tup (s_cons (r_bin r_k (r_bin r_k (r_var rfl) (mul_small (by simp))) binV_add) (s_cons (r_bin (r_bin (r_var rfl) (r_var rfl) binV_add) (r_bin r_k (r_var rfl) (mul_small (by simp))) binV_add) (s_cons (r_bin (r_bin r_k (cnt _ _ _ _ _) (mul_small (by simp))) (r_bin r_k (r_var rfl) (mul_small (by simp))) binV_add) s_nil))) (tup_len (by simp))
theorem out_nr2 (q : Q) (S : Store) : endV .val S (.ok (out q) S) = .ok (out q) S := endV_tup rfl S
theorem out_eq (q : Q) (S : Store) : cmpV .ne (out q) (out q) S = some false := by
  show (pyEq (out q) (out q)).map (!·) = _
  rw [pyEq_self (x := .tuple [.int _, .int _, .int _]) rfl rfl]
  rfl
end Zg

/-! HM: _law_given. -/
namespace Zg
open PySem Z
def bGiv0 : B := (.cons (.if_ (.cmp .lt (.bi .int false (.cons (.idx (.var 2) (.var 4)) .nil)) (.bin .add false (.k (.int 1)) (.bin .mod false (.bi .int false (.cons (.idx (.var 2) (.k (.int 0))) .nil)) (.k (.int 3))))) (.cons (.expr (.bm .append (.idx (.var 3) (.var 5)) (.cons (.var 7) .nil))) .nil) .nil)
  (.cons (.asg (.nm 4) (.bin .add false (.var 4) (.k (.int 1)))) .nil))
def lGiv0 (Y : SIds) : S := .for_ (.nm 7) (.seq (.call Y.rows .val (.cons (.var 0) (.cons (.var 6) .nil)))) bGiv0
def bGiv1 (Y : SIds) : B := (.cons (lGiv0 Y) .nil)
def lGiv1 (Y : SIds) : S := .for_ (.tp [(.nm 5), (.nm 6)]) (.seq (.lst false (.cons (.tup (.cons (.k (.str "e")) (.cons (.k (.int 2)) .nil))) (.cons (.tup (.cons (.k (.str "c")) (.cons (.k (.int 1)) .nil))) (.cons (.tup (.cons (.k (.str "d")) (.cons (.k (.int 1)) .nil))) (.cons (.tup (.cons (.k (.str "p")) (.cons (.k (.int 0)) .nil))) .nil)))))) (bGiv1 Y)
def fGiven (I : Ids) (Y : SIds) : Fn := ⟨2, 8,
  (.cons (.asg (.nm 2) (.call I.digits .val (.cons (.var 1) (.cons (.k (.int 4)) (.cons (.bin .add false (.bin .add false (.bin .mul false (.var 0) (.var 0)) (.bin .mul false (.k (.int 2)) (.var 0))) (.k (.int 2))) .nil)))))
  (.cons (.asg (.nm 3) (.dct true (.cons (.k (.str "e")) (.cons (.lst true .nil) (.cons (.k (.str "c")) (.cons (.lst true .nil) (.cons (.k (.str "d")) (.cons (.lst true .nil) (.cons (.k (.str "p")) (.cons (.lst true .nil) .nil)))))))) .nil))
  (.cons (.asg (.nm 4) (.k (.int 1)))
  (.cons (.frzv (lGiv1 Y) 3)
  (.cons (.ret (.var 3)) .nil)))))⟩
variable {T : Nat → Option Fn} {Y : SIds} {I : Ids}
theorem objAt_off (S L : Store) (j : Nat) : objAt (S ++ L) (S.length + j) = objAt L j := by
  unfold objAt
  rw [List.getElem?_append_right (by omega)]
  congr 2
  omega
theorem set_off (S L : Store) (j : Nat) (o : Option Z.Obj) : (S ++ L).set (S.length + j) o = S ++ L.set j o := by
  rw [List.set_append_right _ _ (by omega)]
  congr 2
  omega
def refsD (l : Nat) : List (D × D) := [(.str "e", .ref (l + 0)), (.str "c", .ref (l + 1)), (.str "d", .ref (l + 2)), (.str "p", .ref (l + 3))]
def nm4 (j : Nat) : Str := (["e", "c", "d", "p"] : List Str).getD j "e"
def ar4 (j : Nat) : Nat := ([2, 1, 1, 0] : List Nat).getD j 0
def lists4 (f : Nat → List Row) : Store := [some (.lst ((f 0).map rowD)), some (.lst ((f 1).map rowD)), some (.lst ((f 2).map rowD)), some (.lst ((f 3).map rowD))]
def upd4 (f : Nat → List Row) (j : Nat) (rs : List Row) : Nat → List Row := fun i => if i = j then rs else f i
theorem giv_idx (j : Nat) (hj : j < 4) (S : Store) (f : Nat → List Row) (C : CallT) (σ : Z.Env) (h3 : σ[3]? = some (some (.ref (S.length + 4)))) (h5 : σ[5]? = some (some (.str (nm4 j)))) :
    ev C σ (.idx (.var 3) (.var 5)) false (S ++ (lists4 f ++ [some (Z.Obj.dct (refsD S.length))])) = .ok (.ref (S.length + j)) (S ++ (lists4 f ++ [some (Z.Obj.dct (refsD S.length))])) := by
  have ho : objAt (S ++ (lists4 f ++ [some (Z.Obj.dct (refsD S.length))])) (S.length + 4) = some (.dct (refsD S.length)) := by rw [objAt_off]; rfl
  refine r_idx (r_var h3) (r_var h5) ?_
  have hg : getK (refsD S.length) (.str (nm4 j)) = some (.ref (S.length + j)) := by
    have e : refsD S.length = kD (fun i : Nat => D.ref i) [("e", S.length + 0), ("c", S.length + 1), ("d", S.length + 2), ("p", S.length + 3)] := rfl
    rw [e, get_kD]
    have : j = 0 ∨ j = 1 ∨ j = 2 ∨ j = 3 := by omega
    rcases this with rfl | rfl | rfl | rfl <;> rfl
  simp only [idxV, seqOf, lstOf, ho, dctOf, okKey, kFlat, Option.isSome_some, if_true, hg]
theorem giv_put (j : Nat) (hj : j < 4) (S : Store) (f : Nat → List Row) (rs : List Row) (o : Option Z.Obj) : (S ++ (lists4 f ++ [o])).set (S.length + j) (some (.lst (rs.map rowD))) = S ++ (lists4 (upd4 f j rs) ++ [o]) := by
  rw [set_off]
  have : j = 0 ∨ j = 1 ∨ j = 2 ∨ j = 3 := by omega
  rcases this with rfl | rfl | rfl | rfl <;> rfl
theorem giv_at (j : Nat) (hj : j < 4) (S : Store) (f : Nat → List Row) (o : Option Z.Obj) : objAt (S ++ (lists4 f ++ [o])) (S.length + j) = some (.lst ((f j).map rowD)) := by
  rw [objAt_off]
  have : j = 0 ∨ j = 1 ∨ j = 2 ∨ j = 3 := by omega
  rcases this with rfl | rfl | rfl | rfl <;> rfl
theorem upd_self (f : Nat → List Row) (j : Nat) : upd4 f j (f j) = f := by
  funext i
  unfold upd4
  split
  · rename_i h; rw [h]
  · rfl
theorem upd_upd (f : Nat → List Row) (j : Nat) (a b : List Row) : upd4 (upd4 f j a) j b = upd4 f j b := by
  funext i
  unfold upd4
  split <;> rfl
theorem upd_at (f : Nat → List Row) (j : Nat) (a : List Row) : upd4 f j a j = a := by simp [upd4]
/-- the rows of one relation -/
theorem giv0 (hr : T Y.rows = some (fRows Y)) (m n : Nat) (hm : 0 < m) (hm8 : m ≤ 8) (j : Nat) (hj : j < 4) (ds : List Int) (u : Nat) (S : Store) (f : Nat → List Row) (x1 x7 : Option D) (hn : 3 < n) (hu : u + (rowsOf m (ar4 j)).length ≤ ds.length) (h0 : 0 < ds.length) (hf : f j = []) :
    ∃ rs y7, (∀ r ∈ rs, r ∈ rowsOf m (ar4 j)) ∧ evS (callN T n) (lGiv0 Y) [some (.int (m : Nat)), x1, some (.lst (ds.map .int)), some (.ref (S.length + 4)), some (.int (u : Nat)), some (.str (nm4 j)), some (.int (ar4 j : Nat)), x7] (S ++ (lists4 f ++ [some (Z.Obj.dct (refsD S.length))]))
      = .ok (.nx [some (.int (m : Nat)), x1, some (.lst (ds.map .int)), some (.ref (S.length + 4)), some (.int (u + (rowsOf m (ar4 j)).length : Nat)), some (.str (nm4 j)), some (.int (ar4 j : Nat)), y7]) (S ++ (lists4 (upd4 f j rs) ++ [some (Z.Obj.dct (refsD S.length))])) := by
  have hpow : m ^ ar4 j ≤ 64 := by
    have h1 : ar4 j ≤ 2 := by
      have : j = 0 ∨ j = 1 ∨ j = 2 ∨ j = 3 := by omega
      rcases this with rfl | rfl | rfl | rfl <;> decide
    calc m ^ ar4 j ≤ m ^ 2 := Nat.pow_le_pow_right hm h1
      _ ≤ 8 ^ 2 := Nat.pow_le_pow_left hm8 2
      _ = 64 := by decide
  have har : ar4 j ≤ 2 := by
    have : j = 0 ∨ j = 1 ∨ j = 2 ∨ j = 3 := by omega
    rcases this with rfl | rfl | rfl | rfl <;> decide
  obtain ⟨T', hrows⟩ := rows_ok hr m hm (ar4 j) n (S ++ (lists4 f ++ [some (Z.Obj.dct (refsD S.length))])) (by omega) (by omega) (by omega)
  have hrl := rowsOf_len m (ar4 j)
  generalize hE : rowsOf m (ar4 j) = every at *
  obtain ⟨σ1, S1, e1, rs, y7, rfl, rfl, hrs, _⟩ : ∃ σ' S', evS (callN T n) (lGiv0 Y) [some (.int (m : Nat)), x1, some (.lst (ds.map .int)), some (.ref (S.length + 4)), some (.int (u : Nat)), some (.str (nm4 j)), some (.int (ar4 j : Nat)), x7] (S ++ (lists4 f ++ [some (Z.Obj.dct (refsD S.length))])) = .ok (.nx σ') S' ∧
      ∃ (rs : List Row) (y7 : Option D), σ' = [some (.int (m : Nat)), x1, some (.lst (ds.map .int)), some (.ref (S.length + 4)), some (.int (u + (every.map rowD).length : Nat)), some (.str (nm4 j)), some (.int (ar4 j : Nat)), y7] ∧ S' = S ++ (lists4 (upd4 f j rs) ++ [some (Z.Obj.dct (refsD S.length))]) ∧ (∀ r ∈ rs, r ∈ every) ∧ rs.length ≤ (every.map rowD).length := by
    refine for_ok (S1 := S ++ (lists4 f ++ [some (Z.Obj.dct (refsD S.length))])) (ds := every.map rowD) (fun i σ' S' => ∃ (rs : List Row) (y7 : Option D), σ' = [some (.int (m : Nat)), x1, some (.lst (ds.map .int)), some (.ref (S.length + 4)), some (.int (u + i : Nat)), some (.str (nm4 j)), some (.int (ar4 j : Nat)), y7] ∧ S' = S ++ (lists4 (upd4 f j rs) ++ [some (Z.Obj.dct (refsD S.length))]) ∧ (∀ r ∈ rs, r ∈ every) ∧ rs.length ≤ i) ?_ ⟨[], _, rfl, ?_, (fun _ h => nomatch h), Nat.le_refl _⟩ ?_
    · exact i_seq (d := rowsD every) (r_call (s_cons (r_var rfl) (s_cons (r_var rfl) s_nil)) hrows (rows_val _ _ _)) rfl
    · rw [← hf, upd_self]
    · rintro i x σ S2 hx ⟨rs, y7, rfl, rfl, hrs, hrl2⟩
      rw [List.getElem?_map, Option.map_eq_some_iff] at hx
      obtain ⟨rw_, hr2, rfl⟩ := hx
      have hi : i < every.length := (List.getElem?_eq_some_iff.mp hr2).1
      have hu2 : u + i < ds.length := by omega
      have hd1 : L2.atI (ds.map D.int) ((u + i : Nat) : Int) = some (.int ds[u + i]) := atN _ _ _ (by rw [List.getElem?_map, List.getElem?_eq_getElem hu2]; rfl)
      have hd0 : L2.atI (ds.map D.int) 0 = some (.int ds[0]) := atN _ 0 _ (by rw [List.getElem?_map, List.getElem?_eq_getElem h0]; rfl)
      refine ⟨[some (.int (m : Nat)), x1, some (.lst (ds.map .int)), some (.ref (S.length + 4)), some (.int (u + i : Nat)), some (.str (nm4 j)), some (.int (ar4 j : Nat)), some (rowD rw_)], ?_⟩
      have hc : ∀ S2, ev (callN T n) [some (.int (m : Nat)), x1, some (.lst (ds.map .int)), some (.ref (S.length + 4)), some (.int (u + i : Nat)), some (.str (nm4 j)), some (.int (ar4 j : Nat)), some (rowD rw_)] (.cmp .lt (.bi .int false (.cons (.idx (.var 2) (.var 4)) .nil)) (.bin .add false (.k (.int 1)) (.bin .mod false (.bi .int false (.cons (.idx (.var 2) (.k (.int 0))) .nil)) (.k (.int 3))))) true S2 = .ok (.bl (decide (ds[u + i] < 1 + ds[0] % 3))) S2 := fun S2 =>
        r_cmp (r_bi (s_cons (r_idx (r_var rfl) (r_var rfl) (idxV_lst hd1)) s_nil) rfl) (r_bin r_k (r_bin (r_bi (s_cons (r_idx (r_var rfl) r_k (idxV_lst hd0)) s_nil) rfl) r_k (binV_mod (by decide))) binV_add) rfl
      have hadd : ∀ S2, evS (callN T n) (.asg (.nm 4) (.bin .add false (.var 4) (.k (.int 1)))) [some (.int (m : Nat)), x1, some (.lst (ds.map .int)), some (.ref (S.length + 4)), some (.int (u + i : Nat)), some (.str (nm4 j)), some (.int (ar4 j : Nat)), some (rowD rw_)] S2 = .ok (.nx [some (.int (m : Nat)), x1, some (.lst (ds.map .int)), some (.ref (S.length + 4)), some (.int (u + (i + 1) : Nat)), some (.str (nm4 j)), some (.int (ar4 j : Nat)), some (rowD rw_)]) S2 := fun S2 => by
        have e : ((u + i : Nat) : Int) + 1 = (u + (i + 1) : Nat) := by omega
        have := r_bin (op := .add) (ow := false) (C := callN T n) (S := S2) (σ := [some (.int (m : Nat)), x1, some (.lst (ds.map .int)), some (.ref (S.length + 4)), some (.int (u + i : Nat)), some (.str (nm4 j)), some (.int (ar4 j : Nat)), some (rowD rw_)]) (r_var (i := 4) rfl) (r_k (d := .int 1)) binV_add
        rw [e] at this
        exact x_asg this rfl
      by_cases hh : ds[u + i] < 1 + ds[0] % 3
      · have ho := giv_at j hj S (upd4 f j rs) (some (Z.Obj.dct (refsD S.length)))
        rw [upd_at] at ho
        have hl : (rs.map rowD).length < sizeLine := small9 (by rw [List.length_map]; omega)
        have hx := append_ok_ (d := rowD rw_) ho hl
        have e3 : (S ++ (lists4 (upd4 f j rs) ++ [some (Z.Obj.dct (refsD S.length))])).set (S.length + j) (some (.lst (rs.map rowD ++ [rowD rw_]))) = S ++ (lists4 (upd4 f j (rs ++ [rw_])) ++ [some (.dct (refsD S.length))]) := by
          have := giv_put j hj S (upd4 f j rs) (rs ++ [rw_]) (some (Z.Obj.dct (refsD S.length)))
          rw [upd_upd] at this
          rw [← this]; simp
        rw [e3] at hx
        exact ⟨_, _, rfl, .inl (b_cons (x_if_t (hc _) (decide_eq_true hh) (b_cons (x_expr (r_bm (giv_idx j hj S _ _ _ rfl rfl) (bmT_app ho) (s_cons (r_var rfl) s_nil) hx)) b_nil)) (b_cons (hadd _) b_nil)), rs ++ [rw_], _, rfl, rfl, fun r hr => by
          rcases List.mem_append.mp hr with h | h
          · exact hrs r h
          · rw [List.mem_singleton] at h; rw [h]; exact List.mem_of_getElem? hr2, by simp; omega⟩
      · exact ⟨_, _, rfl, .inl (b_cons (x_if_f (hc _) (decide_eq_false hh) b_nil) (b_cons (hadd _) b_nil)), rs, _, rfl, rfl, hrs, by omega⟩
  rw [List.length_map] at e1
  exact ⟨rs, y7, hrs, e1⟩
def gvOf (f : Nat → List Row) : Tabs := [("e", f 0), ("c", f 1), ("d", f 2), ("p", f 3)]
theorem frzK_cons {n : Nat} {S S1 S2 : Store} {k x y : D} {xs r : List (D × D)} (h : frzD n S x = some (y, S1)) (h2 : frzK n S1 xs = some (r, S2)) : frzK n S ((k, x) :: xs) = some ((k, y) :: r, S2) := by
  simp only [frzK, h, h2, Option.map_some]
theorem frzD_refD {n : Nat} {S : Store} {l : Nat} {kvs : List (D × D)} {p : List (D × D) × Store} (h : objAt S l = some (.dct kvs)) (h2 : frzK n (S.set l none) kvs = some p) : frzD (n + 1) S (.ref l) = some (.dct p.1, p.2) := by
  rw [frzD, h]
  simp only [h2, Option.map_some]
theorem frz_given (S : Store) (f : Nat → List Row) : frzD FRZ (S ++ (lists4 f ++ [some (Z.Obj.dct (refsD S.length))])) (.ref (S.length + 4)) = some (tD (gvOf f), S ++ [none, none, none, none, none]) := by
  have ho : objAt (S ++ (lists4 f ++ [some (Z.Obj.dct (refsD S.length))])) (S.length + 4) = some (.dct (refsD S.length)) := by rw [objAt_off]; rfl
  have fz : ∀ (n : Nat) (L : Store) (j : Nat) (rs : List Row), objAt L j = some (.lst (rs.map rowD)) → frzD (n + 1) (S ++ L) (.ref (S.length + j)) = some (rowsD rs, S ++ L.set j none) := fun n L j rs h => by
    have h2 : objAt (S ++ L) (S.length + j) = some (.lst (rs.map rowD)) := by rw [objAt_off]; exact h
    simp only [frzD, h2, set_off, frzL_map (fun a S => rowD_val.frz n S a), Option.map_some]
    rfl
  refine frzD_refD (n := 3) ho (p := (kD rowsD (gvOf f), S ++ [none, none, none, none, none])) ?_
  rw [set_off]
  exact frzK_cons (fz 2 _ 0 (f 0) rfl) (frzK_cons (fz 2 _ 1 (f 1) rfl) (frzK_cons (fz 2 _ 2 (f 2) rfl) (frzK_cons (fz 2 _ 3 (f 3) rfl) (by simp [frzK]; rfl))))
theorem putAll_kD {α : Type} {f : α → D} : ∀ (b a : List (Str × α)), putAll (kD f a) (kD f b) = kD f (b.foldl (fun l p => putA p.1 p.2 l) a)
  | [], a => rfl
  | p :: b, a => by
    have e : putAll (kD f a) (kD f (p :: b)) = putAll (putD (kD f a) (.str p.1) (f p.2)) (kD f b) := rfl
    rw [e, put_kD, putAll_kD b]
    rfl
theorem given_ok (hr : T Y.rows = some (fRows Y)) (gg : Gen T I) (hT : T Y.given = some (fGiven I Y)) (m n : Nat) (hm : 0 < m) (hm8 : m ≤ 8) (cell : Int) (S : Store) (hn : 3 < n) :
    ∃ f : Nat → List Row, (∀ j, j < 4 → ∀ r ∈ f j, r ∈ rowsOf m (ar4 j)) ∧ ∃ T', callN T (n + 1) Y.given [.int (m : Nat), .int cell] S = .ok (tD (gvOf f)) (S ++ T') := by
  obtain ⟨k, rfl⟩ : ∃ k, n = k + 1 := ⟨n - 1, by omega⟩
  have hmm : m * m ≤ 64 := Nat.mul_le_mul hm8 hm8
  obtain ⟨ds, hl, hd⟩ := digits gg k cell 4 (m * m + 2 * m + 2) S (by decide) (by decide) (by omega)
  have hcnt : ev (callN T (k + 1)) [some (.int (m : Nat)), some (.int cell), none, none, none, none, none, none] (.bin .add false (.bin .add false (.bin .mul false (.var 0) (.var 0)) (.bin .mul false (.k (.int 2)) (.var 0))) (.k (.int 2))) false S = .ok (.int (m * m + 2 * m + 2 : Nat)) S := by
    have e : ((m * m + 2 * m + 2 : Nat) : Int) = (m : Int) * m + 2 * m + 2 := by simp
    rw [e]
    exact r_bin (r_bin (r_bin (r_var rfl) (r_var rfl) (binV_mulL (cMul_r (by omega) (by omega)))) (r_bin r_k (r_var rfl) (binV_mulL (cMul_r (by omega) (by omega)))) binV_add) r_k binV_add
  have hdig : ev (callN T (k + 1)) [some (.int (m : Nat)), some (.int cell), none, none, none, none, none, none] (.call I.digits .val (.cons (.var 1) (.cons (.k (.int 4)) (.cons (.bin .add false (.bin .add false (.bin .mul false (.var 0) (.var 0)) (.bin .mul false (.k (.int 2)) (.var 0))) (.k (.int 2))) .nil)))) false S = .ok (.lst (ds.map D.int)) S :=
    r_call (s_cons (r_var rfl) (s_cons r_k (s_cons hcnt s_nil))) hd dig_val
  have hdct : ev (callN T (k + 1)) [some (.int (m : Nat)), some (.int cell), some (.lst (ds.map .int)), none, none, none, none, none] (.dct true (.cons (.k (.str "e")) (.cons (.lst true .nil) (.cons (.k (.str "c")) (.cons (.lst true .nil) (.cons (.k (.str "d")) (.cons (.lst true .nil) (.cons (.k (.str "p")) (.cons (.lst true .nil) .nil)))))))) .nil) false S
      = .ok (.ref (S.length + 4)) (S ++ (lists4 (fun _ => []) ++ [some (Z.Obj.dct (refsD S.length))])) := by
    have h0 : ∀ L : Store, mkL true [] (S ++ L) = .ok (.ref (S.length + L.length)) (S ++ (L ++ [some (.lst [])])) := fun L => by simp
    have hes : evs (callN T (k + 1)) [some (.int (m : Nat)), some (.int cell), some (.lst (ds.map .int)), none, none, none, none, none] (.cons (.k (.str "e")) (.cons (.lst true .nil) (.cons (.k (.str "c")) (.cons (.lst true .nil) (.cons (.k (.str "d")) (.cons (.lst true .nil) (.cons (.k (.str "p")) (.cons (.lst true .nil) .nil)))))))) S
        = .ok [.str "e", .ref (S.length + 0), .str "c", .ref (S.length + 1), .str "d", .ref (S.length + 2), .str "p", .ref (S.length + 3)] (S ++ lists4 (fun _ => [])) := by
      have h1 := h0 []
      rw [List.append_nil] at h1
      exact s_cons r_k (s_cons (r_lst s_nil h1) (s_cons r_k (s_cons (r_lst s_nil (h0 [some (.lst [])])) (s_cons r_k (s_cons (r_lst s_nil (h0 [some (.lst []), some (.lst [])])) (s_cons r_k (s_cons (r_lst s_nil (h0 [some (.lst []), some (.lst []), some (.lst [])])) s_nil)))))))
    have hp : pairUp [.str "e", .ref (S.length + 0), .str "c", .ref (S.length + 1), .str "d", .ref (S.length + 2), .str "p", .ref (S.length + 3)] = some (refsD S.length) := rfl
    have hpa : putAll [] (refsD S.length) = refsD S.length := by
      have e : refsD S.length = kD (fun i : Nat => D.ref i) [("e", S.length + 0), ("c", S.length + 1), ("d", S.length + 2), ("p", S.length + 3)] := rfl
      rw [e, show ([] : List (D × D)) = kD (fun i : Nat => D.ref i) [] from rfl, putAll_kD]
      rfl
    have hmk : mkD true (refsD S.length) (S ++ lists4 (fun _ => [])) = .ok (.ref (S.length + 4)) (S ++ (lists4 (fun _ => []) ++ [some (Z.Obj.dct (refsD S.length))])) := by
      have h1 : (refsD S.length).length ≤ sizeLine := small5 (by simp [refsD])
      unfold mkD
      rw [if_pos h1, if_pos rfl]
      simp [lists4]
    have hfl : flatKeys (refsD S.length) = true := rfl
    have hl15 : decide ((refsD S.length).length ≤ 15) = true := rfl
    simp only [ev, fin_false, hes, R.ok_bind, hp, hfl, hl15, Bool.and_self, if_true, hpa, hmk]
  have hlen : ∀ j, (rowsOf m (ar4 j)).length = m ^ ar4 j := fun j => rowsOf_len m _
  have h1 : 0 < ds.length := by omega
  have p0 : m ^ ar4 0 = m * m := Nat.pow_two m
  have p1 : m ^ ar4 1 = m := Nat.pow_one m
  have p2 : m ^ ar4 2 = m := Nat.pow_one m
  have p3 : m ^ ar4 3 = 1 := rfl
  obtain ⟨r0, a0, q0, e0⟩ := giv0 hr m (k + 1) hm hm8 0 (by omega) ds 1 S (fun _ => []) (some (.int cell)) none hn (by rw [hlen, p0]; omega) h1 rfl
  rw [hlen, p0] at e0
  obtain ⟨r1, a1, q1, e1⟩ := giv0 hr m (k + 1) hm hm8 1 (by omega) ds (1 + m * m) S _ (some (.int cell)) a0 hn (by rw [hlen, p1]; omega) h1 (show upd4 (fun _ => []) 0 r0 1 = [] from rfl)
  rw [hlen, p1] at e1
  obtain ⟨r2, a2, q2, e2⟩ := giv0 hr m (k + 1) hm hm8 2 (by omega) ds (1 + m * m + m) S _ (some (.int cell)) a1 hn (by rw [hlen, p2]; omega) h1 (show upd4 (upd4 (fun _ => []) 0 r0) 1 r1 2 = [] from rfl)
  rw [hlen, p2] at e2
  obtain ⟨r3, a3, q3, e3⟩ := giv0 hr m (k + 1) hm hm8 3 (by omega) ds (1 + m * m + m + m) S _ (some (.int cell)) a2 hn (by rw [hlen, p3]; omega) h1 (show upd4 (upd4 (upd4 (fun _ => []) 0 r0) 1 r1) 2 r2 3 = [] from rfl)
  rw [hlen, p3] at e3
  refine ⟨upd4 (upd4 (upd4 (upd4 (fun _ => []) 0 r0) 1 r1) 2 r2) 3 r3, fun j hj r hrm => ?_, [none, none, none, none, none], ?_⟩
  · have : j = 0 ∨ j = 1 ∨ j = 2 ∨ j = 3 := by omega
    rcases this with rfl | rfl | rfl | rfl
    · exact q0 r hrm
    · exact q1 r hrm
    · exact q2 r hrm
    · exact q3 r hrm
  · have hI : ∀ σ S, evI (callN T (k + 1)) σ (.seq (.lst false (.cons (.tup (.cons (.k (.str "e")) (.cons (.k (.int 2)) .nil))) (.cons (.tup (.cons (.k (.str "c")) (.cons (.k (.int 1)) .nil))) (.cons (.tup (.cons (.k (.str "d")) (.cons (.k (.int 1)) .nil))) (.cons (.tup (.cons (.k (.str "p")) (.cons (.k (.int 0)) .nil))) .nil)))))) S = .ok [.tup [.str "e", .int 2], .tup [.str "c", .int 1], .tup [.str "d", .int 1], .tup [.str "p", .int 0]] S := fun σ S =>
      i_seq (r_lst (s_cons (r_tup (s_cons r_k (s_cons r_k s_nil)) (tup_len (by simp))) (s_cons (r_tup (s_cons r_k (s_cons r_k s_nil)) (tup_len (by simp))) (s_cons (r_tup (s_cons r_k (s_cons r_k s_nil)) (tup_len (by simp))) (s_cons (r_tup (s_cons r_k (s_cons r_k s_nil)) (tup_len (by simp))) s_nil)))) (cold (by simp))) rfl
    have hloop : evS (callN T (k + 1)) (lGiv1 Y) [some (.int (m : Nat)), some (.int cell), some (.lst (ds.map .int)), some (.ref (S.length + 4)), some (.int 1), none, none, none] (S ++ (lists4 (fun _ => []) ++ [some (Z.Obj.dct (refsD S.length))])) = .ok (.nx [some (.int (m : Nat)), some (.int cell), some (.lst (ds.map .int)), some (.ref (S.length + 4)), some (.int (1 + m * m + m + m + 1 : Nat)), some (.str (nm4 3)), some (.int (ar4 3 : Nat)), a3]) (S ++ (lists4 (upd4 (upd4 (upd4 (upd4 (fun _ => []) 0 r0) 1 r1) 2 r2) 3 r3) ++ [some (.dct (refsD S.length))])) := by
      simp only [lGiv1, evS, hI, R.ok_bind, forR, asg, asgs]
      have g0 : evB (callN T (k + 1)) (bGiv1 Y) [some (.int (m : Nat)), some (.int cell), some (.lst (ds.map .int)), some (.ref (S.length + 4)), some (.int 1), some (.str "e"), some (.int 2), none] _ = _ := b_cons e0 b_nil
      have g1 : evB (callN T (k + 1)) (bGiv1 Y) [some (.int (m : Nat)), some (.int cell), some (.lst (ds.map .int)), some (.ref (S.length + 4)), some (.int (1 + m * m : Nat)), some (.str "c"), some (.int 1), a0] _ = _ := b_cons e1 b_nil
      have g2 : evB (callN T (k + 1)) (bGiv1 Y) [some (.int (m : Nat)), some (.int cell), some (.lst (ds.map .int)), some (.ref (S.length + 4)), some (.int (1 + m * m + m : Nat)), some (.str "d"), some (.int 1), a1] _ = _ := b_cons e2 b_nil
      have g3 : evB (callN T (k + 1)) (bGiv1 Y) [some (.int (m : Nat)), some (.int cell), some (.lst (ds.map .int)), some (.ref (S.length + 4)), some (.int (1 + m * m + m + m : Nat)), some (.str "p"), some (.int 0), a2] _ = _ := b_cons e3 b_nil
      simp only [List.length_cons, List.length_nil, Nat.zero_add, Nat.reduceAdd, Nat.reduceLT, if_true, List.set_cons_succ, List.set_cons_zero, g0, R.ok_bind]
      simp only [nm4, ar4, List.getD_cons_zero, List.getD_cons_succ, List.length_cons, List.length_nil, Nat.zero_add, Nat.reduceAdd, Nat.reduceLT, if_true, List.set_cons_succ, List.set_cons_zero, g1, g2, g3, R.ok_bind]
    exact x_fn hT rfl (b_cons (x_asg hdig rfl) (b_cons (x_asg hdct rfl) (b_cons (x_asg r_k rfl) (b_cons (x_frzv hloop rfl (frz_given S _)) (b_ret (x_ret (r_var rfl)))))))
end Zg

/-! HN: _law_fault finds nothing at a right question. -/
namespace Zg
open PySem Z
structure NIds where
  (name names faulty fault : Nat)
def fName : Fn := ⟨1, 3,
  (.cons (.asg (.nm 1) (.k (.str "abcdefghijklmnopqrstuvwxyz")))
  (.cons (.if_ (.or (.not (.isi (.var 0) .str)) (.or (.cmp .lt (.bi .len false (.cons (.var 0) .nil)) (.k (.int 1))) (.or (.cmp .gt (.bi .len false (.cons (.var 0) .nil)) (.k (.int 12))) (.cmp .notin (.idx (.var 0) (.k (.int 0))) (.var 1))))) (.cons (.ret (.k (.bl false))) .nil) .nil)
  (.cons (.ret (.bi .all false (.cons (.lc false [2] (.cmp .in_ (.var 2) (.bin .add false (.var 1) (.k (.str "0123456789")))) (.nm 2) (.seq (.var 0)) .nil) .nil))) .nil)))⟩
def fNames (N : NIds) : Fn := ⟨1, 2,
  (.cons (.ret (.and (.isi (.var 0) .tuple) (.bi .all false (.cons (.lc false [1] (.call N.name .val (.cons (.var 1) .nil)) (.nm 1) (.seq (.var 0)) .nil) .nil)))) .nil)⟩
def fFaulty (N : NIds) : Fn := ⟨3, 6,
  (.cons (.asg (.nm 3) (.dct true (.cons (.k (.str "true")) (.cons (.k (.int 1)) (.cons (.k (.str "false")) (.cons (.k (.int 1)) (.cons (.k (.str "given")) (.cons (.k (.int 3)) (.cons (.k (.str "same")) (.cons (.k (.int 3)) (.cons (.k (.str "in")) (.cons (.k (.int 3)) (.cons (.k (.str "not")) (.cons (.k (.int 2)) (.cons (.k (.str "and")) (.cons (.k (.int 3)) (.cons (.k (.str "or")) (.cons (.k (.int 3)) (.cons (.k (.str "some")) (.cons (.k (.int 3)) (.cons (.k (.str "all")) (.cons (.k (.int 3)) .nil)))))))))))))))))))) .nil))
  (.cons (.frzv (.setI (.var 3) (.k (.str "grow")) (.k (.int 5))) 3)
  (.cons (.if_ (.or (.not (.isi (.var 0) .tuple)) (.or (.cmp .eq (.bi .len false (.cons (.var 0) .nil)) (.k (.int 0))) (.not (.isi (.idx (.var 0) (.k (.int 0))) .str)))) (.cons (.ret (.k (.bl true))) .nil) .nil)
  (.cons (.asg (.nm 4) (.idx (.var 0) (.k (.int 0))))
  (.cons (.if_ (.cmp .ne (.bm .get2 (.var 3) (.cons (.var 4) (.cons (.k (.int 0)) .nil))) (.bi .len false (.cons (.var 0) .nil))) (.cons (.ret (.k (.bl true))) .nil) .nil)
  (.cons (.if_ (.cmp .eq (.var 4) (.k (.str "same"))) (.cons (.ret (.or (.not (.call N.name .val (.cons (.idx (.var 0) (.k (.int 1))) .nil))) (.not (.call N.name .val (.cons (.idx (.var 0) (.k (.int 2))) .nil))))) .nil) .nil)
  (.cons (.if_ (.or (.cmp .eq (.var 4) (.k (.str "some"))) (.cmp .eq (.var 4) (.k (.str "all")))) (.cons (.ret (.not (.call N.name .val (.cons (.idx (.var 0) (.k (.int 1))) .nil)))) .nil) .nil)
  (.cons (.if_ (.or (.cmp .eq (.var 4) (.k (.str "given"))) (.cmp .eq (.var 4) (.k (.str "in")))) (.cons (.if_ (.or (.not (.call N.name .val (.cons (.idx (.var 0) (.k (.int 1))) .nil))) (.not (.call N.names .val (.cons (.idx (.var 0) (.k (.int 2))) .nil)))) (.cons (.ret (.k (.bl true))) .nil) .nil)
  (.cons (.asg (.nm 5) (.ite (.cmp .eq (.var 4) (.k (.str "given"))) (.var 1) (.var 2)))
  (.cons (.ret (.cmp .ne (.bm .get2 (.var 5) (.cons (.idx (.var 0) (.k (.int 1))) (.cons (.bin .sub false (.k (.int 0)) (.k (.int 1))) .nil))) (.bi .len false (.cons (.idx (.var 0) (.k (.int 2))) .nil)))) .nil))) .nil)
  (.cons (.if_ (.cmp .eq (.var 4) (.k (.str "grow"))) (.cons (.if_ (.or (.not (.call N.name .val (.cons (.idx (.var 0) (.k (.int 1))) .nil))) (.or (.not (.call N.names .val (.cons (.idx (.var 0) (.k (.int 2))) .nil))) (.not (.call N.names .val (.cons (.idx (.var 0) (.k (.int 4))) .nil))))) (.cons (.ret (.k (.bl true))) .nil) .nil)
  (.cons (.ret (.or (.cmp .ne (.bi .len false (.cons (.idx (.var 0) (.k (.int 2))) .nil)) (.bi .len false (.cons (.idx (.var 0) (.k (.int 4))) .nil))) (.cmp .ne (.bi .lenSet false (.cons (.idx (.var 0) (.k (.int 2))) .nil)) (.bi .len false (.cons (.idx (.var 0) (.k (.int 2))) .nil))))) .nil)) .nil)
  (.cons (.ret (.k (.bl false))) .nil))))))))))⟩
def bFault (N : NIds) : B := (.cons (.asg (.nm 6) (.call N.fault .val (.cons (.idx (.var 0) (.var 5)) (.cons (.bin .add false (.var 1) (.tup (.cons (.var 5) .nil))) (.cons (.var 2) (.cons (.var 3) .nil))))))
  (.cons (.if_ (.cmp .isnot (.var 6) (.k .non)) (.cons (.ret (.var 6)) .nil) .nil) .nil))
def lFault (N : NIds) : S := .for_ (.nm 5) (.seq (.bm .get2 (.var 4) (.cons (.idx (.var 0) (.k (.int 0))) (.cons (.lst false .nil) .nil)))) (bFault N)
def fFault (N : NIds) : Fn := ⟨4, 7,
  (.cons (.if_ (.call N.faulty .val (.cons (.var 0) (.cons (.var 2) (.cons (.var 3) .nil)))) (.cons (.ret (.var 1)) .nil) .nil)
  (.cons (.asg (.nm 4) (.dct false (.cons (.k (.str "not")) (.cons (.lst false (.cons (.k (.int 1)) .nil)) (.cons (.k (.str "and")) (.cons (.lst false (.cons (.k (.int 1)) (.cons (.k (.int 2)) .nil))) (.cons (.k (.str "or")) (.cons (.lst false (.cons (.k (.int 1)) (.cons (.k (.int 2)) .nil))) (.cons (.k (.str "some")) (.cons (.lst false (.cons (.k (.int 2)) .nil)) (.cons (.k (.str "all")) (.cons (.lst false (.cons (.k (.int 2)) .nil)) (.cons (.k (.str "grow")) (.cons (.lst false (.cons (.k (.int 3)) .nil)) .nil)))))))))))) .nil))
  (.cons (.if_ (.cmp .eq (.idx (.var 0) (.k (.int 0))) (.k (.str "grow"))) (.cons (.asg (.nm 3) (.bi .dict true (.cons (.var 3) .nil)))
  (.cons (.frzv (.setI (.var 3) (.idx (.var 0) (.k (.int 1))) (.bi .len false (.cons (.idx (.var 0) (.k (.int 2))) .nil))) 3) .nil)) .nil)
  (.cons (lFault N)
  (.cons (.ret (.k .non)) .nil)))))⟩
structure NG (T : Nat → Option Fn) (N : NIds) : Prop where
  name : T N.name = some fName
  names : T N.names = some (fNames N)
  faulty : T N.faulty = some (fFaulty N)
  fault : T N.fault = some (fFault N)
variable {T : Nat → Option Fn} {N : NIds}
def smallS : Str := "abcdefghijklmnopqrstuvwxyz"
def digS : Str := "0123456789"
def okN (z : Str) : Bool := decide (1 ≤ z.length) && (decide (z.length ≤ 12) && ((z.cps.toList.all fun c => decide (c ∈ (smallS ++ digS).cps.toList)) && ((match z.cps.toList with
  | c :: _ => decide (c ∈ smallS.cps.toList)
  | [] => false) && PyData.strOk z)))
theorem name_ok (g : NG T N) (n : Nat) (z : Str) (S : Store) (h : okN z = true) : callN T (n + 1) N.name [.str z] S = .ok (.bl true) S := by
  simp only [okN, Bool.and_eq_true, decide_eq_true_eq] at h
  obtain ⟨h1, h2, h3, h4, h5⟩ := h
  have hz : z.length ≤ sizeLine := small5 (by omega)
  obtain ⟨c, cs, hc⟩ : ∃ c cs, z.cps.toList = c :: cs := by
    cases e : z.cps.toList with
    | nil => rw [e] at h4; cases h4
    | cons c cs => exact ⟨c, cs, rfl⟩
  rw [hc] at h4
  have h4 : c ∈ smallS.cps.toList := of_decide_eq_true h4
  have hlen : ∀ σ : Z.Env, σ[0]? = some (some (.str z)) → ev (callN T n) σ (.bi .len false (.cons (.var 0) .nil)) false S = .ok (.int z.length) S := fun σ e => r_bi (s_cons (r_var e) s_nil) (biV_len_str hz)
  have hlt : cmpV .lt (.int z.length) (.int 1) S = some false := by
    have : ¬ (z.length : Int) < 1 := by omega
    simp only [cmpV, decide_eq_false this]
  have hgt : cmpV .gt (.int z.length) (.int 12) S = some false := by
    have : ¬ (12 : Int) < z.length := by omega
    simp only [cmpV, decide_eq_false this]
  have h0 : ev (callN T n) [some (.str z), some (.str smallS), none] (.idx (.var 0) (.k (.int 0))) false S = .ok (.str ⟨#[c]⟩) S := r_idx (r_var rfl) r_k (idxV_str hz (by rw [hc]; exact atI_zero c cs))
  have hin : cmpV .notin (.str ⟨#[c]⟩) (.str smallS) S = some false := by
    have : inV (.str ⟨#[c]⟩) (.str smallS) S = some true := by
      show some (decide (c ∈ smallS.cps.toList)) = _
      rw [decide_eq_true h4]
    exact cmp_notin this
  have hcond : ev (callN T n) [some (.str z), some (.str smallS), none] (.or (.not (.isi (.var 0) .str)) (.or (.cmp .lt (.bi .len false (.cons (.var 0) .nil)) (.k (.int 1))) (.or (.cmp .gt (.bi .len false (.cons (.var 0) .nil)) (.k (.int 12))) (.cmp .notin (.idx (.var 0) (.k (.int 0))) (.var 1))))) true S = .ok (.bl false) S :=
    r_or_f (r_not_t (r_isi (r_var rfl) rfl)) rfl (r_or_f (r_cmp (hlen _ rfl) r_k hlt) rfl (r_or_f (r_cmp (hlen _ rfl) r_k hgt) rfl (r_cmp h0 (r_var rfl) hin)))
  have hm := mapR_map (S := S) (l := z.cps.toList) (k := fun c => D.str ⟨#[c]⟩) (g := fun _ => D.bl true) (f := fun d S2 => match asg (.nm 2) d (wipeE [some (.str z), some (.str smallS), none] [2]) with
      | some σ1 => (evC (callN T n) σ1 .nil S2).bind fun b S3 => if b then (ev (callN T n) σ1 (.cmp .in_ (.var 2) (.bin .add false (.var 1) (.k (.str "0123456789")))) false S3).bind fun y S4 => .ok [y] S4 else .ok [] S3
      | none => .bad) fun c hc => by
    have ha : asg (.nm 2) (.str ⟨#[c]⟩) (wipeE [some (.str z), some (.str smallS), none] [2]) = some [some (.str z), some (.str smallS), some (.str ⟨#[c]⟩)] := rfl
    have hadd : binV .add false (.str smallS) (.str digS) S = .ok (.str (smallS ++ digS)) S := by
      have : smallS.length + digS.length ≤ sizeLine := by decide +kernel
      simp only [binV, if_pos this]
    have hi : cmpV .in_ (.str ⟨#[c]⟩) (.str (smallS ++ digS)) S = some true := by
      have : inV (.str ⟨#[c]⟩) (.str (smallS ++ digS)) S = some true := by
        show some (decide (c ∈ (smallS ++ digS).cps.toList)) = _
        rw [List.all_eq_true.mp h3 c hc]
      exact cmp_in this
    have he : ev (callN T n) [some (.str z), some (.str smallS), some (.str ⟨#[c]⟩)] (.cmp .in_ (.var 2) (.bin .add false (.var 1) (.k (.str "0123456789")))) false S = .ok (.bl true) S := r_cmp (r_var rfl) (r_bin (r_var rfl) r_k hadd) hi
    simp only [ha, evC, R.ok_bind, if_true, he]
  have hall : biV .all false [.lst (z.cps.toList.map fun _ => D.bl true)] S = .ok (.bl true) S := by
    simp only [biV, lstOf, allBl_map (l := z.cps.toList) (p := fun _ => true)]
    simp
  have hsz : z.cps.toList.length ≤ 12 := by
    have : z.cps.toList.length = z.length := by simp [Str.length]
    omega
  exact x_fn g.name rfl (b_cons (x_asg r_k rfl) (b_cons (x_if_f hcond rfl b_nil) (b_ret (x_ret (r_bi (s_cons (r_lc (i_seq (r_var rfl) rfl) hm (cold (by rw [List.length_map]; omega))) s_nil) hall)))))
theorem names_ok (g : NG T N) (n : Nat) (xs : List Str) (S : Store) (h : ∀ x ∈ xs, okN x = true) (hl : xs.length ≤ 1000) : callN T (n + 2) N.names [.tup (sD xs)] S = .ok (.bl true) S := by
  have hm := mapR_map (S := S) (l := xs) (k := D.str) (g := fun _ => D.bl true) (f := fun d S2 => match asg (.nm 1) d (wipeE [some (.tup (sD xs)), none] [1]) with
      | some σ1 => (evC (callN T (n + 1)) σ1 .nil S2).bind fun b S3 => if b then (ev (callN T (n + 1)) σ1 (.call N.name .val (.cons (.var 1) .nil)) false S3).bind fun y S4 => .ok [y] S4 else .ok [] S3
      | none => .bad) fun x hx => by
    have ha : asg (.nm 1) (.str x) (wipeE [some (.tup (sD xs)), none] [1]) = some [some (.tup (sD xs)), some (.str x)] := rfl
    have he : ev (callN T (n + 1)) [some (.tup (sD xs)), some (.str x)] (.call N.name .val (.cons (.var 1) .nil)) false S = .ok (.bl true) S := r_call (s_cons (r_var rfl) s_nil) (name_ok g n x S (h x hx)) (endV_bl _ _)
    simp only [ha, evC, R.ok_bind, if_true, he]
  have hall : biV .all false [.lst (xs.map fun _ => D.bl true)] S = .ok (.bl true) S := by
    simp only [biV, lstOf, allBl_map (l := xs) (p := fun _ => true)]
    simp
  exact x_fn g.names rfl (b_ret (x_ret (r_and_t (r_isi (r_var rfl) rfl) rfl (r_bi (s_cons (r_lc (i_seq (r_var rfl) rfl) hm (cold (by rw [List.length_map]; omega))) s_nil) hall))))
theorem putAll_nil {α : Type} {f : α → D} (b : List (Str × α)) : putAll [] (kD f b) = kD f (b.foldl (fun l p => putA p.1 p.2 l) []) := putAll_kD b []
def lens10 : List (Str × Nat) := [("true", 1), ("false", 1), ("given", 3), ("same", 3), ("in", 3), ("not", 2), ("and", 3), ("or", 3), ("some", 3), ("all", 3)]
def lens11 : List (Str × Nat) := [("true", 1), ("false", 1), ("given", 3), ("same", 3), ("in", 3), ("not", 2), ("and", 3), ("or", 3), ("some", 3), ("all", 3), ("grow", 5)]
def vtop (voc gr : List (Str × Nat)) : Q → Prop
  | .given r xs => okN r = true ∧ (∀ x ∈ xs, okN x = true) ∧ lookA r voc = some xs.length ∧ xs.length ≤ 100
  | .same x y => okN x = true ∧ okN y = true
  | .inn r xs => okN r = true ∧ (∀ x ∈ xs, okN x = true) ∧ lookA r gr = some xs.length ∧ xs.length ≤ 100
  | .qu _ x _ => okN x = true
  | .grow r bs _ ts => okN r = true ∧ (∀ x ∈ bs, okN x = true) ∧ (∀ x ∈ ts, okN x = true) ∧ ts.length = bs.length ∧ bs.Nodup ∧ bs.length ≤ 100
  | _ => True
theorem get2_kD {l : List (Str × Nat)} {x : Str} {z : D} {S : Store} : bmV .get2 (vD l) [.str x, z] S = .ok (((lookA x l).map intD).getD z) S := by
  rw [vD]
  rw [show bmV .get2 (.dct (kD intD l)) [.str x, z] S = (if okKey (kD intD l) (.str x) then .ok ((getK (kD intD l) (.str x)).getD z) S else .bad) from rfl, get_kD]
  rfl
theorem ne_int (a b : Int) (S : Store) : cmpV .ne (.int a) (.int b) S = some (!decide (a = b)) := by simp only [cmpV, pyEq_int]; rfl
theorem itemsN (q : Q) : lookA q.word lens11 = some (q.items.length + 1) := by
  cases q with
  | bi w p q => cases w <;> rfl
  | qu w x p => cases w <;> rfl
  | _ => rfl
theorem r_not_fE {C : CallT} {σ : Z.Env} {S S1 : Store} {x : D} {a : E} {b c : Bool} (ha : ev C σ a false S = .ok x S1) (h : truV x S1 = some c) (e : (!c) = b) : ev C σ (.not a) false S = .ok (.bl b) S1 := e ▸ r_not_f ha h
theorem r_not_tE {C : CallT} {σ : Z.Env} {S S1 : Store} {a : E} {b c : Bool} (ha : ev C σ a true S = .ok (.bl c) S1) (e : (!c) = b) : ev C σ (.not a) true S = .ok (.bl b) S1 := e ▸ r_not_t ha
theorem dedup_nodup : ∀ {xs : List D}, xs.Nodup → dedup xs = xs
  | [], _ => rfl
  | x :: xs, h => by
    rw [List.nodup_cons] at h
    rw [dedup, dedup_nodup h.2, List.filter_eq_self.mpr]
    intro y hy
    exact decide_eq_true fun e => h.1 (e ▸ hy)
section
local macro_rules | `(tactic| walk_at "zV") => `(tactic| first | exact eqw _ _ _ | (with_reducible assumption) | rfl | exact tupN _ rfl | exact idxV_tup (at0 _ _) | (focus (apply cold; simp [Q.terms, Q.parts, Q.bnd, Q.idx]; done)) | (focus (apply binV_tupA; simp; done)) | exact binV_mod (by decide) | exact cmp_notin (in_sD _ _ _) | exact cmp_in (in_sD _ _ _))
local macro_rules | `(tactic| walk_at "zC") => `(tactic| first | rfl | assumption | decide)
local macro_rules | `(tactic| walk_at "zN") => `(tactic| (focus (apply tup_len; simp [Q.terms, Q.parts, Q.bnd, Q.idx]; done)))
local macro_rules | `(tactic| walk_at "zW") => `(tactic| first | (with_reducible assumption) | exact endV_q _ _ | exact endV_qs _ _ | exact endV_bl _ _ | exact endV_int _ _ | exact endV_tup (sD_nr _) _ | exact endV_lst (sD_nr _) _ | rfl)
local macro_rules | `(tactic| walk_at "zO") => `(tactic| first | (with_reducible exact o_nil) | ((with_reducible apply o_one); walk_at "zE"))
local macro_rules | `(tactic| walk_at "zL") => `(tactic| first | ((with_reducible apply s_nilE); rfl) | ((with_reducible apply s_consE); walk_at "zE"; walk_at "zL"; rfl))
local macro_rules | `(tactic| walk_at "zE") => `(tactic| first | (with_reducible exact r_k) | ((with_reducible apply r_var); rfl) | (with_reducible exact r_gl) | (with_reducible assumption) | ((with_reducible apply r_tup); walk_at "zL"; walk_at "zN") | ((with_reducible apply r_lst); walk_at "zL"; walk_at "zV") | ((with_reducible apply r_cmp); walk_at "zE"; walk_at "zE"; walk_at "zV") | ((with_reducible apply r_bin); walk_at "zE"; walk_at "zE"; walk_at "zV") | ((with_reducible apply r_idx); walk_at "zE"; walk_at "zE"; walk_at "zV") | ((with_reducible apply r_slc); walk_at "zE"; walk_at "zO"; walk_at "zO"; walk_at "zV") | ((with_reducible apply r_bi); walk_at "zL"; walk_at "zV") | ((with_reducible apply r_bm); walk_at "zE"; walk_at "zV"; walk_at "zL"; walk_at "zV") | ((with_reducible apply r_isi); walk_at "zE"; walk_at "zV") | ((with_reducible apply r_call); walk_at "zL"; (with_reducible assumption); walk_at "zW") | ((with_reducible apply r_not_tE); walk_at "zE"; rfl) | ((with_reducible apply r_not_fE); walk_at "zE"; rfl; rfl) | ((with_reducible apply t_var); rfl; rfl) | ((with_reducible apply t_call); walk_at "zE"; rfl) | ((with_reducible apply r_or_t); walk_at "zE"; walk_at "zC") | ((with_reducible apply r_or_f); walk_at "zE"; walk_at "zC"; walk_at "zE") | ((with_reducible apply r_and_f); walk_at "zE"; walk_at "zC") | ((with_reducible apply r_and_t); walk_at "zE"; walk_at "zC"; walk_at "zE") | ((with_reducible apply r_ite_t); walk_at "zE"; walk_at "zC"; walk_at "zE") | ((with_reducible apply r_ite_f); walk_at "zE"; walk_at "zC"; walk_at "zE"))
local macro_rules | `(tactic| walk_at "zS") => `(tactic| first | ((with_reducible apply x_asg); walk_at "zE"; rfl) | ((with_reducible apply x_ret); walk_at "zE") | (with_reducible assumption) | ((with_reducible apply x_if_f); walk_at "zE"; walk_at "zC"; walk_at "zB") | ((with_reducible apply x_if_t); walk_at "zE"; walk_at "zC"; walk_at "zB") | ((with_reducible apply x_setI); walk_at "zE"; walk_at "zE"; walk_at "zE"; walk_at "zV") | ((with_reducible apply x_expr); walk_at "zE"))
local macro_rules | `(tactic| walk_at "zB") => `(tactic| first | (with_reducible exact b_nil) | ((with_reducible apply b_cons); walk_at "zS"; walk_at "zB") | ((with_reducible apply b_ret); walk_at "zS"))

theorem faulty_ok (g : NG T N) (n : Nat) (q : Q) (voc gr : List (Str × Nat)) (S : Store) (h : vtop voc gr q) : callN T (n + 3) N.faulty [q.toD, vD voc, vD gr] S = .ok (.bl false) (S ++ [none]) := by
  have hd : ev (callN T (n + 2)) [some q.toD, some (vD voc), some (vD gr), none, none, none] (.dct true (.cons (.k (.str "true")) (.cons (.k (.int 1)) (.cons (.k (.str "false")) (.cons (.k (.int 1)) (.cons (.k (.str "given")) (.cons (.k (.int 3)) (.cons (.k (.str "same")) (.cons (.k (.int 3)) (.cons (.k (.str "in")) (.cons (.k (.int 3)) (.cons (.k (.str "not")) (.cons (.k (.int 2)) (.cons (.k (.str "and")) (.cons (.k (.int 3)) (.cons (.k (.str "or")) (.cons (.k (.int 3)) (.cons (.k (.str "some")) (.cons (.k (.int 3)) (.cons (.k (.str "all")) (.cons (.k (.int 3)) .nil)))))))))))))))))))) .nil) false S = .ok (.ref S.length) (S ++ [some (.dct (kD intD lens10))]) := by
    have hes : evs (callN T (n + 2)) [some q.toD, some (vD voc), some (vD gr), none, none, none] (.cons (.k (.str "true")) (.cons (.k (.int 1)) (.cons (.k (.str "false")) (.cons (.k (.int 1)) (.cons (.k (.str "given")) (.cons (.k (.int 3)) (.cons (.k (.str "same")) (.cons (.k (.int 3)) (.cons (.k (.str "in")) (.cons (.k (.int 3)) (.cons (.k (.str "not")) (.cons (.k (.int 2)) (.cons (.k (.str "and")) (.cons (.k (.int 3)) (.cons (.k (.str "or")) (.cons (.k (.int 3)) (.cons (.k (.str "some")) (.cons (.k (.int 3)) (.cons (.k (.str "all")) (.cons (.k (.int 3)) .nil)))))))))))))))))))) S = .ok [.str "true", .int 1, .str "false", .int 1, .str "given", .int 3, .str "same", .int 3, .str "in", .int 3, .str "not", .int 2, .str "and", .int 3, .str "or", .int 3, .str "some", .int 3, .str "all", .int 3] S := by
      repeat (first | exact s_nil | refine s_cons r_k ?_)
    have hp : pairUp [.str "true", .int 1, .str "false", .int 1, .str "given", .int 3, .str "same", .int 3, .str "in", .int 3, .str "not", .int 2, .str "and", .int 3, .str "or", .int 3, .str "some", .int 3, .str "all", .int 3] = some (kD intD lens10) := rfl
    have hpa : putAll [] (kD intD lens10) = kD intD lens10 := by rw [putAll_nil]; rfl
    have hmk : mkD true (kD intD lens10) S = .ok (.ref S.length) (S ++ [some (.dct (kD intD lens10))]) := by
      have h1 : (kD intD lens10).length ≤ sizeLine := small5 (by simp [kD, lens10])
      unfold mkD
      rw [if_pos h1, if_pos rfl]
    have hfl : flatKeys (kD intD lens10) = true := rfl
    have hl15 : decide ((kD intD lens10).length ≤ 15) = true := rfl
    simp only [ev, fin_false, hes, R.ok_bind, hp, hfl, hl15, Bool.and_self, if_true, hpa, hmk]
  have hs : setIV (.ref S.length) (.str "grow") (.int 5) (S ++ [some (.dct (kD intD lens10))]) = some (S ++ [some (.dct (kD intD lens11))]) := by
    have h1 : (kD intD lens10).length < sizeLine := small9 (by simp [kD, lens10])
    have h2 : putD (kD intD lens10) (.str "grow") (intD 5) = kD intD lens11 := by rw [put_kD]; rfl
    have h2 : putD (kD intD lens10) (.str "grow") (.int 5) = kD intD lens11 := h2
    simp only [setIV, objAt_last, okKey, kFlat, Option.isSome_some, Bool.true_and, decide_eq_true h1, if_true, h2, set_last]
  have hf : frzD FRZ (S ++ [some (.dct (kD intD lens11))]) (.ref S.length) = some (vD lens11, S ++ [none]) := by
    show frzD 4 _ _ = _
    simp only [frzD, objAt_last, set_last, frzK_kD intD_val, Option.map_some]
  generalize hS1 : S ++ [none] = S1 at *
  have hw : ∀ (σ : Z.Env), σ[0]? = some (some q.toD) → ev (callN T (n + 2)) σ (.idx (.var 0) (.k (.int 0))) false S1 = .ok (.str q.word) S1 := fun σ e => word_at _ q S1 e
  have hlq : ∀ (σ : Z.Env), σ[0]? = some (some q.toD) → ev (callN T (n + 2)) σ (.bi .len false (.cons (.var 0) .nil)) false S1 = .ok (.int ((q.items.length + 1 : Nat))) S1 := fun σ e => by
    refine r_bi (s_cons (r_var e) s_nil) ?_
    rw [toD_eq, biV_len_seq (d := .tup (.str q.word :: q.items)) (xs := .str q.word :: q.items) (fun _ h => nomatch h) rfl, List.length_cons]
  have hisi : isiV q.toD .tuple S1 = some true := by rw [toD_eq]; rfl
  have c0 : cmpV .eq (.int ((q.items.length + 1 : Nat))) (.int 0) S1 = some false := by
    have : ¬ (((q.items.length + 1 : Nat) : Int) = 0) := by omega
    simp only [cmpV, pyEq_int, decide_eq_false this]
  have c1 : ev (callN T (n + 2)) [some q.toD, some (vD voc), some (vD gr), some (vD lens11), none, none] (.or (.not (.isi (.var 0) .tuple)) (.or (.cmp .eq (.bi .len false (.cons (.var 0) .nil)) (.k (.int 0))) (.not (.isi (.idx (.var 0) (.k (.int 0))) .str)))) true S1 = .ok (.bl false) S1 :=
    r_or_f (r_not_t (r_isi (r_var rfl) hisi)) rfl (r_or_f (r_cmp (hlq _ rfl) r_k c0) rfl (r_not_t (c := true) (r_isi (hw _ rfl) rfl)))
  have c2 : ev (callN T (n + 2)) [some q.toD, some (vD voc), some (vD gr), some (vD lens11), some (.str q.word), none] (.cmp .ne (.bm .get2 (.var 3) (.cons (.var 4) (.cons (.k (.int 0)) .nil))) (.bi .len false (.cons (.var 0) .nil))) true S1 = .ok (.bl false) S1 := by
    have h1 : bmV .get2 (vD lens11) [.str q.word, .int 0] S1 = .ok (.int ((q.items.length + 1 : Nat))) S1 := by rw [get2_kD, itemsN]; rfl
    refine r_cmp (r_bm (r_var rfl) rfl (s_cons (r_var rfl) (s_cons r_k s_nil)) h1) (hlq _ rfl) ?_
    rw [ne_int]; simp
  refine x_fn g.faulty rfl (b_cons (x_asg hd rfl) (b_cons (x_frzv (x_setI r_k (r_var rfl) r_k hs) rfl hf) (b_cons (x_if_f c1 rfl b_nil) (b_cons (x_asg (hw _ rfl) rfl) (b_cons (x_if_f c2 rfl b_nil) ?_)))))
  have nm : ∀ x : Str, okN x = true → callN T (n + 2) N.name [.str x] S1 = .ok (.bl true) S1 := fun x hx => name_ok g (n + 1) x S1 hx
  have nms : ∀ xs : List Str, (∀ x ∈ xs, okN x = true) → xs.length ≤ 100 → callN T (n + 2) N.names [.tup (sD xs)] S1 = .ok (.bl true) S1 := fun xs hx hl => names_ok g n xs S1 hx (by omega)
  have ln : ∀ xs : List Str, biV .len false [.tup (sD xs)] S1 = .ok (.int (xs.length : Nat)) S1 := fun xs => by
    rw [biV_len_seq (d := .tup (sD xs)) (xs := sD xs) (fun _ h => nomatch h) rfl, List.length_map]
  cases q with
  | tru => walk_at "zB"
  | fal => walk_at "zB"
  | not p => walk_at "zB"
  | bi w p q => cases w <;> walk_at "zB"
  | qu w x p =>
    have h1 := nm x h
    cases w <;> walk_at "zB"
  | same x y =>
    have h1 := nm x h.1
    have h2 := nm y h.2
    walk_at "zB"
  | given r xs =>
    obtain ⟨a1, a2, a3, a4⟩ := h
    have h1 := nm r a1
    have h2 := nms xs a2 a4
    have h3 : bmV .get2 (vD voc) [.str r, .int (0 - 1)] S1 = .ok (.int (xs.length : Nat)) S1 := by rw [get2_kD, a3]; rfl
    have h4 := ln xs
    have h5 : cmpV .ne (.int (xs.length : Nat)) (.int (xs.length : Nat)) S1 = some false := by rw [ne_int]; simp
    walk_at "zB"
  | inn r xs =>
    obtain ⟨a1, a2, a3, a4⟩ := h
    have h1 := nm r a1
    have h2 := nms xs a2 a4
    have h3 : bmV .get2 (vD gr) [.str r, .int (0 - 1)] S1 = .ok (.int (xs.length : Nat)) S1 := by rw [get2_kD, a3]; rfl
    have h4 := ln xs
    have h5 : cmpV .ne (.int (xs.length : Nat)) (.int (xs.length : Nat)) S1 = some false := by rw [ne_int]; simp
    walk_at "zB"
  | grow r bs p ts =>
    obtain ⟨a1, a2, a3, a4, a5, a6⟩ := h
    have h1 := nm r a1
    have h2 := nms bs a2 a6
    have h3 := nms ts a3 (by omega)
    have h4 := ln bs
    have h5 : biV .len false [.tup (sD ts)] S1 = .ok (.int (bs.length : Nat)) S1 := by rw [ln ts, a4]
    have h6 : cmpV .ne (.int (bs.length : Nat)) (.int (bs.length : Nat)) S1 = some false := by rw [ne_int]; simp
    have h7 : biV .lenSet false [.tup (sD bs)] S1 = .ok (.int (bs.length : Nat)) S1 := by
      have e1 : bs.length < 4000 := by omega
      have e2 : dedup (sD bs) = sD bs := dedup_nodup (by
        rw [List.nodup_iff_pairwise_ne] at a5 ⊢
        exact a5.map _ fun a b hab he => hab (by cases he; rfl))
      simp only [biV, seqOf, all_str, e2, List.length_map, if_pos e1]
    walk_at "zB"
end

def natsD (l : List Nat) : D := .lst (l.map fun i => .int (i : Nat))
theorem natsD_val : Val natsD := ⟨fun l => nr_nats l, fun n S l => frzD_lst _ _ _⟩
def withinL : List (Str × List Nat) := [("not", [1]), ("and", [1, 2]), ("or", [1, 2]), ("some", [2]), ("all", [2]), ("grow", [3])]
theorem get2_f {α : Type} {f : α → D} {l : List (Str × α)} {x : Str} {z : D} {S : Store} : bmV .get2 (.dct (kD f l)) [.str x, z] S = .ok (((lookA x l).map f).getD z) S := by
  rw [show bmV .get2 (.dct (kD f l)) [.str x, z] S = (if okKey (kD f l) (.str x) then .ok ((getK (kD f l) (.str x)).getD z) S else .bad) from rfl, get_kD]
  rfl
theorem within_q (q : Q) : ((lookA q.word withinL).map natsD).getD (.lst []) = natsD q.idx := by
  cases q with
  | bi w p q => cases w <;> rfl
  | qu w x p => cases w <;> rfl
  | _ => rfl
theorem idx_part {q : Q} {i k : Nat} (h : q.idx[i]? = some k) : ∃ p ∈ q.parts, ∀ S, idxV q.toD (.int (k : Nat)) S = some p.toD := by
  cases q with
  | not p =>
    match i, h with
    | 0, h => cases h; exact ⟨p, by simp [Q.parts], fun S => tupN 1 rfl⟩
    | i + 1, h => cases i <;> cases h
  | bi w p q =>
    match i, h with
    | 0, h => cases h; exact ⟨p, by simp [Q.parts], fun S => tupN 1 rfl⟩
    | 1, h => cases h; exact ⟨q, by simp [Q.parts], fun S => tupN 2 rfl⟩
    | i + 2, h => cases i <;> cases h
  | qu w x p =>
    match i, h with
    | 0, h => cases h; exact ⟨p, by simp [Q.parts], fun S => tupN 2 rfl⟩
    | i + 1, h => cases i <;> cases h
  | grow r bs p ts =>
    match i, h with
    | 0, h => cases h; exact ⟨p, by simp [Q.parts], fun S => tupN 3 rfl⟩
    | i + 1, h => cases i <;> cases h
  | _ => cases i <;> cases h
def vq (voc : List (Str × Nat)) : List (Str × Nat) → Q → Prop
  | gr, .not p => vq voc gr p
  | gr, .bi _ p q => vq voc gr p ∧ vq voc gr q
  | gr, .qu w x p => vtop voc gr (.qu w x p) ∧ vq voc gr p
  | gr, .grow r bs p ts => vtop voc gr (.grow r bs p ts) ∧ vq voc (putA r bs.length gr) p
  | gr, q => vtop voc gr q
def nxG (gr : List (Str × Nat)) : Q → List (Str × Nat)
  | .grow r bs _ _ => putA r bs.length gr
  | _ => gr
theorem vq_top {voc gr : List (Str × Nat)} {q : Q} (h : vq voc gr q) : vtop voc gr q := by
  cases q with
  | not p => trivial
  | bi w p q => trivial
  | qu w x p => exact h.1
  | grow r bs p ts => exact h.1
  | _ => exact h
theorem vq_part {voc gr : List (Str × Nat)} {q p : Q} (h : vq voc gr q) (hp : p ∈ q.parts) : vq voc (nxG gr q) p := by
  cases q <;> simp only [Q.parts, List.mem_cons, List.not_mem_nil, or_false] at hp
  · subst hp; exact h
  · rcases hp with rfl | rfl
    · exact h.1
    · exact h.2
  · subst hp; exact h.2
  · subst hp; exact h.2
theorem non_val (S T' : Store) : endV .val S (.ok .non (S ++ T')) = .ok .non S := endV_app rfl (fun S => frz_non S) S T'
theorem fault_ok (g : NG T N) (voc : List (Str × Nat)) : ∀ (n : Nat) (q : Q) (gr : List (Str × Nat)) (path : Row) (S : Store), q.dep < n → vq voc gr q → gr.length + q.dep < 1000 → path.length + q.dep < 1000 →
    ∃ T', callN T (n + 3) N.fault [q.toD, rowD path, vD voc, vD gr] S = .ok .non (S ++ T')
  | 0, q, gr, path, S, h, _, _, _ => by omega
  | n + 1, q, gr, path, S, h, hv, hg, hp => by
    have hfl : ev (callN T (n + 3)) [some q.toD, some (rowD path), some (vD voc), some (vD gr), none, none, none] (.call N.faulty .val (.cons (.var 0) (.cons (.var 2) (.cons (.var 3) .nil)))) true S = .ok (.bl false) S :=
      t_call (r_call (s_cons (r_var rfl) (s_cons (r_var rfl) (s_cons (r_var rfl) s_nil))) (faulty_ok g n q voc gr S (vq_top hv)) (endV_app rfl (fun S => frzD_bl _ S _) S [none])) rfl
    have hd : ev (callN T (n + 3)) [some q.toD, some (rowD path), some (vD voc), some (vD gr), none, none, none] (.dct false (.cons (.k (.str "not")) (.cons (.lst false (.cons (.k (.int 1)) .nil)) (.cons (.k (.str "and")) (.cons (.lst false (.cons (.k (.int 1)) (.cons (.k (.int 2)) .nil))) (.cons (.k (.str "or")) (.cons (.lst false (.cons (.k (.int 1)) (.cons (.k (.int 2)) .nil))) (.cons (.k (.str "some")) (.cons (.lst false (.cons (.k (.int 2)) .nil)) (.cons (.k (.str "all")) (.cons (.lst false (.cons (.k (.int 2)) .nil)) (.cons (.k (.str "grow")) (.cons (.lst false (.cons (.k (.int 3)) .nil)) .nil)))))))))))) .nil) false S = .ok (.dct (kD natsD withinL)) S := by
      have h1 : ∀ i : Int, ev (callN T (n + 3)) [some q.toD, some (rowD path), some (vD voc), some (vD gr), none, none, none] (.lst false (.cons (.k (.int i)) .nil)) false S = .ok (.lst [.int i]) S := fun i => r_lst (s_cons r_k s_nil) (cold (by simp))
      have h2 : ∀ i j : Int, ev (callN T (n + 3)) [some q.toD, some (rowD path), some (vD voc), some (vD gr), none, none, none] (.lst false (.cons (.k (.int i)) (.cons (.k (.int j)) .nil))) false S = .ok (.lst [.int i, .int j]) S := fun i j => r_lst (s_cons r_k (s_cons r_k s_nil)) (cold (by simp))
      have hes : evs (callN T (n + 3)) [some q.toD, some (rowD path), some (vD voc), some (vD gr), none, none, none] (.cons (.k (.str "not")) (.cons (.lst false (.cons (.k (.int 1)) .nil)) (.cons (.k (.str "and")) (.cons (.lst false (.cons (.k (.int 1)) (.cons (.k (.int 2)) .nil))) (.cons (.k (.str "or")) (.cons (.lst false (.cons (.k (.int 1)) (.cons (.k (.int 2)) .nil))) (.cons (.k (.str "some")) (.cons (.lst false (.cons (.k (.int 2)) .nil)) (.cons (.k (.str "all")) (.cons (.lst false (.cons (.k (.int 2)) .nil)) (.cons (.k (.str "grow")) (.cons (.lst false (.cons (.k (.int 3)) .nil)) .nil)))))))))))) S = .ok [.str "not", .lst [.int 1], .str "and", .lst [.int 1, .int 2], .str "or", .lst [.int 1, .int 2], .str "some", .lst [.int 2], .str "all", .lst [.int 2], .str "grow", .lst [.int 3]] S := by
        exact s_cons r_k (s_cons (h1 1) (s_cons r_k (s_cons (h2 1 2) (s_cons r_k (s_cons (h2 1 2) (s_cons r_k (s_cons (h1 2) (s_cons r_k (s_cons (h1 2) (s_cons r_k (s_cons (h1 3) s_nil)))))))))))
      have hpu : pairUp [.str "not", .lst [.int 1], .str "and", .lst [.int 1, .int 2], .str "or", .lst [.int 1, .int 2], .str "some", .lst [.int 2], .str "all", .lst [.int 2], .str "grow", .lst [.int 3]] = some (kD natsD withinL) := rfl
      have hpa : putAll [] (kD natsD withinL) = kD natsD withinL := by rw [putAll_nil]; rfl
      have hmk : mkD false (kD natsD withinL) S = .ok (.dct (kD natsD withinL)) S := by
        have h1 : (kD natsD withinL).length ≤ sizeLine := small5 (by simp [kD, withinL])
        unfold mkD
        rw [if_pos h1]; rfl
      have hfk : flatKeys (kD natsD withinL) = true := rfl
      have hl15 : decide ((kD natsD withinL).length ≤ 15) = true := rfl
      simp only [ev, fin_false, hes, R.ok_bind, hpu, hfk, hl15, Bool.and_self, if_true, hpa, hmk]
    have hw : ∀ (σ : Z.Env) (S : Store), σ[0]? = some (some q.toD) → ev (callN T (n + 3)) σ (.idx (.var 0) (.k (.int 0))) false S = .ok (.str q.word) S := fun σ S e => word_at _ q S e
    obtain ⟨S1, T1, hS1, hif⟩ : ∃ S1 T1, S1 = S ++ T1 ∧ evS (callN T (n + 3)) (.if_ (.cmp .eq (.idx (.var 0) (.k (.int 0))) (.k (.str "grow"))) (.cons (.asg (.nm 3) (.bi .dict true (.cons (.var 3) .nil)))
  (.cons (.frzv (.setI (.var 3) (.idx (.var 0) (.k (.int 1))) (.bi .len false (.cons (.idx (.var 0) (.k (.int 2))) .nil))) 3) .nil)) .nil) [some q.toD, some (rowD path), some (vD voc), some (vD gr), some (.dct (kD natsD withinL)), none, none] S
        = .ok (.nx [some q.toD, some (rowD path), some (vD voc), some (vD (nxG gr q)), some (.dct (kD natsD withinL)), none, none]) S1 := by
      have hc : ev (callN T (n + 3)) [some q.toD, some (rowD path), some (vD voc), some (vD gr), some (.dct (kD natsD withinL)), none, none] (.cmp .eq (.idx (.var 0) (.k (.int 0))) (.k (.str "grow"))) true S = .ok (.bl (decide (q.word = "grow"))) S := r_cmp (hw _ _ rfl) r_k (eqw q.word "grow" S)
      by_cases hgr : ∃ r bs p ts, q = .grow r bs p ts
      · obtain ⟨r, bs, p, ts, rfl⟩ := hgr
        refine ⟨S ++ [none], [none], rfl, ?_⟩
        have hdd : biV .dict true [vD gr] S = .ok (.ref S.length) (S ++ [some (.dct (kD intD gr))]) := by
          have : (kD intD gr).length ≤ sizeLine := small5 (by simp [kD]; omega)
          simp [biV, dctOf, mkD, this]
        have hlen : ev (callN T (n + 3)) [some (Q.grow r bs p ts).toD, some (rowD path), some (vD voc), some (.ref S.length), some (.dct (kD natsD withinL)), none, none] (.bi .len false (.cons (.idx (.var 0) (.k (.int 2))) .nil)) false (S ++ [some (.dct (kD intD gr))]) = .ok (.int (bs.length : Nat)) (S ++ [some (.dct (kD intD gr))]) := len_tup _ (r_idx (r_var rfl) r_k (tupN 2 rfl))
        have hs : setIV (.ref S.length) (.str r) (intD bs.length) (S ++ [some (.dct (kD intD gr))]) = some (S ++ [some (.dct (kD intD (putA r bs.length gr)))]) := by
          have h1 : (kD intD gr).length < sizeLine := small9 (by simp [kD]; omega)
          simp only [setIV, objAt_last, okKey, kFlat, Option.isSome_some, Bool.true_and, decide_eq_true h1, if_true, put_kD, set_last]
        have hf : frzD FRZ (S ++ [some (.dct (kD intD (putA r bs.length gr)))]) (.ref S.length) = some (vD (putA r bs.length gr), S ++ [none]) := by
          show frzD 4 _ _ = _
          simp only [frzD, objAt_last, set_last, frzK_kD intD_val, Option.map_some]
        exact x_if_t hc rfl (b_cons (x_asg (r_bi (s_cons (r_var rfl) s_nil) hdd) rfl) (b_cons (x_frzv (x_setI hlen (r_var rfl) (r_idx (r_var rfl) r_k (tupN 1 rfl)) hs) rfl hf) b_nil))
      · have e : nxG gr q = gr := by
          cases q with
          | grow r bs p ts => exact absurd ⟨r, bs, p, ts, rfl⟩ hgr
          | _ => rfl
        have e2 : decide (q.word = "grow") = false := decide_eq_false fun z => hgr (word_grow z)
        rw [e]
        exact ⟨S, [], by simp, x_if_f hc e2 b_nil⟩
    have hbm : ev (callN T (n + 3)) [some q.toD, some (rowD path), some (vD voc), some (vD (nxG gr q)), some (.dct (kD natsD withinL)), none, none] (.bm .get2 (.var 4) (.cons (.idx (.var 0) (.k (.int 0))) (.cons (.lst false .nil) .nil))) false S1 = .ok (natsD q.idx) S1 := by
      refine r_bm (r_var rfl) rfl (s_cons (hw _ _ rfl) (s_cons (r_lst s_nil (cold (by simp))) s_nil)) ?_
      rw [get2_f, within_q]
    have hnl : (nxG gr q).length ≤ gr.length + 1 := by
      cases q with
      | grow r bs p ts => exact len_putA r bs.length gr
      | _ => exact Nat.le_succ _
    have hnd : q.idx = [] ∨ 0 < q.dep := by
      cases q <;> first | exact .inl rfl | (right; simp only [Q.dep]; omega)
    obtain ⟨σ2, S2, e2, ⟨x5, x6, rfl⟩, rfl⟩ : ∃ σ' S', evS (callN T (n + 3)) (lFault N) [some q.toD, some (rowD path), some (vD voc), some (vD (nxG gr q)), some (.dct (kD natsD withinL)), none, none] S1 = .ok (.nx σ') S' ∧ (∃ x5 x6 : Option D, σ' = [some q.toD, some (rowD path), some (vD voc), some (vD (nxG gr q)), some (.dct (kD natsD withinL)), x5, x6]) ∧ S' = S1 := by
      refine for_ok (S1 := S1) (ds := q.idx.map fun i => D.int (i : Nat)) (fun _ σ' S' => (∃ x5 x6 : Option D, σ' = [some q.toD, some (rowD path), some (vD voc), some (vD (nxG gr q)), some (.dct (kD natsD withinL)), x5, x6]) ∧ S' = S1) ?_ ⟨⟨_, _, rfl⟩, rfl⟩ ?_
      · exact i_seq hbm rfl
      · rintro i x σ S2 hx ⟨⟨x5, x6, rfl⟩, rfl⟩
        rw [List.getElem?_map, Option.map_eq_some_iff] at hx
        obtain ⟨k, hk, rfl⟩ := hx
        obtain ⟨p, hpm, hpi⟩ := idx_part hk
        have hpd := part_dep hpm
        obtain ⟨T2, ih⟩ := fault_ok g voc n p (nxG gr q) (path ++ [k]) S2 (by omega) (vq_part hv hpm) (by omega) (by simp; omega)
        have hadd : binV .add false (rowD path) (.tup [.int (k : Nat)]) S2 = .ok (rowD (path ++ [k])) S2 := by
          have := binV_tupA (xs := path.map fun i => D.int (i : Nat)) (ys := [.int (k : Nat)]) (S := S2) (ow := false) (by rw [List.length_map]; simp; omega)
          rw [rowD, this]
          simp [rowD]
        have hcl : ev (callN T (n + 3)) [some q.toD, some (rowD path), some (vD voc), some (vD (nxG gr q)), some (.dct (kD natsD withinL)), some (.int (k : Nat)), x6] (.call N.fault .val (.cons (.idx (.var 0) (.var 5)) (.cons (.bin .add false (.var 1) (.tup (.cons (.var 5) .nil))) (.cons (.var 2) (.cons (.var 3) .nil))))) false S2 = .ok .non S2 :=
          r_call (s_cons (r_idx (r_var rfl) (r_var rfl) (hpi S2)) (s_cons (r_bin (r_var rfl) (r_tup (s_cons (r_var rfl) s_nil) (tup_len (by simp))) hadd) (s_cons (r_var rfl) (s_cons (r_var rfl) s_nil)))) ih (non_val _ _)
        exact ⟨[some q.toD, some (rowD path), some (vD voc), some (vD (nxG gr q)), some (.dct (kD natsD withinL)), some (.int (k : Nat)), x6], _, S2, rfl, .inl (b_cons (x_asg hcl rfl) (b_cons (x_if_f (r_cmp (r_var rfl) r_k (show cmpV .isnot .non .non S2 = some false by simp [cmpV])) rfl b_nil) b_nil)), ⟨_, _, rfl⟩, rfl⟩
    refine ⟨T1, ?_⟩
    rw [← hS1]
    exact x_fn g.fault rfl (b_cons (x_if_f hfl rfl b_nil) (b_cons (x_asg hd rfl) (b_cons hif (b_cons e2 (b_ret (x_ret r_k))))))
/-- a wf question is right -/
theorem wf_vq {voc : List (Str × Nat)} (hvoc : lookA "p" voc = some 0 ∧ lookA "c" voc = some 1 ∧ lookA "d" voc = some 1 ∧ lookA "e" voc = some 2) : ∀ {q : Q} {ns : List Str} {gs gr : List (Str × Nat)} {l : Nat}, (∀ x ∈ ns, okN x = true) → (∀ g ∈ gs, lookA g.1 gr = some g.2 ∧ okN g.1 = true ∧ g.2 ≤ 100) → wf ns gs l q → vq voc gr q
  | .tru, _, _, _, _, _, _, _ => trivial
  | .fal, _, _, _, _, _, _, _ => trivial
  | .given r xs, _, _, _, _, hn, _, h => by
    refine ⟨?_, fun x hx => hn x (h.2 x hx), ?_, ?_⟩
    · rcases h.1 with ⟨rfl, _⟩ | ⟨rfl | rfl, _⟩ | ⟨rfl, _⟩ <;> decide +kernel
    · rcases h.1 with ⟨rfl, e⟩ | ⟨rfl | rfl, e⟩ | ⟨rfl, e⟩
      · rw [e]; exact hvoc.1
      · rw [e]; exact hvoc.2.1
      · rw [e]; exact hvoc.2.2.1
      · rw [e]; exact hvoc.2.2.2
    · rcases h.1 with ⟨_, e⟩ | ⟨_, e⟩ | ⟨_, e⟩ <;> omega
  | .same x y, _, _, _, _, hn, _, h => ⟨hn x h.1, hn y h.2⟩
  | .inn r xs, _, _, _, _, hn, hg, h => ⟨(hg _ h.1).2.1, fun x hx => hn x (h.2 x hx), (hg _ h.1).1, (hg _ h.1).2.2⟩
  | .not p, _, _, _, _, hn, hg, h => wf_vq hvoc (q := p) hn hg h
  | .bi _ p q, _, _, _, _, hn, hg, h => ⟨wf_vq hvoc (q := p) hn hg h.1, wf_vq hvoc (q := q) hn hg h.2⟩
  | .qu _ x p, _, _, _, _, hn, hg, h => by
    have hx : okN x = true := by
      have := h.1
      simp only [VN, List.mem_cons, List.not_mem_nil, or_false] at this
      rcases this with rfl | rfl | rfl | rfl | rfl <;> decide +kernel
    exact ⟨hx, wf_vq hvoc (q := p) (fun y hy => by
      rcases List.mem_cons.mp hy with rfl | hy
      · exact hx
      · exact hn y hy) hg h.2⟩
  | .grow r bs p ts, ns, gs, gr, l, hn, hg, h => by
    obtain ⟨h1, h2, h3, h4, h5, h6, h7, h8⟩ := h
    have hr : okN r = true := by
      simp only [RN, List.mem_cons, List.not_mem_nil, or_false] at h1
      rcases h1 with rfl | rfl | rfl <;> decide +kernel
    have hb : ∀ b ∈ bs, okN b = true := fun b hb => by
      have := h3 b hb
      simp only [BN, List.mem_cons, List.not_mem_nil, or_false] at this
      rcases this with rfl | rfl | rfl <;> decide +kernel
    refine ⟨⟨hr, hb, fun t ht => hn t (h6 t ht), h5, h2, by omega⟩, wf_vq hvoc (q := p) (fun y hy => ?_) (fun g hgm => ?_) h8⟩
    · rcases List.mem_append.mp hy with e | e
      · exact hb y e
      · exact hn y e
    · rcases List.mem_cons.mp hgm with e | e
      · subst e
        exact ⟨by rw [look_put]; simp, hr, by simp only; omega⟩
      · rw [List.mem_filter] at e
        have hne := of_decide_eq_true e.2
        obtain ⟨k1, k2, k3⟩ := hg g e.1
        exact ⟨by rw [look_put, if_neg hne]; exact k1, k2, k3⟩
/-- .. and closed -/
theorem wf_clo {m : Nat} (hm : m ≤ 30) : ∀ {q : Q} {ns rs : List Str} {gs : List (Str × Nat)} {l : Nat}, (∀ g ∈ gs, g.1 ∈ rs ∧ g.2 ≤ 100) → wf ns gs l q → clo ["e", "c", "d", "p"] m ns rs q
  | .tru, _, _, _, _, _, _ => trivial
  | .fal, _, _, _, _, _, _ => trivial
  | .given r xs, _, _, _, _, _, h => by
    refine ⟨?_, h.2, ?_⟩
    · rcases h.1 with ⟨rfl, _⟩ | ⟨rfl | rfl, _⟩ | ⟨rfl, _⟩ <;> decide
    · rcases h.1 with ⟨_, e⟩ | ⟨_, e⟩ | ⟨_, e⟩ <;> omega
  | .same x y, _, _, _, _, _, h => ⟨h.1, h.2⟩
  | .inn r xs, _, _, _, _, hg, h => ⟨(hg _ h.1).1, h.2, (hg _ h.1).2⟩
  | .not p, _, _, _, _, hg, h => wf_clo hm (q := p) hg h
  | .bi _ p q, _, _, _, _, hg, h => ⟨wf_clo hm (q := p) hg h.1, wf_clo hm (q := q) hg h.2⟩
  | .qu _ x p, _, _, _, _, hg, h => wf_clo hm (q := p) hg h.2
  | .grow r bs p ts, ns, rs, gs, l, hg, h => by
    obtain ⟨h1, h2, h3, h4, h5, h6, h7, h8⟩ := h
    have hp : m ^ bs.length ≤ 900 := by
      rcases Nat.eq_zero_or_pos m with h0 | h0
      · subst h0
        have : bs.length = 0 ∨ bs.length = 1 ∨ bs.length = 2 := by omega
        rcases this with e | e | e <;> rw [e] <;> decide
      · calc m ^ bs.length ≤ m ^ 2 := Nat.pow_le_pow_right h0 h4
          _ ≤ 30 ^ 2 := Nat.pow_le_pow_left hm 2
          _ = 900 := by decide
    refine ⟨by omega, by omega, by omega, h6, wf_clo hm (q := p) (fun g hgm => ?_) h8⟩
    rcases List.mem_cons.mp hgm with e | e
    · subst e; exact ⟨List.mem_cons_self, by simp only; omega⟩
    · rw [List.mem_filter] at e
      exact ⟨List.mem_cons_of_mem _ (hg g e.1).1, (hg g e.1).2⟩
end Zg

/-! HO: names, shapes and top faults of any thing (program and law). -/
namespace Zg
open PySem Z
structure VIds where
  (name idx word words shape hnames agrees within : Nat)
def pName : Fn := ⟨1, 2,
  (.cons (.if_ (.or (.not (.chain .le .le (.k (.int 1)) (.bi .len false (.cons (.var 0) .nil)) (.gl "MOST_SIGNS" (.int 12)))) (.cmp .notin (.idx (.var 0) (.k (.int 0))) (.gl "LETTERS" (.str "abcdefghijklmnopqrstuvwxyz")))) (.cons (.ret (.k (.bl false))) .nil) .nil)
  (.cons (.ret (.bi .all false (.cons (.lc false [1] (.or (.cmp .in_ (.var 1) (.gl "LETTERS" (.str "abcdefghijklmnopqrstuvwxyz"))) (.cmp .in_ (.var 1) (.gl "DIGITS" (.str "0123456789")))) (.nm 1) (.seq (.var 0)) .nil) .nil))) .nil))⟩
def pIdx : Fn := ⟨1, 1,
  (.cons (.ret (.bm .get2 (.gl "WITHIN" (.kd [("not", (.tup [(.int 1)])), ("and", (.tup [(.int 1), (.int 2)])), ("or", (.tup [(.int 1), (.int 2)])), ("some", (.tup [(.int 2)])), ("all", (.tup [(.int 2)])), ("grow", (.tup [(.int 3)]))])) (.cons (.idx (.var 0) (.k (.int 0))) (.cons (.tup .nil) .nil)))) .nil)⟩
def pWord (V : VIds) : Fn := ⟨1, 1,
  (.cons (.ret (.and (.isi (.var 0) .str) (.call V.name .val (.cons (.var 0) .nil)))) .nil)⟩
def pWords (V : VIds) : Fn := ⟨1, 2,
  (.cons (.ret (.and (.isi (.var 0) .tuple) (.bi .all false (.cons (.lc false [1] (.call V.word .val (.cons (.var 1) .nil)) (.nm 1) (.seq (.var 0)) .nil) .nil)))) .nil)⟩
def pShape (V : VIds) : Fn := ⟨1, 1,
  (.cons (.if_ (.or (.not (.isi (.var 0) .tuple)) (.or (.cmp .eq (.bi .len false (.cons (.var 0) .nil)) (.k (.int 0))) (.not (.isi (.idx (.var 0) (.k (.int 0))) .str)))) (.cons (.ret (.k (.bl false))) .nil) .nil)
  (.cons (.ret (.and (.cmp .in_ (.idx (.var 0) (.k (.int 0))) (.gl "LENGTHS" (.kd [("true", (.int 1)), ("false", (.int 1)), ("given", (.int 3)), ("same", (.int 3)), ("in", (.int 3)), ("not", (.int 2)), ("and", (.int 3)), ("or", (.int 3)), ("some", (.int 3)), ("all", (.int 3)), ("grow", (.int 5))]))) (.cmp .eq (.bi .len false (.cons (.var 0) .nil)) (.idx (.gl "LENGTHS" (.kd [("true", (.int 1)), ("false", (.int 1)), ("given", (.int 3)), ("same", (.int 3)), ("in", (.int 3)), ("not", (.int 2)), ("and", (.int 3)), ("or", (.int 3)), ("some", (.int 3)), ("all", (.int 3)), ("grow", (.int 5))])) (.idx (.var 0) (.k (.int 0))))))) .nil))⟩
def pHnames (V : VIds) : Fn := ⟨1, 2,
  (.cons (.asg (.nm 1) (.idx (.var 0) (.k (.int 0))))
  (.cons (.if_ (.cmp .eq (.var 1) (.k (.str "same"))) (.cons (.ret (.and (.call V.word .val (.cons (.idx (.var 0) (.k (.int 1))) .nil)) (.call V.word .val (.cons (.idx (.var 0) (.k (.int 2))) .nil)))) .nil) .nil)
  (.cons (.if_ (.or (.cmp .eq (.var 1) (.k (.str "given"))) (.cmp .eq (.var 1) (.k (.str "in")))) (.cons (.ret (.and (.call V.word .val (.cons (.idx (.var 0) (.k (.int 1))) .nil)) (.call V.words .val (.cons (.idx (.var 0) (.k (.int 2))) .nil)))) .nil) .nil)
  (.cons (.if_ (.or (.cmp .eq (.var 1) (.k (.str "some"))) (.cmp .eq (.var 1) (.k (.str "all")))) (.cons (.ret (.call V.word .val (.cons (.idx (.var 0) (.k (.int 1))) .nil))) .nil) .nil)
  (.cons (.if_ (.cmp .eq (.var 1) (.k (.str "grow"))) (.cons (.ret (.and (.call V.word .val (.cons (.idx (.var 0) (.k (.int 1))) .nil)) (.and (.call V.words .val (.cons (.idx (.var 0) (.k (.int 2))) .nil)) (.call V.words .val (.cons (.idx (.var 0) (.k (.int 4))) .nil))))) .nil) .nil)
  (.cons (.ret (.k (.bl true))) .nil))))))⟩
def pAgrees (V : VIds) : Fn := ⟨3, 4,
  (.cons (.asg (.nm 3) (.idx (.var 0) (.k (.int 0))))
  (.cons (.if_ (.cmp .eq (.var 3) (.k (.str "given"))) (.cons (.ret (.and (.cmp .in_ (.idx (.var 0) (.k (.int 1))) (.var 1)) (.cmp .eq (.idx (.var 1) (.idx (.var 0) (.k (.int 1)))) (.bi .len false (.cons (.idx (.var 0) (.k (.int 2))) .nil))))) .nil) .nil)
  (.cons (.if_ (.cmp .eq (.var 3) (.k (.str "in"))) (.cons (.ret (.and (.cmp .in_ (.idx (.var 0) (.k (.int 1))) (.var 2)) (.cmp .eq (.idx (.var 2) (.idx (.var 0) (.k (.int 1)))) (.bi .len false (.cons (.idx (.var 0) (.k (.int 2))) .nil))))) .nil) .nil)
  (.cons (.if_ (.cmp .eq (.var 3) (.k (.str "grow"))) (.cons (.ret (.and (.cmp .eq (.bi .len false (.cons (.idx (.var 0) (.k (.int 2))) .nil)) (.bi .len false (.cons (.idx (.var 0) (.k (.int 4))) .nil))) (.cmp .eq (.bi .lenSet false (.cons (.idx (.var 0) (.k (.int 2))) .nil)) (.bi .len false (.cons (.idx (.var 0) (.k (.int 2))) .nil))))) .nil) .nil)
  (.cons (.ret (.k (.bl true))) .nil)))))⟩
def bWithin (V : VIds) : B := (.cons (.asg (.nm 6) (.call V.within .val (.cons (.idx (.var 0) (.var 5)) (.cons (.bin .add false (.var 1) (.tup (.cons (.var 5) .nil))) (.cons (.var 2) (.cons (.var 4) .nil))))))
  (.cons (.if_ (.cmp .isnot (.var 6) (.k .non)) (.cons (.ret (.var 6)) .nil) .nil) .nil))
def lWithin (V : VIds) : S := .for_ (.nm 5) (.seq (.call V.idx .val (.cons (.var 0) .nil))) (bWithin V)
def pWithin (V : VIds) : Fn := ⟨4, 8,
  (.cons (.if_ (.or (.not (.call V.shape .val (.cons (.var 0) .nil))) (.or (.not (.call V.hnames .val (.cons (.var 0) .nil))) (.not (.call V.agrees .val (.cons (.var 0) (.cons (.var 2) (.cons (.var 3) .nil))))))) (.cons (.ret (.var 1)) .nil) .nil)
  (.cons (.asg (.nm 4) (.var 3))
  (.cons (.frzv (.if_ (.cmp .eq (.idx (.var 0) (.k (.int 0))) (.k (.str "grow"))) (.cons (.asg (.nm 4) (.dc true [7] (.var 7) (.idx (.var 3) (.var 7)) (.nm 7) (.keys (.var 3)) .nil))
  (.cons (.setI (.var 4) (.idx (.var 0) (.k (.int 1))) (.bi .len false (.cons (.idx (.var 0) (.k (.int 2))) .nil))) .nil)) .nil) 4)
  (.cons (lWithin V)
  (.cons (.ret (.k .non)) .nil)))))⟩
structure VG (T : Nat → Option Fn) (V : VIds) : Prop where
  name : T V.name = some pName
  idx : T V.idx = some pIdx
  word : T V.word = some (pWord V)
  words : T V.words = some (pWords V)
  shape : T V.shape = some (pShape V)
  hnames : T V.hnames = some (pHnames V)
  agrees : T V.agrees = some (pAgrees V)
  within : T V.within = some (pWithin V)
variable {T : Nat → Option Fn} {N : NIds} {V : VIds}
/-! ### names -/
def okSign (c : Nat) : Bool := decide (c ∈ smallS.cps.toList) || decide (c ∈ digS.cps.toList)
/-- a name or not -/
def nameB (z : Str) : Bool := if z.length < 1 ∨ 12 < z.length then false else (match z.cps.toList with
  | [] => false
  | c :: _ => if c ∈ smallS.cps.toList then z.cps.toList.all okSign else false)
theorem cps_len (z : Str) : z.cps.toList.length = z.length := by simp [Str.length]
theorem all_bl {α : Type} {l : List α} {p : α → Bool} {S : Store} : biV .all false [.lst (l.map fun a => D.bl (p a))] S = .ok (.bl (l.all p)) S := by
  simp only [biV, lstOf, allBl_map]
  simp [List.all_map, Function.comp_def]
theorem mapR_id {β : Type} {f : D → Store → R (List β)} {g : D → β} {S : Store} {l : List D} (h : ∀ a ∈ l, f a S = .ok [g a] S) : mapR f l S = .ok (l.map g) S := by
  have := mapR_map (f := f) (k := fun d => d) (g := g) (S := S) (l := l) h
  simpa using this
theorem head_c {z : Str} (h : 1 ≤ z.length) : ∃ c cs, z.cps.toList = c :: cs := by
  cases e : z.cps.toList with
  | nil => have := cps_len z; rw [e] at this; simp at this; omega
  | cons c cs => exact ⟨c, cs, rfl⟩
theorem nameB_in {z : Str} {c : Nat} {cs : List Nat} (h1 : 1 ≤ z.length) (h2 : z.length ≤ 12) (hc : z.cps.toList = c :: cs) : nameB z = if c ∈ smallS.cps.toList then z.cps.toList.all okSign else false := by
  unfold nameB
  rw [if_neg (by omega)]
  rw [hc]
theorem nameB_out {z : Str} (h : z.length < 1 ∨ 12 < z.length) : nameB z = false := by unfold nameB; rw [if_pos h]
theorem pname_ok {k : Nat} (hT : T k = some pName) (n : Nat) (z : Str) (S : Store) (hz : z.length ≤ 1000) : callN T (n + 1) k [.str z] S = .ok (.bl (nameB z)) S := by
  have hlen : ∀ σ : Z.Env, σ[0]? = some (some (.str z)) → ev (callN T n) σ (.bi .len false (.cons (.var 0) .nil)) false S = .ok (.int (z.length : Nat)) S := fun σ e => r_bi (s_cons (r_var e) s_nil) (biV_len_str (small5 (by omega)))
  have le1 : ∀ a b : Int, cmpV .le (.int a) (.int b) S = some (decide (a ≤ b)) := fun a b => rfl
  by_cases h1 : 1 ≤ z.length
  · have g1 : decide ((1 : Int) ≤ (z.length : Nat)) = true := decide_eq_true (by omega)
    by_cases h2 : z.length ≤ 12
    · have g2 : decide (((z.length : Nat) : Int) ≤ 12) = true := decide_eq_true (by omega)
      obtain ⟨c, cs, hc⟩ := head_c h1
      have hi : idxV (.str z) (.int 0) S = some (.str ⟨#[c]⟩) := idxV_str (small5 (by omega)) (by rw [hc]; exact atI_zero c cs)
      have a1 : ev (callN T n) [some (.str z), none] (.not (.chain .le .le (.k (.int 1)) (.bi .len false (.cons (.var 0) .nil)) (.gl "MOST_SIGNS" (.int 12)))) true S = .ok (.bl false) S := r_not_tE (r_chain_t r_k (hlen _ rfl) (le1 _ _) g1 r_gl (le1 _ _)) (by rw [g2]; rfl)
      have a2 : ev (callN T n) [some (.str z), none] (.cmp .notin (.idx (.var 0) (.k (.int 0))) (.gl "LETTERS" (.str "abcdefghijklmnopqrstuvwxyz"))) true S = .ok (.bl (!decide (c ∈ smallS.cps.toList))) S := r_cmp (r_idx (r_var rfl) r_k hi) r_gl (cmp_notin (inV_str1 _ _ _))
      rw [nameB_in h1 h2 hc]
      by_cases hcs : c ∈ smallS.cps.toList
      · rw [if_pos hcs]
        rw [decide_eq_true hcs] at a2
        have hm := mapR_map (S := S) (l := z.cps.toList) (k := fun c => D.str ⟨#[c]⟩) (g := fun c => D.bl (okSign c)) (f := fun d S2 => match asg (.nm 1) d (wipeE [some (.str z), none] [1]) with
            | some σ1 => (evC (callN T n) σ1 .nil S2).bind fun b S3 => if b then (ev (callN T n) σ1 (.or (.cmp .in_ (.var 1) (.gl "LETTERS" (.str "abcdefghijklmnopqrstuvwxyz"))) (.cmp .in_ (.var 1) (.gl "DIGITS" (.str "0123456789")))) false S3).bind fun y S4 => .ok [y] S4 else .ok [] S3
            | none => .bad) fun c _ => by
          have ha : asg (.nm 1) (.str ⟨#[c]⟩) (wipeE [some (.str z), none] [1]) = some [some (.str z), some (.str ⟨#[c]⟩)] := rfl
          have he : ev (callN T n) [some (.str z), some (.str ⟨#[c]⟩)] (.or (.cmp .in_ (.var 1) (.gl "LETTERS" (.str "abcdefghijklmnopqrstuvwxyz"))) (.cmp .in_ (.var 1) (.gl "DIGITS" (.str "0123456789")))) false S = .ok (.bl (okSign c)) S := by
            have i1 : cmpV .in_ (.str ⟨#[c]⟩) (.str "abcdefghijklmnopqrstuvwxyz") S = some (decide (c ∈ smallS.cps.toList)) := cmp_in (inV_str1 _ _ _)
            have i2 : cmpV .in_ (.str ⟨#[c]⟩) (.str "0123456789") S = some (decide (c ∈ digS.cps.toList)) := cmp_in (inV_str1 _ _ _)
            unfold okSign
            cases hd : decide (c ∈ smallS.cps.toList) with
            | true => exact r_or_t (r_cmp (r_var rfl) r_gl i1) hd
            | false => rw [Bool.false_or]; exact r_or_f (r_cmp (r_var rfl) r_gl i1) hd (r_cmp (r_var rfl) r_gl i2)
          simp only [ha, evC, R.ok_bind, if_true, he]
        exact x_fn hT rfl (b_cons (x_if_f (r_or_f a1 rfl a2) rfl b_nil) (b_ret (x_ret (r_bi (s_cons (r_lc (i_seq (r_var rfl) rfl) hm (cold (by rw [List.length_map, cps_len]; omega))) s_nil) all_bl))))
      · rw [if_neg hcs]
        rw [decide_eq_false hcs] at a2
        exact x_fn hT rfl (b_ret (x_if_t (r_or_f a1 rfl a2) rfl (b_ret (x_ret r_k))))
    · have g2 : decide (((z.length : Nat) : Int) ≤ 12) = false := decide_eq_false (by omega)
      rw [nameB_out (by omega)]
      exact x_fn hT rfl (b_ret (x_if_t (r_or_t (r_not_t (r_chain_t r_k (hlen _ rfl) (le1 _ _) g1 r_gl (le1 _ _))) (by rw [g2]; rfl)) rfl (b_ret (x_ret r_k))))
  · have g1 : decide ((1 : Int) ≤ (z.length : Nat)) = false := decide_eq_false (by omega)
    rw [nameB_out (by omega)]
    exact x_fn hT rfl (b_ret (x_if_t (r_or_t (r_not_t (r_chain_f r_k (hlen _ rfl) (le1 _ _) g1)) rfl) rfl (b_ret (x_ret r_k))))
theorem lname_ok {k : Nat} (hT : T k = some fName) (n : Nat) (z : Str) (S : Store) (hz : z.length ≤ 1000) : callN T (n + 1) k [.str z] S = .ok (.bl (nameB z)) S := by
  have hlen : ∀ σ : Z.Env, σ[0]? = some (some (.str z)) → ev (callN T n) σ (.bi .len false (.cons (.var 0) .nil)) false S = .ok (.int (z.length : Nat)) S := fun σ e => r_bi (s_cons (r_var e) s_nil) (biV_len_str (small5 (by omega)))
  have lt1 : ∀ a b : Int, cmpV .lt (.int a) (.int b) S = some (decide (a < b)) := fun a b => rfl
  have gt1 : ∀ a b : Int, cmpV .gt (.int a) (.int b) S = some (decide (b < a)) := fun a b => rfl
  have a0 : ev (callN T n) [some (.str z), some (.str smallS), none] (.not (.isi (.var 0) .str)) true S = .ok (.bl false) S := r_not_t (c := true) (r_isi (r_var rfl) rfl)
  by_cases h1 : 1 ≤ z.length
  · have g1 : decide (((z.length : Nat) : Int) < 1) = false := decide_eq_false (by omega)
    by_cases h2 : z.length ≤ 12
    · have g2 : decide ((12 : Int) < (z.length : Nat)) = false := decide_eq_false (by omega)
      obtain ⟨c, cs, hc⟩ := head_c h1
      have hi : idxV (.str z) (.int 0) S = some (.str ⟨#[c]⟩) := idxV_str (small5 (by omega)) (by rw [hc]; exact atI_zero c cs)
      have a2 : ev (callN T n) [some (.str z), some (.str smallS), none] (.cmp .notin (.idx (.var 0) (.k (.int 0))) (.var 1)) true S = .ok (.bl (!decide (c ∈ smallS.cps.toList))) S := r_cmp (r_idx (r_var rfl) r_k hi) (r_var rfl) (cmp_notin (inV_str1 _ _ _))
      rw [nameB_in h1 h2 hc]
      by_cases hcs : c ∈ smallS.cps.toList
      · rw [if_pos hcs]
        rw [decide_eq_true hcs] at a2
        have hm := mapR_map (S := S) (l := z.cps.toList) (k := fun c => D.str ⟨#[c]⟩) (g := fun c => D.bl (okSign c)) (f := fun d S2 => match asg (.nm 2) d (wipeE [some (.str z), some (.str smallS), none] [2]) with
            | some σ1 => (evC (callN T n) σ1 .nil S2).bind fun b S3 => if b then (ev (callN T n) σ1 (.cmp .in_ (.var 2) (.bin .add false (.var 1) (.k (.str "0123456789")))) false S3).bind fun y S4 => .ok [y] S4 else .ok [] S3
            | none => .bad) fun c _ => by
          have ha : asg (.nm 2) (.str ⟨#[c]⟩) (wipeE [some (.str z), some (.str smallS), none] [2]) = some [some (.str z), some (.str smallS), some (.str ⟨#[c]⟩)] := rfl
          have hadd : binV .add false (.str smallS) (.str digS) S = .ok (.str (smallS ++ digS)) S := by
            have : smallS.length + digS.length ≤ sizeLine := by decide +kernel
            simp only [binV, if_pos this]
          have i1 : cmpV .in_ (.str ⟨#[c]⟩) (.str (smallS ++ digS)) S = some (okSign c) := by
            rw [cmp_in (inV_str1 _ _ _), PySem.W.KT.app_list]
            simp only [List.mem_append, Bool.decide_or]
            rfl
          have he : ev (callN T n) [some (.str z), some (.str smallS), some (.str ⟨#[c]⟩)] (.cmp .in_ (.var 2) (.bin .add false (.var 1) (.k (.str "0123456789")))) false S = .ok (.bl (okSign c)) S := r_cmp (r_var rfl) (r_bin (r_var rfl) r_k hadd) i1
          simp only [ha, evC, R.ok_bind, if_true, he]
        exact x_fn hT rfl (b_cons (x_asg r_k rfl) (b_cons (x_if_f (r_or_f a0 rfl (r_or_f (r_cmp (hlen _ rfl) r_k (lt1 _ _)) g1 (r_or_f (r_cmp (hlen _ rfl) r_k (gt1 _ _)) g2 a2))) rfl b_nil) (b_ret (x_ret (r_bi (s_cons (r_lc (i_seq (r_var rfl) rfl) hm (cold (by rw [List.length_map, cps_len]; omega))) s_nil) all_bl)))))
      · rw [if_neg hcs]
        rw [decide_eq_false hcs] at a2
        exact x_fn hT rfl (b_cons (x_asg r_k rfl) (b_ret (x_if_t (r_or_f a0 rfl (r_or_f (r_cmp (hlen _ rfl) r_k (lt1 _ _)) g1 (r_or_f (r_cmp (hlen _ rfl) r_k (gt1 _ _)) g2 a2))) rfl (b_ret (x_ret r_k)))))
    · have g2 : decide ((12 : Int) < (z.length : Nat)) = true := decide_eq_true (by omega)
      rw [nameB_out (by omega)]
      exact x_fn hT rfl (b_cons (x_asg r_k rfl) (b_ret (x_if_t (r_or_f a0 rfl (r_or_f (r_cmp (hlen _ rfl) r_k (lt1 _ _)) g1 (r_or_t (r_cmp (hlen _ rfl) r_k (gt1 _ _)) g2))) rfl (b_ret (x_ret r_k)))))
  · have g1 : decide (((z.length : Nat) : Int) < 1) = true := decide_eq_true (by omega)
    rw [nameB_out (by omega)]
    exact x_fn hT rfl (b_cons (x_asg r_k rfl) (b_ret (x_if_t (r_or_f a0 rfl (r_or_t (r_cmp (hlen _ rfl) r_k (lt1 _ _)) g1)) rfl (b_ret (x_ret r_k)))))
/-! ### things -/
/-- a thing: tuples within tuples, at most n deep, of at most L items -/
def tr (L : Nat) : Nat → D → Prop
  | _, .non => True
  | _, .int _ => True
  | _, .str z => z.length ≤ 100 ∧ PyData.strOk z = true
  | 0, .tup _ => False
  | n + 1, .tup xs => xs.length ≤ L ∧ ∀ x ∈ xs, tr L n x
  | _, _ => False
theorem tr_mono {L L' : Nat} (hL : L ≤ L') : ∀ {n m : Nat} {d : D}, n ≤ m → tr L n d → tr L' m d
  | n, m, .non, _, _ => by cases m <;> trivial
  | n, m, .int _, _, _ => by cases m <;> trivial
  | n, m, .str z, _, h => by cases n <;> cases m <;> exact h
  | 0, m, .tup xs, _, h => h.elim
  | n + 1, 0, .tup xs, hl, h => by omega
  | n + 1, m + 1, .tup xs, hl, h => ⟨Nat.le_trans h.1 hL, fun x hx => tr_mono hL (by omega) (h.2 x hx)⟩
  | n, _, .bl _, _, h => by cases n <;> exact h.elim
  | n, _, .lst _, _, h => by cases n <;> exact h.elim
  | n, _, .dct _, _, h => by cases n <;> exact h.elim
  | n, _, .ins _ _, _, h => by cases n <;> exact h.elim
  | n, _, .kd _, _, h => by cases n <;> exact h.elim
  | n, _, .ref _, _, h => by cases n <;> exact h.elim
  | n, _, .scr _, _, h => by cases n <;> exact h.elim
def nmD : D → Bool
  | .str z => nameB z
  | _ => false
def nmsD : D → Bool
  | .tup xs => xs.all nmD
  | _ => false
def lenD : D → Nat
  | .tup xs => xs.length
  | _ => 0
theorem pword_ok (g : VG T V) {L m : Nat} (n : Nat) (d : D) (S : Store) (h : tr L m d) : callN T (n + 2) V.word [d] S = .ok (.bl (nmD d)) S := by
  cases d with
  | str z =>
    have hz : z.length ≤ 1000 := by cases m <;> (have := h.1; omega)
    exact x_fn g.word rfl (b_ret (x_ret (r_and_t (r_isi (r_var rfl) rfl) rfl (r_call (s_cons (r_var rfl) s_nil) (pname_ok g.name n z S hz) (endV_bl _ _)))))
  | non => exact x_fn g.word rfl (b_ret (x_ret (r_and_f (r_isi (r_var rfl) rfl) rfl)))
  | int i => exact x_fn g.word rfl (b_ret (x_ret (r_and_f (r_isi (r_var rfl) rfl) rfl)))
  | tup xs => exact x_fn g.word rfl (b_ret (x_ret (r_and_f (r_isi (r_var rfl) rfl) rfl)))
  | _ => cases m <;> exact h.elim
theorem lword_ok (g : NG T N) {L m : Nat} (n : Nat) (d : D) (S : Store) (h : tr L m d) : callN T (n + 1) N.name [d] S = .ok (.bl (nmD d)) S := by
  cases d with
  | str z => exact lname_ok g.name n z S (by cases m <;> (have := h.1; omega))
  | non => exact x_fn g.name rfl (b_cons (x_asg r_k rfl) (b_ret (x_if_t (r_or_t (r_not_t (r_isi (r_var rfl) rfl)) rfl) rfl (b_ret (x_ret r_k)))))
  | int i => exact x_fn g.name rfl (b_cons (x_asg r_k rfl) (b_ret (x_if_t (r_or_t (r_not_t (r_isi (r_var rfl) rfl)) rfl) rfl (b_ret (x_ret r_k)))))
  | tup xs => exact x_fn g.name rfl (b_cons (x_asg r_k rfl) (b_ret (x_if_t (r_or_t (r_not_t (r_isi (r_var rfl) rfl)) rfl) rfl (b_ret (x_ret r_k)))))
  | _ => cases m <;> exact h.elim
theorem pwords_ok (g : VG T V) {L m : Nat} (hL : L ≤ 1000) (n : Nat) (d : D) (S : Store) (h : tr L m d) : callN T (n + 3) V.words [d] S = .ok (.bl (nmsD d)) S := by
  cases d with
  | tup xs =>
    cases m with
    | zero => exact h.elim
    | succ m =>
      have hm := mapR_id (S := S) (l := xs) (g := fun x => D.bl (nmD x)) (f := fun d S2 => match asg (.nm 1) d (wipeE [some (.tup xs), none] [1]) with
          | some σ1 => (evC (callN T (n + 2)) σ1 .nil S2).bind fun b S3 => if b then (ev (callN T (n + 2)) σ1 (.call V.word .val (.cons (.var 1) .nil)) false S3).bind fun y S4 => .ok [y] S4 else .ok [] S3
          | none => .bad) fun x hx => by
        have ha : asg (.nm 1) x (wipeE [some (.tup xs), none] [1]) = some [some (.tup xs), some x] := rfl
        have he : ev (callN T (n + 2)) [some (.tup xs), some x] (.call V.word .val (.cons (.var 1) .nil)) false S = .ok (.bl (nmD x)) S := r_call (s_cons (r_var rfl) s_nil) (pword_ok g n x S (h.2 x hx)) (endV_bl _ _)
        simp only [ha, evC, R.ok_bind, if_true, he]
      have := h.1
      exact x_fn g.words rfl (b_ret (x_ret (r_and_t (r_isi (r_var rfl) rfl) rfl (r_bi (s_cons (r_lc (i_seq (r_var rfl) rfl) hm (cold (by rw [List.length_map]; omega))) s_nil) all_bl))))
  | non => exact x_fn g.words rfl (b_ret (x_ret (r_and_f (r_isi (r_var rfl) rfl) rfl)))
  | int i => exact x_fn g.words rfl (b_ret (x_ret (r_and_f (r_isi (r_var rfl) rfl) rfl)))
  | str z => exact x_fn g.words rfl (b_ret (x_ret (r_and_f (r_isi (r_var rfl) rfl) rfl)))
  | _ => cases m <;> exact h.elim
theorem lwords_ok (g : NG T N) {L m : Nat} (hL : L ≤ 1000) (n : Nat) (d : D) (S : Store) (h : tr L m d) : callN T (n + 2) N.names [d] S = .ok (.bl (nmsD d)) S := by
  cases d with
  | tup xs =>
    cases m with
    | zero => exact h.elim
    | succ m =>
      have hm := mapR_id (S := S) (l := xs) (g := fun x => D.bl (nmD x)) (f := fun d S2 => match asg (.nm 1) d (wipeE [some (.tup xs), none] [1]) with
          | some σ1 => (evC (callN T (n + 1)) σ1 .nil S2).bind fun b S3 => if b then (ev (callN T (n + 1)) σ1 (.call N.name .val (.cons (.var 1) .nil)) false S3).bind fun y S4 => .ok [y] S4 else .ok [] S3
          | none => .bad) fun x hx => by
        have ha : asg (.nm 1) x (wipeE [some (.tup xs), none] [1]) = some [some (.tup xs), some x] := rfl
        have he : ev (callN T (n + 1)) [some (.tup xs), some x] (.call N.name .val (.cons (.var 1) .nil)) false S = .ok (.bl (nmD x)) S := r_call (s_cons (r_var rfl) s_nil) (lword_ok g n x S (h.2 x hx)) (endV_bl _ _)
        simp only [ha, evC, R.ok_bind, if_true, he]
      have := h.1
      exact x_fn g.names rfl (b_ret (x_ret (r_and_t (r_isi (r_var rfl) rfl) rfl (r_bi (s_cons (r_lc (i_seq (r_var rfl) rfl) hm (cold (by rw [List.length_map]; omega))) s_nil) all_bl))))
  | non => exact x_fn g.names rfl (b_ret (x_ret (r_and_f (r_isi (r_var rfl) rfl) rfl)))
  | int i => exact x_fn g.names rfl (b_ret (x_ret (r_and_f (r_isi (r_var rfl) rfl) rfl)))
  | str z => exact x_fn g.names rfl (b_ret (x_ret (r_and_f (r_isi (r_var rfl) rfl) rfl)))
  | _ => cases m <;> exact h.elim
/-! ### shapes -/
def shapeB : D → Bool
  | .tup (.str w :: r) => decide (lookA w lens11 = some (r.length + 1))
  | _ => false
/-- a thing that has a part's shape -/
inductive Sh : D → Prop
  | tru : Sh (.tup [.str "true"])
  | fal : Sh (.tup [.str "false"])
  | not (a : D) : Sh (.tup [.str "not", a])
  | given (a b : D) : Sh (.tup [.str "given", a, b])
  | same (a b : D) : Sh (.tup [.str "same", a, b])
  | inn (a b : D) : Sh (.tup [.str "in", a, b])
  | and (a b : D) : Sh (.tup [.str "and", a, b])
  | or (a b : D) : Sh (.tup [.str "or", a, b])
  | some (a b : D) : Sh (.tup [.str "some", a, b])
  | all (a b : D) : Sh (.tup [.str "all", a, b])
  | grow (a b c e : D) : Sh (.tup [.str "grow", a, b, c, e])
theorem len1 {α : Type} {r : List α} (h : some 1 = some (r.length + 1)) : r = [] := by
  cases r with
  | nil => rfl
  | cons _ _ => simp at h
theorem len2 {α : Type} {r : List α} (h : some 2 = some (r.length + 1)) : ∃ a, r = [a] := by
  match r, h with
  | [a], _ => exact ⟨a, rfl⟩
  | [], h => simp at h
  | _ :: _ :: _, h => simp at h
theorem len3 {α : Type} {r : List α} (h : some 3 = some (r.length + 1)) : ∃ a b, r = [a, b] := by
  match r, h with
  | [a, b], _ => exact ⟨a, b, rfl⟩
  | [], h => simp at h
  | [_], h => simp at h
  | _ :: _ :: _ :: _, h => simp at h
theorem len5 {α : Type} {r : List α} (h : some 5 = some (r.length + 1)) : ∃ a b c e, r = [a, b, c, e] := by
  match r, h with
  | [a, b, c, e], _ => exact ⟨a, b, c, e, rfl⟩
  | [], h => simp at h
  | [_], h => simp at h
  | [_, _], h => simp at h
  | [_, _, _], h => simp at h
  | _ :: _ :: _ :: _ :: _ :: _, h => simp at h
theorem look_mem {α : Type} {w : Str} {k : α} : ∀ {l : List (Str × α)}, lookA w l = some k → (w, k) ∈ l
  | [], h => by simp [lookA] at h
  | (x, a) :: l, h => by
    by_cases e : x = w
    · subst e
      simp [lookA] at h
      subst h
      exact List.mem_cons_self
    · have : lookA w ((x, a) :: l) = lookA w l := by simp [lookA, e]
      rw [this] at h
      exact List.mem_cons_of_mem _ (look_mem h)
theorem sh_of {d : D} (h : shapeB d = true) : Sh d := by
  match d, h with
  | .tup (.str w :: r), h =>
    have h : lookA w lens11 = some (r.length + 1) := of_decide_eq_true h
    have hm := look_mem h
    simp only [lens11, List.mem_cons, Prod.mk.injEq, List.not_mem_nil, or_false] at hm
    rcases hm with ⟨rfl, e⟩ | ⟨rfl, e⟩ | ⟨rfl, e⟩ | ⟨rfl, e⟩ | ⟨rfl, e⟩ | ⟨rfl, e⟩ | ⟨rfl, e⟩ | ⟨rfl, e⟩ | ⟨rfl, e⟩ | ⟨rfl, e⟩ | ⟨rfl, e⟩
    · cases len1 (congrArg some e.symm); exact .tru
    · cases len1 (congrArg some e.symm); exact .fal
    · obtain ⟨a, b, rfl⟩ := len3 (congrArg some e.symm); exact .given a b
    · obtain ⟨a, b, rfl⟩ := len3 (congrArg some e.symm); exact .same a b
    · obtain ⟨a, b, rfl⟩ := len3 (congrArg some e.symm); exact .inn a b
    · obtain ⟨a, rfl⟩ := len2 (congrArg some e.symm); exact .not a
    · obtain ⟨a, b, rfl⟩ := len3 (congrArg some e.symm); exact .and a b
    · obtain ⟨a, b, rfl⟩ := len3 (congrArg some e.symm); exact .or a b
    · obtain ⟨a, b, rfl⟩ := len3 (congrArg some e.symm); exact .some a b
    · obtain ⟨a, b, rfl⟩ := len3 (congrArg some e.symm); exact .all a b
    · obtain ⟨a, b, c, e', rfl⟩ := len5 (congrArg some e.symm); exact .grow a b c e'
def nodupD (d : D) : Bool := match d with
  | .tup xs => decide ((dedup xs).length = xs.length)
  | _ => false
def strD : D → Str
  | .str z => z
  | _ => "" 
def arB (l : List (Str × Nat)) (a b : D) : Bool := decide (lookA (strD a) l = some (lenD b))
/-- the rest of a shaped thing is right -/
def restB (voc gr : List (Str × Nat)) : D → Bool
  | .tup [.str w, a, b] => if w = "same" then nmD a && nmD b else if w = "given" then nmD a && (nmsD b && arB voc a b) else if w = "in" then nmD a && (nmsD b && arB gr a b) else if w = "and" ∨ w = "or" then true else nmD a
  | .tup [.str _, a, b, _, e] => nmD a && (nmsD b && (nmsD e && (decide (lenD b = lenD e) && nodupD b)))
  | _ => true
/-- right at the top -/
def topB (voc gr : List (Str × Nat)) (d : D) : Bool := shapeB d && restB voc gr d
end Zg

/-! HP: top faults, found by the program and by the law. -/
namespace Zg
open PySem Z
variable {T : Nat → Option Fn} {N : NIds} {V : VIds}
def hnB : D → Bool
  | .tup [.str w, a, b] => if w = "same" then nmD a && nmD b else if w = "given" then nmD a && nmsD b else if w = "in" then nmD a && nmsD b else if w = "and" ∨ w = "or" then true else nmD a
  | .tup [.str _, a, b, _, e] => nmD a && (nmsD b && nmsD e)
  | _ => true
def agB (voc gr : List (Str × Nat)) : D → Bool
  | .tup [.str w, a, b] => if w = "same" then true else if w = "given" then arB voc a b else if w = "in" then arB gr a b else true
  | .tup [.str _, _, b, _, e] => decide (lenD b = lenD e) && nodupD b
  | _ => true
theorem rest_eq (voc gr : List (Str × Nat)) (d : D) (h : shapeB d = true) : topB voc gr d = (hnB d && agB voc gr d) := by
  unfold topB
  rw [h, Bool.true_and]
  cases sh_of h with
  | grow a b c e => simp only [restB, hnB, agB, Bool.and_assoc]
  | given a b => simp only [restB, hnB, agB]; split <;> (try split) <;> (try split) <;> (try split) <;> simp_all [Bool.and_assoc]
  | same a b => simp only [restB, hnB, agB]; split <;> (try split) <;> (try split) <;> (try split) <;> simp_all [Bool.and_assoc]
  | inn a b => simp only [restB, hnB, agB]; split <;> (try split) <;> (try split) <;> (try split) <;> simp_all [Bool.and_assoc]
  | and a b => simp only [restB, hnB, agB]; split <;> (try split) <;> (try split) <;> (try split) <;> simp_all [Bool.and_assoc]
  | or a b => simp only [restB, hnB, agB]; split <;> (try split) <;> (try split) <;> (try split) <;> simp_all [Bool.and_assoc]
  | some a b => simp only [restB, hnB, agB]; split <;> (try split) <;> (try split) <;> (try split) <;> simp_all [Bool.and_assoc]
  | all a b => simp only [restB, hnB, agB]; split <;> (try split) <;> (try split) <;> (try split) <;> simp_all [Bool.and_assoc]
  | _ => rfl
theorem kd_look {α : Type} (f : α → D) (w : Str) : ∀ l : List (Str × α), (l.map fun p => (p.1, f p.2)).lookup w = (lookA w l).map f
  | [] => rfl
  | (x, a) :: l => by
    rw [List.map_cons, List.lookup_cons]
    by_cases e : x = w
    · subst e
      simp [lookA]
    · have e1 : (w == x) = false := by simpa using fun z => e z.symm
      have e2 : lookA w ((x, a) :: l) = lookA w l := by simp [lookA, e]
      rw [e2]
      simp only [e1]
      exact kd_look f w l
def lensK : List (Str × D) := [("true", .int 1), ("false", .int 1), ("given", .int 3), ("same", .int 3), ("in", .int 3), ("not", .int 2), ("and", .int 3), ("or", .int 3), ("some", .int 3), ("all", .int 3), ("grow", .int 5)]
theorem lensK_eq : lensK = lens11.map fun p => (p.1, intD p.2) := rfl
theorem lensK_look (w : Str) : lensK.lookup w = (lookA w lens11).map intD := by rw [lensK_eq, kd_look]
theorem len_bi (xs : List D) (S : Store) : biV .len false [.tup xs] S = .ok (.int (xs.length : Nat)) S := biV_len_seq (d := .tup xs) (xs := xs) (fun _ h => nomatch h) rfl
theorem tr_isStr {L m : Nat} {x : D} (S : Store) (h : tr L m x) : (∃ w, x = .str w) ∨ isiV x .str S = some false := by
  cases x with
  | str w => exact .inl ⟨w, rfl⟩
  | non => exact .inr rfl
  | int _ => exact .inr rfl
  | tup _ => exact .inr rfl
  | _ => cases m <;> exact h.elim
theorem shape_str {x : D} {r : List D} (h : ∀ w, x ≠ .str w) : shapeB (.tup (x :: r)) = false := by
  cases x with
  | str w => exact absurd rfl (h w)
  | _ => rfl
theorem shape_ok (g : VG T V) {L m : Nat} (hL : L ≤ 1000) (n : Nat) (d : D) (S : Store) (h : tr L m d) : callN T (n + 1) V.shape [d] S = .ok (.bl (shapeB d)) S := by
  cases d with
  | non => exact x_fn g.shape rfl (b_ret (x_if_t (r_or_t (r_not_t (r_isi (r_var rfl) rfl)) rfl) rfl (b_ret (x_ret r_k))))
  | int _ => exact x_fn g.shape rfl (b_ret (x_if_t (r_or_t (r_not_t (r_isi (r_var rfl) rfl)) rfl) rfl (b_ret (x_ret r_k))))
  | str _ => exact x_fn g.shape rfl (b_ret (x_if_t (r_or_t (r_not_t (r_isi (r_var rfl) rfl)) rfl) rfl (b_ret (x_ret r_k))))
  | tup xs =>
    have i1 : ev (callN T n) [some (.tup xs)] (.not (.isi (.var 0) .tuple)) true S = .ok (.bl false) S := r_not_t (c := true) (r_isi (r_var rfl) rfl)
    have l1 : ev (callN T n) [some (.tup xs)] (.bi .len false (.cons (.var 0) .nil)) false S = .ok (.int (xs.length : Nat)) S := r_bi (s_cons (r_var rfl) s_nil) (len_bi _ _)
    have c1 : cmpV .eq (.int (xs.length : Nat)) (.int 0) S = some (decide (xs.length = 0)) := by
      simp only [cmpV, pyEq_int]
      congr 1
      rw [decide_eq_decide]
      omega
    cases xs with
    | nil => exact x_fn g.shape rfl (b_ret (x_if_t (r_or_f i1 rfl (r_or_t (r_cmp l1 r_k c1) rfl)) rfl (b_ret (x_ret r_k))))
    | cons x r =>
      cases m with
      | zero => exact h.elim
      | succ m =>
      have hx := h.2 x List.mem_cons_self
      have h0 : ev (callN T n) [some (.tup (x :: r))] (.idx (.var 0) (.k (.int 0))) false S = .ok x S := r_idx (r_var rfl) r_k (idxV_tup (at0 _ _))
      rcases tr_isStr S hx with ⟨w, rfl⟩ | hs
      · have e1 : inV (.str w) (.kd lensK) S = some (lookA w lens11).isSome := by
          show some (lensK.lookup w).isSome = _
          rw [lensK_look]
          cases lookA w lens11 <;> rfl
        have i2 : ev (callN T n) [some (.tup (.str w :: r))] (.or (.not (.isi (.var 0) .tuple)) (.or (.cmp .eq (.bi .len false (.cons (.var 0) .nil)) (.k (.int 0))) (.not (.isi (.idx (.var 0) (.k (.int 0))) .str)))) true S = .ok (.bl false) S :=
          r_or_f i1 rfl (r_or_f (r_cmp l1 r_k c1) rfl (r_not_t (c := true) (r_isi h0 rfl)))
        refine x_fn g.shape rfl (b_cons (x_if_f i2 rfl b_nil) (b_ret (x_ret ?_)))
        show _ = R.ok (D.bl (decide (lookA w lens11 = some (r.length + 1)))) S
        cases hw : lookA w lens11 with
        | none =>
          rw [hw] at e1
          refine (r_and_f (r_cmp h0 r_gl (cmp_in e1)) rfl).trans ?_
          simp
        | some k =>
          rw [hw] at e1
          have e2 : idxV (.kd lensK) (.str w) S = some (.int (k : Nat)) := by
            show lensK.lookup w = _
            rw [lensK_look, hw]; rfl
          have e3 : cmpV .eq (.int ((.str w :: r : List D).length : Nat)) (.int (k : Nat)) S = some (decide (some k = some (r.length + 1))) := by
            simp only [cmpV, pyEq_int]
            congr 1
            rw [decide_eq_decide]
            simp only [List.length_cons, Option.some.injEq]
            omega
          exact r_and_t (r_cmp h0 r_gl (cmp_in e1)) rfl (r_cmp l1 (r_idx r_gl h0 e2) e3)
      · rw [shape_str (fun w z => by subst z; cases hs)]
        exact x_fn g.shape rfl (b_ret (x_if_t (r_or_f i1 rfl (r_or_f (r_cmp l1 r_k c1) rfl (r_not_t (c := false) (r_isi h0 hs)))) rfl (b_ret (x_ret r_k))))
  | _ => cases m <;> exact h.elim
theorem nm_str {d : D} (h : nmD d = true) : ∃ z, d = .str z := by
  cases d with
  | str z => exact ⟨z, rfl⟩
  | _ => cases h
theorem nms_tup {d : D} (h : nmsD d = true) : ∃ zs : List Str, d = .tup (sD zs) := by
  cases d with
  | tup xs =>
    obtain ⟨zs, e, _⟩ := as_sD (P := fun _ => True) (ys := xs) (fun y hy => by
      obtain ⟨z, rfl⟩ := nm_str (List.all_eq_true.mp h y hy)
      exact ⟨z, trivial, rfl⟩)
    exact ⟨zs, by rw [e]⟩
  | _ => cases h
theorem look_int (z : Str) (l : List (Str × Nat)) (len : Nat) (d0 : Int) (h0 : d0 ≠ (len : Nat)) : ∃ k : Int, ((lookA z l).map intD).getD (.int d0) = .int k ∧ decide (k = (len : Nat)) = decide (lookA z l = some len) := by
  cases lookA z l with
  | none => exact ⟨d0, rfl, by simp [h0]⟩
  | some k =>
    refine ⟨(k : Nat), rfl, ?_⟩
    rw [decide_eq_decide]
    simp only [Option.some.injEq]
    omega
theorem len_set {zs : List Str} {S : Store} (h : zs.length < 4000) : biV .lenSet false [.tup (sD zs)] S = .ok (.int ((dedup (sD zs)).length : Nat)) S := by
  simp only [biV, seqOf, all_str, List.length_map, if_pos h]
theorem eq_nat (a b : Nat) (S : Store) : cmpV .eq (.int (a : Nat)) (.int (b : Nat)) S = some (decide (a = b)) := by
  simp only [cmpV, pyEq_int]
  congr 1
  rw [decide_eq_decide]
  omega
theorem ne_nat (a b : Nat) (S : Store) : cmpV .ne (.int (a : Nat)) (.int (b : Nat)) S = some (!decide (a = b)) := by
  rw [ne_int]
  congr 2
  rw [decide_eq_decide]
  omega
section
local macro_rules | `(tactic| walk_at "zV") => `(tactic| first | exact eqw _ _ _ | (with_reducible assumption) | rfl | exact tupN _ rfl | exact idxV_tup (at0 _ _) | (focus (apply cold; simp [Q.terms, Q.parts, Q.bnd, Q.idx]; done)) | (focus (apply binV_tupA; simp; done)) | exact binV_mod (by decide) | exact cmp_notin (in_sD _ _ _) | exact cmp_in (in_sD _ _ _))
local macro_rules | `(tactic| walk_at "zC") => `(tactic| first | rfl | assumption | decide)
local macro_rules | `(tactic| walk_at "zN") => `(tactic| (focus (apply tup_len; simp [Q.terms, Q.parts, Q.bnd, Q.idx]; done)))
local macro_rules | `(tactic| walk_at "zW") => `(tactic| first | (with_reducible assumption) | exact endV_q _ _ | exact endV_qs _ _ | exact endV_bl _ _ | exact endV_int _ _ | exact endV_tup (sD_nr _) _ | exact endV_lst (sD_nr _) _ | rfl)
local macro_rules | `(tactic| walk_at "zO") => `(tactic| first | (with_reducible exact o_nil) | ((with_reducible apply o_one); walk_at "zE"))
local macro_rules | `(tactic| walk_at "zL") => `(tactic| first | ((with_reducible apply s_nilE); rfl) | ((with_reducible apply s_consE); walk_at "zE"; walk_at "zL"; rfl))
local macro_rules | `(tactic| walk_at "zE") => `(tactic| first | (with_reducible exact r_k) | ((with_reducible apply r_var); rfl) | (with_reducible exact r_gl) | (with_reducible assumption) | ((with_reducible apply r_tup); walk_at "zL"; walk_at "zN") | ((with_reducible apply r_lst); walk_at "zL"; walk_at "zV") | ((with_reducible apply r_cmp); walk_at "zE"; walk_at "zE"; walk_at "zV") | ((with_reducible apply r_bin); walk_at "zE"; walk_at "zE"; walk_at "zV") | ((with_reducible apply r_idx); walk_at "zE"; walk_at "zE"; walk_at "zV") | ((with_reducible apply r_slc); walk_at "zE"; walk_at "zO"; walk_at "zO"; walk_at "zV") | ((with_reducible apply r_bi); walk_at "zL"; walk_at "zV") | ((with_reducible apply r_bm); walk_at "zE"; walk_at "zV"; walk_at "zL"; walk_at "zV") | ((with_reducible apply r_isi); walk_at "zE"; walk_at "zV") | ((with_reducible apply r_call); walk_at "zL"; (with_reducible assumption); walk_at "zW") | ((with_reducible apply r_not_tE); walk_at "zE"; rfl) | ((with_reducible apply r_not_fE); walk_at "zE"; rfl; rfl) | ((with_reducible apply t_var); rfl; rfl) | ((with_reducible apply t_call); walk_at "zE"; rfl) | ((with_reducible apply r_or_t); walk_at "zE"; walk_at "zC") | ((with_reducible apply r_or_f); walk_at "zE"; walk_at "zC"; walk_at "zE") | ((with_reducible apply r_and_f); walk_at "zE"; walk_at "zC") | ((with_reducible apply r_and_t); walk_at "zE"; walk_at "zC"; walk_at "zE") | ((with_reducible apply r_ite_t); walk_at "zE"; walk_at "zC"; walk_at "zE") | ((with_reducible apply r_ite_f); walk_at "zE"; walk_at "zC"; walk_at "zE"))
local macro_rules | `(tactic| walk_at "zS") => `(tactic| first | ((with_reducible apply x_asg); walk_at "zE"; rfl) | ((with_reducible apply x_ret); walk_at "zE") | (with_reducible assumption) | ((with_reducible apply x_if_f); walk_at "zE"; walk_at "zC"; walk_at "zB") | ((with_reducible apply x_if_t); walk_at "zE"; walk_at "zC"; walk_at "zB") | ((with_reducible apply x_setI); walk_at "zE"; walk_at "zE"; walk_at "zE"; walk_at "zV") | ((with_reducible apply x_expr); walk_at "zE"))
local macro_rules | `(tactic| walk_at "zB") => `(tactic| first | (with_reducible exact b_nil) | ((with_reducible apply b_cons); walk_at "zS"; walk_at "zB") | ((with_reducible apply b_ret); walk_at "zS"))

theorem hnames_ok (g : VG T V) {L m : Nat} (hL : L ≤ 1000) (n : Nat) (d : D) (S : Store) (h : tr L m d) (hs : Sh d) : callN T (n + 4) V.hnames [d] S = .ok (.bl (hnB d)) S := by
  have wd : ∀ x, (∃ k, tr L k x) → callN T (n + 3) V.word [x] S = .ok (.bl (nmD x)) S := fun x ⟨k, hx⟩ => pword_ok g (n + 1) x S hx
  have wds : ∀ x, (∃ k, tr L k x) → callN T (n + 3) V.words [x] S = .ok (.bl (nmsD x)) S := fun x ⟨k, hx⟩ => pwords_ok g hL n x S hx
  refine x_fn (fn := pHnames V) g.hnames rfl ?_
  rw [show startE (pHnames V) [d] = [some d, none] from rfl]
  dsimp only [pHnames]
  have sub : ∀ xs : List D, d = .tup xs → ∀ x ∈ xs, ∃ k, tr L k x := fun xs e x hx => by
    subst e
    cases m with
    | zero => exact h.elim
    | succ m => exact ⟨m, h.2 x hx⟩
  cases hs with
  | tru =>
    show _ = R.ok (Fl.ret (D.bl true)) S
    walk_at "zB"
  | fal =>
    show _ = R.ok (Fl.ret (D.bl true)) S
    walk_at "zB"
  | not a =>
    show _ = R.ok (Fl.ret (D.bl true)) S
    walk_at "zB"
  | given a b =>
    have h1 := wd a (sub _ rfl a (by simp))
    have h2 := wds b (sub _ rfl b (by simp))
    show _ = R.ok (Fl.ret (D.bl (nmD a && nmsD b))) S
    cases ha : nmD a <;> rw [ha] at h1 <;> simp only [Bool.false_and, Bool.true_and] <;> walk_at "zB"
  | inn a b =>
    have h1 := wd a (sub _ rfl a (by simp))
    have h2 := wds b (sub _ rfl b (by simp))
    show _ = R.ok (Fl.ret (D.bl (nmD a && nmsD b))) S
    cases ha : nmD a <;> rw [ha] at h1 <;> simp only [Bool.false_and, Bool.true_and] <;> walk_at "zB"
  | same a b =>
    have h1 := wd a (sub _ rfl a (by simp))
    have h2 := wd b (sub _ rfl b (by simp))
    show _ = R.ok (Fl.ret (D.bl (nmD a && nmD b))) S
    cases ha : nmD a <;> rw [ha] at h1 <;> simp only [Bool.false_and, Bool.true_and] <;> walk_at "zB"
  | and a b =>
    show _ = R.ok (Fl.ret (D.bl true)) S
    walk_at "zB"
  | or a b =>
    show _ = R.ok (Fl.ret (D.bl true)) S
    walk_at "zB"
  | some a b =>
    have h1 := wd a (sub _ rfl a (by simp))
    show _ = R.ok (Fl.ret (D.bl (nmD a))) S
    walk_at "zB"
  | all a b =>
    have h1 := wd a (sub _ rfl a (by simp))
    show _ = R.ok (Fl.ret (D.bl (nmD a))) S
    walk_at "zB"
  | grow a b c e =>
    have h1 := wd a (sub _ rfl a (by simp))
    have h2 := wds b (sub _ rfl b (by simp))
    have h3 := wds e (sub _ rfl e (by simp))
    show _ = R.ok (Fl.ret (D.bl (nmD a && (nmsD b && nmsD e)))) S
    cases ha : nmD a <;> cases hb : nmsD b <;> rw [ha] at h1 <;> rw [hb] at h2 <;> simp only [Bool.false_and, Bool.true_and] <;> walk_at "zB"
end
end Zg

/-! HQ: top faults, ended. -/
namespace Zg
open PySem Z
variable {T : Nat → Option Fn} {N : NIds} {V : VIds}
theorem in_vD (z : Str) (l : List (Str × Nat)) (S : Store) : inV (.str z) (vD l) S = some (lookA z l).isSome := by
  rw [vD]
  show (if okKey (kD intD l) (.str z) then some (getK (kD intD l) (.str z)).isSome else none) = _
  rw [get_kD]
  cases lookA z l <;> rfl
theorem idx_vD {z : Str} {l : List (Str × Nat)} {k : Nat} (S : Store) (h : lookA z l = some k) : idxV (vD l) (.str z) S = some (.int (k : Nat)) := by
  rw [vD]
  show (if okKey (kD intD l) (.str z) then getK (kD intD l) (.str z) else none) = _
  rw [get_kD, h]
  rfl
section
local macro_rules | `(tactic| walk_at "zV") => `(tactic| first | exact eqw _ _ _ | (with_reducible assumption) | rfl | exact tupN _ rfl | exact idxV_tup (at0 _ _) | (focus (apply cold; simp [Q.terms, Q.parts, Q.bnd, Q.idx]; done)) | (focus (apply binV_tupA; simp; done)) | exact binV_mod (by decide) | exact cmp_notin (in_sD _ _ _) | exact cmp_in (in_sD _ _ _))
local macro_rules | `(tactic| walk_at "zC") => `(tactic| first | rfl | assumption | decide)
local macro_rules | `(tactic| walk_at "zN") => `(tactic| (focus (apply tup_len; simp [Q.terms, Q.parts, Q.bnd, Q.idx]; done)))
local macro_rules | `(tactic| walk_at "zW") => `(tactic| first | (with_reducible assumption) | exact endV_q _ _ | exact endV_qs _ _ | exact endV_bl _ _ | exact endV_int _ _ | exact endV_tup (sD_nr _) _ | exact endV_lst (sD_nr _) _ | rfl)
local macro_rules | `(tactic| walk_at "zO") => `(tactic| first | (with_reducible exact o_nil) | ((with_reducible apply o_one); walk_at "zE"))
local macro_rules | `(tactic| walk_at "zL") => `(tactic| first | ((with_reducible apply s_nilE); rfl) | ((with_reducible apply s_consE); walk_at "zE"; walk_at "zL"; rfl))
local macro_rules | `(tactic| walk_at "zE") => `(tactic| first | (with_reducible exact r_k) | ((with_reducible apply r_var); rfl) | (with_reducible exact r_gl) | (with_reducible assumption) | ((with_reducible apply r_tup); walk_at "zL"; walk_at "zN") | ((with_reducible apply r_lst); walk_at "zL"; walk_at "zV") | ((with_reducible apply r_cmp); walk_at "zE"; walk_at "zE"; walk_at "zV") | ((with_reducible apply r_bin); walk_at "zE"; walk_at "zE"; walk_at "zV") | ((with_reducible apply r_idx); walk_at "zE"; walk_at "zE"; walk_at "zV") | ((with_reducible apply r_slc); walk_at "zE"; walk_at "zO"; walk_at "zO"; walk_at "zV") | ((with_reducible apply r_bi); walk_at "zL"; walk_at "zV") | ((with_reducible apply r_bm); walk_at "zE"; walk_at "zV"; walk_at "zL"; walk_at "zV") | ((with_reducible apply r_isi); walk_at "zE"; walk_at "zV") | ((with_reducible apply r_call); walk_at "zL"; (with_reducible assumption); walk_at "zW") | ((with_reducible apply r_not_tE); walk_at "zE"; rfl) | ((with_reducible apply r_not_fE); walk_at "zE"; rfl; rfl) | ((with_reducible apply t_var); rfl; rfl) | ((with_reducible apply t_call); walk_at "zE"; rfl) | ((with_reducible apply r_or_t); walk_at "zE"; walk_at "zC") | ((with_reducible apply r_or_f); walk_at "zE"; walk_at "zC"; walk_at "zE") | ((with_reducible apply r_and_f); walk_at "zE"; walk_at "zC") | ((with_reducible apply r_and_t); walk_at "zE"; walk_at "zC"; walk_at "zE") | ((with_reducible apply r_ite_t); walk_at "zE"; walk_at "zC"; walk_at "zE") | ((with_reducible apply r_ite_f); walk_at "zE"; walk_at "zC"; walk_at "zE"))
local macro_rules | `(tactic| walk_at "zS") => `(tactic| first | ((with_reducible apply x_asg); walk_at "zE"; rfl) | ((with_reducible apply x_ret); walk_at "zE") | (with_reducible assumption) | ((with_reducible apply x_if_f); walk_at "zE"; walk_at "zC"; walk_at "zB") | ((with_reducible apply x_if_t); walk_at "zE"; walk_at "zC"; walk_at "zB") | ((with_reducible apply x_setI); walk_at "zE"; walk_at "zE"; walk_at "zE"; walk_at "zV") | ((with_reducible apply x_expr); walk_at "zE"))
local macro_rules | `(tactic| walk_at "zB") => `(tactic| first | (with_reducible exact b_nil) | ((with_reducible apply b_cons); walk_at "zS"; walk_at "zB") | ((with_reducible apply b_ret); walk_at "zS"))

theorem ar_ok {C : CallT} {σ : Z.Env} {S : Store} {i j : E} {z : Str} {l : List (Str × Nat)} {xs : List D} (e1 : ev C σ i false S = .ok (.str z) S) (e2 : ev C σ j false S = .ok (vD l) S) {u : E} (e3 : ev C σ u false S = .ok (.tup xs) S) :
    ev C σ (.and (.cmp .in_ i j) (.cmp .eq (.idx j i) (.bi .len false (.cons u .nil)))) false S = .ok (.bl (decide (lookA z l = some xs.length))) S := by
  have h := in_vD z l S
  cases hl : lookA z l with
  | none =>
    rw [hl] at h
    refine (r_and_f (r_cmp e1 e2 (cmp_in h)) rfl).trans ?_
    simp
  | some k =>
    rw [hl] at h
    refine (r_and_t (r_cmp e1 e2 (cmp_in h)) rfl (r_cmp (r_idx e2 e1 (idx_vD S hl)) (r_bi (s_cons e3 s_nil) (len_bi _ _)) (eq_nat _ _ _))).trans ?_
    congr 2
    rw [decide_eq_decide]
    simp
theorem agrees_ok (g : VG T V) {L m : Nat} (hL : L ≤ 1000) (n : Nat) (d : D) (voc gr : List (Str × Nat)) (S : Store) (h : tr L m d) (hs : Sh d) (hh : hnB d = true) : callN T (n + 1) V.agrees [d, vD voc, vD gr] S = .ok (.bl (agB voc gr d)) S := by
  refine x_fn (fn := pAgrees V) g.agrees rfl ?_
  rw [show startE (pAgrees V) [d, vD voc, vD gr] = [some d, some (vD voc), some (vD gr), none] from rfl]
  dsimp only [pAgrees]
  cases hs with
  | tru =>
    show _ = R.ok (Fl.ret (D.bl true)) S
    walk_at "zB"
  | fal =>
    show _ = R.ok (Fl.ret (D.bl true)) S
    walk_at "zB"
  | not a =>
    show _ = R.ok (Fl.ret (D.bl true)) S
    walk_at "zB"
  | and a b =>
    show _ = R.ok (Fl.ret (D.bl true)) S
    walk_at "zB"
  | or a b =>
    show _ = R.ok (Fl.ret (D.bl true)) S
    walk_at "zB"
  | some a b =>
    show _ = R.ok (Fl.ret (D.bl true)) S
    walk_at "zB"
  | all a b =>
    show _ = R.ok (Fl.ret (D.bl true)) S
    walk_at "zB"
  | same a b =>
    show _ = R.ok (Fl.ret (D.bl true)) S
    walk_at "zB"
  | given a b =>
    have hh : (nmD a && nmsD b) = true := hh
    rw [Bool.and_eq_true] at hh
    obtain ⟨z, rfl⟩ := nm_str hh.1
    obtain ⟨zs, rfl⟩ := nms_tup hh.2
    have h1 : ev (callN T n) [some (.tup [.str "given", .str z, .tup (sD zs)]), some (vD voc), some (vD gr), some (.str "given")] (.and (.cmp .in_ (.idx (.var 0) (.k (.int 1))) (.var 1)) (.cmp .eq (.idx (.var 1) (.idx (.var 0) (.k (.int 1)))) (.bi .len false (.cons (.idx (.var 0) (.k (.int 2))) .nil)))) false S = _ :=
      ar_ok (r_idx (r_var rfl) r_k (tupN 1 rfl)) (r_var rfl) (r_idx (r_var rfl) r_k (tupN 2 rfl))
    exact b_cons (x_asg (r_idx (r_var rfl) r_k (tupN 0 rfl)) rfl) (b_ret (x_if_t (r_cmp (r_var rfl) r_k (eqw _ _ _)) rfl (b_ret (x_ret h1))))
  | inn a b =>
    have hh : (nmD a && nmsD b) = true := hh
    rw [Bool.and_eq_true] at hh
    obtain ⟨z, rfl⟩ := nm_str hh.1
    obtain ⟨zs, rfl⟩ := nms_tup hh.2
    have h1 : ev (callN T n) [some (.tup [.str "in", .str z, .tup (sD zs)]), some (vD voc), some (vD gr), some (.str "in")] (.and (.cmp .in_ (.idx (.var 0) (.k (.int 1))) (.var 2)) (.cmp .eq (.idx (.var 2) (.idx (.var 0) (.k (.int 1)))) (.bi .len false (.cons (.idx (.var 0) (.k (.int 2))) .nil)))) false S = _ :=
      ar_ok (r_idx (r_var rfl) r_k (tupN 1 rfl)) (r_var rfl) (r_idx (r_var rfl) r_k (tupN 2 rfl))
    exact b_cons (x_asg (r_idx (r_var rfl) r_k (tupN 0 rfl)) rfl) (b_cons (x_if_f (r_cmp (r_var rfl) r_k (eqw _ _ _)) rfl b_nil) (b_ret (x_if_t (r_cmp (r_var rfl) r_k (eqw _ _ _)) rfl (b_ret (x_ret h1)))))
  | grow a b c e =>
    have hh : (nmD a && (nmsD b && nmsD e)) = true := hh
    rw [Bool.and_eq_true, Bool.and_eq_true] at hh
    obtain ⟨zs, rfl⟩ := nms_tup hh.2.1
    obtain ⟨us, rfl⟩ := nms_tup hh.2.2
    have hz : zs.length < 4000 := by
      cases m with
      | zero => exact h.elim
      | succ m =>
        have := h.2 (.tup (sD zs)) (by simp)
        cases m with
        | zero => exact this.elim
        | succ m =>
          have := this.1
          simp at this
          omega
    have l2 := len_bi (sD zs) S
    have l4 := len_bi (sD us) S
    have l5 := len_set (S := S) hz
    have e1 := eq_nat (sD zs).length (sD us).length S
    have e2 := eq_nat (dedup (sD zs)).length (sD zs).length S
    show _ = R.ok (Fl.ret (D.bl (decide ((sD zs).length = (sD us).length) && decide ((dedup (sD zs)).length = (sD zs).length)))) S
    cases hd : decide ((sD zs).length = (sD us).length) <;> rw [hd] at e1 <;> simp only [Bool.false_and, Bool.true_and] <;> walk_at "zB"
/-- the program's test at the top -/
theorem top_cond (g : VG T V) {L m : Nat} (hL : L ≤ 1000) (n : Nat) (d p : D) (voc gr : List (Str × Nat)) (S : Store) (h : tr L m d) (x4 x5 x6 x7 : Option D) :
    ev (callN T (n + 4)) [some d, some p, some (vD voc), some (vD gr), x4, x5, x6, x7] (.or (.not (.call V.shape .val (.cons (.var 0) .nil))) (.or (.not (.call V.hnames .val (.cons (.var 0) .nil))) (.not (.call V.agrees .val (.cons (.var 0) (.cons (.var 2) (.cons (.var 3) .nil))))))) true S = .ok (.bl (!topB voc gr d)) S := by
  have h1 := shape_ok g hL (n + 3) d S h
  by_cases hs : shapeB d = true
  · rw [rest_eq voc gr d hs]
    have h2 := hnames_ok g hL n d S h (sh_of hs)
    rw [hs] at h1
    by_cases hh : hnB d = true
    · have h3 := agrees_ok g hL (n + 3) d voc gr S h (sh_of hs) hh
      rw [hh, Bool.true_and]
      rw [hh] at h2
      exact r_or_f (r_not_t (c := true) (t_call (r_call (s_cons (r_var rfl) s_nil) h1 (endV_bl _ _)) rfl)) rfl (r_or_f (r_not_t (c := true) (t_call (r_call (s_cons (r_var rfl) s_nil) h2 (endV_bl _ _)) rfl)) rfl (r_not_t (t_call (r_call (s_cons (r_var rfl) (s_cons (r_var rfl) (s_cons (r_var rfl) s_nil))) h3 (endV_bl _ _)) rfl)))
    · have hh : hnB d = false := by simpa using hh
      rw [hh, Bool.false_and]
      rw [hh] at h2
      exact r_or_f (r_not_t (c := true) (t_call (r_call (s_cons (r_var rfl) s_nil) h1 (endV_bl _ _)) rfl)) rfl (r_or_t (r_not_t (c := false) (t_call (r_call (s_cons (r_var rfl) s_nil) h2 (endV_bl _ _)) rfl)) rfl)
  · have hs : shapeB d = false := by simpa using hs
    rw [hs] at h1
    have e : topB voc gr d = false := by unfold topB; rw [hs]; rfl
    rw [e]
    exact r_or_t (r_not_t (c := false) (t_call (r_call (s_cons (r_var rfl) s_nil) h1 (endV_bl _ _)) rfl)) rfl
/-- the law's -/
theorem law_top (g : NG T N) {L m : Nat} (hL : L ≤ 1000) (n : Nat) (d : D) (voc gr : List (Str × Nat)) (S : Store) (h : tr L m d) : callN T (n + 3) N.faulty [d, vD voc, vD gr] S = .ok (.bl (!topB voc gr d)) (S ++ [none]) := by
  have hd : ev (callN T (n + 2)) [some d, some (vD voc), some (vD gr), none, none, none] (.dct true (.cons (.k (.str "true")) (.cons (.k (.int 1)) (.cons (.k (.str "false")) (.cons (.k (.int 1)) (.cons (.k (.str "given")) (.cons (.k (.int 3)) (.cons (.k (.str "same")) (.cons (.k (.int 3)) (.cons (.k (.str "in")) (.cons (.k (.int 3)) (.cons (.k (.str "not")) (.cons (.k (.int 2)) (.cons (.k (.str "and")) (.cons (.k (.int 3)) (.cons (.k (.str "or")) (.cons (.k (.int 3)) (.cons (.k (.str "some")) (.cons (.k (.int 3)) (.cons (.k (.str "all")) (.cons (.k (.int 3)) .nil)))))))))))))))))))) .nil) false S = .ok (.ref S.length) (S ++ [some (.dct (kD intD lens10))]) := by
    have hes : evs (callN T (n + 2)) [some d, some (vD voc), some (vD gr), none, none, none] (.cons (.k (.str "true")) (.cons (.k (.int 1)) (.cons (.k (.str "false")) (.cons (.k (.int 1)) (.cons (.k (.str "given")) (.cons (.k (.int 3)) (.cons (.k (.str "same")) (.cons (.k (.int 3)) (.cons (.k (.str "in")) (.cons (.k (.int 3)) (.cons (.k (.str "not")) (.cons (.k (.int 2)) (.cons (.k (.str "and")) (.cons (.k (.int 3)) (.cons (.k (.str "or")) (.cons (.k (.int 3)) (.cons (.k (.str "some")) (.cons (.k (.int 3)) (.cons (.k (.str "all")) (.cons (.k (.int 3)) .nil)))))))))))))))))))) S = .ok [.str "true", .int 1, .str "false", .int 1, .str "given", .int 3, .str "same", .int 3, .str "in", .int 3, .str "not", .int 2, .str "and", .int 3, .str "or", .int 3, .str "some", .int 3, .str "all", .int 3] S := by
      repeat (first | exact s_nil | refine s_cons r_k ?_)
    have hp : pairUp [.str "true", .int 1, .str "false", .int 1, .str "given", .int 3, .str "same", .int 3, .str "in", .int 3, .str "not", .int 2, .str "and", .int 3, .str "or", .int 3, .str "some", .int 3, .str "all", .int 3] = some (kD intD lens10) := rfl
    have hpa : putAll [] (kD intD lens10) = kD intD lens10 := by rw [putAll_nil]; rfl
    have hmk : mkD true (kD intD lens10) S = .ok (.ref S.length) (S ++ [some (.dct (kD intD lens10))]) := by
      have h1 : (kD intD lens10).length ≤ sizeLine := small5 (by simp [kD, lens10])
      unfold mkD
      rw [if_pos h1, if_pos rfl]
    have hfl : flatKeys (kD intD lens10) = true := rfl
    have hl15 : decide ((kD intD lens10).length ≤ 15) = true := rfl
    simp only [ev, fin_false, hes, R.ok_bind, hp, hfl, hl15, Bool.and_self, if_true, hpa, hmk]
  have hs : setIV (.ref S.length) (.str "grow") (.int 5) (S ++ [some (.dct (kD intD lens10))]) = some (S ++ [some (.dct (kD intD lens11))]) := by
    have h1 : (kD intD lens10).length < sizeLine := small9 (by simp [kD, lens10])
    have h2 : putD (kD intD lens10) (.str "grow") (intD 5) = kD intD lens11 := by rw [put_kD]; rfl
    have h2 : putD (kD intD lens10) (.str "grow") (.int 5) = kD intD lens11 := h2
    simp only [setIV, objAt_last, okKey, kFlat, Option.isSome_some, Bool.true_and, decide_eq_true h1, if_true, h2, set_last]
  have hf : frzD FRZ (S ++ [some (.dct (kD intD lens11))]) (.ref S.length) = some (vD lens11, S ++ [none]) := by
    show frzD 4 _ _ = _
    simp only [frzD, objAt_last, set_last, frzK_kD intD_val, Option.map_some]
  generalize hS1 : S ++ [none] = S1 at *
  refine x_fn g.faulty rfl (b_cons (x_asg hd rfl) (b_cons (x_frzv (x_setI r_k (r_var rfl) r_k hs) rfl hf) ?_))
  rw [show (List.set (startE (fFaulty N) [d, vD voc, vD gr]) 3 (some (D.ref (List.length S)))).set 3 (some (vD lens11)) = [some d, some (vD voc), some (vD gr), some (vD lens11), none, none] from rfl]
  clear hd hs hf
  have out : (∃ b, topB voc gr d = b ∧ b = false) → ∀ {x : R Fl}, x = R.ok (Fl.ret (D.bl true)) S1 → x = R.ok (Fl.ret (D.bl (!topB voc gr d))) S1 := fun ⟨b, e1, e2⟩ x hx => by rw [hx, e1, e2]; rfl
  have nsh : shapeB d = false → ∃ b, topB voc gr d = b ∧ b = false := fun e => ⟨false, by unfold topB; rw [e]; rfl, rfl⟩
  cases d with
  | non => exact out (nsh rfl) (b_ret (x_if_t (r_or_t (r_not_t (r_isi (r_var rfl) rfl)) rfl) rfl (b_ret (x_ret r_k))))
  | int _ => exact out (nsh rfl) (b_ret (x_if_t (r_or_t (r_not_t (r_isi (r_var rfl) rfl)) rfl) rfl (b_ret (x_ret r_k))))
  | str _ => exact out (nsh rfl) (b_ret (x_if_t (r_or_t (r_not_t (r_isi (r_var rfl) rfl)) rfl) rfl (b_ret (x_ret r_k))))
  | tup xs =>
    have i1 : ev (callN T (n + 2)) [some (.tup xs), some (vD voc), some (vD gr), some (vD lens11), none, none] (.not (.isi (.var 0) .tuple)) true S1 = .ok (.bl false) S1 := r_not_t (c := true) (r_isi (r_var rfl) rfl)
    have l0 : ∀ σ : Z.Env, σ[0]? = some (some (.tup xs)) → ev (callN T (n + 2)) σ (.bi .len false (.cons (.var 0) .nil)) false S1 = .ok (.int (xs.length : Nat)) S1 := fun σ e => r_bi (s_cons (r_var e) s_nil) (len_bi _ _)
    have l1 := l0 [some (.tup xs), some (vD voc), some (vD gr), some (vD lens11), none, none] rfl
    have c1 : cmpV .eq (.int (xs.length : Nat)) (.int 0) S1 = some (decide (xs.length = 0)) := by
      simp only [cmpV, pyEq_int]
      congr 1
      rw [decide_eq_decide]
      omega
    cases xs with
    | nil => exact out (nsh rfl) (b_ret (x_if_t (r_or_f i1 rfl (r_or_t (r_cmp l1 r_k c1) rfl)) rfl (b_ret (x_ret r_k))))
    | cons x r =>
      cases m with
      | zero => exact h.elim
      | succ m =>
      have hx := h.2 x List.mem_cons_self
      have h0 : ∀ σ : Z.Env, σ[0]? = some (some (.tup (x :: r))) → ev (callN T (n + 2)) σ (.idx (.var 0) (.k (.int 0))) false S1 = .ok x S1 := fun σ e => r_idx (r_var e) r_k (idxV_tup (at0 _ _))
      rcases tr_isStr S1 hx with ⟨w, rfl⟩ | hs
      · have i2 : ev (callN T (n + 2)) [some (.tup (.str w :: r)), some (vD voc), some (vD gr), some (vD lens11), none, none] (.or (.not (.isi (.var 0) .tuple)) (.or (.cmp .eq (.bi .len false (.cons (.var 0) .nil)) (.k (.int 0))) (.not (.isi (.idx (.var 0) (.k (.int 0))) .str)))) true S1 = .ok (.bl false) S1 :=
          r_or_f i1 rfl (r_or_f (r_cmp l1 r_k c1) rfl (r_not_t (c := true) (r_isi (h0 _ rfl) rfl)))
        obtain ⟨k, k1, k2⟩ := look_int w lens11 (r.length + 1) 0 (by omega)
        have g1 : bmV .get2 (vD lens11) [.str w, .int 0] S1 = .ok (.int k) S1 := by rw [get2_kD, k1]
        have c2 : ev (callN T (n + 2)) [some (.tup (.str w :: r)), some (vD voc), some (vD gr), some (vD lens11), some (.str w), none] (.cmp .ne (.bm .get2 (.var 3) (.cons (.var 4) (.cons (.k (.int 0)) .nil))) (.bi .len false (.cons (.var 0) .nil))) true S1 = .ok (.bl (!shapeB (.tup (.str w :: r)))) S1 := by
          refine r_cmp (r_bm (r_var rfl) rfl (s_cons (r_var rfl) (s_cons r_k s_nil)) g1) (l0 _ rfl) ?_
          rw [ne_int]
          show some (!decide (k = ((r.length + 1 : Nat) : Int))) = _
          rw [k2]; rfl
        refine b_cons (x_if_f i2 rfl b_nil) (b_cons (x_asg (h0 _ rfl) rfl) ?_)
        cases hsh : shapeB (.tup (.str w :: r)) with
        | false =>
          rw [hsh] at c2
          exact out (nsh hsh) (b_ret (x_if_t c2 rfl (b_ret (x_ret r_k))))
        | true =>
          rw [hsh] at c2
          refine b_cons (x_if_f c2 rfl b_nil) ?_
          clear c2 i2 h0 l1 i1 l0
          have wd : ∀ x, (∃ k, tr L k x) → callN T (n + 2) N.name [x] S1 = .ok (.bl (nmD x)) S1 := fun x ⟨k, hx⟩ => lword_ok g (n + 1) x S1 hx
          have wds : ∀ x, (∃ k, tr L k x) → callN T (n + 2) N.names [x] S1 = .ok (.bl (nmsD x)) S1 := fun x ⟨k, hx⟩ => lwords_ok g hL n x S1 hx
          have sub : ∀ x ∈ (.str w :: r : List D), ∃ k, tr L k x := fun x hx => ⟨m, h.2 x hx⟩
          rw [rest_eq voc gr _ hsh]
          have sh := sh_of hsh
          generalize hdd : D.tup (.str w :: r) = dd at sh
          dsimp only [List.set]
          cases sh with
          | tru =>
            cases hdd
            show _ = R.ok (Fl.ret (D.bl false)) S1
            walk_at "zB"
          | fal =>
            cases hdd
            show _ = R.ok (Fl.ret (D.bl false)) S1
            walk_at "zB"
          | not a =>
            cases hdd
            show _ = R.ok (Fl.ret (D.bl false)) S1
            walk_at "zB"
          | and a b =>
            cases hdd
            show _ = R.ok (Fl.ret (D.bl false)) S1
            walk_at "zB"
          | or a b =>
            cases hdd
            show _ = R.ok (Fl.ret (D.bl false)) S1
            walk_at "zB"
          | some a b =>
            cases hdd
            have h1 := wd a (sub a (by simp))
            show _ = R.ok (Fl.ret (D.bl (!(nmD a && true)))) S1
            rw [Bool.and_true]
            walk_at "zB"
          | all a b =>
            cases hdd
            have h1 := wd a (sub a (by simp))
            show _ = R.ok (Fl.ret (D.bl (!(nmD a && true)))) S1
            rw [Bool.and_true]
            walk_at "zB"
          | same a b =>
            cases hdd
            have h1 := wd a (sub a (by simp))
            have h2 := wd b (sub b (by simp))
            show _ = R.ok (Fl.ret (D.bl (!(nmD a && nmD b && true)))) S1
            rw [Bool.and_true]
            cases ha : nmD a <;> rw [ha] at h1 <;> simp only [Bool.false_and, Bool.true_and, Bool.not_false] <;> walk_at "zB"
          | given a b =>
            cases hdd
            have h1 := wd a (sub a (by simp))
            have h2 := wds b (sub b (by simp))
            show _ = R.ok (Fl.ret (D.bl (!(nmD a && nmsD b && arB voc a b)))) S1
            cases ha : nmD a with
            | false => rw [ha] at h1; simp only [Bool.false_and, Bool.not_false]; walk_at "zB"
            | true =>
              rw [ha] at h1
              cases hb : nmsD b with
              | false => rw [hb] at h2; simp only [Bool.true_and, Bool.false_and, Bool.not_false]; walk_at "zB"
              | true =>
                rw [hb] at h2
                obtain ⟨z, rfl⟩ := nm_str ha
                obtain ⟨zs, rfl⟩ := nms_tup hb
                obtain ⟨k', k3, k4⟩ := look_int z voc (sD zs).length (0 - 1) (by omega)
                have g2 : bmV .get2 (vD voc) [.str z, .int (0 - 1)] S1 = .ok (.int k') S1 := by rw [get2_kD, k3]
                have l2 := len_bi (sD zs) S1
                have e2 := ne_int k' ((sD zs).length : Nat) S1
                rw [k4] at e2
                show _ = R.ok (Fl.ret (D.bl (!decide (lookA z voc = some (sD zs).length)))) S1
                walk_at "zB"
          | inn a b =>
            cases hdd
            have h1 := wd a (sub a (by simp))
            have h2 := wds b (sub b (by simp))
            show _ = R.ok (Fl.ret (D.bl (!(nmD a && nmsD b && arB gr a b)))) S1
            cases ha : nmD a with
            | false => rw [ha] at h1; simp only [Bool.false_and, Bool.not_false]; walk_at "zB"
            | true =>
              rw [ha] at h1
              cases hb : nmsD b with
              | false => rw [hb] at h2; simp only [Bool.true_and, Bool.false_and, Bool.not_false]; walk_at "zB"
              | true =>
                rw [hb] at h2
                obtain ⟨z, rfl⟩ := nm_str ha
                obtain ⟨zs, rfl⟩ := nms_tup hb
                obtain ⟨k', k3, k4⟩ := look_int z gr (sD zs).length (0 - 1) (by omega)
                have g2 : bmV .get2 (vD gr) [.str z, .int (0 - 1)] S1 = .ok (.int k') S1 := by rw [get2_kD, k3]
                have l2 := len_bi (sD zs) S1
                have e2 := ne_int k' ((sD zs).length : Nat) S1
                rw [k4] at e2
                show _ = R.ok (Fl.ret (D.bl (!decide (lookA z gr = some (sD zs).length)))) S1
                walk_at "zB"
          | grow a b c e =>
            cases hdd
            have h1 := wd a (sub a (by simp))
            have h2 := wds b (sub b (by simp))
            have h3 := wds e (sub e (by simp))
            show _ = R.ok (Fl.ret (D.bl (!(nmD a && (nmsD b && nmsD e) && (decide (lenD b = lenD e) && nodupD b))))) S1
            cases ha : nmD a with
            | false => rw [ha] at h1; simp only [Bool.false_and, Bool.not_false]; walk_at "zB"
            | true =>
              rw [ha] at h1
              cases hb : nmsD b with
              | false => rw [hb] at h2; simp only [Bool.true_and, Bool.false_and, Bool.not_false]; walk_at "zB"
              | true =>
                rw [hb] at h2
                cases hc : nmsD e with
                | false => rw [hc] at h3; simp only [Bool.true_and, Bool.false_and, Bool.not_false]; walk_at "zB"
                | true =>
                  rw [hc] at h3
                  obtain ⟨zs, rfl⟩ := nms_tup hb
                  obtain ⟨us, rfl⟩ := nms_tup hc
                  have hz : zs.length < 4000 := by
                    have := h.2 (.tup (sD zs)) (by simp)
                    cases m with
                    | zero => exact this.elim
                    | succ m =>
                      have := this.1
                      simp at this
                      omega
                  have l2 := len_bi (sD zs) S1
                  have l4 := len_bi (sD us) S1
                  have l5 := len_set (S := S1) hz
                  have e1 := ne_nat (sD zs).length (sD us).length S1
                  have e2 := ne_nat (dedup (sD zs)).length (sD zs).length S1
                  show _ = R.ok (Fl.ret (D.bl (!(decide ((sD zs).length = (sD us).length) && decide ((dedup (sD zs)).length = (sD zs).length))))) S1
                  cases hd : decide ((sD zs).length = (sD us).length) <;> rw [hd] at e1 <;> simp only [Bool.false_and, Bool.true_and, Bool.not_false] <;> walk_at "zB"
      · exact out (nsh (shape_str (fun w z => by subst z; cases hs))) (b_ret (x_if_t (r_or_f i1 rfl (r_or_f (r_cmp l1 r_k c1) rfl (r_not_t (c := false) (r_isi (h0 _ rfl) hs)))) rfl (b_ret (x_ret r_k))))
  | _ => cases m <;> exact h.elim
end
end Zg

/-! HR: the first fault of any thing, by the program and by the law. -/
namespace Zg
open PySem Z
variable {T : Nat → Option Fn} {N : NIds} {V : VIds}
/-- a for that may answer, by its turn -/
theorem for_first {C : CallT} {tg : Tg} {it : Iy} {b : B} {σ : Z.Env} {S S1 : Store} {ds : List D} (P : Nat → Z.Env → Prop) (hit : Nat → Option D) (hI : evI C σ it S = .ok ds S1) (h0 : P 0 σ)
    (step : ∀ i x σ, ds[i]? = some x → P i σ → ∃ σ2, asg tg x σ = some σ2 ∧ ((∃ r, hit i = some r ∧ evB C b σ2 S1 = .ok (.ret r) S1) ∨ (hit i = none ∧ ∃ σ', evB C b σ2 S1 = .ok (.nx σ') S1 ∧ P (i + 1) σ'))) :
    (∃ r, (List.range ds.length).findSome? hit = some r ∧ evS C (.for_ tg it b) σ S = .ok (.ret r) S1) ∨ ((List.range ds.length).findSome? hit = none ∧ ∃ σ', evS C (.for_ tg it b) σ S = .ok (.nx σ') S1 ∧ P ds.length σ') := by
  have key : ∀ (es : List D) (k : Nat) (σ : Z.Env), (∀ i, es[i]? = ds[k + i]?) → k + es.length = ds.length → P k σ →
      (∃ r, ((List.range es.length).findSome? fun i => hit (k + i)) = some r ∧ forR (fun d σ1 S2 => match asg tg d σ1 with
        | some σ2 => evB C b σ2 S2
        | none => .bad) es σ S1 = .ok (.ret r) S1) ∨ (((List.range es.length).findSome? fun i => hit (k + i)) = none ∧ ∃ σ', forR (fun d σ1 S2 => match asg tg d σ1 with
        | some σ2 => evB C b σ2 S2
        | none => .bad) es σ S1 = .ok (.nx σ') S1 ∧ P ds.length σ') := by
    intro es
    induction es with
    | nil =>
      intro k σ _ hl hp
      simp only [List.length_nil, Nat.add_zero] at hl
      exact .inr ⟨rfl, σ, rfl, hl ▸ hp⟩
    | cons e es ih =>
      intro k σ hg hl hp
      have he : ds[k]? = some e := by have := hg 0; simpa using this.symm
      obtain ⟨σ2, ha, hb⟩ := step k e σ he hp
      have hr : (List.range (es.length + 1)).findSome? (fun i => hit (k + i)) = (hit k).or ((List.range es.length).findSome? fun i => hit (k + 1 + i)) := by
        rw [List.range_succ_eq_map, List.findSome?_cons, List.findSome?_map]
        have e2 : ((fun i => hit (k + i)) ∘ Nat.succ) = fun i => hit (k + 1 + i) := by
          funext i
          show hit (k + (i + 1)) = hit (k + 1 + i)
          congr 1; omega
        rw [e2]
        cases hit k <;> simp
      rw [List.length_cons, hr]
      rcases hb with ⟨r, hk, hb⟩ | ⟨hk, σ', hb, hp'⟩
      · rw [hk]
        exact .inl ⟨r, rfl, by simp only [forR, ha, hb, R.ok_bind]⟩
      · rw [hk]
        have := ih (k + 1) σ' (fun i => by
          have := hg (i + 1)
          rw [List.getElem?_cons_succ] at this
          rw [this]; congr 1; omega) (by simp only [List.length_cons] at hl; omega) hp'
        simp only [forR, ha, hb, R.ok_bind, Option.none_or]
        exact this
  have := key ds 0 σ (fun i => by rw [Nat.zero_add]) (by rw [Nat.zero_add]) h0
  simp only [Nat.zero_add] at this
  rcases this with ⟨r, h1, h2⟩ | ⟨h1, σ', h2, h3⟩
  · exact .inl ⟨r, h1, by simp only [evS, hI, R.ok_bind]; exact h2⟩
  · exact .inr ⟨h1, σ', by simp only [evS, hI, R.ok_bind]; exact h2, h3⟩
theorem find_range {α β : Type} (xs : List α) (f : α → Option β) : (List.range xs.length).findSome? (fun i => (xs[i]?).bind f) = xs.findSome? f := by
  induction xs with
  | nil => rfl
  | cons x xs ih =>
    rw [List.length_cons, List.range_succ_eq_map, List.findSome?_cons, List.findSome?_map, List.findSome?_cons]
    have e2 : ((fun i => ((x :: xs)[i]?).bind f) ∘ Nat.succ) = fun i => (xs[i]?).bind f := rfl
    rw [e2, ih]
    rfl
/-! ### a dict copied key by key -/
theorem r_dc {C : CallT} {σ : Z.Env} {S S1 S2 : Store} {ow : Bool} {own : List Nat} {ke ve : E} {tg : Tg} {it : Iy} {cond : Es} {ds : List D} {ys : List (D × D)} {r : R D} (hi : evI C σ it S = .ok ds S1)
    (hm : mapR (fun d S2 => match asg tg d (wipeE σ own) with
      | some σ1 => (evC C σ1 cond S2).bind fun b S3 => if b then (ev C σ1 ke false S3).bind fun k S4 => (ev C σ1 ve false S4).bind fun v S5 => .ok [(k, v)] S5 else .ok [] S3
      | none => .bad) ds S1 = .ok ys S2) (hc : (flatKeys ys && decide (ys.length ≤ sizeLine)) = true) (h : mkD ow (putAll [] ys) S2 = r) : ev C σ (.dc ow own ke ve tg it cond) false S = r := by
  simp only [ev, hi, R.ok_bind, fin_false]
  refine (congrArg (fun q : R (List (D × D)) => q.bind fun kvs S2 => if flatKeys kvs && decide (kvs.length ≤ sizeLine) then mkD ow (putAll [] kvs) S2 else .bad) hm).trans ?_
  simp only [R.ok_bind, hc, if_true, h]
theorem i_keys {C : CallT} {σ : Z.Env} {S S1 : Store} {e : E} {kvs : List (D × D)} (h : ev C σ e false S = .ok (.dct kvs) S1) : evI C σ (.keys e) S = .ok (kvs.map (·.1)) S1 := by simp only [evI, h, R.ok_bind]
section
variable {α : Type} {f : α → D}
theorem look_nodup {x : Str} {a : α} : ∀ {l : List (Str × α)}, (l.map (·.1)).Nodup → (x, a) ∈ l → lookA x l = some a
  | (y, b) :: l, h, hm => by
    simp only [List.map_cons, List.nodup_cons] at h
    rcases List.mem_cons.mp hm with e | e
    · cases e; simp [lookA]
    · have : y ≠ x := fun z => h.1 (z ▸ List.mem_map.mpr ⟨(x, a), e, rfl⟩)
      have e2 : lookA x ((y, b) :: l) = lookA x l := by simp [lookA, this]
      rw [e2]
      exact look_nodup h.2 e
theorem putA_new {x : Str} {a : α} {l : List (Str × α)} (h : x ∉ l.map (·.1)) : putA x a l = l ++ [(x, a)] := by
  unfold putA
  rw [if_neg]
  simp only [List.any_eq_true, decide_eq_true_eq, not_exists, not_and]
  exact fun p hp e => h (List.mem_map.mpr ⟨p, hp, e⟩)
theorem fold_new : ∀ (l acc : List (Str × α)), ((acc ++ l).map (·.1)).Nodup → l.foldl (fun l p => putA p.1 p.2 l) acc = acc ++ l
  | [], acc, _ => by simp
  | p :: l, acc, h => by
    have hp : p.1 ∉ acc.map (·.1) := by
      rw [List.map_append, List.map_cons, List.nodup_append] at h
      intro hm
      exact h.2.2 _ hm _ List.mem_cons_self rfl
    rw [List.foldl_cons, putA_new hp, fold_new l (acc ++ [(p.1, p.2)]) (by simpa using h)]
    simp
theorem putA_keys (x : Str) (a : α) (l : List (Str × α)) : (putA x a l).map (·.1) = if x ∈ l.map (·.1) then l.map (·.1) else l.map (·.1) ++ [x] := by
  by_cases h : x ∈ l.map (·.1)
  · rw [if_pos h]
    unfold putA
    rw [if_pos]
    · rw [List.map_map]
      refine List.map_congr_left fun p _ => ?_
      simp only [Function.comp]
      split <;> rfl
    · obtain ⟨p, hp, e⟩ := List.mem_map.mp h
      exact List.any_eq_true.mpr ⟨p, hp, decide_eq_true e⟩
  · rw [if_neg h, putA_new h]
    simp
theorem putA_nodup {x : Str} {a : α} {l : List (Str × α)} (h : (l.map (·.1)).Nodup) : ((putA x a l).map (·.1)).Nodup := by
  rw [putA_keys]
  split
  · exact h
  · rename_i hx
    rw [List.nodup_append]
    refine ⟨h, by simp, fun y hy z hz => ?_⟩
    simp only [List.mem_cons, List.not_mem_nil, or_false] at hz
    subst hz
    exact fun e => hx (e ▸ hy)
theorem flat_kD (l : List (Str × α)) : flatKeys (kD f l) = true := by
  unfold flatKeys kD
  rw [List.all_eq_true]
  intro p hp
  obtain ⟨q, _, rfl⟩ := List.mem_map.mp hp
  rfl
/-- {x: d[x] for x in d} -/
theorem copy_dc {C : CallT} {σ : Z.Env} {S : Store} {ow : Bool} {i j : Nat} {l : List (Str × α)} (hi : σ[i]? = some (some (.dct (kD f l)))) (hj : j < σ.length) (hij : i ≠ j) (hn : (l.map (·.1)).Nodup) (hl : l.length ≤ 100000) :
    ev C σ (.dc ow [j] (.var j) (.idx (.var i) (.var j)) (.nm j) (.keys (.var i)) .nil) false S = mkD ow (kD f l) S := by
  have hk : (kD f l).map (·.1) = l.map fun p => D.str p.1 := by simp [kD]
  refine r_dc (ds := l.map fun p => D.str p.1) (ys := kD f l) (S1 := S) (S2 := S) ?_ ?_ ?_ ?_
  · rw [← hk]; exact i_keys (r_var hi)
  · refine mapR_map (g := fun p : Str × α => (D.str p.1, f p.2)) fun p hp => ?_
    have ha : asg (.nm j) (.str p.1) (wipeE σ [j]) = some ((σ.set j none).set j (some (.str p.1))) := by
      have : j < (σ.set j none).length := by simpa using hj
      simp only [wipeE, asg, this, if_true]
    have e1 : ((σ.set j none).set j (some (.str p.1)))[j]? = some (some (.str p.1)) := by simp [hj]
    have e2 : ((σ.set j none).set j (some (.str p.1)))[i]? = some (some (.dct (kD f l))) := by simp [List.getElem?_set_ne (Ne.symm hij), hi]
    have e3 : idxV (.dct (kD f l)) (.str p.1) S = some (f p.2) := by
      show (if okKey (kD f l) (.str p.1) then getK (kD f l) (.str p.1) else none) = _
      rw [get_kD, look_nodup hn hp]
      rfl
    have h1 : ev C ((σ.set j none).set j (some (.str p.1))) (.var j) false S = .ok (.str p.1) S := r_var e1
    have h2 : ev C ((σ.set j none).set j (some (.str p.1))) (.idx (.var i) (.var j)) false S = .ok (f p.2) S := r_idx (r_var e2) h1 e3
    simp only [ha, evC, R.ok_bind, if_true, h1, h2]
  · rw [flat_kD]
    have : (kD f l).length ≤ sizeLine := small5 (by simpa [kD] using hl)
    simp [this]
  · rw [putAll_nil, fold_new l [] (by simpa using hn)]
    rfl
end
/-! ### the first fault -/
def idxB : D → List Nat
  | .tup (.str w :: _) => (lookA w withinL).getD []
  | _ => []
def itm (d : D) (i : Nat) : D := match d with
  | .tup xs => xs.getD i .non
  | _ => .non
def nxD (d : D) (gr : List (Str × Nat)) : List (Str × Nat) := match d with
  | .tup [_, r, bs, _, _] => putA (strD r) (lenD bs) gr
  | _ => gr
def flt (voc : List (Str × Nat)) : Nat → List (Str × Nat) → Row → D → Option Row
  | 0, _, p, _ => some p
  | n + 1, gr, p, d => if topB voc gr d then (idxB d).findSome? fun i => flt voc n (nxD d gr) (p ++ [i]) (itm d i) else some p
def oD : Option Row → D
  | none => .non
  | some p => rowD p
theorem oD_nr (o : Option Row) : (oD o).nr = true := by
  cases o with
  | none => rfl
  | some p => exact nr_nats p
theorem oD_frz (o : Option Row) (S : Store) : frzD FRZ S (oD o) = some (oD o, S) := by
  cases o with
  | none => exact frz_non S
  | some p => exact frzD_tup _ _ _
theorem oD_val (o : Option Row) (S T' : Store) : endV .val S (.ok (oD o) (S ++ T')) = .ok (oD o) S := endV_app (oD_nr o) (fun S => oD_frz o S) S T'
theorem oD_val0 (o : Option Row) (S : Store) : endV .val S (.ok (oD o) S) = .ok (oD o) S := by simpa using oD_val o S []
/-- what stands at the top of a right thing -/
theorem top_head {voc gr : List (Str × Nat)} {d : D} (h : topB voc gr d = true) : ∃ w r, d = .tup (.str w :: r) ∧ PyData.strOk w = true ∧ (∀ i ∈ idxB d, ∃ x, r[i - 1]? = some x ∧ 1 ≤ i) ∧ ((w = "grow" ∧ ∃ z zs c e, r = [.str z, .tup (sD zs), c, e]) ∨ (w ≠ "grow" ∧ nxD d gr = gr)) := by
  have hs : shapeB d = true := by
    unfold topB at h
    rw [Bool.and_eq_true] at h
    exact h.1
  have hr : restB voc gr d = true := by
    unfold topB at h
    rw [Bool.and_eq_true] at h
    exact h.2
  cases sh_of hs with
  | tru => exact ⟨_, _, rfl, by decide +kernel, (fun i hi => nomatch (show i ∈ ([] : List Nat) from hi)), .inr ⟨by decide, rfl⟩⟩
  | fal => exact ⟨_, _, rfl, by decide +kernel, (fun i hi => nomatch (show i ∈ ([] : List Nat) from hi)), .inr ⟨by decide, rfl⟩⟩
  | given a b => exact ⟨_, _, rfl, by decide +kernel, (fun i hi => nomatch (show i ∈ ([] : List Nat) from hi)), .inr ⟨by decide, rfl⟩⟩
  | same a b => exact ⟨_, _, rfl, by decide +kernel, (fun i hi => nomatch (show i ∈ ([] : List Nat) from hi)), .inr ⟨by decide, rfl⟩⟩
  | inn a b => exact ⟨_, _, rfl, by decide +kernel, (fun i hi => nomatch (show i ∈ ([] : List Nat) from hi)), .inr ⟨by decide, rfl⟩⟩
  | not a =>
    refine ⟨_, _, rfl, by decide +kernel, fun i hi => ?_, .inr ⟨by decide, rfl⟩⟩
    have hi : i ∈ [1] := hi
    simp only [List.mem_cons, List.not_mem_nil, or_false] at hi
    subst hi; exact ⟨_, rfl, Nat.le_refl _⟩
  | and a b =>
    refine ⟨_, _, rfl, by decide +kernel, fun i hi => ?_, .inr ⟨by decide, rfl⟩⟩
    have hi : i ∈ [1, 2] := hi
    simp only [List.mem_cons, List.not_mem_nil, or_false] at hi
    rcases hi with rfl | rfl <;> exact ⟨_, rfl, by decide⟩
  | or a b =>
    refine ⟨_, _, rfl, by decide +kernel, fun i hi => ?_, .inr ⟨by decide, rfl⟩⟩
    have hi : i ∈ [1, 2] := hi
    simp only [List.mem_cons, List.not_mem_nil, or_false] at hi
    rcases hi with rfl | rfl <;> exact ⟨_, rfl, by decide⟩
  | some a b =>
    refine ⟨_, _, rfl, by decide +kernel, fun i hi => ?_, .inr ⟨by decide, rfl⟩⟩
    have hi : i ∈ [2] := hi
    simp only [List.mem_cons, List.not_mem_nil, or_false] at hi
    subst hi; exact ⟨_, rfl, by decide⟩
  | all a b =>
    refine ⟨_, _, rfl, by decide +kernel, fun i hi => ?_, .inr ⟨by decide, rfl⟩⟩
    have hi : i ∈ [2] := hi
    simp only [List.mem_cons, List.not_mem_nil, or_false] at hi
    subst hi; exact ⟨_, rfl, by decide⟩
  | grow a b c e =>
    have hr : (nmD a && (nmsD b && (nmsD e && (decide (lenD b = lenD e) && nodupD b)))) = true := hr
    simp only [Bool.and_eq_true] at hr
    obtain ⟨z, rfl⟩ := nm_str hr.1
    obtain ⟨zs, rfl⟩ := nms_tup hr.2.1
    refine ⟨_, _, rfl, by decide +kernel, fun i hi => ?_, .inl ⟨rfl, _, _, _, _, rfl⟩⟩
    have hi : i ∈ [3] := hi
    simp only [List.mem_cons, List.not_mem_nil, or_false] at hi
    subst hi; exact ⟨_, rfl, by decide⟩
theorem head_item {w : Str} {r : List D} {i : Nat} {x : D} (h : r[i - 1]? = some x) (hi : 1 ≤ i) : itm (.tup (.str w :: r)) i = x ∧ (.str w :: r : List D)[i]? = some x := by
  obtain ⟨j, rfl⟩ : ∃ j, i = j + 1 := ⟨i - 1, by omega⟩
  simp only [Nat.add_sub_cancel] at h
  have e : (.str w :: r : List D)[j + 1]? = some x := by simpa using h
  exact ⟨by show (.str w :: r : List D).getD (j + 1) .non = x; rw [List.getD, e]; rfl, e⟩
theorem nxD_len (d : D) (gr : List (Str × Nat)) : (nxD d gr).length ≤ gr.length + 1 := by
  unfold nxD
  split
  · exact len_putA _ _ _
  · exact Nat.le_succ _
theorem nxD_nodup (d : D) {gr : List (Str × Nat)} (h : (gr.map (·.1)).Nodup) : ((nxD d gr).map (·.1)).Nodup := by
  unfold nxD
  split
  · exact putA_nodup h
  · exact h
theorem cmp_isnot_oD (o : Option Row) (S : Store) : cmpV .isnot (oD o) .non S = some o.isSome := by
  cases o <;> simp [cmpV, oD, rowD]
theorem add_path (p : Row) (k : Nat) (S : Store) (h : p.length ≤ 1000) : binV .add false (rowD p) (.tup [.int (k : Nat)]) S = .ok (rowD (p ++ [k])) S := by
  have := binV_tupA (xs := p.map fun i => D.int (i : Nat)) (ys := [.int (k : Nat)]) (S := S) (ow := false) (by rw [List.length_map]; simp; omega)
  rw [rowD, this]
  simp [rowD]
end Zg

/-! HS: the first fault's walks. -/
namespace Zg
open PySem Z
variable {T : Nat → Option Fn} {N : NIds} {V : VIds}
theorem get2_l {α : Type} {f : α → D} {l : List (Str × α)} {x : Str} {z : D} {S : Store} : bmV .get2 (.dct (kD f l)) [.str x, z] S = .ok (((lookA x l).map f).getD z) S := by
  rw [show bmV .get2 (.dct (kD f l)) [.str x, z] S = (if okKey (kD f l) (.str x) then .ok ((getK (kD f l) (.str x)).getD z) S else .bad) from rfl, get_kD]
  rfl
theorem flt_loop {C : CallT} {f : Nat → Option Row} {is : List Nat} : (List.range is.length).findSome? (fun i => (is[i]?).bind fun k => (f k).map rowD) = (is.findSome? f).map rowD := by
  rw [find_range]
  induction is with
  | nil => rfl
  | cons i is ih =>
    rw [List.findSome?_cons, List.findSome?_cons, ih]
    cases f i <;> rfl
theorem law_flt (g : NG T N) (voc : List (Str × Nat)) {L : Nat} (hL : L ≤ 1000) : ∀ (n : Nat) (d : D) (gr : List (Str × Nat)) (path : Row) (S : Store), tr L n d → gr.length + n < 1000 → path.length + n < 1000 →
    ∃ T', callN T (n + 4) N.fault [d, rowD path, vD voc, vD gr] S = .ok (oD (flt voc (n + 1) gr path d)) (S ++ T')
  | n, d, gr, path, S, h, hg, hp => by
    have hfl : ev (callN T (n + 3)) [some d, some (rowD path), some (vD voc), some (vD gr), none, none, none] (.call N.faulty .val (.cons (.var 0) (.cons (.var 2) (.cons (.var 3) .nil)))) true S = .ok (.bl (!topB voc gr d)) S :=
      t_call (r_call (s_cons (r_var rfl) (s_cons (r_var rfl) (s_cons (r_var rfl) s_nil))) (law_top g hL n d voc gr S h) (endV_app rfl (fun S => frzD_bl _ S _) S [none])) rfl
    cases htop : topB voc gr d with
    | false =>
      rw [htop] at hfl
      refine ⟨[], ?_⟩
      rw [List.append_nil]
      have e : flt voc (n + 1) gr path d = some path := by simp only [flt, htop]; rfl
      rw [e]
      exact x_fn g.fault rfl (b_ret (x_if_t hfl rfl (b_ret (x_ret (r_var rfl)))))
    | true =>
    rw [htop] at hfl
    have e0 : flt voc (n + 1) gr path d = (idxB d).findSome? fun i => flt voc n (nxD d gr) (path ++ [i]) (itm d i) := by simp only [flt, htop, if_true]
    rw [e0]
    have hd0 := htop
    obtain ⟨w, r, rfl, ow, hidx, hgrow⟩ := top_head htop
    obtain ⟨m, rfl⟩ : ∃ m, n = m + 1 := by
      cases n with
      | zero => exact h.elim
      | succ m => exact ⟨m, rfl⟩
    generalize hdd : D.tup (.str w :: r) = d at *
    have hd : ev (callN T (m + 1 + 3)) [some d, some (rowD path), some (vD voc), some (vD gr), none, none, none] (.dct false (.cons (.k (.str "not")) (.cons (.lst false (.cons (.k (.int 1)) .nil)) (.cons (.k (.str "and")) (.cons (.lst false (.cons (.k (.int 1)) (.cons (.k (.int 2)) .nil))) (.cons (.k (.str "or")) (.cons (.lst false (.cons (.k (.int 1)) (.cons (.k (.int 2)) .nil))) (.cons (.k (.str "some")) (.cons (.lst false (.cons (.k (.int 2)) .nil)) (.cons (.k (.str "all")) (.cons (.lst false (.cons (.k (.int 2)) .nil)) (.cons (.k (.str "grow")) (.cons (.lst false (.cons (.k (.int 3)) .nil)) .nil)))))))))))) .nil) false S = .ok (.dct (kD natsD withinL)) S := by
      have h1 : ∀ i : Int, ev (callN T (m + 1 + 3)) [some d, some (rowD path), some (vD voc), some (vD gr), none, none, none] (.lst false (.cons (.k (.int i)) .nil)) false S = .ok (.lst [.int i]) S := fun i => r_lst (s_cons r_k s_nil) (cold (by simp))
      have h2 : ∀ i j : Int, ev (callN T (m + 1 + 3)) [some d, some (rowD path), some (vD voc), some (vD gr), none, none, none] (.lst false (.cons (.k (.int i)) (.cons (.k (.int j)) .nil))) false S = .ok (.lst [.int i, .int j]) S := fun i j => r_lst (s_cons r_k (s_cons r_k s_nil)) (cold (by simp))
      have hes : evs (callN T (m + 1 + 3)) [some d, some (rowD path), some (vD voc), some (vD gr), none, none, none] (.cons (.k (.str "not")) (.cons (.lst false (.cons (.k (.int 1)) .nil)) (.cons (.k (.str "and")) (.cons (.lst false (.cons (.k (.int 1)) (.cons (.k (.int 2)) .nil))) (.cons (.k (.str "or")) (.cons (.lst false (.cons (.k (.int 1)) (.cons (.k (.int 2)) .nil))) (.cons (.k (.str "some")) (.cons (.lst false (.cons (.k (.int 2)) .nil)) (.cons (.k (.str "all")) (.cons (.lst false (.cons (.k (.int 2)) .nil)) (.cons (.k (.str "grow")) (.cons (.lst false (.cons (.k (.int 3)) .nil)) .nil)))))))))))) S = .ok [.str "not", .lst [.int 1], .str "and", .lst [.int 1, .int 2], .str "or", .lst [.int 1, .int 2], .str "some", .lst [.int 2], .str "all", .lst [.int 2], .str "grow", .lst [.int 3]] S := by
        exact s_cons r_k (s_cons (h1 1) (s_cons r_k (s_cons (h2 1 2) (s_cons r_k (s_cons (h2 1 2) (s_cons r_k (s_cons (h1 2) (s_cons r_k (s_cons (h1 2) (s_cons r_k (s_cons (h1 3) s_nil)))))))))))
      have hpu : pairUp [.str "not", .lst [.int 1], .str "and", .lst [.int 1, .int 2], .str "or", .lst [.int 1, .int 2], .str "some", .lst [.int 2], .str "all", .lst [.int 2], .str "grow", .lst [.int 3]] = some (kD natsD withinL) := rfl
      have hpa : putAll [] (kD natsD withinL) = kD natsD withinL := by rw [putAll_nil]; rfl
      have hmk : mkD false (kD natsD withinL) S = .ok (.dct (kD natsD withinL)) S := by
        have h1 : (kD natsD withinL).length ≤ sizeLine := small5 (by simp [kD, withinL])
        unfold mkD
        rw [if_pos h1]; rfl
      have hfk : flatKeys (kD natsD withinL) = true := rfl
      have hl15 : decide ((kD natsD withinL).length ≤ 15) = true := rfl
      simp only [ev, fin_false, hes, R.ok_bind, hpu, hfk, hl15, Bool.and_self, if_true, hpa, hmk]

    have hw : ∀ (σ : Z.Env) (S : Store), σ[0]? = some (some d) → ev (callN T (m + 1 + 3)) σ (.idx (.var 0) (.k (.int 0))) false S = .ok (.str w) S := fun σ S e => r_idx (r_var e) r_k (by rw [← hdd]; exact idxV_tup (at0 _ _))
    obtain ⟨S1, T1, hS1, hif⟩ : ∃ S1 T1, S1 = S ++ T1 ∧ evS (callN T (m + 1 + 3)) (.if_ (.cmp .eq (.idx (.var 0) (.k (.int 0))) (.k (.str "grow"))) (.cons (.asg (.nm 3) (.bi .dict true (.cons (.var 3) .nil)))
  (.cons (.frzv (.setI (.var 3) (.idx (.var 0) (.k (.int 1))) (.bi .len false (.cons (.idx (.var 0) (.k (.int 2))) .nil))) 3) .nil)) .nil) [some d, some (rowD path), some (vD voc), some (vD gr), some (.dct (kD natsD withinL)), none, none] S
        = .ok (.nx [some d, some (rowD path), some (vD voc), some (vD (nxD d gr)), some (.dct (kD natsD withinL)), none, none]) S1 := by
      have hc : ev (callN T (m + 1 + 3)) [some d, some (rowD path), some (vD voc), some (vD gr), some (.dct (kD natsD withinL)), none, none] (.cmp .eq (.idx (.var 0) (.k (.int 0))) (.k (.str "grow"))) true S = .ok (.bl (decide (w = "grow"))) S := r_cmp (hw _ _ rfl) r_k (eq_str ow (by decide +kernel) S)
      rcases hgrow with ⟨rfl, z, zs, c, e, rfl⟩ | ⟨hne, hnx⟩
      · subst hdd
        refine ⟨S ++ [none], [none], rfl, ?_⟩
        have hdd : biV .dict true [vD gr] S = .ok (.ref S.length) (S ++ [some (.dct (kD intD gr))]) := by
          have : (kD intD gr).length ≤ sizeLine := small5 (by simp [kD]; omega)
          simp [biV, dctOf, mkD, this]
        have hlen : ev (callN T (m + 1 + 3)) [some (.tup [.str "grow", .str z, .tup (sD zs), c, e]), some (rowD path), some (vD voc), some (.ref S.length), some (.dct (kD natsD withinL)), none, none] (.bi .len false (.cons (.idx (.var 0) (.k (.int 2))) .nil)) false (S ++ [some (.dct (kD intD gr))]) = .ok (.int (zs.length : Nat)) (S ++ [some (.dct (kD intD gr))]) := len_tup _ (r_idx (r_var rfl) r_k (tupN 2 rfl))
        have hs : setIV (.ref S.length) (.str z) (intD zs.length) (S ++ [some (.dct (kD intD gr))]) = some (S ++ [some (.dct (kD intD (putA z zs.length gr)))]) := by
          have h1 : (kD intD gr).length < sizeLine := small9 (by simp [kD]; omega)
          simp only [setIV, objAt_last, okKey, kFlat, Option.isSome_some, Bool.true_and, decide_eq_true h1, if_true, put_kD, set_last]
        have hf : frzD FRZ (S ++ [some (.dct (kD intD (putA z zs.length gr)))]) (.ref S.length) = some (vD (putA z zs.length gr), S ++ [none]) := by
          show frzD 4 _ _ = _
          simp only [frzD, objAt_last, set_last, frzK_kD intD_val, Option.map_some]
        have hx : nxD (.tup [.str "grow", .str z, .tup (sD zs), c, e]) gr = putA z zs.length gr := by simp [nxD, strD, lenD]
        rw [hx]
        exact x_if_t hc rfl (b_cons (x_asg (r_bi (s_cons (r_var rfl) s_nil) hdd) rfl) (b_cons (x_frzv (x_setI hlen (r_var rfl) (r_idx (r_var rfl) r_k (tupN 1 rfl)) hs) rfl hf) b_nil))
      · rw [hnx]
        exact ⟨S, [], by simp, x_if_f hc (decide_eq_false hne) b_nil⟩
    have hbm : ev (callN T (m + 1 + 3)) [some d, some (rowD path), some (vD voc), some (vD (nxD d gr)), some (.dct (kD natsD withinL)), none, none] (.bm .get2 (.var 4) (.cons (.idx (.var 0) (.k (.int 0))) (.cons (.lst false .nil) .nil))) false S1 = .ok (natsD (idxB d)) S1 := by
      refine r_bm (r_var rfl) rfl (s_cons (hw _ _ rfl) (s_cons (r_lst s_nil (cold (by simp))) s_nil)) ?_
      rw [get2_l, ← hdd]
      show _ = R.ok (natsD ((lookA w withinL).getD [])) S1
      cases lookA w withinL <;> rfl
    have hnl := nxD_len d gr
    have hloop := for_first (C := callN T (m + 1 + 3)) (tg := .nm 5) (b := bFault N) (σ := [some d, some (rowD path), some (vD voc), some (vD (nxD d gr)), some (.dct (kD natsD withinL)), none, none]) (S := S1) (S1 := S1) (ds := (idxB d).map fun i => D.int (i : Nat))
      (fun _ σ' => ∃ x5 x6 : Option D, σ' = [some d, some (rowD path), some (vD voc), some (vD (nxD d gr)), some (.dct (kD natsD withinL)), x5, x6])
      (fun i => ((idxB d)[i]?).bind fun k => (flt voc (m + 1) (nxD d gr) (path ++ [k]) (itm d k)).map rowD) (i_seq hbm rfl) ⟨_, _, rfl⟩ (by
        rintro i x σ hx ⟨x5, x6, rfl⟩
        rw [List.getElem?_map, Option.map_eq_some_iff] at hx
        obtain ⟨k, hk, rfl⟩ := hx
        have hkm := List.mem_of_getElem? hk
        obtain ⟨x, hx1, hx2⟩ := hidx k hkm
        obtain ⟨hi1, hi2⟩ := head_item (w := w) hx1 hx2
        have htr : tr L m x := by
          rw [← hdd] at h
          exact h.2 x (List.mem_of_getElem? hi2)
        rw [hdd] at hi1
        obtain ⟨T2, ih⟩ := law_flt g voc hL m x (nxD d gr) (path ++ [k]) S1 htr (by omega) (by simp; omega)
        have hcl : ev (callN T (m + 1 + 3)) [some d, some (rowD path), some (vD voc), some (vD (nxD d gr)), some (.dct (kD natsD withinL)), some (.int (k : Nat)), x6] (.call N.fault .val (.cons (.idx (.var 0) (.var 5)) (.cons (.bin .add false (.var 1) (.tup (.cons (.var 5) .nil))) (.cons (.var 2) (.cons (.var 3) .nil))))) false S1 = .ok (oD (flt voc (m + 1) (nxD d gr) (path ++ [k]) x)) S1 :=
          r_call (s_cons (r_idx (r_var rfl) (r_var rfl) (by rw [← hdd]; exact tupN k hi2)) (s_cons (r_bin (r_var rfl) (r_tup (s_cons (r_var rfl) s_nil) (tup_len (by simp))) (add_path path k S1 (by omega))) (s_cons (r_var rfl) (s_cons (r_var rfl) s_nil)))) ih (oD_val _ _ _)
        refine ⟨_, rfl, ?_⟩
        rw [hk]
        simp only [Option.bind_some, hi1]
        have hci := cmp_isnot_oD (flt voc (m + 1) (nxD d gr) (path ++ [k]) x) S1
        cases hv : flt voc (m + 1) (nxD d gr) (path ++ [k]) x with
        | none =>
          rw [hv] at hcl hci
          exact .inr ⟨rfl, _, b_cons (x_asg hcl rfl) (b_cons (x_if_f (r_cmp (r_var rfl) r_k hci) rfl b_nil) b_nil), _, _, rfl⟩
        | some p =>
          rw [hv] at hcl hci
          exact .inl ⟨_, rfl, b_cons (x_asg hcl rfl) (b_ret (x_if_t (r_cmp (r_var rfl) r_k hci) rfl (b_ret (x_ret (r_var rfl)))))⟩)
    rw [List.length_map, flt_loop (C := callN T m) (f := fun k => flt voc (m + 1) (nxD d gr) (path ++ [k]) (itm d k))] at hloop
    refine ⟨T1, ?_⟩
    rw [← hS1]
    rcases hloop with ⟨r', h1, h2⟩ | ⟨h1, σ', h2, x5, x6, rfl⟩
    · obtain ⟨p, hp1, rfl⟩ := Option.map_eq_some_iff.mp h1
      rw [hp1]
      exact x_fn g.fault rfl (b_cons (x_if_f hfl rfl b_nil) (b_cons (x_asg hd rfl) (b_cons hif (b_ret h2))))
    · rw [Option.map_eq_none_iff.mp h1]
      exact x_fn g.fault rfl (b_cons (x_if_f hfl rfl b_nil) (b_cons (x_asg hd rfl) (b_cons hif (b_cons h2 (b_ret (x_ret r_k))))))
/-- which items are parts -/
def withinK : List (Str × D) := [("not", .tup [.int 1]), ("and", .tup [.int 1, .int 2]), ("or", .tup [.int 1, .int 2]), ("some", .tup [.int 2]), ("all", .tup [.int 2]), ("grow", .tup [.int 3])]
theorem withinK_eq : withinK = withinL.map fun p => (p.1, rowD p.2) := rfl
theorem idx_ok (g : VG T V) (n : Nat) (w : Str) (r : List D) (S : Store) : callN T (n + 1) V.idx [.tup (.str w :: r)] S = .ok (rowD (idxB (.tup (.str w :: r)))) S := by
  have h1 : bmV .get2 (.kd withinK) [.str w, .tup []] S = .ok (rowD (idxB (.tup (.str w :: r)))) S := by
    show R.ok ((withinK.lookup w).getD (.tup [])) S = R.ok (rowD ((lookA w withinL).getD [])) S
    rw [withinK_eq, kd_look]
    cases lookA w withinL <;> rfl
  exact x_fn g.idx rfl (b_ret (x_ret (r_bm r_gl rfl (s_cons (r_idx (r_var rfl) r_k (idxV_tup (at0 _ _))) (s_cons (r_tup s_nil (tup_len (by simp))) s_nil)) h1)))
theorem prog_flt (g : VG T V) (voc : List (Str × Nat)) {L : Nat} (hL : L ≤ 1000) : ∀ (n : Nat) (d : D) (gr : List (Str × Nat)) (path : Row) (S : Store), tr L n d → gr.length + n < 1000 → path.length + n < 1000 → (gr.map (·.1)).Nodup →
    ∃ T', callN T (n + 5) V.within [d, rowD path, vD voc, vD gr] S = .ok (oD (flt voc (n + 1) gr path d)) (S ++ T')
  | n, d, gr, path, S, h, hg, hp, hnd => by
    have hfl := top_cond g hL n d (rowD path) voc gr S h none none none none
    cases htop : topB voc gr d with
    | false =>
      rw [htop] at hfl
      refine ⟨[], ?_⟩
      rw [List.append_nil]
      have e : flt voc (n + 1) gr path d = some path := by simp only [flt, htop]; rfl
      rw [e]
      exact x_fn g.within rfl (b_ret (x_if_t hfl rfl (b_ret (x_ret (r_var rfl)))))
    | true =>
    rw [htop] at hfl
    have e0 : flt voc (n + 1) gr path d = (idxB d).findSome? fun i => flt voc n (nxD d gr) (path ++ [i]) (itm d i) := by simp only [flt, htop, if_true]
    rw [e0]
    obtain ⟨w, r, rfl, ow, hidx, hgrow⟩ := top_head htop
    obtain ⟨m, rfl⟩ : ∃ m, n = m + 1 := by
      cases n with
      | zero => exact h.elim
      | succ m => exact ⟨m, rfl⟩
    have hix : ∀ S, callN T (m + 1 + 4) V.idx [.tup (.str w :: r)] S = .ok (rowD (idxB (.tup (.str w :: r)))) S := fun S => idx_ok g (m + 1 + 3) w r S
    generalize hdd : D.tup (.str w :: r) = d at *
    have hw : ∀ (σ : Z.Env) (S : Store), σ[0]? = some (some d) → ev (callN T (m + 1 + 4)) σ (.idx (.var 0) (.k (.int 0))) false S = .ok (.str w) S := fun σ S e => r_idx (r_var e) r_k (by rw [← hdd]; exact idxV_tup (at0 _ _))
    obtain ⟨S1, T1, hS1, hif⟩ : ∃ S1 T1, S1 = S ++ T1 ∧ evS (callN T (m + 1 + 4)) (.frzv (.if_ (.cmp .eq (.idx (.var 0) (.k (.int 0))) (.k (.str "grow"))) (.cons (.asg (.nm 4) (.dc true [7] (.var 7) (.idx (.var 3) (.var 7)) (.nm 7) (.keys (.var 3)) .nil))
  (.cons (.setI (.var 4) (.idx (.var 0) (.k (.int 1))) (.bi .len false (.cons (.idx (.var 0) (.k (.int 2))) .nil))) .nil)) .nil) 4) [some d, some (rowD path), some (vD voc), some (vD gr), some (vD gr), none, none, none] S
        = .ok (.nx [some d, some (rowD path), some (vD voc), some (vD gr), some (vD (nxD d gr)), none, none, none]) S1 := by
      have hc : ev (callN T (m + 1 + 4)) [some d, some (rowD path), some (vD voc), some (vD gr), some (vD gr), none, none, none] (.cmp .eq (.idx (.var 0) (.k (.int 0))) (.k (.str "grow"))) true S = .ok (.bl (decide (w = "grow"))) S := r_cmp (hw _ _ rfl) r_k (eq_str ow (by decide +kernel) S)
      rcases hgrow with ⟨rfl, z, zs, c, e, rfl⟩ | ⟨hne, hnx⟩
      · subst hdd
        refine ⟨S ++ [none], [none], rfl, ?_⟩
        have hmk : mkD true (kD intD gr) S = .ok (.ref S.length) (S ++ [some (.dct (kD intD gr))]) := by
          have : (kD intD gr).length ≤ sizeLine := small5 (by simp [kD]; omega)
          simp [mkD, this]
        have hcp : ev (callN T (m + 1 + 4)) [some (.tup [.str "grow", .str z, .tup (sD zs), c, e]), some (rowD path), some (vD voc), some (vD gr), some (vD gr), none, none, none] (.dc true [7] (.var 7) (.idx (.var 3) (.var 7)) (.nm 7) (.keys (.var 3)) .nil) false S = .ok (.ref S.length) (S ++ [some (.dct (kD intD gr))]) :=
          (copy_dc (f := intD) (l := gr) rfl (by simp) (by decide) hnd (by omega)).trans hmk
        have hlen : ev (callN T (m + 1 + 4)) [some (.tup [.str "grow", .str z, .tup (sD zs), c, e]), some (rowD path), some (vD voc), some (vD gr), some (.ref S.length), none, none, none] (.bi .len false (.cons (.idx (.var 0) (.k (.int 2))) .nil)) false (S ++ [some (.dct (kD intD gr))]) = .ok (.int (zs.length : Nat)) (S ++ [some (.dct (kD intD gr))]) := len_tup _ (r_idx (r_var rfl) r_k (tupN 2 rfl))
        have hs : setIV (.ref S.length) (.str z) (intD zs.length) (S ++ [some (.dct (kD intD gr))]) = some (S ++ [some (.dct (kD intD (putA z zs.length gr)))]) := by
          have h1 : (kD intD gr).length < sizeLine := small9 (by simp [kD]; omega)
          simp only [setIV, objAt_last, okKey, kFlat, Option.isSome_some, Bool.true_and, decide_eq_true h1, if_true, put_kD, set_last]
        have hf : frzD FRZ (S ++ [some (.dct (kD intD (putA z zs.length gr)))]) (.ref S.length) = some (vD (putA z zs.length gr), S ++ [none]) := by
          show frzD 4 _ _ = _
          simp only [frzD, objAt_last, set_last, frzK_kD intD_val, Option.map_some]
        have hx : nxD (.tup [.str "grow", .str z, .tup (sD zs), c, e]) gr = putA z zs.length gr := by simp [nxD, strD, lenD]
        rw [hx]
        exact x_frzv (x_if_t hc rfl (b_cons (x_asg hcp rfl) (b_cons (x_setI hlen (r_var rfl) (r_idx (r_var rfl) r_k (tupN 1 rfl)) hs) b_nil))) rfl hf
      · rw [hnx]
        exact ⟨S, [], by simp, x_frzv (x_if_f hc (decide_eq_false hne) b_nil) rfl (frzD_dct _ _ _)⟩
    have hnl := nxD_len d gr
    have hnd2 := nxD_nodup d hnd
    have hloop := for_first (C := callN T (m + 1 + 4)) (tg := .nm 5) (it := .seq (.call V.idx .val (.cons (.var 0) .nil))) (b := bWithin V) (σ := [some d, some (rowD path), some (vD voc), some (vD gr), some (vD (nxD d gr)), none, none, none]) (S := S1) (S1 := S1) (ds := (idxB d).map fun i => D.int (i : Nat))
      (fun _ σ' => ∃ x5 x6 : Option D, σ' = [some d, some (rowD path), some (vD voc), some (vD gr), some (vD (nxD d gr)), x5, x6, none])
      (fun i => ((idxB d)[i]?).bind fun k => (flt voc (m + 1) (nxD d gr) (path ++ [k]) (itm d k)).map rowD) (i_seq (r_call (s_cons (r_var rfl) s_nil) (hix S1) (endV_tup (nr_nats _) _)) rfl) ⟨_, _, rfl⟩ (by
        rintro i x σ hx ⟨x5, x6, rfl⟩
        rw [List.getElem?_map, Option.map_eq_some_iff] at hx
        obtain ⟨k, hk, rfl⟩ := hx
        have hkm := List.mem_of_getElem? hk
        obtain ⟨x, hx1, hx2⟩ := hidx k hkm
        obtain ⟨hi1, hi2⟩ := head_item (w := w) hx1 hx2
        have htr : tr L m x := by
          rw [← hdd] at h
          exact h.2 x (List.mem_of_getElem? hi2)
        rw [hdd] at hi1
        obtain ⟨T2, ih⟩ := prog_flt g voc hL m x (nxD d gr) (path ++ [k]) S1 htr (by omega) (by simp; omega) hnd2
        have hcl : ev (callN T (m + 1 + 4)) [some d, some (rowD path), some (vD voc), some (vD gr), some (vD (nxD d gr)), some (.int (k : Nat)), x6, none] (.call V.within .val (.cons (.idx (.var 0) (.var 5)) (.cons (.bin .add false (.var 1) (.tup (.cons (.var 5) .nil))) (.cons (.var 2) (.cons (.var 4) .nil))))) false S1 = .ok (oD (flt voc (m + 1) (nxD d gr) (path ++ [k]) x)) S1 :=
          r_call (s_cons (r_idx (r_var rfl) (r_var rfl) (by rw [← hdd]; exact tupN k hi2)) (s_cons (r_bin (r_var rfl) (r_tup (s_cons (r_var rfl) s_nil) (tup_len (by simp))) (add_path path k S1 (by omega))) (s_cons (r_var rfl) (s_cons (r_var rfl) s_nil)))) ih (oD_val _ _ _)
        refine ⟨_, rfl, ?_⟩
        rw [hk]
        simp only [Option.bind_some, hi1]
        have hci := cmp_isnot_oD (flt voc (m + 1) (nxD d gr) (path ++ [k]) x) S1
        cases hv : flt voc (m + 1) (nxD d gr) (path ++ [k]) x with
        | none =>
          rw [hv] at hcl hci
          exact .inr ⟨rfl, _, b_cons (x_asg hcl rfl) (b_cons (x_if_f (r_cmp (r_var rfl) r_k hci) rfl b_nil) b_nil), _, _, rfl⟩
        | some p =>
          rw [hv] at hcl hci
          exact .inl ⟨_, rfl, b_cons (x_asg hcl rfl) (b_ret (x_if_t (r_cmp (r_var rfl) r_k hci) rfl (b_ret (x_ret (r_var rfl)))))⟩)
    rw [List.length_map, flt_loop (C := callN T m) (f := fun k => flt voc (m + 1) (nxD d gr) (path ++ [k]) (itm d k))] at hloop
    refine ⟨T1, ?_⟩
    rw [← hS1]
    rcases hloop with ⟨r', h1, h2⟩ | ⟨h1, σ', h2, x5, x6, rfl⟩
    · obtain ⟨p, hp1, rfl⟩ := Option.map_eq_some_iff.mp h1
      rw [hp1]
      exact x_fn g.within rfl (b_cons (x_if_f hfl rfl b_nil) (b_cons (x_asg (r_var rfl) rfl) (b_cons hif (b_ret h2))))
    · rw [Option.map_eq_none_iff.mp h1]
      exact x_fn g.within rfl (b_cons (x_if_f hfl rfl b_nil) (b_cons (x_asg (r_var rfl) rfl) (b_cons hif (b_cons h2 (b_ret (x_ret r_k))))))
end Zg

/-! HT: closed expressions, trees, slices. -/
namespace Zg
open PySem Z
mutual
/-- an expression of constants and slots -/
def cE (σ : Z.Env) : E → Option D
  | .k d => some d
  | .gl _ d => some d
  | .var i => (σ[i]?).join
  | .tup es => (cEs σ es).bind fun ds => if ds.length ≤ 100000 then some (.tup ds) else none
  | .lst false es => (cEs σ es).bind fun ds => if ds.length ≤ 100000 then some (.lst ds) else none
  | _ => none
def cEs (σ : Z.Env) : Es → Option (List D)
  | .nil => some []
  | .cons e es => (cE σ e).bind fun d => (cEs σ es).map (d :: ·)
end
mutual
theorem cE_ok {C : CallT} {σ : Z.Env} {S : Store} : ∀ {e : E} {d : D}, cE σ e = some d → ev C σ e false S = .ok d S
  | .k d, _, h => by simp only [cE, Option.some.injEq] at h; subst h; exact r_k
  | .gl n d, _, h => by simp only [cE, Option.some.injEq] at h; subst h; exact r_gl
  | .var i, d, h => by
    simp only [cE] at h
    exact r_var (by cases e : σ[i]? with
      | none => rw [e] at h; cases h
      | some x => rw [e] at h; simp only [Option.join_some] at h; rw [h])
  | .tup es, d, h => by
    simp only [cE, Option.bind_eq_some_iff] at h
    obtain ⟨ds, h1, h2⟩ := h
    split at h2
    · rename_i hl
      cases h2
      exact r_tup (cEs_ok h1) (tup_len hl)
    · cases h2
  | .lst false es, d, h => by
    simp only [cE, Option.bind_eq_some_iff] at h
    obtain ⟨ds, h1, h2⟩ := h
    split at h2
    · rename_i hl
      cases h2
      exact r_lst (cEs_ok h1) (cold hl)
    · cases h2
  | .lst true _, _, h => by cases h
  | .dct _ _ _, _, h => by cases h
  | .bin _ _ _ _, _, h => by cases h
  | .neg _, _, h => by cases h
  | .cmp _ _ _, _, h => by cases h
  | .chain _ _ _ _ _, _, h => by cases h
  | .and _ _, _, h => by cases h
  | .or _ _, _, h => by cases h
  | .not _, _, h => by cases h
  | .ite _ _ _, _, h => by cases h
  | .call _ _ _, _, h => by cases h
  | .mcall _ _ _ _ _, _, h => by cases h
  | .make _ _ _ _, _, h => by cases h
  | .fld _ _, _, h => by cases h
  | .prop _ _ _ _, _, h => by cases h
  | .idx _ _, _, h => by cases h
  | .slc _ _ _ _, _, h => by cases h
  | .lc _ _ _ _ _ _, _, h => by cases h
  | .lc2 _ _ _ _ _ _ _ _, _, h => by cases h
  | .dc _ _ _ _ _ _ _, _, h => by cases h
  | .dc2 _ _ _ _ _ _ _ _ _, _, h => by cases h
  | .bi _ _ _, _, h => by cases h
  | .bm _ _ _, _, h => by cases h
  | .isi _ _, _, h => by cases h
  | .frz _, _, h => by cases h
theorem cEs_ok {C : CallT} {σ : Z.Env} {S : Store} : ∀ {es : Es} {ds : List D}, cEs σ es = some ds → evs C σ es S = .ok ds S
  | .nil, _, h => by simp only [cEs, Option.some.injEq] at h; subst h; exact s_nil
  | .cons e es, ds, h => by
    simp only [cEs, Option.bind_eq_some_iff, Option.map_eq_some_iff] at h
    obtain ⟨d, h1, ds', h2, rfl⟩ := h
    exact s_cons (cE_ok h1) (cEs_ok h2)
end
theorem cut_drop {α : Type} (xs : List α) (n : Nat) (h : n ≤ xs.length) : cut xs (some (n : Int)) none = xs.drop n := by
  unfold cut
  rw [HT.sIx_none, HT.sIx_nat]
  rw [Nat.min_eq_left h]
  exact List.take_of_length_le (by simp)
theorem cut_takeT {α : Type} (xs : List α) (n : Nat) (h : n ≤ xs.length) : cut xs none (some (n : Int)) = xs.take n := by
  rw [cut_take, Nat.min_eq_left h]
/-- x[:n], x[n:] of a tuple -/
theorem slc_take {xs : List D} {n : Nat} {S : Store} {ow : Bool} (h : n ≤ xs.length) : slcV ow (.tup xs) none (some (n : Int)) S = .ok (.tup (xs.take n)) S := by
  show R.ok (D.tup (cut xs none (some (n : Int)))) S = _
  rw [cut_takeT xs n h]
theorem slc_drop {xs : List D} {n : Nat} {S : Store} {ow : Bool} (h : n ≤ xs.length) : slcV ow (.tup xs) (some (n : Int)) none S = .ok (.tup (xs.drop n)) S := by
  show R.ok (D.tup (cut xs (some (n : Int)) none)) S = _
  rw [cut_drop xs n h]
theorem tr_nr {L : Nat} : ∀ {n : Nat} {d : D}, tr L n d → d.nr = true
  | n, .non, _ => rfl
  | n, .int _, _ => rfl
  | n, .str z, _ => rfl
  | 0, .tup xs, h => h.elim
  | n + 1, .tup xs, h => by
    have hs := h.2
    clear h
    show D.nrL xs = true
    induction xs with
    | nil => rfl
    | cons x xs ih =>
      simp only [D.nrL, Bool.and_eq_true]
      exact ⟨tr_nr (hs x List.mem_cons_self), ih fun y hy => hs y (List.mem_cons_of_mem _ hy)⟩
  | n, .bl _, h => by cases n <;> exact h.elim
  | n, .lst _, h => by cases n <;> exact h.elim
  | n, .dct _, h => by cases n <;> exact h.elim
  | n, .ins _ _, h => by cases n <;> exact h.elim
  | n, .kd _, h => by cases n <;> exact h.elim
  | n, .ref _, h => by cases n <;> exact h.elim
  | n, .scr _, h => by cases n <;> exact h.elim
theorem tr_frz {L n : Nat} {d : D} (h : tr L n d) (S : Store) : frzD FRZ S d = some (d, S) := by
  cases d with
  | tup xs => exact frzD_tup _ _ _
  | non => exact frz_non S
  | int i => simp [frzD, FRZ]
  | str i => simp [frzD, FRZ]
  | _ => cases n <;> exact h.elim
theorem tr_val {L n : Nat} {d : D} (h : tr L n d) (S T' : Store) : endV .val S (.ok d (S ++ T')) = .ok d S := endV_app (tr_nr h) (fun S => tr_frz h S) S T'
/-- small things, by computing -/
def trB (L : Nat) : Nat → D → Bool
  | _, .non => true
  | _, .int _ => true
  | _, .str z => decide (z.length ≤ 100) && PyData.strOk z
  | n + 1, .tup xs => decide (xs.length ≤ L) && xs.all (trB L n)
  | _, _ => false
theorem trB_ok {L : Nat} : ∀ {n : Nat} {d : D}, trB L n d = true → tr L n d
  | n, .non, _ => by cases n <;> trivial
  | n, .int _, _ => by cases n <;> trivial
  | n, .str z, h => by
    cases n <;> (simp only [trB, Bool.and_eq_true, decide_eq_true_eq] at h; exact h)
  | 0, .tup xs, h => by cases h
  | n + 1, .tup xs, h => by
    simp only [trB, Bool.and_eq_true, decide_eq_true_eq] at h
    exact ⟨h.1, fun x hx => trB_ok (List.all_eq_true.mp h.2 x hx)⟩
  | n, .bl _, h => by cases n <;> cases h
  | n, .lst _, h => by cases n <;> cases h
  | n, .dct _, h => by cases n <;> cases h
  | n, .ins _ _, h => by cases n <;> cases h
  | n, .kd _, h => by cases n <;> cases h
  | n, .ref _, h => by cases n <;> cases h
  | n, .scr _, h => by cases n <;> cases h
theorem okN_tr {z : Str} (h : okN z = true) : z.length ≤ 100 ∧ PyData.strOk z = true := by
  simp only [okN, Bool.and_eq_true, decide_eq_true_eq] at h
  exact ⟨by omega, h.2.2.2.2⟩
theorem tr_str {L n : Nat} {z : Str} (h : z.length ≤ 100 ∧ PyData.strOk z = true) : tr L n (.str z) := by cases n <;> exact h
theorem tr_names {L n : Nat} {xs : List Str} (h : ∀ x ∈ xs, okN x = true) (hl : xs.length ≤ L) : tr L (n + 1) (.tup (sD xs)) :=
  ⟨by rw [List.length_map]; exact hl, fun x hx => by
    obtain ⟨z, hz, rfl⟩ := List.mem_map.mp hx
    exact tr_str (okN_tr (h z hz))⟩
theorem tr_q {voc : List (Str × Nat)} : ∀ {q : Q} {gr : List (Str × Nat)}, vq voc gr q → tr 100 (q.dep + 2) q.toD
  | .tru, _, _ => ⟨by decide, fun x hx => by simp only [List.mem_cons, List.not_mem_nil, or_false] at hx; subst hx; exact tr_str ⟨by decide, by decide +kernel⟩⟩
  | .fal, _, _ => ⟨by decide, fun x hx => by simp only [List.mem_cons, List.not_mem_nil, or_false] at hx; subst hx; exact tr_str ⟨by decide, by decide +kernel⟩⟩
  | .given r xs, _, h => ⟨by show (3 : Nat) ≤ 100; decide, fun x hx => by
      have hx : x ∈ [D.str "given", .str r, .tup (sD xs)] := hx
      simp only [List.mem_cons, List.not_mem_nil, or_false] at hx
      rcases hx with rfl | rfl | rfl
      · exact tr_str ⟨by decide, by decide +kernel⟩
      · exact tr_str (okN_tr h.1)
      · exact tr_names h.2.1 h.2.2.2⟩
  | .inn r xs, _, h => ⟨by show (3 : Nat) ≤ 100; decide, fun x hx => by
      have hx : x ∈ [D.str "in", .str r, .tup (sD xs)] := hx
      simp only [List.mem_cons, List.not_mem_nil, or_false] at hx
      rcases hx with rfl | rfl | rfl
      · exact tr_str ⟨by decide, by decide +kernel⟩
      · exact tr_str (okN_tr h.1)
      · exact tr_names h.2.1 h.2.2.2⟩
  | .same r s, _, h => ⟨by show (3 : Nat) ≤ 100; decide, fun x hx => by
      have hx : x ∈ [D.str "same", .str r, .str s] := hx
      simp only [List.mem_cons, List.not_mem_nil, or_false] at hx
      rcases hx with rfl | rfl | rfl
      · exact tr_str ⟨by decide, by decide +kernel⟩
      · exact tr_str (okN_tr h.1)
      · exact tr_str (okN_tr h.2)⟩
  | .not p, _, h => ⟨by show (2 : Nat) ≤ 100; decide, fun x hx => by
      have hx : x ∈ [D.str "not", p.toD] := hx
      simp only [List.mem_cons, List.not_mem_nil, or_false] at hx
      rcases hx with rfl | rfl
      · exact tr_str ⟨by decide, by decide +kernel⟩
      · exact tr_mono (Nat.le_refl _) (by simp only [Q.dep]; omega) (tr_q (q := p) h)⟩
  | .bi w p q, _, h => ⟨by cases w <;> (show (3 : Nat) ≤ 100; decide), fun x hx => by
      have hx : x ∈ [D.str (if w then "and" else "or"), p.toD, q.toD] := by cases w <;> exact hx
      simp only [List.mem_cons, List.not_mem_nil, or_false] at hx
      rcases hx with rfl | rfl | rfl
      · cases w <;> exact tr_str ⟨by decide, by decide +kernel⟩
      · exact tr_mono (Nat.le_refl _) (by simp only [Q.dep]; omega) (tr_q (q := p) h.1)
      · exact tr_mono (Nat.le_refl _) (by simp only [Q.dep]; omega) (tr_q (q := q) h.2)⟩
  | .qu w y p, _, h => ⟨by cases w <;> (show (3 : Nat) ≤ 100; decide), fun x hx => by
      have hx : x ∈ [D.str (if w then "some" else "all"), .str y, p.toD] := by cases w <;> exact hx
      simp only [List.mem_cons, List.not_mem_nil, or_false] at hx
      rcases hx with rfl | rfl | rfl
      · cases w <;> exact tr_str ⟨by decide, by decide +kernel⟩
      · exact tr_str (okN_tr h.1)
      · exact tr_mono (Nat.le_refl _) (by simp only [Q.dep]; omega) (tr_q (q := p) h.2)⟩
  | .grow r bs p ts, _, h => ⟨by show (5 : Nat) ≤ 100; decide, fun x hx => by
      have hx : x ∈ [D.str "grow", .str r, .tup (sD bs), p.toD, .tup (sD ts)] := hx
      obtain ⟨⟨a1, a2, a3, a4, a5, a6⟩, h2⟩ := h
      simp only [List.mem_cons, List.not_mem_nil, or_false] at hx
      rcases hx with rfl | rfl | rfl | rfl | rfl
      · exact tr_str ⟨by decide, by decide +kernel⟩
      · exact tr_str (okN_tr a1)
      · exact tr_names a2 a6
      · exact tr_mono (Nat.le_refl _) (by simp only [Q.dep]; omega) (tr_q (q := p) h2)
      · exact tr_names a3 (by omega)⟩
end Zg

namespace K04
open PySem L2 Z
def top (i : Nat) : Stmt := PySem.Challenge.pw_soonerlater_k04_first_fault_of_a_questio.main.body.getD i (.Pass ⟨0, 0, 0, 0⟩)
/- is_name -/
abbrev s0 : Stmt := top 4
def N0 : List Str := ["text", "sign"]
def f0 : Fn := ⟨1, 2,
  (.cons (.if_ (.or (.not (.chain .le .le (.k (.int 1)) (.bi .len false (.cons (.var 0) .nil)) (.gl "MOST_SIGNS" (.int 12)))) (.cmp .notin (.idx (.var 0) (.k (.int 0))) (.gl "LETTERS" (.str "abcdefghijklmnopqrstuvwxyz")))) (.cons (.ret (.k (.bl false))) .nil) .nil)
  (.cons (.ret (.bi .all false (.cons (.lc false [1] (.or (.cmp .in_ (.var 1) (.gl "LETTERS" (.str "abcdefghijklmnopqrstuvwxyz"))) (.cmp .in_ (.var 1) (.gl "DIGITS" (.str "0123456789")))) (.nm 1) (.seq (.var 0)) .nil) .nil))) .nil))⟩
/- indexes_within -/
abbrev s1 : Stmt := top 8
def N1 : List Str := ["question"]
def f1 : Fn := ⟨1, 1,
  (.cons (.ret (.bm .get2 (.gl "WITHIN" (.kd [("not", (.tup [(.int 1)])), ("and", (.tup [(.int 1), (.int 2)])), ("or", (.tup [(.int 1), (.int 2)])), ("some", (.tup [(.int 2)])), ("all", (.tup [(.int 2)])), ("grow", (.tup [(.int 3)]))])) (.cons (.idx (.var 0) (.k (.int 0))) (.cons (.tup .nil) .nil)))) .nil)⟩
/- is_word -/
abbrev s2 : Stmt := top 9
def N2 : List Str := ["thing"]
def f2 : Fn := ⟨1, 1,
  (.cons (.ret (.and (.isi (.var 0) .str) (.call 0 .val (.cons (.var 0) .nil)))) .nil)⟩
/- are_words -/
abbrev s3 : Stmt := top 10
def N3 : List Str := ["thing", "item"]
def f3 : Fn := ⟨1, 2,
  (.cons (.ret (.and (.isi (.var 0) .tuple) (.bi .all false (.cons (.lc false [1] (.call 2 .val (.cons (.var 1) .nil)) (.nm 1) (.seq (.var 0)) .nil) .nil)))) .nil)⟩
/- has_shape -/
abbrev s4 : Stmt := top 11
def N4 : List Str := ["thing"]
def f4 : Fn := ⟨1, 1,
  (.cons (.if_ (.or (.not (.isi (.var 0) .tuple)) (.or (.cmp .eq (.bi .len false (.cons (.var 0) .nil)) (.k (.int 0))) (.not (.isi (.idx (.var 0) (.k (.int 0))) .str)))) (.cons (.ret (.k (.bl false))) .nil) .nil)
  (.cons (.ret (.and (.cmp .in_ (.idx (.var 0) (.k (.int 0))) (.gl "LENGTHS" (.kd [("true", (.int 1)), ("false", (.int 1)), ("given", (.int 3)), ("same", (.int 3)), ("in", (.int 3)), ("not", (.int 2)), ("and", (.int 3)), ("or", (.int 3)), ("some", (.int 3)), ("all", (.int 3)), ("grow", (.int 5))]))) (.cmp .eq (.bi .len false (.cons (.var 0) .nil)) (.idx (.gl "LENGTHS" (.kd [("true", (.int 1)), ("false", (.int 1)), ("given", (.int 3)), ("same", (.int 3)), ("in", (.int 3)), ("not", (.int 2)), ("and", (.int 3)), ("or", (.int 3)), ("some", (.int 3)), ("all", (.int 3)), ("grow", (.int 5))])) (.idx (.var 0) (.k (.int 0))))))) .nil))⟩
/- has_names -/
abbrev s5 : Stmt := top 12
def N5 : List Str := ["part", "word"]
def f5 : Fn := ⟨1, 2,
  (.cons (.asg (.nm 1) (.idx (.var 0) (.k (.int 0))))
  (.cons (.if_ (.cmp .eq (.var 1) (.k (.str "same"))) (.cons (.ret (.and (.call 2 .val (.cons (.idx (.var 0) (.k (.int 1))) .nil)) (.call 2 .val (.cons (.idx (.var 0) (.k (.int 2))) .nil)))) .nil) .nil)
  (.cons (.if_ (.or (.cmp .eq (.var 1) (.k (.str "given"))) (.cmp .eq (.var 1) (.k (.str "in")))) (.cons (.ret (.and (.call 2 .val (.cons (.idx (.var 0) (.k (.int 1))) .nil)) (.call 3 .val (.cons (.idx (.var 0) (.k (.int 2))) .nil)))) .nil) .nil)
  (.cons (.if_ (.or (.cmp .eq (.var 1) (.k (.str "some"))) (.cmp .eq (.var 1) (.k (.str "all")))) (.cons (.ret (.call 2 .val (.cons (.idx (.var 0) (.k (.int 1))) .nil))) .nil) .nil)
  (.cons (.if_ (.cmp .eq (.var 1) (.k (.str "grow"))) (.cons (.ret (.and (.call 2 .val (.cons (.idx (.var 0) (.k (.int 1))) .nil)) (.and (.call 3 .val (.cons (.idx (.var 0) (.k (.int 2))) .nil)) (.call 3 .val (.cons (.idx (.var 0) (.k (.int 4))) .nil))))) .nil) .nil)
  (.cons (.ret (.k (.bl true))) .nil))))))⟩
/- agrees -/
abbrev s6 : Stmt := top 13
def N6 : List Str := ["part", "vocabulary", "growing", "word"]
def f6 : Fn := ⟨3, 4,
  (.cons (.asg (.nm 3) (.idx (.var 0) (.k (.int 0))))
  (.cons (.if_ (.cmp .eq (.var 3) (.k (.str "given"))) (.cons (.ret (.and (.cmp .in_ (.idx (.var 0) (.k (.int 1))) (.var 1)) (.cmp .eq (.idx (.var 1) (.idx (.var 0) (.k (.int 1)))) (.bi .len false (.cons (.idx (.var 0) (.k (.int 2))) .nil))))) .nil) .nil)
  (.cons (.if_ (.cmp .eq (.var 3) (.k (.str "in"))) (.cons (.ret (.and (.cmp .in_ (.idx (.var 0) (.k (.int 1))) (.var 2)) (.cmp .eq (.idx (.var 2) (.idx (.var 0) (.k (.int 1)))) (.bi .len false (.cons (.idx (.var 0) (.k (.int 2))) .nil))))) .nil) .nil)
  (.cons (.if_ (.cmp .eq (.var 3) (.k (.str "grow"))) (.cons (.ret (.and (.cmp .eq (.bi .len false (.cons (.idx (.var 0) (.k (.int 2))) .nil)) (.bi .len false (.cons (.idx (.var 0) (.k (.int 4))) .nil))) (.cmp .eq (.bi .lenSet false (.cons (.idx (.var 0) (.k (.int 2))) .nil)) (.bi .len false (.cons (.idx (.var 0) (.k (.int 2))) .nil))))) .nil) .nil)
  (.cons (.ret (.k (.bl true))) .nil)))))⟩
/- fault_within -/
abbrev s7 : Stmt := top 14
def N7 : List Str := ["thing", "path", "vocabulary", "growing", "inner", "index", "found", "name"]
def b7_0 : B := (.cons (.asg (.nm 6) (.call 7 .val (.cons (.idx (.var 0) (.var 5)) (.cons (.bin .add false (.var 1) (.tup (.cons (.var 5) .nil))) (.cons (.var 2) (.cons (.var 4) .nil))))))
  (.cons (.if_ (.cmp .isnot (.var 6) (.k .non)) (.cons (.ret (.var 6)) .nil) .nil) .nil))
def l7_0 : S := .for_ (.nm 5) (.seq (.call 1 .val (.cons (.var 0) .nil))) b7_0
def f7 : Fn := ⟨4, 8,
  (.cons (.if_ (.or (.not (.call 4 .val (.cons (.var 0) .nil))) (.or (.not (.call 5 .val (.cons (.var 0) .nil))) (.not (.call 6 .val (.cons (.var 0) (.cons (.var 2) (.cons (.var 3) .nil))))))) (.cons (.ret (.var 1)) .nil) .nil)
  (.cons (.asg (.nm 4) (.var 3))
  (.cons (.frzv (.if_ (.cmp .eq (.idx (.var 0) (.k (.int 0))) (.k (.str "grow"))) (.cons (.asg (.nm 4) (.dc true [7] (.var 7) (.idx (.var 3) (.var 7)) (.nm 7) (.keys (.var 3)) .nil))
  (.cons (.setI (.var 4) (.idx (.var 0) (.k (.int 1))) (.bi .len false (.cons (.idx (.var 0) (.k (.int 2))) .nil))) .nil)) .nil) 4)
  (.cons l7_0
  (.cons (.ret (.k .non)) .nil)))))⟩
/- question_fault -/
abbrev s8 : Stmt := top 15
def N8 : List Str := ["thing", "vocabulary"]
def f8 : Fn := ⟨2, 2,
  (.cons (.ret (.call 7 .val (.cons (.var 0) (.cons (.tup .nil) (.cons (.var 1) (.cons (.dct false .nil .nil) .nil)))))) .nil)⟩
/- _law_cell -/
abbrev s9 : Stmt := top 17
def N9 : List Str := ["script", "k"]
def f9 : Fn := ⟨2, 2,
  (.cons (.if_ (.cmp .lt (.var 1) (.bi .len false (.cons (.var 0) .nil))) (.cons (.ret (.idx (.var 0) (.var 1))) .nil) .nil)
  (.cons (.ret (.k (.int 0))) .nil))⟩
/- _law_digits -/
abbrev s10 : Stmt := top 18
def N10 : List Str := ["cell", "many", "count", "digits", "rest", "k", "mixed"]
def b10_0 : B := (.cons (.if_ (.cmp .ge (.var 0) (.bin .pow false (.k (.int 10)) (.k (.int 18)))) (.cons (.expr (.bm .append (.var 3) (.cons (.bin .mod false (.bi .int false (.cons (.var 4) .nil)) (.var 1)) .nil)))
  (.cons (.asg (.nm 4) (.bin .fdiv false (.var 4) (.var 1))) .nil)) (.cons (.asg (.nm 6) (.bin .mod false (.bi .int false (.cons (.bin .add false (.bin .add false (.bin .mul false (.var 0) (.k (.int 48271))) (.bin .mul false (.var 5) (.k (.int 69621)))) (.k (.int 1013))) .nil)) (.k (.int 2147483647))))
  (.cons (.asg (.nm 6) (.bin .mod false (.bi .int false (.cons (.bin .add false (.bin .add false (.bin .mul false (.var 6) (.var 6)) (.bin .mul false (.k (.int 7)) (.var 6))) (.var 5)) .nil)) (.k (.int 2147483629))))
  (.cons (.expr (.bm .append (.var 3) (.cons (.bin .mod false (.bi .int false (.cons (.bin .fdiv false (.var 6) (.k (.int 31))) .nil)) (.var 1)) .nil))) .nil)))) .nil)
def l10_0 : S := .for_ (.nm 5) (.rng (.cons (.var 2) .nil)) b10_0
def f10 : Fn := ⟨3, 7,
  (.cons (.asg (.nm 3) (.lst true .nil))
  (.cons (.asg (.nm 4) (.var 0))
  (.cons (.frzv l10_0 3)
  (.cons (.ret (.var 3)) .nil))))⟩
/- _law_take -/
abbrev s11 : Stmt := top 19
def N11 : List Str := ["state", "many"]
def f11 : Fn := ⟨2, 2,
  (.cons (.setI (.var 0) (.k (.int 1)) (.bin .add false (.idx (.var 0) (.k (.int 1))) (.k (.int 1))))
  (.cons (.ret (.bin .mod false (.bi .int false (.cons (.idx (.idx (.var 0) (.k (.int 0))) (.bin .mod false (.bi .int false (.cons (.bin .sub false (.idx (.var 0) (.k (.int 1))) (.k (.int 1))) .nil)) (.bi .len false (.cons (.idx (.var 0) (.k (.int 0))) .nil)))) .nil)) (.var 1))) .nil))⟩
/- _law_atom -/
abbrev s12 : Stmt := top 20
def N12 : List Str := ["state", "names", "grown", "choice", "one", "other", "relation", "arity", "k"]
def f12 : Fn := ⟨3, 9,
  (.cons (.asg (.nm 3) (.call 11 .val (.cons (.var 0) (.cons (.k (.int 9)) .nil))))
  (.cons (.if_ (.and (.cmp .gt (.var 3) (.k (.int 5))) (.cmp .gt (.bi .len false (.cons (.var 2) .nil)) (.k (.int 0)))) (.cons (.asg (.tp [(.nm 6), (.nm 7)]) (.idx (.var 2) (.call 11 .val (.cons (.var 0) (.cons (.bi .len false (.cons (.var 2) .nil)) .nil)))))
  (.cons (.ret (.tup (.cons (.k (.str "in")) (.cons (.var 6) (.cons (.bi .tuple false (.cons (.lc false [8] (.idx (.var 1) (.call 11 .val (.cons (.var 0) (.cons (.bi .len false (.cons (.var 1) .nil)) .nil)))) (.nm 8) (.rng (.cons (.var 7) .nil)) .nil) .nil)) .nil))))) .nil)) .nil)
  (.cons (.asg (.nm 4) (.idx (.var 1) (.call 11 .val (.cons (.var 0) (.cons (.bi .len false (.cons (.var 1) .nil)) .nil)))))
  (.cons (.asg (.nm 5) (.idx (.var 1) (.call 11 .val (.cons (.var 0) (.cons (.bi .len false (.cons (.var 1) .nil)) .nil)))))
  (.cons (.if_ (.cmp .eq (.var 3) (.k (.int 0))) (.cons (.ret (.tup (.cons (.k (.str "same")) (.cons (.var 4) (.cons (.var 5) .nil))))) .nil) .nil)
  (.cons (.if_ (.cmp .eq (.var 3) (.k (.int 1))) (.cons (.ret (.idx (.lst false (.cons (.tup (.cons (.k (.str "given")) (.cons (.k (.str "p")) (.cons (.tup .nil) .nil)))) (.cons (.tup (.cons (.k (.str "true")) .nil)) (.cons (.tup (.cons (.k (.str "false")) .nil)) (.cons (.tup (.cons (.k (.str "given")) (.cons (.k (.str "p")) (.cons (.tup .nil) .nil)))) .nil))))) (.call 11 .val (.cons (.var 0) (.cons (.k (.int 4)) .nil))))) .nil) .nil)
  (.cons (.if_ (.cmp .lt (.var 3) (.k (.int 5))) (.cons (.ret (.tup (.cons (.k (.str "given")) (.cons (.idx (.lst false (.cons (.k (.str "c")) (.cons (.k (.str "d")) .nil))) (.call 11 .val (.cons (.var 0) (.cons (.k (.int 2)) .nil)))) (.cons (.tup (.cons (.var 4) .nil)) .nil))))) .nil) .nil)
  (.cons (.ret (.tup (.cons (.k (.str "given")) (.cons (.k (.str "e")) (.cons (.tup (.cons (.var 4) (.cons (.var 5) .nil))) .nil))))) .nil))))))))⟩
/- _law_question -/
abbrev s13 : Stmt := top 21
def N13 : List Str := ["state", "depth", "levels", "names", "grown", "choice", "first", "name", "more"]
def f13 : Fn := ⟨5, 9,
  (.cons (.asg (.nm 5) (.call 11 .val (.cons (.var 0) (.cons (.k (.int 10)) .nil))))
  (.cons (.if_ (.or (.cmp .eq (.var 1) (.k (.int 0))) (.cmp .lt (.var 5) (.k (.int 2)))) (.cons (.ret (.call 12 .val (.cons (.var 0) (.cons (.var 3) (.cons (.var 4) .nil))))) .nil) .nil)
  (.cons (.if_ (.cmp .eq (.var 5) (.k (.int 2))) (.cons (.ret (.tup (.cons (.k (.str "not")) (.cons (.call 13 .val (.cons (.var 0) (.cons (.bin .sub false (.var 1) (.k (.int 1))) (.cons (.var 2) (.cons (.var 3) (.cons (.var 4) .nil)))))) .nil)))) .nil) .nil)
  (.cons (.if_ (.cmp .lt (.var 5) (.k (.int 6))) (.cons (.asg (.nm 6) (.call 13 .val (.cons (.var 0) (.cons (.bin .sub false (.var 1) (.k (.int 1))) (.cons (.var 2) (.cons (.var 3) (.cons (.var 4) .nil)))))))
  (.cons (.ret (.tup (.cons (.idx (.lst false (.cons (.k (.str "and")) (.cons (.k (.str "or")) .nil))) (.bin .mod false (.bi .int false (.cons (.var 5) .nil)) (.k (.int 2)))) (.cons (.var 6) (.cons (.call 13 .val (.cons (.var 0) (.cons (.bin .sub false (.var 1) (.k (.int 1))) (.cons (.var 2) (.cons (.var 3) (.cons (.var 4) .nil)))))) .nil))))) .nil)) .nil)
  (.cons (.if_ (.or (.cmp .lt (.var 5) (.k (.int 8))) (.cmp .eq (.var 2) (.k (.int 0)))) (.cons (.asg (.nm 7) (.idx (.lst false (.cons (.k (.str "x")) (.cons (.k (.str "y")) (.cons (.k (.str "z")) (.cons (.k (.str "u1")) .nil))))) (.call 11 .val (.cons (.var 0) (.cons (.k (.int 4)) .nil)))))
  (.cons (.asg (.nm 8) (.ite (.cmp .in_ (.var 7) (.var 3)) (.var 3) (.bin .add false (.var 3) (.tup (.cons (.var 7) .nil)))))
  (.cons (.ret (.tup (.cons (.idx (.lst false (.cons (.k (.str "some")) (.cons (.k (.str "all")) .nil))) (.bin .mod false (.bi .int false (.cons (.var 5) .nil)) (.k (.int 2)))) (.cons (.var 7) (.cons (.call 13 .val (.cons (.var 0) (.cons (.bin .sub false (.var 1) (.k (.int 1))) (.cons (.var 2) (.cons (.var 8) (.cons (.var 4) .nil)))))) .nil))))) .nil))) .nil)
  (.cons (.ret (.call 14 .val (.cons (.var 0) (.cons (.var 1) (.cons (.var 2) (.cons (.var 3) (.cons (.var 4) .nil))))))) .nil))))))⟩
/- _law_grow -/
abbrev s14 : Stmt := top 22
def N14 : List Str := ["state", "depth", "levels", "names", "grown", "relation", "arity", "start", "bound", "around", "known", "body", "choice", "asked", "link", "step", "k", "pair", "name"]
def f14 : Fn := ⟨5, 19,
  (.cons (.asg (.nm 5) (.idx (.lst false (.cons (.k (.str "q")) (.cons (.k (.str "r")) (.cons (.k (.str "e")) .nil)))) (.call 11 .val (.cons (.var 0) (.cons (.k (.int 3)) .nil)))))
  (.cons (.asg (.nm 6) (.idx (.lst false (.cons (.k (.int 1)) (.cons (.k (.int 1)) (.cons (.k (.int 1)) (.cons (.k (.int 1)) (.cons (.k (.int 0)) (.cons (.k (.int 2)) .nil))))))) (.call 11 .val (.cons (.var 0) (.cons (.k (.int 6)) .nil)))))
  (.cons (.asg (.nm 7) (.call 11 .val (.cons (.var 0) (.cons (.k (.int 3)) .nil))))
  (.cons (.asg (.nm 8) (.bi .tuple false (.cons (.lc false [16] (.idx (.lst false (.cons (.k (.str "x")) (.cons (.k (.str "y")) (.cons (.k (.str "z")) .nil)))) (.bin .mod false (.bi .int false (.cons (.bin .add false (.var 7) (.var 16)) .nil)) (.k (.int 3)))) (.nm 16) (.rng (.cons (.var 6) .nil)) .nil) .nil)))
  (.cons (.asg (.nm 9) (.bin .add false (.var 3) (.bi .tuple false (.cons (.lc false [18] (.var 18) (.nm 18) (.seq (.var 8)) (.cons (.cmp .notin (.var 18) (.var 3)) .nil)) .nil))))
  (.cons (.asg (.nm 10) (.bin .add false (.lc false [17] (.var 17) (.nm 17) (.seq (.var 4)) (.cons (.cmp .ne (.idx (.var 17) (.k (.int 0))) (.var 5)) .nil)) (.lst false (.cons (.tup (.cons (.var 5) (.cons (.var 6) .nil))) .nil))))
  (.cons (.asg (.nm 11) (.call 13 .val (.cons (.var 0) (.cons (.bin .sub false (.var 1) (.k (.int 1))) (.cons (.bin .sub false (.var 2) (.k (.int 1))) (.cons (.var 9) (.cons (.var 10) .nil)))))))
  (.cons (.asg (.nm 12) (.call 11 .val (.cons (.var 0) (.cons (.k (.int 9)) .nil))))
  (.cons (.if_ (.and (.cmp .gt (.var 6) (.k (.int 0))) (.cmp .gt (.var 12) (.k (.int 1)))) (.cons (.asg (.nm 13) (.tup (.cons (.k (.str "in")) (.cons (.var 5) (.cons (.bin .add false (.tup (.cons (.k (.str "v1")) .nil)) (.slc false (.var 8) (.cons (.k (.int 1)) .nil) .nil)) .nil)))))
  (.cons (.if_ (.cmp .eq (.bin .mod false (.bi .int false (.cons (.var 12) .nil)) (.k (.int 2))) (.k (.int 1))) (.cons (.asg (.nm 13) (.tup (.cons (.k (.str "not")) (.cons (.var 13) .nil)))) .nil) .nil)
  (.cons (.asg (.nm 14) (.tup (.cons (.k (.str "given")) (.cons (.k (.str "e")) (.cons (.idx (.lst false (.cons (.tup (.cons (.k (.str "v1")) (.cons (.idx (.var 8) (.k (.int 0))) .nil))) (.cons (.tup (.cons (.idx (.var 8) (.k (.int 0))) (.cons (.k (.str "v1")) .nil))) .nil))) (.call 11 .val (.cons (.var 0) (.cons (.k (.int 2)) .nil)))) .nil)))))
  (.cons (.asg (.nm 15) (.tup (.cons (.k (.str "some")) (.cons (.k (.str "v1")) (.cons (.tup (.cons (.k (.str "and")) (.cons (.var 14) (.cons (.var 13) .nil)))) .nil)))))
  (.cons (.if_ (.cmp .gt (.var 12) (.k (.int 5))) (.cons (.asg (.nm 15) (.tup (.cons (.k (.str "all")) (.cons (.k (.str "v1")) (.cons (.tup (.cons (.k (.str "or")) (.cons (.tup (.cons (.k (.str "not")) (.cons (.var 14) .nil))) (.cons (.var 13) .nil)))) .nil))))) .nil) .nil)
  (.cons (.asg (.nm 11) (.tup (.cons (.idx (.lst false (.cons (.k (.str "or")) (.cons (.k (.str "and")) .nil))) (.bi .int false (.cons (.cmp .gt (.var 12) (.k (.int 7))) .nil))) (.cons (.var 11) (.cons (.var 15) .nil))))) .nil)))))) .nil)
  (.cons (.ret (.tup (.cons (.k (.str "grow")) (.cons (.var 5) (.cons (.var 8) (.cons (.var 11) (.cons (.bi .tuple false (.cons (.lc false [16] (.idx (.var 3) (.call 11 .val (.cons (.var 0) (.cons (.bi .len false (.cons (.var 3) .nil)) .nil)))) (.nm 16) (.rng (.cons (.var 6) .nil)) .nil) .nil)) .nil))))))) .nil))))))))))⟩
/- _law_is_name -/
abbrev s15 : Stmt := top 23
def N15 : List Str := ["thing", "small", "sign"]
def f15 : Fn := ⟨1, 3,
  (.cons (.asg (.nm 1) (.k (.str "abcdefghijklmnopqrstuvwxyz")))
  (.cons (.if_ (.or (.not (.isi (.var 0) .str)) (.or (.cmp .lt (.bi .len false (.cons (.var 0) .nil)) (.k (.int 1))) (.or (.cmp .gt (.bi .len false (.cons (.var 0) .nil)) (.k (.int 12))) (.cmp .notin (.idx (.var 0) (.k (.int 0))) (.var 1))))) (.cons (.ret (.k (.bl false))) .nil) .nil)
  (.cons (.ret (.bi .all false (.cons (.lc false [2] (.cmp .in_ (.var 2) (.bin .add false (.var 1) (.k (.str "0123456789")))) (.nm 2) (.seq (.var 0)) .nil) .nil))) .nil)))⟩
/- _law_are_names -/
abbrev s16 : Stmt := top 24
def N16 : List Str := ["thing", "item"]
def f16 : Fn := ⟨1, 2,
  (.cons (.ret (.and (.isi (.var 0) .tuple) (.bi .all false (.cons (.lc false [1] (.call 15 .val (.cons (.var 1) .nil)) (.nm 1) (.seq (.var 0)) .nil) .nil)))) .nil)⟩
/- _law_is_faulty -/
abbrev s17 : Stmt := top 25
def N17 : List Str := ["thing", "vocabulary", "grown", "lengths", "word", "known"]
def f17 : Fn := ⟨3, 6,
  (.cons (.asg (.nm 3) (.dct true (.cons (.k (.str "true")) (.cons (.k (.int 1)) (.cons (.k (.str "false")) (.cons (.k (.int 1)) (.cons (.k (.str "given")) (.cons (.k (.int 3)) (.cons (.k (.str "same")) (.cons (.k (.int 3)) (.cons (.k (.str "in")) (.cons (.k (.int 3)) (.cons (.k (.str "not")) (.cons (.k (.int 2)) (.cons (.k (.str "and")) (.cons (.k (.int 3)) (.cons (.k (.str "or")) (.cons (.k (.int 3)) (.cons (.k (.str "some")) (.cons (.k (.int 3)) (.cons (.k (.str "all")) (.cons (.k (.int 3)) .nil)))))))))))))))))))) .nil))
  (.cons (.frzv (.setI (.var 3) (.k (.str "grow")) (.k (.int 5))) 3)
  (.cons (.if_ (.or (.not (.isi (.var 0) .tuple)) (.or (.cmp .eq (.bi .len false (.cons (.var 0) .nil)) (.k (.int 0))) (.not (.isi (.idx (.var 0) (.k (.int 0))) .str)))) (.cons (.ret (.k (.bl true))) .nil) .nil)
  (.cons (.asg (.nm 4) (.idx (.var 0) (.k (.int 0))))
  (.cons (.if_ (.cmp .ne (.bm .get2 (.var 3) (.cons (.var 4) (.cons (.k (.int 0)) .nil))) (.bi .len false (.cons (.var 0) .nil))) (.cons (.ret (.k (.bl true))) .nil) .nil)
  (.cons (.if_ (.cmp .eq (.var 4) (.k (.str "same"))) (.cons (.ret (.or (.not (.call 15 .val (.cons (.idx (.var 0) (.k (.int 1))) .nil))) (.not (.call 15 .val (.cons (.idx (.var 0) (.k (.int 2))) .nil))))) .nil) .nil)
  (.cons (.if_ (.or (.cmp .eq (.var 4) (.k (.str "some"))) (.cmp .eq (.var 4) (.k (.str "all")))) (.cons (.ret (.not (.call 15 .val (.cons (.idx (.var 0) (.k (.int 1))) .nil)))) .nil) .nil)
  (.cons (.if_ (.or (.cmp .eq (.var 4) (.k (.str "given"))) (.cmp .eq (.var 4) (.k (.str "in")))) (.cons (.if_ (.or (.not (.call 15 .val (.cons (.idx (.var 0) (.k (.int 1))) .nil))) (.not (.call 16 .val (.cons (.idx (.var 0) (.k (.int 2))) .nil)))) (.cons (.ret (.k (.bl true))) .nil) .nil)
  (.cons (.asg (.nm 5) (.ite (.cmp .eq (.var 4) (.k (.str "given"))) (.var 1) (.var 2)))
  (.cons (.ret (.cmp .ne (.bm .get2 (.var 5) (.cons (.idx (.var 0) (.k (.int 1))) (.cons (.bin .sub false (.k (.int 0)) (.k (.int 1))) .nil))) (.bi .len false (.cons (.idx (.var 0) (.k (.int 2))) .nil)))) .nil))) .nil)
  (.cons (.if_ (.cmp .eq (.var 4) (.k (.str "grow"))) (.cons (.if_ (.or (.not (.call 15 .val (.cons (.idx (.var 0) (.k (.int 1))) .nil))) (.or (.not (.call 16 .val (.cons (.idx (.var 0) (.k (.int 2))) .nil))) (.not (.call 16 .val (.cons (.idx (.var 0) (.k (.int 4))) .nil))))) (.cons (.ret (.k (.bl true))) .nil) .nil)
  (.cons (.ret (.or (.cmp .ne (.bi .len false (.cons (.idx (.var 0) (.k (.int 2))) .nil)) (.bi .len false (.cons (.idx (.var 0) (.k (.int 4))) .nil))) (.cmp .ne (.bi .lenSet false (.cons (.idx (.var 0) (.k (.int 2))) .nil)) (.bi .len false (.cons (.idx (.var 0) (.k (.int 2))) .nil))))) .nil)) .nil)
  (.cons (.ret (.k (.bl false))) .nil))))))))))⟩
/- _law_fault -/
abbrev s18 : Stmt := top 26
def N18 : List Str := ["thing", "path", "vocabulary", "grown", "within", "index", "found"]
def b18_0 : B := (.cons (.asg (.nm 6) (.call 18 .val (.cons (.idx (.var 0) (.var 5)) (.cons (.bin .add false (.var 1) (.tup (.cons (.var 5) .nil))) (.cons (.var 2) (.cons (.var 3) .nil))))))
  (.cons (.if_ (.cmp .isnot (.var 6) (.k .non)) (.cons (.ret (.var 6)) .nil) .nil) .nil))
def l18_0 : S := .for_ (.nm 5) (.seq (.bm .get2 (.var 4) (.cons (.idx (.var 0) (.k (.int 0))) (.cons (.lst false .nil) .nil)))) b18_0
def f18 : Fn := ⟨4, 7,
  (.cons (.if_ (.call 17 .val (.cons (.var 0) (.cons (.var 2) (.cons (.var 3) .nil)))) (.cons (.ret (.var 1)) .nil) .nil)
  (.cons (.asg (.nm 4) (.dct false (.cons (.k (.str "not")) (.cons (.lst false (.cons (.k (.int 1)) .nil)) (.cons (.k (.str "and")) (.cons (.lst false (.cons (.k (.int 1)) (.cons (.k (.int 2)) .nil))) (.cons (.k (.str "or")) (.cons (.lst false (.cons (.k (.int 1)) (.cons (.k (.int 2)) .nil))) (.cons (.k (.str "some")) (.cons (.lst false (.cons (.k (.int 2)) .nil)) (.cons (.k (.str "all")) (.cons (.lst false (.cons (.k (.int 2)) .nil)) (.cons (.k (.str "grow")) (.cons (.lst false (.cons (.k (.int 3)) .nil)) .nil)))))))))))) .nil))
  (.cons (.if_ (.cmp .eq (.idx (.var 0) (.k (.int 0))) (.k (.str "grow"))) (.cons (.asg (.nm 3) (.bi .dict true (.cons (.var 3) .nil)))
  (.cons (.frzv (.setI (.var 3) (.idx (.var 0) (.k (.int 1))) (.bi .len false (.cons (.idx (.var 0) (.k (.int 2))) .nil))) 3) .nil)) .nil)
  (.cons l18_0
  (.cons (.ret (.k .non)) .nil)))))⟩
/- _law_odd -/
abbrev s19 : Stmt := top 27
def N19 : List Str := ["state", "question", "odd"]
def f19 : Fn := ⟨2, 3,
  (.cons (.asg (.nm 2) (.lst false (.cons (.k (.str "x")) (.cons (.k (.str "e")) (.cons (.k (.str "q")) (.cons (.k (.str "X")) (.cons (.k (.str "")) (.cons (.k (.str "longest123456")) (.cons (.tup .nil) (.cons (.tup (.cons (.k (.str "x")) .nil)) (.cons (.tup (.cons (.k (.str "x")) (.cons (.k (.str "x")) .nil))) (.cons (.tup (.cons (.k (.str "x")) (.cons (.k (.int 1)) .nil))) (.cons (.tup (.cons (.k (.str "x")) (.cons (.k (.str "")) .nil))) (.cons (.k (.int 0)) (.cons (.k (.int 3)) (.cons (.k .non) (.cons (.k (.str "true")) .nil)))))))))))))))))
  (.cons (.asg (.nm 2) (.bin .add false (.var 2) (.lst false (.cons (.tup (.cons (.k (.str "true")) .nil)) (.cons (.tup (.cons (.k (.str "false")) .nil)) (.cons (.tup (.cons (.k (.str "not")) .nil)) (.cons (.tup (.cons (.k (.str "given")) (.cons (.k (.str "p")) (.cons (.tup .nil) .nil)))) (.cons (.tup (.cons (.k (.str "given")) (.cons (.k (.str "e")) (.cons (.tup (.cons (.k (.str "x")) .nil)) .nil)))) (.cons (.tup (.cons (.k (.str "in")) (.cons (.k (.str "q")) (.cons (.tup (.cons (.k (.str "x")) .nil)) .nil)))) .nil)))))))))
  (.cons (.asg (.nm 2) (.bin .add false (.var 2) (.lst false (.cons (.tup (.cons (.k (.str "same")) (.cons (.k (.str "x")) .nil))) (.cons (.tup (.cons (.k (.str "same")) (.cons (.k (.str "x")) (.cons (.k (.str "y")) .nil)))) (.cons (.tup (.cons (.k (.str "grow")) (.cons (.k (.str "q")) (.cons (.tup (.cons (.k (.str "x")) (.cons (.k (.str "x")) .nil))) (.cons (.tup (.cons (.k (.str "true")) .nil)) (.cons (.tup (.cons (.k (.str "x")) (.cons (.k (.str "x")) .nil))) .nil)))))) (.cons (.tup (.cons (.k (.str "maybe")) (.cons (.tup (.cons (.k (.str "true")) .nil)) .nil))) .nil)))))))
  (.cons (.asg (.nm 2) (.bin .add false (.var 2) (.lst false (.cons (.tup (.cons (.k (.str "grow")) (.cons (.k (.str "r")) (.cons (.tup (.cons (.k (.str "x")) .nil)) (.cons (.tup (.cons (.k (.str "in")) (.cons (.k (.str "r")) (.cons (.tup (.cons (.k (.str "x")) .nil)) .nil)))) (.cons (.tup (.cons (.k (.str "x")) (.cons (.k (.str "y")) .nil))) .nil)))))) (.cons (.tup (.cons (.k (.str "in")) (.cons (.k (.str "e")) (.cons (.tup (.cons (.k (.str "x")) (.cons (.k (.str "y")) .nil))) .nil)))) (.cons (.tup (.cons (.k (.str "all")) (.cons (.k (.str "X")) (.cons (.tup (.cons (.k (.str "true")) .nil)) .nil)))) .nil))))))
  (.cons (.asg (.nm 2) (.bin .add false (.var 2) (.lst false (.cons (.var 1) (.cons (.tup (.cons (.k (.str "or")) (.cons (.tup (.cons (.k (.str "true")) .nil)) (.cons (.var 1) .nil)))) (.cons (.tup (.cons (.k (.str "given")) (.cons (.k (.str "d")) (.cons (.tup (.cons (.k (.str "x")) .nil)) .nil)))) (.cons (.tup (.cons (.k (.str "given")) (.cons (.k (.str "t")) (.cons (.tup .nil) .nil)))) .nil)))))))
  (.cons (.ret (.idx (.var 2) (.call 11 .val (.cons (.var 0) (.cons (.bi .len false (.cons (.var 2) .nil)) .nil))))) .nil))))))⟩
/- _law_changed -/
abbrev s20 : Stmt := top 28
def N20 : List Str := ["state", "thing", "question", "at", "choice"]
def f20 : Fn := ⟨3, 5,
  (.cons (.if_ (.or (.not (.isi (.var 1) .tuple)) (.or (.cmp .eq (.bi .len false (.cons (.var 1) .nil)) (.k (.int 0))) (.cmp .eq (.call 11 .val (.cons (.var 0) (.cons (.k (.int 5)) .nil))) (.k (.int 0))))) (.cons (.ret (.call 19 .val (.cons (.var 0) (.cons (.var 2) .nil)))) .nil) .nil)
  (.cons (.asg (.nm 3) (.call 11 .val (.cons (.var 0) (.cons (.bi .len false (.cons (.var 1) .nil)) .nil))))
  (.cons (.asg (.nm 4) (.call 11 .val (.cons (.var 0) (.cons (.k (.int 12)) .nil))))
  (.cons (.if_ (.cmp .eq (.var 4) (.k (.int 0))) (.cons (.ret (.bin .add false (.slc false (.var 1) .nil (.cons (.var 3) .nil)) (.slc false (.var 1) (.cons (.bin .add false (.var 3) (.k (.int 1))) .nil) .nil))) .nil) .nil)
  (.cons (.if_ (.cmp .eq (.var 4) (.k (.int 1))) (.cons (.ret (.bin .add false (.bin .add false (.slc false (.var 1) .nil (.cons (.var 3) .nil)) (.tup (.cons (.call 19 .val (.cons (.var 0) (.cons (.var 2) .nil))) .nil))) (.slc false (.var 1) (.cons (.var 3) .nil) .nil))) .nil) .nil)
  (.cons (.ret (.bin .add false (.bin .add false (.slc false (.var 1) .nil (.cons (.var 3) .nil)) (.tup (.cons (.call 20 .val (.cons (.var 0) (.cons (.idx (.var 1) (.var 3)) (.cons (.var 2) .nil)))) .nil))) (.slc false (.var 1) (.cons (.bin .add false (.var 3) (.k (.int 1))) .nil) .nil))) .nil))))))⟩
/- law -/
abbrev s21 : Stmt := top 29
def N21 : List Str := ["script", "vocabulary", "k", "state", "question", "thing", "turn", "told", "due"]
def b21_0 : B := (.cons (.asg (.nm 5) (.call 20 .val (.cons (.var 3) (.cons (.var 5) (.cons (.var 4) .nil))))) .nil)
def l21_0 : S := .for_ (.nm 6) (.rng (.cons (.call 11 .val (.cons (.var 3) (.cons (.k (.int 4)) .nil))) .nil)) b21_0
def b21_1 : B := (.cons (.asg (.nm 3) (.lst true (.cons (.call 10 .val (.cons (.bin .add false (.call 9 .val (.cons (.var 0) (.cons (.var 2) .nil))) (.var 2)) (.cons (.k (.int 5040)) (.cons (.k (.int 120)) .nil)))) (.cons (.k (.int 0)) .nil))))
  (.cons (.asg (.nm 4) (.call 13 .val (.cons (.var 3) (.cons (.k (.int 4)) (.cons (.k (.int 3)) (.cons (.tup (.cons (.k (.str "x")) (.cons (.k (.str "y")) .nil))) (.cons (.lst false .nil) .nil)))))))
  (.cons (.asg (.nm 5) (.var 4))
  (.cons (.frzv l21_0 3)
  (.cons (.asg (.nm 7) (.call 8 .val (.cons (.var 5) (.cons (.var 1) .nil))))
  (.cons (.asg (.nm 8) (.call 18 .val (.cons (.var 5) (.cons (.tup .nil) (.cons (.var 1) (.cons (.dct false .nil .nil) .nil))))))
  (.cons (.if_ (.or (.cmp .ne (.var 7) (.var 8)) (.and (.cmp .isnot (.var 8) (.k .non)) (.not (.isi (.var 7) .tuple)))) (.cons (.ret (.k (.bl false))) .nil) .nil)
  (.cons (.if_ (.cmp .ne (.var 1) (.dct false (.cons (.k (.str "e")) (.cons (.k (.int 2)) (.cons (.k (.str "c")) (.cons (.k (.int 1)) (.cons (.k (.str "d")) (.cons (.k (.int 1)) (.cons (.k (.str "p")) (.cons (.k (.int 0)) .nil)))))))) .nil)) (.cons (.ret (.k (.bl false))) .nil) .nil) .nil))))))))
def l21_1 : S := .for_ (.nm 2) (.rng (.cons (.k (.int 4)) .nil)) b21_1
def f21 : Fn := ⟨1, 9,
  (.cons (.asg (.nm 1) (.dct false (.cons (.k (.str "e")) (.cons (.k (.int 2)) (.cons (.k (.str "c")) (.cons (.k (.int 1)) (.cons (.k (.str "d")) (.cons (.k (.int 1)) (.cons (.k (.str "p")) (.cons (.k (.int 0)) .nil)))))))) .nil))
  (.cons l21_1
  (.cons (.ret (.and (.cmp .eq (.call 8 .val (.cons (.tup .nil) (.cons (.dct false .nil .nil) .nil))) (.tup .nil)) (.cmp .is (.call 8 .val (.cons (.tup (.cons (.k (.str "true")) .nil)) (.cons (.dct false .nil .nil) .nil))) (.k .non)))) .nil)))⟩
def T : Nat → Option Fn
  | 0 => some f0
  | 1 => some f1
  | 2 => some f2
  | 3 => some f3
  | 4 => some f4
  | 5 => some f5
  | 6 => some f6
  | 7 => some f7
  | 8 => some f8
  | 9 => some f9
  | 10 => some f10
  | 11 => some f11
  | 12 => some f12
  | 13 => some f13
  | 14 => some f14
  | 15 => some f15
  | 16 => some f16
  | 17 => some f17
  | 18 => some f18
  | 19 => some f19
  | 20 => some f20
  | 21 => some f21
  | _ => none
def ds : List Dn := ⟨"is_name", "is_name", 0, f0, s0, N0⟩ :: ⟨"indexes_within", "indexes_within", 1, f1, s1, N1⟩ :: ⟨"is_word", "is_word", 2, f2, s2, N2⟩ :: ⟨"are_words", "are_words", 3, f3, s3, N3⟩ :: ⟨"has_shape", "has_shape", 4, f4, s4, N4⟩ :: ⟨"has_names", "has_names", 5, f5, s5, N5⟩ :: ⟨"agrees", "agrees", 6, f6, s6, N6⟩ :: ⟨"fault_within", "fault_within", 7, f7, s7, N7⟩ :: ⟨"question_fault", "question_fault", 8, f8, s8, N8⟩ :: ⟨"_law_cell", "_law_cell", 9, f9, s9, N9⟩ :: ⟨"_law_digits", "_law_digits", 10, f10, s10, N10⟩ :: ⟨"_law_take", "_law_take", 11, f11, s11, N11⟩ :: ⟨"_law_atom", "_law_atom", 12, f12, s12, N12⟩ :: ⟨"_law_question", "_law_question", 13, f13, s13, N13⟩ :: ⟨"_law_grow", "_law_grow", 14, f14, s14, N14⟩ :: ⟨"_law_is_name", "_law_is_name", 15, f15, s15, N15⟩ :: ⟨"_law_are_names", "_law_are_names", 16, f16, s16, N16⟩ :: ⟨"_law_is_faulty", "_law_is_faulty", 17, f17, s17, N17⟩ :: ⟨"_law_fault", "_law_fault", 18, f18, s18, N18⟩ :: ⟨"_law_odd", "_law_odd", 19, f19, s19, N19⟩ :: ⟨"_law_changed", "_law_changed", 20, f20, s20, N20⟩ :: ⟨"law", "law", 21, f21, s21, N21⟩ :: []
def g : List (Str × GI) := ("len", .blt) :: ("MOST_SIGNS", (.val (.int 12))) :: ("LETTERS", (.val (.str "abcdefghijklmnopqrstuvwxyz"))) :: ("all", .blt) :: ("DIGITS", (.val (.str "0123456789"))) :: ("WITHIN", (.val (.kd [("not", (.tup [(.int 1)])), ("and", (.tup [(.int 1), (.int 2)])), ("or", (.tup [(.int 1), (.int 2)])), ("some", (.tup [(.int 2)])), ("all", (.tup [(.int 2)])), ("grow", (.tup [(.int 3)]))]))) :: ("isinstance", .blt) :: ("str", .blt) :: ("is_name", (.fn 0)) :: ("tuple", .blt) :: ("is_word", (.fn 2)) :: ("LENGTHS", (.val (.kd [("true", (.int 1)), ("false", (.int 1)), ("given", (.int 3)), ("same", (.int 3)), ("in", (.int 3)), ("not", (.int 2)), ("and", (.int 3)), ("or", (.int 3)), ("some", (.int 3)), ("all", (.int 3)), ("grow", (.int 5))]))) :: ("are_words", (.fn 3)) :: ("set", .blt) :: ("has_shape", (.fn 4)) :: ("has_names", (.fn 5)) :: ("agrees", (.fn 6)) :: ("fault_within", (.fn 7)) :: ("indexes_within", (.fn 1)) :: ("int", .blt) :: ("range", .blt) :: ("_law_take", (.fn 11)) :: ("_law_atom", (.fn 12)) :: ("_law_question", (.fn 13)) :: ("_law_grow", (.fn 14)) :: ("_law_is_name", (.fn 15)) :: ("_law_are_names", (.fn 16)) :: ("_law_is_faulty", (.fn 17)) :: ("dict", .blt) :: ("_law_fault", (.fn 18)) :: ("_law_odd", (.fn 19)) :: ("_law_changed", (.fn 20)) :: ("_law_digits", (.fn 10)) :: ("_law_cell", (.fn 9)) :: ("question_fault", (.fn 8)) :: []
end K04

namespace K04
open PySem Z Zg
def odA : List D := [.str "x", .str "e", .str "q", .str "X", .str "", .str "longest123456", .tup [], .tup [.str "x"], .tup [.str "x", .str "x"], .tup [.str "x", .int 1], .tup [.str "x", .str ""], .int 0, .int 3, .non, .str "true"]
def odB : List D := [.tup [.str "true"], .tup [.str "false"], .tup [.str "not"], .tup [.str "given", .str "p", .tup []], .tup [.str "given", .str "e", .tup [.str "x"]], .tup [.str "in", .str "q", .tup [.str "x"]]]
def odC : List D := [.tup [.str "same", .str "x"], .tup [.str "same", .str "x", .str "y"], .tup [.str "grow", .str "q", .tup [.str "x", .str "x"], .tup [.str "true"], .tup [.str "x", .str "x"]], .tup [.str "maybe", .tup [.str "true"]]]
def odD : List D := [.tup [.str "grow", .str "r", .tup [.str "x"], .tup [.str "in", .str "r", .tup [.str "x"]], .tup [.str "x", .str "y"]], .tup [.str "in", .str "e", .tup [.str "x", .str "y"]], .tup [.str "all", .str "X", .tup [.str "true"]]]
def odE (q : D) : List D := [q, .tup [.str "or", .tup [.str "true"], q], .tup [.str "given", .str "d", .tup [.str "x"]], .tup [.str "given", .str "t", .tup []]]
def odd (q : D) : List D := odA ++ odB ++ odC ++ odD ++ odE q
theorem odd_len (q : D) : (odd q).length = 32 := rfl
theorem odABCD : ∀ d ∈ odA ++ odB ++ odC ++ odD, tr 100 4 d := fun d hd => trB_ok (List.all_eq_true.mp (show (odA ++ odB ++ odC ++ odD).all (trB 100 4) = true by decide +kernel) d hd)
theorem odd_tr {L b : Nat} {q : D} (hL : 100 ≤ L) (hb : 4 ≤ b) (hq : tr L b q) : ∀ d ∈ odd q, tr L (b + 1) d := by
  intro d hd
  rcases List.mem_append.mp hd with hd | hd
  · exact tr_mono hL (by omega) (odABCD d hd)
  · simp only [odE, List.mem_cons, List.not_mem_nil, or_false] at hd
    rcases hd with rfl | rfl | rfl | rfl
    · exact tr_mono (Nat.le_refl _) (by omega) hq
    · refine ⟨by show (3 : Nat) ≤ L; omega, fun x hx => ?_⟩
      simp only [List.mem_cons, List.not_mem_nil, or_false] at hx
      rcases hx with rfl | rfl | rfl
      · exact tr_str ⟨by decide, by decide +kernel⟩
      · exact tr_mono hL (n := 1) (by omega) (trB_ok (by decide +kernel))
      · exact hq
    · exact tr_mono hL (n := 2) (by omega) (trB_ok (by decide +kernel))
    · exact tr_mono hL (n := 2) (by omega) (trB_ok (by decide +kernel))
def I : Ids := ⟨9, 10, 11, 12, 13, 14⟩
def N : NIds := ⟨15, 16, 17, 18⟩
def V : VIds := ⟨0, 1, 2, 3, 4, 5, 6, 7⟩
theorem gen : Gen T I := ⟨rfl, rfl, rfl, rfl, rfl, rfl⟩
theorem ng : NG T N := ⟨rfl, rfl, rfl, rfl⟩
theorem vg : VG T V := ⟨rfl, rfl, rfl, rfl, rfl, rfl, rfl, rfl⟩
/-- what a step gives: a thing, the state further on -/
def Th (C : Store → R D) (ds : List Int) (l : Nat) (S : Store) (P : D → Prop) : Prop := ∃ d S', C S = .ok d S' ∧ P d ∧ Adv ds l S S' ∧ At ds l S'
theorem Adv.of {ds : List Int} {l : Nat} {S : Store} (h : At ds l S) : Adv ds l S S := let ⟨_, _, h⟩ := h; adv_self h
theorem odd_ok (n : Nat) {ds : List Int} {l : Nat} {S : Store} {L b : Nat} {q : D} (hs : At ds l S) (hL : 100 ≤ L) (hb : 4 ≤ b) (hq : tr L b q) :
    Th (callN T (n + 2) 19 [.ref l, q]) ds l S fun d => tr L (b + 1) d := by
  have hlen : ev (callN T (n + 1)) [some (.ref l), some q, some (.lst (odd q))] (.bi .len false (.cons (.var 2) .nil)) false S = .ok (.int (32 : Nat)) S := r_bi (s_cons (r_var rfl) s_nil) (biV_len_seq (d := .lst (odd q)) (xs := odd q) (fun _ h => nomatch h) rfl)
  obtain ⟨_, S', h, ⟨v, rfl, v0, v1⟩, ha, hs'⟩ := call_take gen n hs (by decide) (σ := [some (.ref l), some q, some (.lst (odd q))]) rfl hlen
  obtain ⟨d, hd, hm⟩ := atI_ok (xs := odd q) v0 (by rw [odd_len]; exact v1)
  have e1 : ∀ σ, ev (callN T (n + 1)) σ (.lst false (.cons (.k (.str "x")) (.cons (.k (.str "e")) (.cons (.k (.str "q")) (.cons (.k (.str "X")) (.cons (.k (.str "")) (.cons (.k (.str "longest123456")) (.cons (.tup .nil) (.cons (.tup (.cons (.k (.str "x")) .nil)) (.cons (.tup (.cons (.k (.str "x")) (.cons (.k (.str "x")) .nil))) (.cons (.tup (.cons (.k (.str "x")) (.cons (.k (.int 1)) .nil))) (.cons (.tup (.cons (.k (.str "x")) (.cons (.k (.str "")) .nil))) (.cons (.k (.int 0)) (.cons (.k (.int 3)) (.cons (.k .non) (.cons (.k (.str "true")) .nil)))))))))))))))) false S = .ok (.lst odA) S := fun σ => cE_ok rfl
  have e2 : ∀ σ, ev (callN T (n + 1)) σ (.lst false (.cons (.tup (.cons (.k (.str "true")) .nil)) (.cons (.tup (.cons (.k (.str "false")) .nil)) (.cons (.tup (.cons (.k (.str "not")) .nil)) (.cons (.tup (.cons (.k (.str "given")) (.cons (.k (.str "p")) (.cons (.tup .nil) .nil)))) (.cons (.tup (.cons (.k (.str "given")) (.cons (.k (.str "e")) (.cons (.tup (.cons (.k (.str "x")) .nil)) .nil)))) (.cons (.tup (.cons (.k (.str "in")) (.cons (.k (.str "q")) (.cons (.tup (.cons (.k (.str "x")) .nil)) .nil)))) .nil))))))) false S = .ok (.lst odB) S := fun σ => cE_ok rfl
  have e3 : ∀ σ, ev (callN T (n + 1)) σ (.lst false (.cons (.tup (.cons (.k (.str "same")) (.cons (.k (.str "x")) .nil))) (.cons (.tup (.cons (.k (.str "same")) (.cons (.k (.str "x")) (.cons (.k (.str "y")) .nil)))) (.cons (.tup (.cons (.k (.str "grow")) (.cons (.k (.str "q")) (.cons (.tup (.cons (.k (.str "x")) (.cons (.k (.str "x")) .nil))) (.cons (.tup (.cons (.k (.str "true")) .nil)) (.cons (.tup (.cons (.k (.str "x")) (.cons (.k (.str "x")) .nil))) .nil)))))) (.cons (.tup (.cons (.k (.str "maybe")) (.cons (.tup (.cons (.k (.str "true")) .nil)) .nil))) .nil))))) false S = .ok (.lst odC) S := fun σ => cE_ok rfl
  have e4 : ∀ σ, ev (callN T (n + 1)) σ (.lst false (.cons (.tup (.cons (.k (.str "grow")) (.cons (.k (.str "r")) (.cons (.tup (.cons (.k (.str "x")) .nil)) (.cons (.tup (.cons (.k (.str "in")) (.cons (.k (.str "r")) (.cons (.tup (.cons (.k (.str "x")) .nil)) .nil)))) (.cons (.tup (.cons (.k (.str "x")) (.cons (.k (.str "y")) .nil))) .nil)))))) (.cons (.tup (.cons (.k (.str "in")) (.cons (.k (.str "e")) (.cons (.tup (.cons (.k (.str "x")) (.cons (.k (.str "y")) .nil))) .nil)))) (.cons (.tup (.cons (.k (.str "all")) (.cons (.k (.str "X")) (.cons (.tup (.cons (.k (.str "true")) .nil)) .nil)))) .nil)))) false S = .ok (.lst odD) S := fun σ => cE_ok rfl
  have e5 : ∀ x, ev (callN T (n + 1)) [some (.ref l), some q, x] (.lst false (.cons (.var 1) (.cons (.tup (.cons (.k (.str "or")) (.cons (.tup (.cons (.k (.str "true")) .nil)) (.cons (.var 1) .nil)))) (.cons (.tup (.cons (.k (.str "given")) (.cons (.k (.str "d")) (.cons (.tup (.cons (.k (.str "x")) .nil)) .nil)))) (.cons (.tup (.cons (.k (.str "given")) (.cons (.k (.str "t")) (.cons (.tup .nil) .nil)))) .nil))))) false S = .ok (.lst (odE q)) S := fun x => cE_ok rfl
  refine ⟨d, S', ?_, odd_tr hL hb hq d hm, ha, hs'⟩
  exact x_fn (fn := f19) rfl rfl (b_cons (x_asg (e1 _) rfl) (b_cons (x_asg (r_bin (r_var rfl) (e2 _) (binV_lstA (by decide))) rfl) (b_cons (x_asg (r_bin (r_var rfl) (e3 _) (binV_lstA (by decide))) rfl) (b_cons (x_asg (r_bin (r_var rfl) (e4 _) (binV_lstA (by decide))) rfl) (b_cons (x_asg (r_bin (r_var rfl) (e5 _) (binV_lstA (by show (32 : Nat) ≤ 100000; decide))) rfl) (b_ret (x_ret (r_idx (r_var rfl) h (idxV_lst hd)))))))))
theorem call_odd (n : Nat) {ds : List Int} {l : Nat} {S : Store} {L b i : Nat} {q : D} {σ : Z.Env} (hs : At ds l S) (hL : 100 ≤ L) (hb : 4 ≤ b) (hq : tr L b q) (e0 : σ[0]? = some (some (.ref l))) (ei : σ[i]? = some (some q)) :
    Th (ev (callN T (n + 2)) σ (.call 19 .val (.cons (.var 0) (.cons (.var i) .nil))) false) ds l S fun d => tr L (b + 1) d := by
  obtain ⟨d, S', h, hd, ha, hs'⟩ := odd_ok n hs hL hb hq
  exact ⟨d, S', r_call (s_cons (r_var e0) (s_cons (r_var ei) s_nil)) h (endV_adv ha (tr_nr hd) fun S => tr_frz hd S), hd, ha, hs'⟩
theorem eq0 (v : Int) (S : Store) : cmpV .eq (.int v) (.int 0) S = some (decide (v = 0)) := by simp only [cmpV, pyEq_int]
theorem eq1 (v : Int) (S : Store) : cmpV .eq (.int v) (.int 1) S = some (decide (v = 1)) := by simp only [cmpV, pyEq_int]
theorem changed_ok {L b : Nat} {q : D} (hL : 100 ≤ L) (hL2 : L ≤ 500) (hb : 4 ≤ b) (hq : tr L b q) : ∀ (a : Nat) (d : D) (n : Nat) {ds : List Int} {l : Nat} {S : Store}, tr L a d → At ds l S →
    Th (callN T (n + a + 3) 20 [.ref l, d, q]) ds l S fun e => tr (L + 1) (a + b + 1) e
  | a, d, n, ds, l, S, hd, hs => by
    have wk : ∀ {k : Nat} {e : D}, tr L k e → k ≤ a + b + 1 → tr (L + 1) (a + b + 1) e := fun h hk => tr_mono (Nat.le_succ _) hk h
    have odd0 : ∀ {S0 : Store} {σ : Z.Env}, At ds l S0 → σ[0]? = some (some (.ref l)) → σ[2]? = some (some q) → Th (ev (callN T (n + a + 2)) σ (.call 19 .val (.cons (.var 0) (.cons (.var 2) .nil))) false) ds l S0 fun d => tr L (b + 1) d := fun hs e0 e2 => call_odd (n + a) hs hL hb hq e0 e2
    by_cases ht : ∃ xs, d = .tup xs
    case neg =>
      have hi : isiV d .tuple S = some false := by
        cases d with
        | tup xs => exact absurd ⟨xs, rfl⟩ ht
        | non => rfl
        | int _ => rfl
        | str _ => rfl
        | _ => cases a <;> exact hd.elim
      obtain ⟨e, S', h, he, ha, hs'⟩ := odd0 (σ := startE f20 [.ref l, d, q]) hs rfl rfl
      exact ⟨e, S', x_fn (fn := f20) rfl rfl (b_ret (x_if_t (r_or_t (r_not_t (c := false) (r_isi (r_var rfl) hi)) rfl) rfl (b_ret (x_ret h)))), wk he (by omega), ha, hs'⟩
    obtain ⟨xs, rfl⟩ := ht
    obtain ⟨a', rfl⟩ : ∃ a', a = a' + 1 := by
      cases a with
      | zero => exact hd.elim
      | succ a' => exact ⟨a', rfl⟩
    obtain ⟨hd1, hd2⟩ := hd
    have i1 : ∀ S, ev (callN T (n + (a' + 1) + 2)) [some (.ref l), some (.tup xs), some q, none, none] (.not (.isi (.var 1) .tuple)) true S = .ok (.bl false) S := fun S => r_not_t (c := true) (r_isi (r_var rfl) rfl)
    have len : ∀ (σ : Z.Env) (S : Store), σ[1]? = some (some (.tup xs)) → ev (callN T (n + (a' + 1) + 2)) σ (.bi .len false (.cons (.var 1) .nil)) false S = .ok (.int (xs.length : Nat)) S := fun σ S e => r_bi (s_cons (r_var e) s_nil) (len_bi _ _)
    have c1 : cmpV .eq (.int (xs.length : Nat)) (.int 0) S = some (decide (xs.length = 0)) := by
      rw [eq0]
      congr 1
      rw [decide_eq_decide]
      omega
    by_cases h0 : xs.length = 0
    · obtain ⟨e, S', h, he, ha, hs'⟩ := odd0 (σ := startE f20 [.ref l, .tup xs, q]) hs rfl rfl
      exact ⟨e, S', x_fn (fn := f20) rfl rfl (b_ret (x_if_t (r_or_f (i1 S) rfl (r_or_t (r_cmp (len _ _ rfl) r_k c1) (decide_eq_true h0))) rfl (b_ret (x_ret h)))), wk he (by omega), ha, hs'⟩
    obtain ⟨_, S1, t1, ⟨v, rfl, v0, v1⟩, ad1, s1⟩ := call_take gen (n + (a' + 1) + 1) hs (by decide) (σ := [some (.ref l), some (.tup xs), some q, none, none]) (e := .k (.int 5)) (many := 5) rfl r_k
    have cond : ev (callN T (n + (a' + 1) + 2)) [some (.ref l), some (.tup xs), some q, none, none] (.or (.not (.isi (.var 1) .tuple)) (.or (.cmp .eq (.bi .len false (.cons (.var 1) .nil)) (.k (.int 0))) (.cmp .eq (.call 11 .val (.cons (.var 0) (.cons (.k (.int 5)) .nil))) (.k (.int 0))))) true S = .ok (.bl (decide (v = 0))) S1 :=
      r_or_f (i1 S) rfl (r_or_f (r_cmp (len _ _ rfl) r_k c1) (decide_eq_false h0) (r_cmp t1 r_k (eq0 _ _)))
    by_cases hv : v = 0
    · obtain ⟨e, S', h, he, ha, hs'⟩ := odd0 (σ := startE f20 [.ref l, .tup xs, q]) s1 rfl rfl
      exact ⟨e, S', x_fn (fn := f20) rfl rfl (b_ret (x_if_t cond (decide_eq_true hv) (b_ret (x_ret h)))), wk he (by omega), ad1.trans ha, hs'⟩
    have hpos : 0 < ((xs.length : Nat) : Int) := by omega
    obtain ⟨_, S2, t2, ⟨w, rfl, w0, w1⟩, ad2, s2⟩ := call_take gen (n + (a' + 1) + 1) s1 hpos (σ := [some (.ref l), some (.tup xs), some q, none, none]) rfl (len _ _ rfl)
    obtain ⟨_, S3, t3, ⟨u, rfl, u0, u1⟩, ad3, s3⟩ := call_take gen (n + (a' + 1) + 1) s2 (by decide) (σ := [some (.ref l), some (.tup xs), some q, some (.int w), none]) (e := .k (.int 12)) (many := 12) rfl r_k
    obtain ⟨k, rfl⟩ : ∃ k : Nat, w = (k : Nat) := ⟨w.toNat, by omega⟩
    have hk : k < xs.length := by omega
    have ad := (ad1.trans ad2).trans ad3
    have sl0 : ∀ S, ev (callN T (n + (a' + 1) + 2)) [some (.ref l), some (.tup xs), some q, some (.int (k : Nat)), some (.int u)] (.slc false (.var 1) .nil (.cons (.var 3) .nil)) false S = .ok (.tup (xs.take k)) S := fun S => r_slc (r_var rfl) o_nil (o_one (r_var rfl)) (slc_take (by omega))
    have sl1 : ∀ S, ev (callN T (n + (a' + 1) + 2)) [some (.ref l), some (.tup xs), some q, some (.int (k : Nat)), some (.int u)] (.slc false (.var 1) (.cons (.bin .add false (.var 3) (.k (.int 1))) .nil) .nil) false S = .ok (.tup (xs.drop (k + 1))) S := fun S =>
      r_slc (r_var rfl) (o_one (i := ((k + 1 : Nat) : Int)) (r_bin (r_var rfl) r_k binV_add)) o_nil (slc_drop (by omega))
    have sl2 : ∀ S, ev (callN T (n + (a' + 1) + 2)) [some (.ref l), some (.tup xs), some q, some (.int (k : Nat)), some (.int u)] (.slc false (.var 1) (.cons (.var 3) .nil) .nil) false S = .ok (.tup (xs.drop k)) S := fun S => r_slc (r_var rfl) (o_one (r_var rfl)) o_nil (slc_drop (by omega))
    have lt : (xs.take k).length = k := by rw [List.length_take]; omega
    have ld : (xs.drop (k + 1)).length = xs.length - (k + 1) := List.length_drop
    have ld2 : (xs.drop k).length = xs.length - k := List.length_drop
    have old : ∀ x ∈ xs, tr (L + 1) (a' + b + 1) x := fun x hx => tr_mono (Nat.le_succ _) (by omega) (hd2 x hx)
    have tk : ∀ x ∈ xs.take k, tr (L + 1) (a' + b + 1) x := fun x hx => old x (List.mem_of_mem_take hx)
    have td : ∀ j, ∀ x ∈ xs.drop j, tr (L + 1) (a' + b + 1) x := fun j x hx => old x (List.mem_of_mem_drop hx)
    have up : tr (L + 1) (a' + b + 1 + 1) = tr (L + 1) (a' + 1 + b + 1) := by congr 1; omega
    by_cases hu0 : u = 0
    · refine ⟨.tup (xs.take k ++ xs.drop (k + 1)), S3, ?_, ?_, ad, s3⟩
      · exact x_fn (fn := f20) rfl rfl (b_cons (x_if_f cond (decide_eq_false hv) b_nil) (b_cons (x_asg t2 rfl) (b_cons (x_asg t3 rfl) (b_ret (x_if_t (r_cmp (r_var rfl) r_k (eq0 _ _)) (decide_eq_true hu0) (b_ret (x_ret (r_bin (sl0 _) (sl1 _) (binV_tupA (by omega))))))))))
      · rw [← up]
        exact ⟨by rw [List.length_append]; omega, fun x hx => (List.mem_append.mp hx).elim (tk x) (td _ x)⟩
    by_cases hu1 : u = 1
    · obtain ⟨e, S', h, he, ha, hs'⟩ := odd0 (σ := [some (.ref l), some (.tup xs), some q, some (.int (k : Nat)), some (.int u)]) s3 rfl rfl
      refine ⟨.tup (xs.take k ++ [e] ++ xs.drop k), S', ?_, ?_, ad.trans ha, hs'⟩
      · exact x_fn (fn := f20) rfl rfl (b_cons (x_if_f cond (decide_eq_false hv) b_nil) (b_cons (x_asg t2 rfl) (b_cons (x_asg t3 rfl) (b_cons (x_if_f (r_cmp (r_var rfl) r_k (eq0 _ _)) (decide_eq_false hu0) b_nil) (b_ret (x_if_t (r_cmp (r_var rfl) r_k (eq1 _ _)) (decide_eq_true hu1) (b_ret (x_ret (r_bin (r_bin (sl0 _) (r_tup (s_cons h s_nil) (tup_len (by simp))) (binV_tupA (by simp; omega))) (sl2 _) (binV_tupA (by simp; omega)))))))))))
      · rw [← up]
        refine ⟨by simp; omega, fun x hx => ?_⟩
        rcases List.mem_append.mp hx with hx | hx
        · rcases List.mem_append.mp hx with hx | hx
          · exact tk x hx
          · simp only [List.mem_cons, List.not_mem_nil, or_false] at hx
            subst hx
            exact tr_mono (Nat.le_succ _) (by omega) he
        · exact td _ x hx
    · have hxk : xs[k]? = some xs[k] := List.getElem?_eq_getElem hk
      obtain ⟨e, S', h, he, ha, hs'⟩ := changed_ok hL hL2 hb hq a' xs[k] n (hd2 _ (List.getElem_mem hk)) s3
      have hc : ev (callN T (n + (a' + 1) + 2)) [some (.ref l), some (.tup xs), some q, some (.int (k : Nat)), some (.int u)] (.call 20 .val (.cons (.var 0) (.cons (.idx (.var 1) (.var 3)) (.cons (.var 2) .nil)))) false S3 = .ok e S' :=
        r_call (s_cons (r_var rfl) (s_cons (r_idx (r_var rfl) (r_var rfl) (tupN k hxk)) (s_cons (r_var rfl) s_nil))) h (endV_adv ha (tr_nr he) fun S => tr_frz he S)
      refine ⟨.tup (xs.take k ++ [e] ++ xs.drop (k + 1)), S', ?_, ?_, ad.trans ha, hs'⟩
      · exact x_fn (fn := f20) rfl rfl (b_cons (x_if_f cond (decide_eq_false hv) b_nil) (b_cons (x_asg t2 rfl) (b_cons (x_asg t3 rfl) (b_cons (x_if_f (r_cmp (r_var rfl) r_k (eq0 _ _)) (decide_eq_false hu0) b_nil) (b_cons (x_if_f (r_cmp (r_var rfl) r_k (eq1 _ _)) (decide_eq_false hu1) b_nil) (b_ret (x_ret (r_bin (r_bin (sl0 _) (r_tup (s_cons hc s_nil) (tup_len (by simp))) (binV_tupA (by simp; omega))) (sl1 _) (binV_tupA (by simp; omega))))))))))
      · rw [← up]
        refine ⟨by simp; omega, fun x hx => ?_⟩
        rcases List.mem_append.mp hx with hx | hx
        · rcases List.mem_append.mp hx with hx | hx
          · exact tk x hx
          · simp only [List.mem_cons, List.not_mem_nil, or_false] at hx
            subst hx
            exact he
        · exact td _ x hx
end K04

namespace K04
open PySem Z Zg
theorem findSome_congr {α β : Type} {f g : α → Option β} : ∀ {l : List α}, (∀ a ∈ l, f a = g a) → l.findSome? f = l.findSome? g
  | [], _ => rfl
  | a :: l, h => by
    rw [List.findSome?_cons, List.findSome?_cons, h a List.mem_cons_self, findSome_congr fun b hb => h b (List.mem_cons_of_mem _ hb)]
theorem flt_fuel {L : Nat} (voc : List (Str × Nat)) : ∀ (n n' : Nat) (d : D) (gr : List (Str × Nat)) (p : Row), tr L n d → n ≤ n' → flt voc (n + 1) gr p d = flt voc (n' + 1) gr p d
  | n, n', d, gr, p, h, hn => by
    cases ht : topB voc gr d with
    | false => simp only [flt, ht, Bool.false_eq_true, if_false]
    | true =>
      simp only [flt, ht, if_true]
      obtain ⟨w, r, rfl, _, hidx, _⟩ := top_head ht
      obtain ⟨m, rfl⟩ : ∃ m, n = m + 1 := by
        cases n with
        | zero => exact h.elim
        | succ m => exact ⟨m, rfl⟩
      obtain ⟨m', rfl⟩ : ∃ m', n' = m' + 1 := ⟨n' - 1, by omega⟩
      refine findSome_congr fun i hi => ?_
      obtain ⟨x, hx1, hx2⟩ := hidx i hi
      obtain ⟨hi1, hi2⟩ := head_item (w := w) hx1 hx2
      rw [hi1]
      exact flt_fuel voc m m' x _ _ (h.2 x (List.mem_of_getElem? hi2)) (by omega)
theorem pd_ints (p : Row) : pds (p.map fun i => D.int (i : Nat)) = some (p.map fun i => PyData.int (i : Nat)) := by
  induction p with
  | nil => rfl
  | cons i p ih => simp only [List.map_cons, pds, pd, ih]
theorem ints_lay : ∀ p : Row, PyData.canLayAll0 (p.map fun i => PyData.int (i : Nat)) = true ∧ PyData.depthAll (p.map fun i => PyData.int (i : Nat)) = 0
  | [] => ⟨rfl, rfl⟩
  | x :: xs => by
    obtain ⟨h1, h2⟩ := ints_lay xs
    exact ⟨by simp only [List.map_cons, PyData.canLayAll0, PyData.canLay0, h1, Bool.and_self], by simp only [List.map_cons, PyData.depthAll, PyData.depth, h2, Nat.max_self]⟩
theorem ne_oD (o : Option Row) (h : ∀ p, o = some p → p.length ≤ 200) (S : Store) : cmpV .ne (oD o) (oD o) S = some false := by
  show (pyEq (oD o) (oD o)).map (!·) = _
  cases o with
  | none => rfl
  | some p =>
    have h1 := h p rfl
    rw [pyEq_self (x := .tuple (p.map fun i => PyData.int (i : Nat)))]
    · rfl
    · show (pds (p.map fun i => D.int (i : Nat))).map PyData.tuple = _
      rw [pd_ints]; rfl
    · obtain ⟨h2, h3⟩ := ints_lay p
      simp [SeqAt.shaped, PyData.canLay0, PyData.depth, h2, h3]
def voc4 : List (Str × Nat) := [("e", 2), ("c", 1), ("d", 1), ("p", 0)]
theorem vocD {C : CallT} {σ : Z.Env} {S : Store} : ev C σ (.dct false (.cons (.k (.str "e")) (.cons (.k (.int 2)) (.cons (.k (.str "c")) (.cons (.k (.int 1)) (.cons (.k (.str "d")) (.cons (.k (.int 1)) (.cons (.k (.str "p")) (.cons (.k (.int 0)) .nil)))))))) .nil) false S = .ok (vD voc4) S := by
  have hes : evs C σ (.cons (.k (.str "e")) (.cons (.k (.int 2)) (.cons (.k (.str "c")) (.cons (.k (.int 1)) (.cons (.k (.str "d")) (.cons (.k (.int 1)) (.cons (.k (.str "p")) (.cons (.k (.int 0)) .nil)))))))) S = .ok [.str "e", .int 2, .str "c", .int 1, .str "d", .int 1, .str "p", .int 0] S := cEs_ok rfl
  have hp : pairUp [.str "e", .int 2, .str "c", .int 1, .str "d", .int 1, .str "p", .int 0] = some (kD intD voc4) := rfl
  have hpa : putAll [] (kD intD voc4) = kD intD voc4 := by rw [putAll_nil]; rfl
  have hmk : mkD false (kD intD voc4) S = .ok (vD voc4) S := by
    have h1 : (kD intD voc4).length ≤ sizeLine := small5 (by simp [kD, voc4])
    unfold mkD
    rw [if_pos h1]; rfl
  have hfl : flatKeys (kD intD voc4) = true := rfl
  have hl15 : decide ((kD intD voc4).length ≤ 15) = true := rfl
  simp only [ev, fin_false, hes, R.ok_bind, hp, hfl, hl15, Bool.and_self, if_true, hpa, hmk]
theorem dct0 {C : CallT} {σ : Z.Env} {S : Store} : ev C σ (.dct false .nil .nil) false S = .ok (vD []) S := by
  have h : ([] : List (D × D)).length ≤ sizeLine := Nat.zero_le _
  simp [ev, evs, pairUp, flatKeys, putAll, mkD, h, vD, kD]
theorem told_ok {L : Nat} (hL : L ≤ 1000) (n : Nat) (hn : n < 900) (d : D) (voc : List (Str × Nat)) (S : Store) (h : tr L n d) : callN T (n + 6) 8 [d, vD voc] S = .ok (oD (flt voc (n + 1) [] [] d)) S := by
  obtain ⟨T', h1⟩ := prog_flt vg voc hL n d [] [] S h (by simpa using (by omega : n < 1000)) (by simpa using (by omega : n < 1000)) (by simp)
  exact x_fn (fn := f8) rfl rfl (b_ret (x_ret (r_call (s_cons (r_var rfl) (s_cons (r_tup s_nil (tup_len (by simp))) (s_cons (r_var rfl) (s_cons dct0 s_nil)))) h1 (oD_val _ _ _))))
theorem flt_len (voc : List (Str × Nat)) : ∀ (n : Nat) (gr : List (Str × Nat)) (p r : Row) (d : D), flt voc n gr p d = some r → r.length ≤ p.length + n
  | 0, gr, p, r, d, h => by simp only [flt, Option.some.injEq] at h; subst h; omega
  | n + 1, gr, p, r, d, h => by
    simp only [flt] at h
    split at h
    · obtain ⟨i, hi, h2⟩ := List.exists_of_findSome?_eq_some h
      have := flt_len voc n _ _ _ _ h2
      simp only [List.length_append, List.length_cons, List.length_nil] at this
      omega
    · simp only [Option.some.injEq] at h; subst h; omega
/-- from the thing on -/
theorem judge (d : D) (hd : tr 200 95 d) (S : Store) (x0 x2 x3 x4 x6 x7 x8 : Option D) :
    ∃ a b, evB (callN T 109) (.cons (.asg (.nm 7) (.call 8 .val (.cons (.var 5) (.cons (.var 1) .nil))))
  (.cons (.asg (.nm 8) (.call 18 .val (.cons (.var 5) (.cons (.tup .nil) (.cons (.var 1) (.cons (.dct false .nil .nil) .nil))))))
  (.cons (.if_ (.or (.cmp .ne (.var 7) (.var 8)) (.and (.cmp .isnot (.var 8) (.k .non)) (.not (.isi (.var 7) .tuple)))) (.cons (.ret (.k (.bl false))) .nil) .nil)
  (.cons (.if_ (.cmp .ne (.var 1) (.dct false (.cons (.k (.str "e")) (.cons (.k (.int 2)) (.cons (.k (.str "c")) (.cons (.k (.int 1)) (.cons (.k (.str "d")) (.cons (.k (.int 1)) (.cons (.k (.str "p")) (.cons (.k (.int 0)) .nil)))))))) .nil)) (.cons (.ret (.k (.bl false))) .nil) .nil) .nil)))) [x0, some (vD voc4), x2, x3, x4, some d, x6, x7, x8] S = .ok (.nx [x0, some (vD voc4), x2, x3, x4, some d, x6, a, b]) S := by
  have h1 : callN T 109 8 [d, vD voc4] S = _ := told_ok (L := 200) (by decide) 103 (by decide) d voc4 S (tr_mono (Nat.le_refl _) (by decide) hd)
  obtain ⟨T', h2⟩ := law_flt ng voc4 (L := 200) (by decide) 105 d [] [] S (tr_mono (Nat.le_refl _) (by decide) hd) (by simp) (by simp)
  have e1 := flt_fuel voc4 95 103 d [] [] hd (by decide)
  have e2 := flt_fuel voc4 95 105 d [] [] hd (by decide)
  rw [← e1] at h1
  rw [← e2] at h2
  generalize ho : flt voc4 (95 + 1) [] [] d = o at h1 h2
  have hl : ∀ p, o = some p → p.length ≤ 200 := fun p hp => by
    have := flt_len voc4 _ _ _ _ _ (ho.trans hp)
    simp at this
    omega
  have c1 : ev (callN T 109) [x0, some (vD voc4), x2, x3, x4, some d, x6, x7, x8] (.call 8 .val (.cons (.var 5) (.cons (.var 1) .nil))) false S = .ok (oD o) S := r_call (s_cons (r_var rfl) (s_cons (r_var rfl) s_nil)) h1 (oD_val0 _ _)
  have c2 : ev (callN T 109) [x0, some (vD voc4), x2, x3, x4, some d, x6, some (oD o), x8] (.call 18 .val (.cons (.var 5) (.cons (.tup .nil) (.cons (.var 1) (.cons (.dct false .nil .nil) .nil))))) false S = .ok (oD o) S :=
    r_call (s_cons (r_var rfl) (s_cons (r_tup s_nil (tup_len (by simp))) (s_cons (r_var rfl) (s_cons dct0 s_nil)))) h2 (oD_val _ _ _)
  have c3 : ev (callN T 109) [x0, some (vD voc4), x2, x3, x4, some d, x6, some (oD o), some (oD o)] (.or (.cmp .ne (.var 7) (.var 8)) (.and (.cmp .isnot (.var 8) (.k .non)) (.not (.isi (.var 7) .tuple)))) true S = .ok (.bl false) S := by
    refine r_or_f (r_cmp (r_var rfl) (r_var rfl) (ne_oD o hl S)) rfl ?_
    cases o with
    | none => exact r_and_f (r_cmp (r_var rfl) r_k (cmp_isnot_oD none S)) rfl
    | some p => exact r_and_t (r_cmp (r_var rfl) r_k (cmp_isnot_oD (some p) S)) rfl (r_not_t (c := true) (r_isi (r_var rfl) rfl))
  have c4 : ev (callN T 109) [x0, some (vD voc4), x2, x3, x4, some d, x6, some (oD o), some (oD o)] (.cmp .ne (.var 1) (.dct false (.cons (.k (.str "e")) (.cons (.k (.int 2)) (.cons (.k (.str "c")) (.cons (.k (.int 1)) (.cons (.k (.str "d")) (.cons (.k (.int 1)) (.cons (.k (.str "p")) (.cons (.k (.int 0)) .nil)))))))) .nil)) true S = .ok (.bl false) S := by
    have hv : ev (callN T 109) [x0, some (vD voc4), x2, x3, x4, some d, x6, some (oD o), some (oD o)] (.dct false (.cons (.k (.str "e")) (.cons (.k (.int 2)) (.cons (.k (.str "c")) (.cons (.k (.int 1)) (.cons (.k (.str "d")) (.cons (.k (.int 1)) (.cons (.k (.str "p")) (.cons (.k (.int 0)) .nil)))))))) .nil) false S = .ok (vD voc4) S := vocD
    have hp : pyEq (vD voc4) (vD voc4) = some true := by decide +kernel
    exact r_cmp (r_var rfl) hv (by simp [cmpV, hp])
  exact ⟨_, _, b_cons (x_asg c1 rfl) (b_cons (x_asg c2 rfl) (b_cons (x_if_f c3 rfl b_nil) (b_cons (x_if_f c4 rfl b_nil) b_nil)))⟩
end K04

namespace K04
open PySem Z Zg
theorem xy_ok : ∀ x ∈ (["x", "y"] : List Str), okN x = true := fun x hx => by
  simp only [List.mem_cons, List.not_mem_nil, or_false] at hx
  rcases hx with rfl | rfl <;> decide +kernel
theorem voc_ok : lookA "p" voc4 = some 0 ∧ lookA "c" voc4 = some 1 ∧ lookA "d" voc4 = some 1 ∧ lookA "e" voc4 = some 2 := ⟨by decide, by decide, by decide, by decide⟩
theorem rng_lt {v : Int} (h0 : 0 ≤ v) (h1 : v < 4) : ∃ m : Nat, m ≤ 3 ∧ rngOf [.int v] = some (rngV 0 m) := by
  obtain ⟨k, rfl⟩ : ∃ k : Nat, v = (k : Nat) := ⟨v.toNat, by omega⟩
  exact ⟨k, by omega, rng_nat (by omega)⟩
theorem change (q : D) (hq : tr 100 22 q) (l : Nat) {ds : List Int} (S : Store) (hs : At ds l S) (x0 x1 x2 x6 x7 x8 : Option D) :
    ∃ d y6 S' c', tr 200 95 d ∧ objAt S' l = some (stO ds c') ∧ evS (callN T 109) l21_0 [x0, x1, x2, some (.ref l), some q, some q, x6, x7, x8] S = .ok (.nx [x0, x1, x2, some (.ref l), some q, some d, y6, x7, x8]) S' ∧ Adv ds l S S' := by
  obtain ⟨_, S1, t1, ⟨v, rfl, v0, v1⟩, ad1, s1⟩ := call_take gen 108 hs (by decide) (σ := [some (.ref l), x0, x1, x2, some (.ref l), some q, some q, x6, x7, x8]) (e := .k (.int 4)) (many := 4) rfl r_k
  obtain ⟨_, c0, hc0⟩ := hs
  obtain ⟨v', S1', c1, h, w0, w1, ha, hc'⟩ := take gen 108 ds (by have := s1.1; exact this) l S c0 4 hc0 (by decide)
  obtain ⟨m, hm, hr⟩ := rng_lt w0 w1
  have hd0 : 0 < ds.length := s1.1
  obtain ⟨σ', S', e, ⟨d, y6, hd, rfl⟩, ad, hs'⟩ : ∃ σ' S', evS (callN T 109) l21_0 [x0, x1, x2, some (.ref l), some q, some q, x6, x7, x8] S = .ok (.nx σ') S' ∧ (∃ d y6, tr (100 + m) (22 + 23 * m) d ∧ σ' = [x0, x1, x2, some (.ref l), some q, some d, y6, x7, x8]) ∧ Adv ds l S1' S' ∧ At ds l S' := by
    have hlen : (rngV 0 m).length = m := rngV_len 0 m
    have := for_ok (C := callN T 109) (tg := .nm 6) (it := .rng (.cons (.call 11 .val (.cons (.var 3) (.cons (.k (.int 4)) .nil))) .nil)) (b := b21_0) (σ := [x0, x1, x2, some (.ref l), some q, some q, x6, x7, x8]) (S := S) (S1 := S1') (ds := rngV 0 m)
      (fun i σ' S' => (∃ d y6, tr (100 + i) (22 + 23 * i) d ∧ σ' = [x0, x1, x2, some (.ref l), some q, some d, y6, x7, x8]) ∧ Adv ds l S1' S' ∧ At ds l S')
      (i_rng (s_cons (r_call (s_cons (r_var rfl) (s_cons r_k s_nil)) h (endV_adv ha rfl fun _ => by simp [frzD])) s_nil) hr) ⟨⟨q, x6, hq, rfl⟩, adv_self hc', hd0, c1, hc'⟩ (by
        rintro i x σ S2 hx ⟨⟨d, y6, hd, rfl⟩, ad, hs2⟩
        obtain ⟨rfl, hi⟩ := rngV_get hx
        have hfu : callN T (109 - (22 + 23 * i) - 3 + (22 + 23 * i) + 3) = callN T 109 := by congr 1; omega
        obtain ⟨e, S', h2, he, ha2, hs'⟩ := changed_ok (L := 100 + i) (b := 22) (q := q) (by omega) (by omega) (by decide) (tr_mono (by omega) (Nat.le_refl _) hq) (22 + 23 * i) d (109 - (22 + 23 * i) - 3) hd hs2
        rw [hfu] at h2
        have hc : ev (callN T 109) [x0, x1, x2, some (.ref l), some q, some d, some (.int (0 + (i : Int))), x7, x8] (.call 20 .val (.cons (.var 3) (.cons (.var 5) (.cons (.var 4) .nil)))) false S2 = .ok e S' :=
          r_call (s_cons (r_var rfl) (s_cons (r_var rfl) (s_cons (r_var rfl) s_nil))) h2 (endV_adv ha2 (tr_nr he) fun S => tr_frz he S)
        refine ⟨_, _, S', rfl, .inl (b_cons (x_asg hc rfl) b_nil), ⟨e, _, ?_, rfl⟩, ad.trans ha2, hs'⟩
        have e3 : 22 + 23 * i + 22 + 1 = 22 + 23 * (i + 1) := by omega
        rw [e3] at he
        exact he)
    rw [hlen] at this
    exact this
  obtain ⟨_, c', hc2⟩ := hs'
  exact ⟨d, y6, S', c', tr_mono (by omega) (by omega) hd, hc2, e, ha.trans ad⟩
theorem turn (ns : List Int) (i : Nat) (S : Store) (x3 x4 x5 x6 x7 x8 : Option D) :
    ∃ a3 a4 a5 a6 a7 a8 S', evB (callN T 109) b21_1 [some (.scr ns), some (vD voc4), some (.int (i : Nat)), x3, x4, x5, x6, x7, x8] S = .ok (.nx [some (.scr ns), some (vD voc4), some (.int (i : Nat)), a3, a4, a5, a6, a7, a8]) S' := by
  obtain ⟨v, hv⟩ := cell gen 108 ns i S
  obtain ⟨ds, hl, hd⟩ := digits gen 108 (v + i) 5040 120 S (by decide) (by decide) (by decide)
  have hcell : ev (callN T 109) [some (.scr ns), some (vD voc4), some (.int (i : Nat)), x3, x4, x5, x6, x7, x8] (.call 9 .val (.cons (.var 0) (.cons (.var 2) .nil))) false S = .ok (.int v) S := r_call (s_cons (r_var rfl) (s_cons (r_var rfl) s_nil)) hv (endV_int _ _)
  have hdig : ev (callN T 109) [some (.scr ns), some (vD voc4), some (.int (i : Nat)), x3, x4, x5, x6, x7, x8] (.call 10 .val (.cons (.bin .add false (.call 9 .val (.cons (.var 0) (.cons (.var 2) .nil))) (.var 2)) (.cons (.k (.int 5040)) (.cons (.k (.int 120)) .nil)))) false S = .ok (.lst (ds.map D.int)) S :=
    r_call (s_cons (r_bin hcell (r_var rfl) binV_add) (s_cons r_k (s_cons r_k s_nil))) hd dig_val
  have hs : At ds S.length (S ++ [some (stO ds 0)]) := ⟨by omega, 0, objAt_last _ _⟩
  obtain ⟨q, S1, h1, ⟨wq, dq, zq⟩, a1, s1⟩ := all_q gen 4 109 (by decide) (ns := ["x", "y"]) (gs := []) 3 hs ⟨by simp, by simp⟩ (by simp) ⟨by simp, fun g h => by cases h⟩ (by simp)
  have hq5 := call_q (f := 13) (n := 109) (σ := [some (.scr ns), some (vD voc4), some (.int (i : Nat)), some (.ref S.length), x4, x5, x6, x7, x8]) (es := .cons (.var 3) (.cons (.k (.int 4)) (.cons (.k (.int 3)) (.cons (.tup (.cons (.k (.str "x")) (.cons (.k (.str "y")) .nil))) (.cons (.lst false .nil) .nil))))) (s_cons (r_var rfl) (s_cons r_k (s_cons r_k (s_cons (r_tup (s_cons r_k (s_cons r_k s_nil)) (tup_len (by simp))) (s_cons (r_lst s_nil (cold (by simp))) s_nil))))) h1 a1
  have hvq : vq voc4 [] q := wf_vq voc_ok xy_ok (fun g h => by cases h) wq
  have htr : tr 100 22 q.toD := tr_mono (Nat.le_refl _) (by omega) (tr_q hvq)
  obtain ⟨d, y6, S2, c', hdt, hc', hch, _⟩ := change q.toD htr S.length S1 s1 (some (.scr ns)) (some (vD voc4)) (some (.int (i : Nat))) x6 x7 x8
  obtain ⟨a, b, hj⟩ := judge d hdt (S2.set S.length none) (some (.scr ns)) (some (.int (i : Nat))) (some (.lst [.lst (ds.map .int), .int c'])) (some q.toD) y6 x7 x8
  exact ⟨_, _, _, _, _, _, _, b_cons (x_asg (r_lst (s_cons hdig (s_cons r_k s_nil)) (mkL_hot (small5 (by simp)))) rfl) (b_cons (x_asg hq5 rfl) (b_cons (x_asg (r_var rfl) rfl) (b_cons (x_frzv hch rfl (frz_state hc')) hj)))⟩
theorem law_ev : ∀ ns : List Int, ns.length ≤ 63 → ∃ S, callN T 110 21 [.scr ns] [] = .ok (.bl true) S := by
  intro ns _
  obtain ⟨σ', S', e, a2, a3, a4, a5, a6, a7, a8, rfl⟩ : ∃ σ' S', evS (callN T 109) l21_1 [some (.scr ns), some (vD voc4), none, none, none, none, none, none, none] [] = .ok (.nx σ') S' ∧ ∃ a2 a3 a4 a5 a6 a7 a8 : Option D, σ' = [some (.scr ns), some (vD voc4), a2, a3, a4, a5, a6, a7, a8] := by
    refine for_ok (S1 := []) (ds := rngV 0 4) (fun _ σ' S' => ∃ a2 a3 a4 a5 a6 a7 a8 : Option D, σ' = [some (.scr ns), some (vD voc4), a2, a3, a4, a5, a6, a7, a8]) ?_ ⟨_, _, _, _, _, _, _, rfl⟩ ?_
    · exact i_rng (s_cons r_k s_nil) (by decide +kernel)
    · rintro i x σ S hx ⟨a2, a3, a4, a5, a6, a7, a8, rfl⟩
      obtain ⟨rfl, hi⟩ := rngV_get hx
      rw [Int.zero_add]
      obtain ⟨b3, b4, b5, b6, b7, b8, S', h⟩ := turn ns i S a3 a4 a5 a6 a7 a8
      exact ⟨[some (.scr ns), some (vD voc4), some (.int (i : Nat)), a3, a4, a5, a6, a7, a8], _, S', rfl, .inl h, _, _, _, _, _, _, _, rfl⟩
  have t1 : callN T 109 8 [.tup [], vD []] S' = .ok (oD (flt [] 104 [] [] (.tup []))) S' := told_ok (L := 100) (by decide) 103 (by decide) (.tup []) [] S' (tr_mono (n := 1) (Nat.le_refl _) (by decide) (trB_ok (by decide +kernel)))
  have t2 : callN T 109 8 [.tup [.str "true"], vD []] S' = .ok (oD (flt [] 104 [] [] (.tup [.str "true"]))) S' := told_ok (L := 100) (by decide) 103 (by decide) (.tup [.str "true"]) [] S' (tr_mono (n := 1) (Nat.le_refl _) (by decide) (trB_ok (by decide +kernel)))
  have f1 : flt [] 104 [] [] (.tup []) = some [] := rfl
  have f2 : flt [] 104 [] [] (.tup [.str "true"]) = none := rfl
  rw [f1] at t1
  rw [f2] at t2
  refine ⟨S', x_fn (fn := f21) rfl rfl (b_cons (x_asg vocD rfl) (b_cons e (b_ret (x_ret (r_and_t (r_cmp (r_call (s_cons (r_tup s_nil (tup_len (by simp))) (s_cons dct0 s_nil)) t1 (oD_val0 _ _)) (r_tup s_nil (tup_len (by simp))) (c := true) ?_) rfl (r_cmp (r_call (s_cons (r_tup (s_cons r_k s_nil) (tup_len (by simp))) (s_cons dct0 s_nil)) t2 (oD_val0 _ _)) r_k ?_))))))⟩
  · show pyEq (.tup []) (.tup []) = some true
    decide +kernel
  · simp [cmpV, oD]
end K04

namespace K04
open PySem L2 Z
theorem looks_ok : looks ds g = true := by decide +kernel
theorem tab_ok : ∀ (f : Nat) (d : Dn), ds[f]? = some d → T f = some d.fn := by
  intro f d h
  have hl := (List.getElem?_eq_some_iff.mp h).1
  match f, hl, h with
  | 0, _, h => exact (by cases h; rfl)
  | 1, _, h => exact (by cases h; rfl)
  | 2, _, h => exact (by cases h; rfl)
  | 3, _, h => exact (by cases h; rfl)
  | 4, _, h => exact (by cases h; rfl)
  | 5, _, h => exact (by cases h; rfl)
  | 6, _, h => exact (by cases h; rfl)
  | 7, _, h => exact (by cases h; rfl)
  | 8, _, h => exact (by cases h; rfl)
  | 9, _, h => exact (by cases h; rfl)
  | 10, _, h => exact (by cases h; rfl)
  | 11, _, h => exact (by cases h; rfl)
  | 12, _, h => exact (by cases h; rfl)
  | 13, _, h => exact (by cases h; rfl)
  | 14, _, h => exact (by cases h; rfl)
  | 15, _, h => exact (by cases h; rfl)
  | 16, _, h => exact (by cases h; rfl)
  | 17, _, h => exact (by cases h; rfl)
  | 18, _, h => exact (by cases h; rfl)
  | 19, _, h => exact (by cases h; rfl)
  | 20, _, h => exact (by cases h; rfl)
  | 21, _, h => exact (by cases h; rfl)
  | _ + 22, hl, _ => exact absurd hl (by simp [ds])
theorem sc0 : FnScope N0 ["text"] (defScope s0) := ⟨rfl, rfl, rfl, by decide +kernel, rfl, by decide +kernel, by decide +kernel⟩
theorem sc1 : FnScope N1 ["question"] (defScope s1) := ⟨rfl, rfl, rfl, by decide +kernel, rfl, by decide +kernel, by decide +kernel⟩
theorem sc2 : FnScope N2 ["thing"] (defScope s2) := ⟨rfl, rfl, rfl, by decide +kernel, rfl, by decide +kernel, by decide +kernel⟩
theorem sc3 : FnScope N3 ["thing"] (defScope s3) := ⟨rfl, rfl, rfl, by decide +kernel, rfl, by decide +kernel, by decide +kernel⟩
theorem sc4 : FnScope N4 ["thing"] (defScope s4) := ⟨rfl, rfl, rfl, by decide +kernel, rfl, by decide +kernel, by decide +kernel⟩
theorem sc5 : FnScope N5 ["part"] (defScope s5) := ⟨rfl, rfl, rfl, by decide +kernel, rfl, by decide +kernel, by decide +kernel⟩
theorem sc6 : FnScope N6 ["part", "vocabulary", "growing"] (defScope s6) := ⟨rfl, rfl, rfl, by decide +kernel, rfl, by decide +kernel, by decide +kernel⟩
theorem sc7 : FnScope N7 ["thing", "path", "vocabulary", "growing"] (defScope s7) := ⟨rfl, rfl, rfl, by decide +kernel, rfl, by decide +kernel, by decide +kernel⟩
theorem sc8 : FnScope N8 ["thing", "vocabulary"] (defScope s8) := ⟨rfl, rfl, rfl, by decide +kernel, rfl, by decide +kernel, by decide +kernel⟩
theorem sc9 : FnScope N9 ["script", "k"] (defScope s9) := ⟨rfl, rfl, rfl, by decide +kernel, rfl, by decide +kernel, by decide +kernel⟩
theorem sc10 : FnScope N10 ["cell", "many", "count"] (defScope s10) := ⟨rfl, rfl, rfl, by decide +kernel, rfl, by decide +kernel, by decide +kernel⟩
theorem sc11 : FnScope N11 ["state", "many"] (defScope s11) := ⟨rfl, rfl, rfl, by decide +kernel, rfl, by decide +kernel, by decide +kernel⟩
theorem sc12 : FnScope N12 ["state", "names", "grown"] (defScope s12) := ⟨rfl, rfl, rfl, by decide +kernel, rfl, by decide +kernel, by decide +kernel⟩
theorem sc13 : FnScope N13 ["state", "depth", "levels", "names", "grown"] (defScope s13) := ⟨rfl, rfl, rfl, by decide +kernel, rfl, by decide +kernel, by decide +kernel⟩
theorem sc14 : FnScope N14 ["state", "depth", "levels", "names", "grown"] (defScope s14) := ⟨rfl, rfl, rfl, by decide +kernel, rfl, by decide +kernel, by decide +kernel⟩
theorem sc15 : FnScope N15 ["thing"] (defScope s15) := ⟨rfl, rfl, rfl, by decide +kernel, rfl, by decide +kernel, by decide +kernel⟩
theorem sc16 : FnScope N16 ["thing"] (defScope s16) := ⟨rfl, rfl, rfl, by decide +kernel, rfl, by decide +kernel, by decide +kernel⟩
theorem sc17 : FnScope N17 ["thing", "vocabulary", "grown"] (defScope s17) := ⟨rfl, rfl, rfl, by decide +kernel, rfl, by decide +kernel, by decide +kernel⟩
theorem sc18 : FnScope N18 ["thing", "path", "vocabulary", "grown"] (defScope s18) := ⟨rfl, rfl, rfl, by decide +kernel, rfl, by decide +kernel, by decide +kernel⟩
theorem sc19 : FnScope N19 ["state", "question"] (defScope s19) := ⟨rfl, rfl, rfl, by decide +kernel, rfl, by decide +kernel, by decide +kernel⟩
theorem sc20 : FnScope N20 ["state", "thing", "question"] (defScope s20) := ⟨rfl, rfl, rfl, by decide +kernel, rfl, by decide +kernel, by decide +kernel⟩
theorem sc21 : FnScope N21 ["script"] (defScope s21) := ⟨rfl, rfl, rfl, by decide +kernel, rfl, by decide +kernel, by decide +kernel⟩
theorem all_mk {l : PySem.W.OpenLaw} {w : World} {K : PySem.W.Frag} {h : Heap} {mg : Str → Option Value} {fa a0 a1 a2 a3 a4 a5 a6 a7 a8 a9 a10 a11 a12 a13 a14 a15 a16 a17 a18 a19 a20 a21  : Addr} (X : K.In h) (G : h.Ns mainGlobals mg) (hfa : mg "law" = some (.ref fa))
    {od0 an0 od1 an1 od2 an2 od3 an3 od4 an4 od5 an5 od6 an6 od7 an7 od8 an8 od9 an9 od10 an10 od11 an11 od12 an12 od13 an13 od14 an14 od15 an15 od16 an16 od17 an17 od18 an18 od19 an19 od20 an20 od21 an21 : Option Addr} {sl0 sl1 sl2 sl3 sl4 sl5 sl6 sl7 sl8 sl9 sl10 sl11 sl12 sl13 sl14 sl15 sl16 sl17 sl18 sl19 sl20 sl21 : Array (Option Value)} {oc0 kV0 dc0 pm0 cd0 ct0 oc1 kV1 dc1 pm1 cd1 ct1 oc2 kV2 dc2 pm2 cd2 ct2 oc3 kV3 dc3 pm3 cd3 ct3 oc4 kV4 dc4 pm4 cd4 ct4 oc5 kV5 dc5 pm5 cd5 ct5 oc6 kV6 dc6 pm6 cd6 ct6 oc7 kV7 dc7 pm7 cd7 ct7 oc8 kV8 dc8 pm8 cd8 ct8 oc9 kV9 dc9 pm9 cd9 ct9 oc10 kV10 dc10 pm10 cd10 ct10 oc11 kV11 dc11 pm11 cd11 ct11 oc12 kV12 dc12 pm12 cd12 ct12 oc13 kV13 dc13 pm13 cd13 ct13 oc14 kV14 dc14 pm14 cd14 ct14 oc15 kV15 dc15 pm15 cd15 ct15 oc16 kV16 dc16 pm16 cd16 ct16 oc17 kV17 dc17 pm17 cd17 ct17 oc18 kV18 dc18 pm18 cd18 ct18 oc19 kV19 dc19 pm19 cd19 ct19 oc20 kV20 dc20 pm20 cd20 ct20 oc21 kV21 dc21 pm21 cd21 ct21 : Value}
    {tk1 tk2 tk4 : Tok}
    (n0 : PySem.W.nsIn K mainGlobals "is_name" = some (some (.ref a0)))
    (l0 : K.lookup a0 = some ⟨oc0, od0, .func (PySem.W.fnOf "is_name" "is_name" (defArgs s0) (defBody s0) (defScope s0) .none kV0 dc0 pm0 an0 cd0 ct0), sl0⟩) (c0 : PySem.W.codeIn K cd0 "is_name" = true) (k0 : PySem.W.keepIn K (.ref a0) = true)
    (n1 : PySem.W.nsIn K mainGlobals "indexes_within" = some (some (.ref a1)))
    (l1 : K.lookup a1 = some ⟨oc1, od1, .func (PySem.W.fnOf "indexes_within" "indexes_within" (defArgs s1) (defBody s1) (defScope s1) .none kV1 dc1 pm1 an1 cd1 ct1), sl1⟩) (c1 : PySem.W.codeIn K cd1 "indexes_within" = true) (k1 : PySem.W.keepIn K (.ref a1) = true)
    (n2 : PySem.W.nsIn K mainGlobals "is_word" = some (some (.ref a2)))
    (l2 : K.lookup a2 = some ⟨oc2, od2, .func (PySem.W.fnOf "is_word" "is_word" (defArgs s2) (defBody s2) (defScope s2) .none kV2 dc2 pm2 an2 cd2 ct2), sl2⟩) (c2 : PySem.W.codeIn K cd2 "is_word" = true) (k2 : PySem.W.keepIn K (.ref a2) = true)
    (n3 : PySem.W.nsIn K mainGlobals "are_words" = some (some (.ref a3)))
    (l3 : K.lookup a3 = some ⟨oc3, od3, .func (PySem.W.fnOf "are_words" "are_words" (defArgs s3) (defBody s3) (defScope s3) .none kV3 dc3 pm3 an3 cd3 ct3), sl3⟩) (c3 : PySem.W.codeIn K cd3 "are_words" = true) (k3 : PySem.W.keepIn K (.ref a3) = true)
    (n4 : PySem.W.nsIn K mainGlobals "has_shape" = some (some (.ref a4)))
    (l4 : K.lookup a4 = some ⟨oc4, od4, .func (PySem.W.fnOf "has_shape" "has_shape" (defArgs s4) (defBody s4) (defScope s4) .none kV4 dc4 pm4 an4 cd4 ct4), sl4⟩) (c4 : PySem.W.codeIn K cd4 "has_shape" = true) (k4 : PySem.W.keepIn K (.ref a4) = true)
    (n5 : PySem.W.nsIn K mainGlobals "has_names" = some (some (.ref a5)))
    (l5 : K.lookup a5 = some ⟨oc5, od5, .func (PySem.W.fnOf "has_names" "has_names" (defArgs s5) (defBody s5) (defScope s5) .none kV5 dc5 pm5 an5 cd5 ct5), sl5⟩) (c5 : PySem.W.codeIn K cd5 "has_names" = true) (k5 : PySem.W.keepIn K (.ref a5) = true)
    (n6 : PySem.W.nsIn K mainGlobals "agrees" = some (some (.ref a6)))
    (l6 : K.lookup a6 = some ⟨oc6, od6, .func (PySem.W.fnOf "agrees" "agrees" (defArgs s6) (defBody s6) (defScope s6) .none kV6 dc6 pm6 an6 cd6 ct6), sl6⟩) (c6 : PySem.W.codeIn K cd6 "agrees" = true) (k6 : PySem.W.keepIn K (.ref a6) = true)
    (n7 : PySem.W.nsIn K mainGlobals "fault_within" = some (some (.ref a7)))
    (l7 : K.lookup a7 = some ⟨oc7, od7, .func (PySem.W.fnOf "fault_within" "fault_within" (defArgs s7) (defBody s7) (defScope s7) .none kV7 dc7 pm7 an7 cd7 ct7), sl7⟩) (c7 : PySem.W.codeIn K cd7 "fault_within" = true) (k7 : PySem.W.keepIn K (.ref a7) = true)
    (n8 : PySem.W.nsIn K mainGlobals "question_fault" = some (some (.ref a8)))
    (l8 : K.lookup a8 = some ⟨oc8, od8, .func (PySem.W.fnOf "question_fault" "question_fault" (defArgs s8) (defBody s8) (defScope s8) .none kV8 dc8 pm8 an8 cd8 ct8), sl8⟩) (c8 : PySem.W.codeIn K cd8 "question_fault" = true) (k8 : PySem.W.keepIn K (.ref a8) = true)
    (n9 : PySem.W.nsIn K mainGlobals "_law_cell" = some (some (.ref a9)))
    (l9 : K.lookup a9 = some ⟨oc9, od9, .func (PySem.W.fnOf "_law_cell" "_law_cell" (defArgs s9) (defBody s9) (defScope s9) .none kV9 dc9 pm9 an9 cd9 ct9), sl9⟩) (c9 : PySem.W.codeIn K cd9 "_law_cell" = true) (k9 : PySem.W.keepIn K (.ref a9) = true)
    (n10 : PySem.W.nsIn K mainGlobals "_law_digits" = some (some (.ref a10)))
    (l10 : K.lookup a10 = some ⟨oc10, od10, .func (PySem.W.fnOf "_law_digits" "_law_digits" (defArgs s10) (defBody s10) (defScope s10) .none kV10 dc10 pm10 an10 cd10 ct10), sl10⟩) (c10 : PySem.W.codeIn K cd10 "_law_digits" = true) (k10 : PySem.W.keepIn K (.ref a10) = true)
    (n11 : PySem.W.nsIn K mainGlobals "_law_take" = some (some (.ref a11)))
    (l11 : K.lookup a11 = some ⟨oc11, od11, .func (PySem.W.fnOf "_law_take" "_law_take" (defArgs s11) (defBody s11) (defScope s11) .none kV11 dc11 pm11 an11 cd11 ct11), sl11⟩) (c11 : PySem.W.codeIn K cd11 "_law_take" = true) (k11 : PySem.W.keepIn K (.ref a11) = true)
    (n12 : PySem.W.nsIn K mainGlobals "_law_atom" = some (some (.ref a12)))
    (l12 : K.lookup a12 = some ⟨oc12, od12, .func (PySem.W.fnOf "_law_atom" "_law_atom" (defArgs s12) (defBody s12) (defScope s12) .none kV12 dc12 pm12 an12 cd12 ct12), sl12⟩) (c12 : PySem.W.codeIn K cd12 "_law_atom" = true) (k12 : PySem.W.keepIn K (.ref a12) = true)
    (n13 : PySem.W.nsIn K mainGlobals "_law_question" = some (some (.ref a13)))
    (l13 : K.lookup a13 = some ⟨oc13, od13, .func (PySem.W.fnOf "_law_question" "_law_question" (defArgs s13) (defBody s13) (defScope s13) .none kV13 dc13 pm13 an13 cd13 ct13), sl13⟩) (c13 : PySem.W.codeIn K cd13 "_law_question" = true) (k13 : PySem.W.keepIn K (.ref a13) = true)
    (n14 : PySem.W.nsIn K mainGlobals "_law_grow" = some (some (.ref a14)))
    (l14 : K.lookup a14 = some ⟨oc14, od14, .func (PySem.W.fnOf "_law_grow" "_law_grow" (defArgs s14) (defBody s14) (defScope s14) .none kV14 dc14 pm14 an14 cd14 ct14), sl14⟩) (c14 : PySem.W.codeIn K cd14 "_law_grow" = true) (k14 : PySem.W.keepIn K (.ref a14) = true)
    (n15 : PySem.W.nsIn K mainGlobals "_law_is_name" = some (some (.ref a15)))
    (l15 : K.lookup a15 = some ⟨oc15, od15, .func (PySem.W.fnOf "_law_is_name" "_law_is_name" (defArgs s15) (defBody s15) (defScope s15) .none kV15 dc15 pm15 an15 cd15 ct15), sl15⟩) (c15 : PySem.W.codeIn K cd15 "_law_is_name" = true) (k15 : PySem.W.keepIn K (.ref a15) = true)
    (n16 : PySem.W.nsIn K mainGlobals "_law_are_names" = some (some (.ref a16)))
    (l16 : K.lookup a16 = some ⟨oc16, od16, .func (PySem.W.fnOf "_law_are_names" "_law_are_names" (defArgs s16) (defBody s16) (defScope s16) .none kV16 dc16 pm16 an16 cd16 ct16), sl16⟩) (c16 : PySem.W.codeIn K cd16 "_law_are_names" = true) (k16 : PySem.W.keepIn K (.ref a16) = true)
    (n17 : PySem.W.nsIn K mainGlobals "_law_is_faulty" = some (some (.ref a17)))
    (l17 : K.lookup a17 = some ⟨oc17, od17, .func (PySem.W.fnOf "_law_is_faulty" "_law_is_faulty" (defArgs s17) (defBody s17) (defScope s17) .none kV17 dc17 pm17 an17 cd17 ct17), sl17⟩) (c17 : PySem.W.codeIn K cd17 "_law_is_faulty" = true) (k17 : PySem.W.keepIn K (.ref a17) = true)
    (n18 : PySem.W.nsIn K mainGlobals "_law_fault" = some (some (.ref a18)))
    (l18 : K.lookup a18 = some ⟨oc18, od18, .func (PySem.W.fnOf "_law_fault" "_law_fault" (defArgs s18) (defBody s18) (defScope s18) .none kV18 dc18 pm18 an18 cd18 ct18), sl18⟩) (c18 : PySem.W.codeIn K cd18 "_law_fault" = true) (k18 : PySem.W.keepIn K (.ref a18) = true)
    (n19 : PySem.W.nsIn K mainGlobals "_law_odd" = some (some (.ref a19)))
    (l19 : K.lookup a19 = some ⟨oc19, od19, .func (PySem.W.fnOf "_law_odd" "_law_odd" (defArgs s19) (defBody s19) (defScope s19) .none kV19 dc19 pm19 an19 cd19 ct19), sl19⟩) (c19 : PySem.W.codeIn K cd19 "_law_odd" = true) (k19 : PySem.W.keepIn K (.ref a19) = true)
    (n20 : PySem.W.nsIn K mainGlobals "_law_changed" = some (some (.ref a20)))
    (l20 : K.lookup a20 = some ⟨oc20, od20, .func (PySem.W.fnOf "_law_changed" "_law_changed" (defArgs s20) (defBody s20) (defScope s20) .none kV20 dc20 pm20 an20 cd20 ct20), sl20⟩) (c20 : PySem.W.codeIn K cd20 "_law_changed" = true) (k20 : PySem.W.keepIn K (.ref a20) = true)
    (n21 : PySem.W.nsIn K mainGlobals "law" = some (some (.ref a21)))
    (l21 : K.lookup a21 = some ⟨oc21, od21, .func (PySem.W.fnOf "law" "law" (defArgs s21) (defBody s21) (defScope s21) .none kV21 dc21 pm21 an21 cd21 ct21), sl21⟩) (c21 : PySem.W.codeIn K cd21 "law" = true) (k21 : PySem.W.keepIn K (.ref a21) = true)
    (z0 : PySem.W.nsIn K mainGlobals "len" = some none)
    (z1 : PySem.W.nsIn K mainGlobals "MOST_SIGNS" = some (some (Value.int 12 tk1)))
    (z2 : PySem.W.nsIn K mainGlobals "LETTERS" = some (some (Value.str "abcdefghijklmnopqrstuvwxyz" tk2)))
    (z3 : PySem.W.nsIn K mainGlobals "all" = some none)
    (z4 : PySem.W.nsIn K mainGlobals "DIGITS" = some (some (Value.str "0123456789" tk4)))
    {e5 : Array DictEntry} {m5 : Nat} {d5 : Addr} {a5x0 a5x1 a5x2 a5x3 a5x4 a5x5 : Addr}
    {i5x0 : Array Value} {n5x0 : Nat} (y5x0 : K.lookup a5x0 = some ⟨.type "tuple", none, .seq i5x0 n5x0, #[]⟩) (q5x0 : i5x0.size ≤ 1000) (u5x0 : Vals [V.int 1] i5x0.toList)
    {i5x1 : Array Value} {n5x1 : Nat} (y5x1 : K.lookup a5x1 = some ⟨.type "tuple", none, .seq i5x1 n5x1, #[]⟩) (q5x1 : i5x1.size ≤ 1000) (u5x1 : Vals [V.int 1, V.int 2] i5x1.toList)
    {i5x2 : Array Value} {n5x2 : Nat} (y5x2 : K.lookup a5x2 = some ⟨.type "tuple", none, .seq i5x2 n5x2, #[]⟩) (q5x2 : i5x2.size ≤ 1000) (u5x2 : Vals [V.int 1, V.int 2] i5x2.toList)
    {i5x3 : Array Value} {n5x3 : Nat} (y5x3 : K.lookup a5x3 = some ⟨.type "tuple", none, .seq i5x3 n5x3, #[]⟩) (q5x3 : i5x3.size ≤ 1000) (u5x3 : Vals [V.int 2] i5x3.toList)
    {i5x4 : Array Value} {n5x4 : Nat} (y5x4 : K.lookup a5x4 = some ⟨.type "tuple", none, .seq i5x4 n5x4, #[]⟩) (q5x4 : i5x4.size ≤ 1000) (u5x4 : Vals [V.int 2] i5x4.toList)
    {i5x5 : Array Value} {n5x5 : Nat} (y5x5 : K.lookup a5x5 = some ⟨.type "tuple", none, .seq i5x5 n5x5, #[]⟩) (q5x5 : i5x5.size ≤ 1000) (u5x5 : Vals [V.int 3] i5x5.toList)
    (z5 : PySem.W.nsIn K mainGlobals "WITHIN" = some (some (.ref d5))) (y5 : K.lookup d5 = some ⟨.type "dict", none, .dict e5 m5, #[]⟩) (x5 : PySem.W.KeysLit w.params e5.toList) (w5 : (d5 == sysModules) = false) (v5 : KE e5.toList [("not", V.ref a5x0), ("and", V.ref a5x1), ("or", V.ref a5x2), ("some", V.ref a5x3), ("all", V.ref a5x4), ("grow", V.ref a5x5)])
    (z6 : PySem.W.nsIn K mainGlobals "isinstance" = some none)
    (z7 : PySem.W.nsIn K mainGlobals "str" = some none)
    (z9 : PySem.W.nsIn K mainGlobals "tuple" = some none)
    {e11 : Array DictEntry} {m11 : Nat} {d11 : Addr} (z11 : PySem.W.nsIn K mainGlobals "LENGTHS" = some (some (.ref d11))) (y11 : K.lookup d11 = some ⟨.type "dict", none, .dict e11 m11, #[]⟩) (x11 : PySem.W.KeysLit w.params e11.toList) (w11 : (d11 == sysModules) = false) (v11 : KE e11.toList [("true", (V.int 1)), ("false", (V.int 1)), ("given", (V.int 3)), ("same", (V.int 3)), ("in", (V.int 3)), ("not", (V.int 2)), ("and", (V.int 3)), ("or", (V.int 3)), ("some", (V.int 3)), ("all", (V.int 3)), ("grow", (V.int 5))])
    (z13 : PySem.W.nsIn K mainGlobals "set" = some none)
    (z19 : PySem.W.nsIn K mainGlobals "int" = some none)
    (z20 : PySem.W.nsIn K mainGlobals "range" = some none)
    (z28 : PySem.W.nsIn K mainGlobals "dict" = some none)
    : ∃ fd : FuncData, (∀ (s : Shared) (v : Value), BindsTo s fd ⟨[v], []⟩ [("script", v)]) ∧ ∀ base : Heap, K.In base → base.Ns mainGlobals mg → FnOk l.prog w K mg base CX0 220 fa fd ["script"] (Z.spLaw K) := by
  have e := hfa.symm.trans (PySem.W.mg_of X G n21)
  cases e
  have F0 := fun_mk (st := s0) l0 c0 k0
  have b0 := F0.binds (ps := ["text"]) fun _ _ _ _ _ _ us hl => match us, hl with | [_], _ => rfl
  have F1 := fun_mk (st := s1) l1 c1 k1
  have b1 := F1.binds (ps := ["question"]) fun _ _ _ _ _ _ us hl => match us, hl with | [_], _ => rfl
  have F2 := fun_mk (st := s2) l2 c2 k2
  have b2 := F2.binds (ps := ["thing"]) fun _ _ _ _ _ _ us hl => match us, hl with | [_], _ => rfl
  have F3 := fun_mk (st := s3) l3 c3 k3
  have b3 := F3.binds (ps := ["thing"]) fun _ _ _ _ _ _ us hl => match us, hl with | [_], _ => rfl
  have F4 := fun_mk (st := s4) l4 c4 k4
  have b4 := F4.binds (ps := ["thing"]) fun _ _ _ _ _ _ us hl => match us, hl with | [_], _ => rfl
  have F5 := fun_mk (st := s5) l5 c5 k5
  have b5 := F5.binds (ps := ["part"]) fun _ _ _ _ _ _ us hl => match us, hl with | [_], _ => rfl
  have F6 := fun_mk (st := s6) l6 c6 k6
  have b6 := F6.binds (ps := ["part", "vocabulary", "growing"]) fun _ _ _ _ _ _ us hl => match us, hl with | [_, _, _], _ => rfl
  have F7 := fun_mk (st := s7) l7 c7 k7
  have b7 := F7.binds (ps := ["thing", "path", "vocabulary", "growing"]) fun _ _ _ _ _ _ us hl => match us, hl with | [_, _, _, _], _ => rfl
  have F8 := fun_mk (st := s8) l8 c8 k8
  have b8 := F8.binds (ps := ["thing", "vocabulary"]) fun _ _ _ _ _ _ us hl => match us, hl with | [_, _], _ => rfl
  have F9 := fun_mk (st := s9) l9 c9 k9
  have b9 := F9.binds (ps := ["script", "k"]) fun _ _ _ _ _ _ us hl => match us, hl with | [_, _], _ => rfl
  have F10 := fun_mk (st := s10) l10 c10 k10
  have b10 := F10.binds (ps := ["cell", "many", "count"]) fun _ _ _ _ _ _ us hl => match us, hl with | [_, _, _], _ => rfl
  have F11 := fun_mk (st := s11) l11 c11 k11
  have b11 := F11.binds (ps := ["state", "many"]) fun _ _ _ _ _ _ us hl => match us, hl with | [_, _], _ => rfl
  have F12 := fun_mk (st := s12) l12 c12 k12
  have b12 := F12.binds (ps := ["state", "names", "grown"]) fun _ _ _ _ _ _ us hl => match us, hl with | [_, _, _], _ => rfl
  have F13 := fun_mk (st := s13) l13 c13 k13
  have b13 := F13.binds (ps := ["state", "depth", "levels", "names", "grown"]) fun _ _ _ _ _ _ us hl => match us, hl with | [_, _, _, _, _], _ => rfl
  have F14 := fun_mk (st := s14) l14 c14 k14
  have b14 := F14.binds (ps := ["state", "depth", "levels", "names", "grown"]) fun _ _ _ _ _ _ us hl => match us, hl with | [_, _, _, _, _], _ => rfl
  have F15 := fun_mk (st := s15) l15 c15 k15
  have b15 := F15.binds (ps := ["thing"]) fun _ _ _ _ _ _ us hl => match us, hl with | [_], _ => rfl
  have F16 := fun_mk (st := s16) l16 c16 k16
  have b16 := F16.binds (ps := ["thing"]) fun _ _ _ _ _ _ us hl => match us, hl with | [_], _ => rfl
  have F17 := fun_mk (st := s17) l17 c17 k17
  have b17 := F17.binds (ps := ["thing", "vocabulary", "grown"]) fun _ _ _ _ _ _ us hl => match us, hl with | [_, _, _], _ => rfl
  have F18 := fun_mk (st := s18) l18 c18 k18
  have b18 := F18.binds (ps := ["thing", "path", "vocabulary", "grown"]) fun _ _ _ _ _ _ us hl => match us, hl with | [_, _, _, _], _ => rfl
  have F19 := fun_mk (st := s19) l19 c19 k19
  have b19 := F19.binds (ps := ["state", "question"]) fun _ _ _ _ _ _ us hl => match us, hl with | [_, _], _ => rfl
  have F20 := fun_mk (st := s20) l20 c20 k20
  have b20 := F20.binds (ps := ["state", "thing", "question"]) fun _ _ _ _ _ _ us hl => match us, hl with | [_, _, _], _ => rfl
  have F21 := fun_mk (st := s21) l21 c21 k21
  have b21 := F21.binds (ps := ["script"]) fun _ _ _ _ _ _ us hl => match us, hl with | [_], _ => rfl
  refine ⟨PySem.W.fnOf "law" "law" (defArgs s21) (defBody s21) (defScope s21) .none kV21 dc21 pm21 an21 cd21 ct21, fun s v => .of_eq rfl, fun base _ _ => ?_⟩
  have Gg : GIsOk ⟨l.prog, w, K, mg, base, fun c => ([] : List Addr)[c]?⟩ ds g := ⟨PySem.W.mg_none_of X G z0, ⟨(Value.int 12 tk1), (V.int 12), PySem.W.mg_of X G z1, ⟨_, rfl⟩, by constructor⟩, ⟨(Value.str "abcdefghijklmnopqrstuvwxyz" tk2), (V.str "abcdefghijklmnopqrstuvwxyz"), PySem.W.mg_of X G z2, ⟨_, rfl⟩, by constructor⟩, PySem.W.mg_none_of X G z3, ⟨(Value.str "0123456789" tk4), (V.str "0123456789"), PySem.W.mg_of X G z4, ⟨_, rfl⟩, by constructor⟩, ⟨.ref d5, .ref d5, PySem.W.mg_of X G z5, rfl, .kd (kw_by y5 x5 w5 v5) (.cons (tup_by y5x0 q5x0 u5x0 (by repeat constructor)) (.cons (tup_by y5x1 q5x1 u5x1 (by repeat constructor)) (.cons (tup_by y5x2 q5x2 u5x2 (by repeat constructor)) (.cons (tup_by y5x3 q5x3 u5x3 (by repeat constructor)) (.cons (tup_by y5x4 q5x4 u5x4 (by repeat constructor)) (.cons (tup_by y5x5 q5x5 u5x5 (by repeat constructor)) .nil))))))⟩, PySem.W.mg_none_of X G z6, PySem.W.mg_none_of X G z7, ⟨_, _, rfl, PySem.W.mg_of X G n0, ⟨_, _, F0, b0, sc0, rfl⟩⟩, PySem.W.mg_none_of X G z9, ⟨_, _, rfl, PySem.W.mg_of X G n2, ⟨_, _, F2, b2, sc2, rfl⟩⟩, ⟨.ref d11, .ref d11, PySem.W.mg_of X G z11, rfl, .kd (kw_by y11 x11 w11 v11) (.cons (by constructor) (.cons (by constructor) (.cons (by constructor) (.cons (by constructor) (.cons (by constructor) (.cons (by constructor) (.cons (by constructor) (.cons (by constructor) (.cons (by constructor) (.cons (by constructor) (.cons (by constructor) .nil)))))))))))⟩, ⟨_, _, rfl, PySem.W.mg_of X G n3, ⟨_, _, F3, b3, sc3, rfl⟩⟩, PySem.W.mg_none_of X G z13, ⟨_, _, rfl, PySem.W.mg_of X G n4, ⟨_, _, F4, b4, sc4, rfl⟩⟩, ⟨_, _, rfl, PySem.W.mg_of X G n5, ⟨_, _, F5, b5, sc5, rfl⟩⟩, ⟨_, _, rfl, PySem.W.mg_of X G n6, ⟨_, _, F6, b6, sc6, rfl⟩⟩, ⟨_, _, rfl, PySem.W.mg_of X G n7, ⟨_, _, F7, b7, sc7, rfl⟩⟩, ⟨_, _, rfl, PySem.W.mg_of X G n1, ⟨_, _, F1, b1, sc1, rfl⟩⟩, PySem.W.mg_none_of X G z19, PySem.W.mg_none_of X G z20, ⟨_, _, rfl, PySem.W.mg_of X G n11, ⟨_, _, F11, b11, sc11, rfl⟩⟩, ⟨_, _, rfl, PySem.W.mg_of X G n12, ⟨_, _, F12, b12, sc12, rfl⟩⟩, ⟨_, _, rfl, PySem.W.mg_of X G n13, ⟨_, _, F13, b13, sc13, rfl⟩⟩, ⟨_, _, rfl, PySem.W.mg_of X G n14, ⟨_, _, F14, b14, sc14, rfl⟩⟩, ⟨_, _, rfl, PySem.W.mg_of X G n15, ⟨_, _, F15, b15, sc15, rfl⟩⟩, ⟨_, _, rfl, PySem.W.mg_of X G n16, ⟨_, _, F16, b16, sc16, rfl⟩⟩, ⟨_, _, rfl, PySem.W.mg_of X G n17, ⟨_, _, F17, b17, sc17, rfl⟩⟩, PySem.W.mg_none_of X G z28, ⟨_, _, rfl, PySem.W.mg_of X G n18, ⟨_, _, F18, b18, sc18, rfl⟩⟩, ⟨_, _, rfl, PySem.W.mg_of X G n19, ⟨_, _, F19, b19, sc19, rfl⟩⟩, ⟨_, _, rfl, PySem.W.mg_of X G n20, ⟨_, _, F20, b20, sc20, rfl⟩⟩, ⟨_, _, rfl, PySem.W.mg_of X G n10, ⟨_, _, F10, b10, sc10, rfl⟩⟩, ⟨_, _, rfl, PySem.W.mg_of X G n9, ⟨_, _, F9, b9, sc9, rfl⟩⟩, ⟨_, _, rfl, PySem.W.mg_of X G n8, ⟨_, _, F8, b8, sc8, rfl⟩⟩, trivial⟩
  exact law_fn (W := ⟨l.prog, w, K, mg, base, fun c => ([] : List Addr)[c]?⟩) (n := 109) (md_by tab_ok Gg looks_ok) (f := 21) (fn := f21) rfl F21 sc21 rfl rfl (by decide +kernel) law_ev
end K04
set_option maxHeartbeats 0 in
open PySem PySem.W PyProof.Rows in
theorem PySem.Challenge.cw_soonerlater_k04_first_fault_of_a_questio_holds : PySem.Challenge.rw_soonerlater_k04_first_fault_of_a_questio.Holds := by
  w_on; o_law; k_head; (case hw => w_witness2)
  k_fill
  refine Z.law_walk (k := 220) (l := PySem.Challenge.rw_soonerlater_k04_first_fault_of_a_questio) rfl rfl ⟨rfl, by decide, by decide⟩ (fun w h Y => PySem.W.kIn_of Y) ?F
  case F =>
    intro w mg fa h KX G hmg
    refine' K04.all_mk KX G hmg ?n0 ?l0 ?c0 ?k0 ?n1 ?l1 ?c1 ?k1 ?n2 ?l2 ?c2 ?k2 ?n3 ?l3 ?c3 ?k3 ?n4 ?l4 ?c4 ?k4 ?n5 ?l5 ?c5 ?k5 ?n6 ?l6 ?c6 ?k6 ?n7 ?l7 ?c7 ?k7 ?n8 ?l8 ?c8 ?k8 ?n9 ?l9 ?c9 ?k9 ?n10 ?l10 ?c10 ?k10 ?n11 ?l11 ?c11 ?k11 ?n12 ?l12 ?c12 ?k12 ?n13 ?l13 ?c13 ?k13 ?n14 ?l14 ?c14 ?k14 ?n15 ?l15 ?c15 ?k15 ?n16 ?l16 ?c16 ?k16 ?n17 ?l17 ?c17 ?k17 ?n18 ?l18 ?c18 ?k18 ?n19 ?l19 ?c19 ?k19 ?n20 ?l20 ?c20 ?k20 ?n21 ?l21 ?c21 ?k21 ?z0 ?z1 ?z2 ?z3 ?z4 ?y5x0 ?q5x0 ?u5x0 ?y5x1 ?q5x1 ?u5x1 ?y5x2 ?q5x2 ?u5x2 ?y5x3 ?q5x3 ?u5x3 ?y5x4 ?q5x4 ?u5x4 ?y5x5 ?q5x5 ?u5x5 ?z5 ?y5 ?x5 ?w5 ?v5 ?z6 ?z7 ?z9 ?z11 ?y11 ?x11 ?w11 ?v11 ?z13 ?z19 ?z20 ?z28
    (case n0 => k_is)
    (case l0 => k_is)
    (case c0 => k_is)
    (case k0 => k_is)
    (case n1 => k_is)
    (case l1 => k_is)
    (case c1 => k_is)
    (case k1 => k_is)
    (case n2 => k_is)
    (case l2 => k_is)
    (case c2 => k_is)
    (case k2 => k_is)
    (case n3 => k_is)
    (case l3 => k_is)
    (case c3 => k_is)
    (case k3 => k_is)
    (case n4 => k_is)
    (case l4 => k_is)
    (case c4 => k_is)
    (case k4 => k_is)
    (case n5 => k_is)
    (case l5 => k_is)
    (case c5 => k_is)
    (case k5 => k_is)
    (case n6 => k_is)
    (case l6 => k_is)
    (case c6 => k_is)
    (case k6 => k_is)
    (case n7 => k_is)
    (case l7 => k_is)
    (case c7 => k_is)
    (case k7 => k_is)
    (case n8 => k_is)
    (case l8 => k_is)
    (case c8 => k_is)
    (case k8 => k_is)
    (case n9 => k_is)
    (case l9 => k_is)
    (case c9 => k_is)
    (case k9 => k_is)
    (case n10 => k_is)
    (case l10 => k_is)
    (case c10 => k_is)
    (case k10 => k_is)
    (case n11 => k_is)
    (case l11 => k_is)
    (case c11 => k_is)
    (case k11 => k_is)
    (case n12 => k_is)
    (case l12 => k_is)
    (case c12 => k_is)
    (case k12 => k_is)
    (case n13 => k_is)
    (case l13 => k_is)
    (case c13 => k_is)
    (case k13 => k_is)
    (case n14 => k_is)
    (case l14 => k_is)
    (case c14 => k_is)
    (case k14 => k_is)
    (case n15 => k_is)
    (case l15 => k_is)
    (case c15 => k_is)
    (case k15 => k_is)
    (case n16 => k_is)
    (case l16 => k_is)
    (case c16 => k_is)
    (case k16 => k_is)
    (case n17 => k_is)
    (case l17 => k_is)
    (case c17 => k_is)
    (case k17 => k_is)
    (case n18 => k_is)
    (case l18 => k_is)
    (case c18 => k_is)
    (case k18 => k_is)
    (case n19 => k_is)
    (case l19 => k_is)
    (case c19 => k_is)
    (case k19 => k_is)
    (case n20 => k_is)
    (case l20 => k_is)
    (case c20 => k_is)
    (case k20 => k_is)
    (case n21 => k_is)
    (case l21 => k_is)
    (case c21 => k_is)
    (case k21 => k_is)
    (case z0 => k_is)
    (case z1 => k_is)
    (case z2 => k_is)
    (case z3 => k_is)
    (case z4 => k_is)
    (case z5 => k_is)
    (case y5 => k_is)
    (case x5 => repeat (first | exact trivial | refine ⟨⟨_, _, rfl, rfl⟩, ?_⟩))
    (case w5 => first | rfl | decide)
    (case v5 => repeat (first | exact Z.KE.nil | refine Z.KE.cons rfl rfl ?_ | refine Z.KE.cons rfl ⟨_, rfl⟩ ?_))
    (case z6 => k_is)
    (case z7 => k_is)
    (case z9 => k_is)
    (case z11 => k_is)
    (case y11 => k_is)
    (case x11 => repeat (first | exact trivial | refine ⟨⟨_, _, rfl, rfl⟩, ?_⟩))
    (case w11 => first | rfl | decide)
    (case v11 => repeat (first | exact Z.KE.nil | refine Z.KE.cons rfl rfl ?_ | refine Z.KE.cons rfl ⟨_, rfl⟩ ?_))
    (case z13 => k_is)
    (case z19 => k_is)
    (case z20 => k_is)
    (case z28 => k_is)
    (case y5x0 => k_is)
    (case q5x0 => decide)
    (case u5x0 => repeat (first | exact Paired.nil | refine Paired.cons rfl ?_ | refine Paired.cons ⟨_, rfl⟩ ?_))
    (case y5x1 => k_is)
    (case q5x1 => decide)
    (case u5x1 => repeat (first | exact Paired.nil | refine Paired.cons rfl ?_ | refine Paired.cons ⟨_, rfl⟩ ?_))
    (case y5x2 => k_is)
    (case q5x2 => decide)
    (case u5x2 => repeat (first | exact Paired.nil | refine Paired.cons rfl ?_ | refine Paired.cons ⟨_, rfl⟩ ?_))
    (case y5x3 => k_is)
    (case q5x3 => decide)
    (case u5x3 => repeat (first | exact Paired.nil | refine Paired.cons rfl ?_ | refine Paired.cons ⟨_, rfl⟩ ?_))
    (case y5x4 => k_is)
    (case q5x4 => decide)
    (case u5x4 => repeat (first | exact Paired.nil | refine Paired.cons rfl ?_ | refine Paired.cons ⟨_, rfl⟩ ?_))
    (case y5x5 => k_is)
    (case q5x5 => decide)
    (case u5x5 => repeat (first | exact Paired.nil | refine Paired.cons rfl ?_ | refine Paired.cons ⟨_, rfl⟩ ?_))

