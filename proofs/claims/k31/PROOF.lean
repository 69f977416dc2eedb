import PyProof.Rows.All
import Wide.All
import OpenK.AllK
import Wide.FinOn
import HandS.ForMost
import HandS.Set
import HandS.SetKeys
import HandS.TupSets
import PyProof.Rows.SortShellAny
import HandS.Strs
import HandS.IsInst
import HandS.TupAny
import HandS.TupMul
import HandS.TupLe
import HandS.Style
import HandS.Deep
import HandS.NoneIn
import HandS.Codes
import HandS.Lambda
import HandS.EndTab
import PyProof.ReprRoads
import HandS.TryMany
import HandS.ExcField
import HandS.Zip
import PyProof.IsRules
import PyProof.AutoSeq1
import PyProof.NeData
import PyProof.StrBlock2
import PyProof.Rows.StrMul
import KE.SortCalls
import HandS.Text
import PyProof.StrLawsRepr
import PyProof.CallFns
import HandS.ExcInit
import HandS.ExcIs
import HandS.ExcValue
import KE.KExcIs
import KE.DataCmp
import KE.GoesMore
import HandS.Iter
import KE.GoesEnum
import PyProof.TupleOfSeq
import HandS.Walk
import HandS.More
import HandS.WordsExc
import HandS.Defaults
import HandS.DictComp
import PySem.Challenge.RW_againnotes_k31_whole_courses
set_option Elab.async false
set_option linter.all false
set_option maxRecDepth 100000
set_option maxHeartbeats 4000000
/-! Sets of scannable keys of one kind, with what a walk over them asks for; set(list of texts), sorted of such a set. -/
namespace Ag
open PySem PySem.Spec PyProof.Rows L2

section gen
variable {P : Program} {w : World} {κ : Type} [DecidableEq κ] {kd : KeyKind P w κ}
/-- two entries have no key in common -/
def Apart (kd : KeyKind P w κ) (e f : Int × Value) : Prop := ∀ k, kd.is k e.2 = true → kd.is k f.2 = false
theorem Apart.symm {e f : Int × Value} (h : Apart kd e f) : Apart kd f e := fun k hf => by
  cases q : kd.is k e.2 with
  | false => rfl
  | true => have := h k q; rw [hf] at this; cases this

structure SetG (kd : KeyKind P w κ) (h : Heap) (a : Addr) (S : κ → Bool) (n : Nat) (o : Obj) (es : Array (Int × Value)) (ep : Nat) (t : SetTable) : Prop where
  at_ : h.get? a = some o
  ex : o.ExactSet
  dat : o.data = .set es ep t
  els : ElemsOf kd es.toList
  mem : ∀ k, S k = true ↔ ∃ e ∈ es.toList, kd.is k e.2 = true
  room : es.size < scanBound
  fit : t.fits es.size = true
  num : es.size = n
  ris : Ris t.place.toList
  led : w.params.followText "set-order" = true ∨ t.led = true
  nd : es.toList.Pairwise (Apart kd)

def SetAtG (kd : KeyKind P w κ) (h : Heap) (a : Addr) (S : κ → Bool) (n : Nat) : Prop := ∃ o es ep t, SetG kd h a S n o es ep t
theorem SetAtG.keep {h h' : Heap} {a : Addr} {S : κ → Bool} {n : Nat} (R : SetAtG kd h a S n) (k : ∀ o, h.get? a = some o → h'.get? a = some o) : SetAtG kd h' a S n := by
  obtain ⟨o, es, ep, t, r⟩ := R
  exact ⟨o, es, ep, t, ⟨k o r.at_, r.ex, r.dat, r.els, r.mem, r.room, r.fit, r.num, r.ris, r.led, r.nd⟩⟩
theorem SetAtG.fresh {h : Heap} {a : Addr} (ho : h.get? a = some { cls := .type "set", dict := none, data := .set #[] 0 (.fresh 0 0 (!w.params.followText "set-order")) }) : SetAtG kd h a (fun _ => false) 0 :=
  ⟨_, #[], 0, _, ⟨ho, ⟨rfl, rfl, rfl⟩, rfl, fun e he => (by simp at he), fun k => (by simp), (by decide), (by rfl), rfl, List.Pairwise.nil, by
    show _ ∨ (!w.params.followText "set-order") = true
    cases w.params.followText "set-order" <;> simp, List.Pairwise.nil⟩⟩

variable {A : Around} {E : Value → Shared → Prop} {s : Shared} {a : Addr} {S : κ → Bool} {n : Nat}

theorem addG_tail {g : Bool → Sem Unit} (hg : ∀ (b : Bool) (s₁ : Shared) (Q' : Unit → Shared → Prop), Q' () s₁ → wpAny (model P w) A (g b) Q' E s₁)
    {o : Obj} {es es1 : Array (Int × Value)} {ep : Nat} {t t2 : SetTable} {S' : κ → Bool} (ho : s.heap.get? a = some o) (hex : o.ExactSet) (hd : o.data = .set es ep t)
    (el1 : ElemsOf kd es1.toList) (m1 : ∀ k, S' k = true ↔ ∃ e ∈ es1.toList, kd.is k e.2 = true) (nd1 : es1.toList.Pairwise (Apart kd))
    (b1 : es1.size < scanBound) (f2 : t2.fits es1.size = true) (r2 : Ris t2.place.toList) (l2 : w.params.followText "set-order" = true ∨ t2.led = true) {wasD : Bool} {R : Option Bool → Shared → Prop}
    (hR : ∀ h', Heap.SameBut a s.heap h' → SetAtG kd h' a S' es1.size → R (some true) { s with heap := h' }) :
    wpAny (model P w) A (do
        storeSet a es1 t2
        if (!wasD && t2.tooFull) = true then do
            g (relayAll t2 es1 (SetTable.grown es1.size)).2.2
            storeSet a (relayAll t2 es1 (SetTable.grown es1.size)).1 (relayAll t2 es1 (SetTable.grown es1.size)).2.1
            pure (some true)
          else pure (some true)) R E s := by
  refine wpAny_bind (wpAny_storeSet_of ho hd ?_ (fits_of_scanBound b1))
  have q1 := store_at (es' := es1) (t' := t2) ho hd
  have k1 := Heap.SameBut.update s.heap a (Obj.putSet es1 t2)
  by_cases hc : (!wasD && t2.tooFull) = true
  · rw [if_pos hc]
    have pm := relayAll_perm t2 es1 (SetTable.grown es1.size)
    have f3 := relayAll_fits t2 es1 (SetTable.grown es1.size)
    have r3 := relayAll_ris t2 es1 (SetTable.grown es1.size)
    have l3 := relayAll_led t2 es1 (SetTable.grown es1.size)
    generalize relayAll t2 es1 (SetTable.grown es1.size) = Z at pm f3 r3 l3 ⊢
    obtain ⟨es2, t3, gv⟩ := Z
    dsimp only at pm f3 r3 l3 ⊢
    have z2 : es2.size = es1.size := by rw [← Array.length_toList, pm.length_eq, Array.length_toList]
    have b2 : es2.size < scanBound := z2 ▸ b1
    refine wpAny_bind (hg _ _ _ ?_)
    refine wpAny_bind (wpAny_storeSet_of q1 rfl ?_ (fits_of_scanBound b2))
    have q2 := store_at (es' := es2) (t' := t3) q1 rfl
    have m2 : ∀ k, S' k = true ↔ ∃ e ∈ es2.toList, kd.is k e.2 = true := fun k => (m1 k).trans ⟨fun ⟨e, he, q⟩ => ⟨e, pm.mem_iff.mpr he, q⟩, fun ⟨e, he, q⟩ => ⟨e, pm.mem_iff.mp he, q⟩⟩
    exact wpAny_pure (hR _ (k1.trans (Heap.SameBut.update _ a _)) ⟨_, es2, _, t3, ⟨q2, hex, rfl, el1.perm pm, m2, b2, f3, z2, r3, l2.imp id fun z => l3 ▸ z, (pm.pairwise_iff (fun h => Apart.symm h)).mpr nd1⟩⟩)
  · rw [if_neg hc]
    exact wpAny_pure (hR _ k1 ⟨_, es1, _, t2, ⟨q1, hex, rfl, el1, m1, b1, f2, rfl, r2, l2, nd1⟩⟩)

theorem addG {k : κ} {x : Value} {Q : Bool → Shared → Prop} (hk : kd.is k x = true) (hx : x.scannable = true) (R : SetAtG kd s.heap a S n) (hroom : n + 1 < scanBound)
    (hQ : ∀ h', Heap.SameBut a s.heap h' → SetAtG kd h' a (fun j => S j || decide (j = k)) (if S k = true then n else n + 1) → Q (!S k) { s with heap := h' }) :
    wpAny (model P w) A (setAddHashed a x (kd.hash k)) Q E s := by
  obtain ⟨o, es, ep, t, R⟩ := R
  have bz : es.size + 1 < scanBound := by rw [R.num]; exact hroom
  unfold setAddHashed setAddHashedIn
  refine wpAny_holding (wpAny_bind (wpAny_setState_of R.at_ R.dat R.fit ?_))
  dsimp only
  rw [byScan_of hx R.room R.els]
  simp only [↓reduceIte]
  unfold setAddByScan
  refine wpAny_bind (wpAny_bind (wpAny_rule (wpAny_bind (wpAny_setScan_of hk R.at_ R.dat R.fit R.els ?_))))
  cases hfi : List.findIdx? (fun e => kd.is k e.2) es.toList with
  | some j =>
    obtain ⟨hj, pj, _⟩ := List.findIdx?_eq_some_iff_getElem.mp hfi
    have hS : S k = true := (R.mem k).mpr ⟨_, List.getElem_mem hj, pj⟩
    refine wpAny_pure (wpAny_pure ?_)
    have q := hQ s.heap (Heap.SameBut.refl a s.heap) ⟨o, es, ep, t, ⟨R.at_, R.ex, R.dat, R.els, fun i => (by
      rw [Bool.or_eq_true, decide_eq_true_eq, ← R.mem i]
      exact ⟨fun z => z.elim id (fun e => e ▸ hS), .inl⟩), R.room, R.fit, (by rw [if_pos hS]; exact R.num), R.ris, R.led, R.nd⟩⟩
    rw [hS] at q
    exact q
  | none =>
    have hno : ∀ e ∈ es.toList, kd.is k e.2 = false := fun e he => by
      have c := List.findIdx?_eq_none_iff.mp hfi e he
      cases q : kd.is k e.2 with
      | false => rfl
      | true => rw [q] at c; cases c
    have hS : S k = false := by
      cases q : S k with
      | false => rfl
      | true =>
        obtain ⟨e, he, z⟩ := (R.mem k).mp q
        rw [hno e he] at z; cases z
    have pm := layNew_perm t es (kd.hash k) x
    have f1 := layNew_fits t es (kd.hash k) x
    have r1 := layNew_ris t es (kd.hash k) x R.ris
    have l1 := layNew_led t es (kd.hash k) x
    dsimp only
    generalize layNew t es (kd.hash k) x = Z at pm f1 r1 l1 ⊢
    obtain ⟨es1, t1, wasD, gv⟩ := Z
    dsimp only at pm f1 r1 l1 ⊢
    rw [Array.toList_push] at pm
    have el1 : ElemsOf kd es1.toList := (R.els.push hk hx).perm pm
    have m1 : ∀ i, (S i || decide (i = k)) = true ↔ ∃ e ∈ es1.toList, kd.is i e.2 = true := mem_push_iff hk R.mem pm
    have nd1 : es1.toList.Pairwise (Apart kd) := by
      refine (pm.pairwise_iff (fun h => Apart.symm h)).mpr (List.pairwise_append.mpr ⟨R.nd, List.pairwise_singleton _ _, fun e he f hf => ?_⟩)
      rw [List.mem_singleton.mp hf]
      refine Apart.symm fun j hj => ?_
      have : j = k := kd.inj x j k hj hk
      rw [this]; exact hno e he
    have z1 : es1.size = n + 1 := by rw [← Array.length_toList, pm.length_eq, List.length_append, Array.length_toList, R.num]; rfl
    have b1 : es1.size < scanBound := by rw [z1]; exact hroom
    have ld : w.params.followText "set-order" = true ∨ t1.led = true := R.led.imp id fun z => by rw [l1]; exact z
    have fin : ∀ h', Heap.SameBut a s.heap h' → SetAtG kd h' a (fun j => S j || decide (j = k)) es1.size → Q true { s with heap := h' } := fun h' sb r => by
      have q := hQ h' sb
      rw [hS] at q
      rw [z1] at r
      exact q r
    have gw : ∀ (b : Bool) {s₁ : Shared} {Q' : Unit → Shared → Prop}, Q' () s₁ → wpAny (model P w) A (match b with | true => rule "set.scan.the-table-gave-way" | false => pure ()) Q' E s₁ :=
      fun b s₁ Q' q => by cases b <;> first | exact wpAny_pure q | exact wpAny_rule q
    refine wpAny_bind (gw _ ?_)
    split
    · refine wpAny_bind ?_
      rw [hashByValue_scannable 8 hx]
      refine wpAny_pure (addG_tail (fun b s₁ Q' q => by cases b <;> first | exact wpAny_pure q | exact wpAny_rule q) R.at_ R.ex R.dat el1 m1 nd1 b1 ?_ ?_ ?_ ?_)
      · split <;> first | exact f1 | exact SetTable.fits_plain_off f1
      · split <;> exact r1
      · split <;> exact ld
      · intro h' sb r; dsimp only; exact wpAny_pure (fin h' sb r)
    · refine wpAny_bind (wpAny_pure ?_)
      simp only [↓reduceIte]
      refine addG_tail (fun b s₁ Q' q => by cases b <;> first | exact wpAny_pure q | exact wpAny_rule q) R.at_ R.ex R.dat el1 m1 nd1 b1 f1 r1 ld ?_
      intro h' sb r; dsimp only; exact wpAny_pure (fin h' sb r)
end gen
end Ag

set_option Elab.async false
set_option linter.all false
set_option maxRecDepth 100000
set_option maxHeartbeats 4000000
namespace Ag
open PySem PySem.Spec PyProof.Rows L2
section
variable {P : Program} {w : World} {A : Around} {E : Value → Shared → Prop}

/-- set.update's loop over texts -/
theorem upd_loop {I : Addr} {fp wr : List Addr} {G : Array GenState → Array GenState → Prop} {n : Nat} {Pv : Nat → Value → Prop} {St : Nat → Shared → Prop} {R : Result → Shared → Prop}
    (W : WalksS P w A.in1 I fp wr G n Pv St) (C : Addr) (hC : C ∉ fp) (xs : List Str) (hn : n = xs.length) (hb : xs.length + 1 < scanBound) (hv : ∀ i v, Pv i v → ∃ x t, xs[i]? = some x ∧ v = .str x t) :
    ∀ (j i : Nat) (s : Shared), n - i = j → i ≤ n → St i s → (∃ S m, SetAtG (PySem.strKind P w) s.heap C S m ∧ m ≤ i ∧ ∀ k, S k = true ↔ k ∈ xs.take i) →
      (∀ s' S m, Moved (C :: wr) G s s' → SetAtG (PySem.strKind P w) s'.heap C S m → m ≤ n → (∀ k, S k = true ↔ k ∈ xs) → R (.ok (.ret .none)) s') →
      codeAny (model P w) A (.builtin "set.update.loop" ⟨[.ref C, .ref I], []⟩) R s := by
  have hCw : C ∉ wr := fun z => hC (W.sub _ z)
  have wide : ∀ b ∈ wr, b ∈ C :: wr := fun b z => List.mem_cons_of_mem _ z
  intro j
  induction j with
  | zero =>
    intro i s hj hi st ⟨S, m, hS, hm, hk⟩ hR
    obtain rfl : i = n := by omega
    refine codeAny_builtin F.entry_set_update_loop ?_
    rw [Around.under_plainId F.plain_set_update_loop _]
    show wpAny _ A.in1 (pyNext (.ref I) >>= _) _ _ s
    refine wpAny_bind (W.done s _ _ st fun s' mv => ?_)
    show wpAny _ A.in1 (ret Value.none) _ _ s'
    refine wpAny_pure (hR s' S m (mv.mono wide) (hS.keep fun o e => mv.heap C o hCw e) hm fun k => ?_)
    rw [hk k, hn, List.take_length]
  | succ j ih =>
    intro i s hj hi st ⟨S, m, hS, hm, hk⟩ hR
    have lt : i < n := by omega
    refine codeAny_builtin F.entry_set_update_loop ?_
    rw [Around.under_plainId F.plain_set_update_loop _]
    show wpAny _ A.in1 (pyNext (.ref I) >>= _) _ _ s
    refine wpAny_bind (W.item i s _ _ lt st fun v s' pv st' mv => ?_)
    obtain ⟨x, tk, hx, rfl⟩ := hv i v pv
    have hS' := hS.keep (h' := s'.heap) fun o e => mv.heap C o hCw e
    show wpAny _ A.in1 (holding [Value.str x tk] (setAdd C (.str x tk)) >>= _) _ _ s'
    refine wpAny_bind (wpAny_holding ?_)
    unfold setAdd
    refine wpAny_holding (wpAny_bind ((PySem.strKind P w).pyHash (k := x) (strKind_is _ _ _ _) ?_))
    refine addG (kd := PySem.strKind P w) (s := { s' with toks := s'.toks + 1 }) (strKind_is _ _ _ _) rfl hS' (by omega) fun h' sb hS2 => ?_
    have tk1 : xs.take (i + 1) = xs.take i ++ [x] := by rw [List.take_succ, hx]; rfl
    refine wpAny_pure ⟨plainId_quiet F.plain_set_update_loop _, ih (i + 1) _ (by omega) lt (W.frame _ s' _ _ st' (Nat.le_succ _) fun b z o e => ?_) ⟨_, _, hS2, ?_, fun k => ?_⟩ fun s2 S2 m2 mv2 h2 l2 k2 => hR s2 S2 m2 ?_ h2 l2 k2⟩
    · rw [sb.2 b (fun q => hC (q ▸ z))]; exact e
    · split <;> omega
    · rw [tk1, Bool.or_eq_true, hk k, List.mem_append, List.mem_singleton, decide_eq_true_eq]
    · refine Moved.trans W.gtrans ((mv.mono wide).then_heap (Nat.le_succ _) fun b o z e => ?_) mv2
      rw [sb.2 b (fun q => z (q ▸ List.mem_cons_self))]; exact e

set_option maxHeartbeats 4000000 in
theorem set_of_strs {s : Shared} {l : Addr} {items : Array Value} {xs : List Str} {Q : Value → Shared → Prop} (hh : A.handled = none) (hl : s.heap.IsList l items) (hi : StrsAre items.toList xs) (hb : xs.length + 1 < scanBound)
    (hQ : ∀ (h' : Heap) (tk : Nat) S m, SetAtG (PySem.strKind P w) h' s.heap.objs.size S m → m ≤ xs.length → (∀ k, S k = true ↔ k ∈ xs) → (∀ b o, s.heap.get? b = some o → h'.get? b = some o) → Q (.ref s.heap.objs.size) { s with heap := h', toks := tk }) :
    wpAny (model P w) A (call (.type "set") [.ref l]) Q E s := by
  have isz : items.size = xs.length := by rw [← StrsAre.len_eq hi, Array.length_toList]
  obtain ⟨c, tl, hmro⟩ := F.called_set.mro
  have hmade := F.called_set.made
  have hsub := F.called_set.sub
  refine wpAny_call (codeAny_of_tree ?_)
  show wpAny _ _ (callAny (.type "set") _) _ _ _
  refine wpAny_pure ⟨Code.quiet_builtin _ (by decide +kernel), codeAny_builtin F.entry_type_call ?_⟩
  rw [Around.under_plain (weight_type_call_type "set" [.ref l] []) rfl]
  have h1 := F.called_set.notType
  have h2 := F.called_set.canCreate
  have hct := F.typeCall_set_1 (.ref l)
  repeat (any_goals (first | assumption | wp_step))
  refine codeAny_mono (code_set_led1 (.ref l) (E := E) (Q₁ := fun obj s₁ => obj = .ref s.heap.objs.size ∧ s₁ = { s with heap := s.heap.push ({ cls := .type "set", dict := none, data := .set #[] 0 (.fresh 0 0 (!w.params.followText "set-order")) } : Obj) }) ⟨rfl, rfl⟩) fun r s₁ hr => ?_
  cases r with
  | error e => exact hr
  | ok fl =>
    cases fl with
    | ret obj =>
      obtain ⟨rfl, rfl⟩ := hr
      have hS : (s.heap.push ({ cls := .type "set", dict := none, data := .set #[] 0 (.fresh 0 0 (!w.params.followText "set-order")) } : Obj)).get? s.heap.objs.size = some ({ cls := .type "set", dict := none, data := .set #[] 0 (.fresh 0 0 (!w.params.followText "set-order")) } : Obj) := Heap.get?_push_size _ rfl
      have hT : Shared.TypeIs { s with heap := s.heap.push ({ cls := .type "set", dict := none, data := .set #[] 0 (.fresh 0 0 (!w.params.followText "set-order")) } : Obj) } (.ref s.heap.objs.size) "set" := ⟨_, hS, rfl⟩
      have hli := F.called_set.init.lookup
      have hbi := F.called_set.init.bind (.ref s.heap.objs.size)
      repeat (any_goals (first | assumption | wp_step))
      refine codeAny_mono (codeAny_call_builtin (R := wants (fun r s₂ => r = .none ∧ ∃ h' tk S m, s₂ = { s with heap := h', toks := tk } ∧ SetAtG (PySem.strKind P w) h' s.heap.objs.size S m ∧ m ≤ xs.length ∧ (∀ k, S k = true ↔ k ∈ xs) ∧
          (∀ b o, s.heap.get? b = some o → h'.get? b = some o)) E) F.called_set.init.plain F.entry_set_init (check_set_init_1 hT ?_)) fun r₂ s₂ hr₂ => ?_
      · obtain ⟨ol, hol, hcl, nl, hdl⟩ := hl
        obtain ⟨ocls, odict, odata, oslots⟩ := ol
        simp only at hcl hdl
        subst hcl; subst hdl
        have hol1 : (s.heap.push ({ cls := .type "set", dict := none, data := .set #[] 0 (.fresh 0 0 (!w.params.followText "set-order")) } : Obj)).get? l = some { cls := .type "list", dict := odict, data := .seq items nl, slots := oslots } := Heap.get?_push_of_some _ hol
        have hsls := F.sub_list_set
        have hslf := F.sub_list_frozenset
        have hne : (Value.type "list" == Value.type "dict") = false := by decide
        have hl1 : (s.heap.push ({ cls := .type "set", dict := none, data := .set #[] 0 (.fresh 0 0 (!w.params.followText "set-order")) } : Obj)).IsList l items := ⟨_, hol1, rfl, nl, rfl⟩
        unfold Builtin.«set.__init__» noKeywords Builtin.Frozenset.updateFrom
        generalize hPI : pyIter = PI
        wp_walk
        subst hPI
        refine wpAny_pyIter_list hl1 ?_
        refine wpAny_bind (wpAny_runValue ?_)
        have llt : l < s.heap.objs.size := Heap.lt_size hol
        have hh3 : A.in1.in1.in1.handled = none := by simp [hh]
        have z1 : (s.heap.push ({ cls := .type "set", dict := none, data := .set #[] 0 (.fresh 0 0 (!w.params.followText "set-order")) } : Obj)).objs.size = s.heap.objs.size + 1 := Heap.size_push ..
        have ne1 : l ≠ (s.heap.push ({ cls := .type "set", dict := none, data := .set #[] 0 (.fresh 0 0 (!w.params.followText "set-order")) } : Obj)).objs.size := by rw [z1]; exact Nat.ne_of_lt (Nat.lt_succ_of_lt llt)
        have hnf : s.heap.objs.size ∉ [(s.heap.push ({ cls := .type "set", dict := none, data := .set #[] 0 (.fresh 0 0 (!w.params.followText "set-order")) } : Obj)).objs.size, l] := by
          rw [z1]; intro z
          rcases List.mem_cons.mp z with z | z
          · exact Nat.ne_of_lt (Nat.lt_succ_self _) z
          · exact Nat.ne_of_gt llt (List.mem_singleton.mp z)
        have hval : ∀ (i : Nat) (v : Value), items[i]? = some v → ∃ x t, xs[i]? = some x ∧ v = .str x t := fun i v q => by
          have q2 : items.toList[i]? = some v := by rw [Array.getElem?_toList]; exact q
          obtain ⟨t, e⟩ := SS.strs_at hi i v q2
          have il : i < xs.length := by rw [← isz, ← Array.length_toList]; exact (List.getElem?_eq_some_iff.mp q2).1
          refine ⟨_, t, ?_, e⟩
          rw [List.getD_eq_getElem?_getD, List.getElem?_eq_getElem il]; rfl
        refine upd_loop ((Walks.list hh3 _ l ne1 items).toS) s.heap.objs.size hnf xs isz hb hval (items.size - 0) 0 _ (by omega) (Nat.zero_le _)
          ⟨⟨_, Heap.get?_push_size _ rfl, rfl, rfl⟩, (hl1.push _)⟩ ⟨_, 0, SetAtG.fresh (kd := PySem.strKind P w) (Heap.get?_push_of_some _ hS), Nat.le_refl _, fun k => (by simp)⟩ fun s' S m mv hS' hm hk => ?_
        obtain ⟨h', g2, d', tk', os'⟩ := s'
        have eg : g2 = s.gens := mv.gens
        have ed : d' = s.drawn := mv.drawn
        have eo : os' = s.os := mv.os
        subst eg; subst ed; subst eo
        show wpAny _ _ _ _ _ _
        refine wpAny_pure ?_
        show wpAny _ _ (ret Value.none) _ _ _
        refine wpAny_pure ⟨rfl, h', tk', S, m, rfl, hS', by rw [← isz]; exact hm, hk, fun b o e => mv.heap b o (fun z => ?_) (Heap.get?_push_of_some _ (Heap.get?_push_of_some _ e))⟩
        have lb := Heap.lt_size e
        rcases List.mem_cons.mp z with z | z
        · exact Nat.ne_of_lt lb z
        · exact Nat.ne_of_lt (Nat.lt_succ_of_lt lb) ((List.mem_singleton.mp z).trans z1)
      · cases r₂ with
        | error e => exact hr₂
        | ok fl₂ =>
          cases fl₂ with
          | ret r =>
            obtain ⟨rfl, h', tk, S, m, rfl, hS', hm, hk, kp⟩ := hr₂
            repeat (any_goals (first | assumption | wp_step))
            exact hQ _ _ _ _ hS' hm hk kp
          | _ => exact hr₂.elim
    | _ => exact hr.elim
end
end Ag

set_option Elab.async false
set_option linter.all false
set_option maxRecDepth 100000
set_option maxHeartbeats 4000000
namespace Ag
open PySem PySem.Spec PyProof.Rows L2
section
variable {P : Program} {w : World} {A : Around} {E : Value → Shared → Prop} {s : Shared}

theorem strs_pick : ∀ (l : List (Int × Value)), ElemsOf (PySem.strKind P w) l → ∃ xs : List Str, StrsAre (l.map (·.2)) xs ∧ ∀ k, k ∈ xs ↔ ∃ e ∈ l, (PySem.strKind P w).is k e.2 = true
  | [], _ => ⟨[], .nil, fun k => by simp⟩
  | e :: l, h => by
    obtain ⟨xs, r, m⟩ := strs_pick l h.tail
    obtain ⟨⟨k, hk, _⟩, _⟩ := h.head
    obtain ⟨t, q⟩ := Value.isStrOf_shape (x := k) (v := e.2) hk
    refine ⟨k :: xs, ?_, fun j => ?_⟩
    · show StrsAre (e.2 :: l.map (·.2)) _
      rw [q]; exact .cons k t r
    · rw [List.mem_cons, m j]
      constructor
      · rintro (rfl | ⟨f, hf, z⟩)
        · exact ⟨e, List.mem_cons_self, hk⟩
        · exact ⟨f, List.mem_cons_of_mem _ hf, z⟩
      · rintro ⟨f, hf, z⟩
        rcases List.mem_cons.mp hf with rfl | hf
        · exact .inl ((PySem.strKind P w).inj _ _ _ z hk)
        · exact .inr ⟨f, hf, z⟩

theorem strs_of_perm : ∀ {us vs : List Value} {xs : List Str}, us.Perm vs → StrsAre vs xs → ∃ ys : List Str, StrsAre us ys ∧ ys.Perm xs := by
  intro us vs xs p
  induction p generalizing xs with
  | nil => intro h; cases h; exact ⟨[], .nil, .nil⟩
  | cons v _ ih =>
    intro h
    cases h with
    | cons x t r =>
      obtain ⟨ys, a, b⟩ := ih r
      exact ⟨x :: ys, .cons x t a, b.cons x⟩
  | swap v u l =>
    intro h
    cases h with
    | cons x t r =>
      cases r with
      | cons y t' r' => exact ⟨y :: x :: _, .cons y t' (.cons x t r'), .swap x y _⟩
  | trans _ _ ih1 ih2 =>
    intro h
    obtain ⟨ys, a, b⟩ := ih2 h
    obtain ⟨zs, c, d⟩ := ih1 a
    exact ⟨zs, c, d.trans b⟩

theorem strsAre_inj : ∀ {us : List Value} {xs ys : List Str}, StrsAre us xs → StrsAre us ys → xs = ys
  | _, _, _, .nil, h => by cases h; rfl
  | _, _, _, .cons x t r, h => by
    cases h with
    | cons y t' r' => rw [strsAre_inj r r']

theorem strs_nodup : ∀ {l : List (Int × Value)} {xs : List Str}, StrsAre (l.map (·.2)) xs → l.Pairwise (Apart (PySem.strKind P w)) → ElemsOf (PySem.strKind P w) l → xs.Nodup
  | [], _, .nil, _, _ => List.nodup_nil
  | e :: l, _, h, nd, el => by
    obtain ⟨v, hv⟩ : ∃ v, e.2 = v := ⟨_, rfl⟩
    rw [List.map_cons, hv] at h
    cases h with
    | cons x t r =>
      obtain ⟨n1, n2⟩ := List.pairwise_cons.mp nd
      refine List.nodup_cons.mpr ⟨fun hx => ?_, strs_nodup r n2 el.tail⟩
      obtain ⟨ys, r', m⟩ := strs_pick (P := P) (w := w) l el.tail
      have same : ys = _ := strsAre_inj r' r
      subst same
      obtain ⟨f, hf, z⟩ := (m x).mp hx
      have := n1 f hf x (by rw [hv]; exact strKind_is _ _ _ _)
      rw [z] at this; cases this

theorem sorted_of_strset {a : Addr} {S : Str → Bool} {m : Nat} {Q : Value → Shared → Prop} (R : SetAtG (PySem.strKind P w) s.heap a S m) (hh : A.handled = none)
    (hQ : ∀ s' p (out : Array Value) (c : Nat) (ys : List Str), (∀ b o, s.heap.get? b = some o → s'.heap.get? b = some o) → s'.gens = s.gens → s'.os = s.os → s.heap.objs.size ≤ p →
      s'.heap.get? p = some (seqObj "list" out c) → StrsAre out.toList ys → sortedS ys = true → ys.Nodup → (∀ k, k ∈ ys ↔ S k = true) → ys.length = m → Q (.ref p) s') :
    wpAny (model P w) A (call (.builtin "sorted") [.ref a]) Q E s := by
  obtain ⟨o, es, ep, t, R⟩ := R
  obtain ⟨xs, hxs, mx⟩ := strs_pick (P := P) (w := w) es.toList R.els
  have nx := strs_nodup hxs R.nd R.els
  refine Calls.call_function_entry kind_sorted plain_sorted entry_sorted (args_sorted1 _) ?_
  unfold Builtin.«sorted»
  refine wpAny_bind (m := checkCount "sorted" 1 1 _) (wpAny_pure ?_)
  refine wpAny_bind (collect_set (A := A.in1) hh ⟨o, R.at_, R.ex.1, R.dat⟩ R.fit R.room R.ris R.led fun s1 vs k1 hz g1 o1 pm => ?_)
  have vl : vs.length = m := by rw [pm.length_eq, List.length_map, Array.length_toList]; exact R.num
  obtain ⟨zs, hzs, pz⟩ := strs_of_perm pm hxs
  have mb : m < scanBound := R.num ▸ R.room
  have small : vs.length ≤ sizeLine := by rw [vl]; exact fits_of_scanBound mb
  refine wpAny_bind (wpAny_newList ?_ small)
  have hoL : (s1.heap.push (seqObj "list" vs.toArray 0)).get? s1.heap.objs.size = some (seqObj "list" vs.toArray 0) := Heap.get?_push_size _ rfl
  refine wpAny_bind (wpAny_holding (wpAny_call_entry slot_list_sort ⟨_, hoL, rfl⟩ entry_list_sort (list_sort_treeKAny strKind_oneLt hoL hzs.keysOf (fun v₁ v₂ rest e => keyKind_strs (by rw [← e]; exact hzs)) small fun st' hp hs => ⟨_, rfl, ?_⟩) (args_list_sort _)))
  obtain ⟨ys, a1, a2, a3⟩ := sorted_out_str hzs hp hs
  obtain ⟨c, hc⟩ := sortedHeap_at (vs := vs) (out := (arrOf st').map (·.2)) hoL
  have py : ys.Perm xs := a2.trans pz
  refine wpAny_pure ⟨_, rfl, hQ _ s1.heap.objs.size _ c ys (fun b u e => ?_) g1 o1 hz hc a1 a3 (py.nodup_iff.mpr nx) (fun k => by rw [py.mem_iff, mx k, ← R.mem k]) ?_⟩
  · have q := k1 b u e
    have lt := Heap.lt_size q
    show (sortedHeap (s1.heap.push (seqObj "list" vs.toArray 0)) s1.heap.objs.size vs _).get? b = some u
    rw [sortedHeap_old (Nat.ne_of_lt lt) (by rw [size_push']; exact Nat.lt_succ_of_lt lt)]
    exact Heap.get?_push_of_some _ q
  · have h1 := StrsAre.len_eq hzs
    rw [a2.length_eq, ← h1, vl]
end

/-! ### over the layer -/
/-- the set of the texts xs, at a -/
def StrSet (P : Program) (w : World) (a : Addr) (xs : List Str) : HO := .ext fun h => ∃ S m, SetAtG (PySem.strKind P w) h a S m ∧ m ≤ xs.length ∧ ∀ k, S k = true ↔ k ∈ xs
def rSetS (K : PySem.W.Frag) (P : Program) (w : World) : List V → Hp → VK → Prop := fun vs H Q => ∃ (a : Addr) (xs : List Str), vs = [V.ref a] ∧ (SqL K H a (xs.map V.str)) ∧ xs.length < 4000 ∧
  ∀ p, H p = none → Q (.ref p) (upd H p (StrSet P w p xs))
def rSortSetS (P : Program) (w : World) : List V → Hp → VK → Prop := fun vs H Q => ∃ (a : Addr) (xs : List Str), vs = [V.ref a] ∧ H a = some (StrSet P w a xs) ∧
  ∀ ys p, sortedS ys = true → ys.Nodup → (∀ k, k ∈ ys ↔ k ∈ xs) → H p = none → Q (.ref p) (upd H p (.lst (ys.map V.str)))
theorem cr_setS {X : Cx} (hc : X.calm = true) : CallR X (.type "set") (rSetS X.K X.prog X.w) := by
  intro pins s σ H vs us Q I r h
  obtain ⟨a, xs, rfl, hs, hb, q⟩ := h
  obtain ⟨its, rv, hl, _⟩ := I.list hs
  rw [Vals.ref1 r]
  have hn : H s.heap.objs.size = none := I.hok.fresh (Nat.le_refl _)
  refine set_of_strs (P := X.prog) (w := X.w) (I.ok.hd hc) hl.isList rv.strs (by unfold scanBound; omega) fun h' tk S m hS hm hk kp => ?_
  refine ⟨.ref s.heap.objs.size, upd H s.heap.objs.size (StrSet X.prog X.w s.heap.objs.size xs), I.laid (t' := tk) kp (Nat.le_refl _) ?_, rfl, q _ hn⟩
  refine ⟨⟨S, m, hS, hm, hk⟩, ?_, ?_⟩
  · obtain ⟨o, es, ep, t, R⟩ := hS
    exact ⟨o, R.at_⟩
  · rintro h1 h2 ⟨S, m, hS, hm, hk⟩ e
    exact ⟨S, m, hS.keep e, hm, hk⟩
theorem cr_sortSetS {X : Cx} (hc : X.calm = true) : CallR X (.builtin "sorted") (rSortSetS X.prog X.w) := by
  intro pins s σ H vs us Q I r h
  obtain ⟨a, xs, rfl, ha, q⟩ := h
  obtain ⟨⟨S, m, hS, hm, hk⟩, _⟩ := I.hok a _ ha
  rw [Vals.ref1 r]
  refine sorted_of_strset hS (I.ok.hd hc) fun s' p out c ys kp g o hp hg hout srt nd mem hlen => ?_
  have hn : H p = none := I.hok.fresh hp
  have mb : m < scanBound := by
    obtain ⟨o, es, ep, t, R⟩ := hS
    exact R.num ▸ R.room
  have small : (ys.map V.str).length ≤ sizeLine := by rw [List.length_map, hlen]; exact fits_of_scanBound mb
  have J : Inv X pins σ (upd H p (.lst (ys.map V.str))) { s with heap := s'.heap, gens := s'.gens, drawn := s'.drawn, toks := s'.toks } :=
    I.call (ch := []) (Un.laid kp hp hn) (I.hok.laid kp hp ⟨small, out.toList, c, vals_of_strs hout, hg⟩) (by rw [g]; exact I.bare) (fun _ z => nomatch z)
  have e : s' = { s with heap := s'.heap, gens := s'.gens, drawn := s'.drawn, toks := s'.toks } := by
    cases s'; cases s; cases o; rfl
  rw [e]
  exact ⟨.ref p, _, J, rfl, q ys p srt nd (fun k => (mem k).trans (hk k)) hn⟩
end Ag

set_option Elab.async false
set_option linter.all false
set_option maxRecDepth 100000
set_option maxHeartbeats 1000000
/-! Data: what a reading of an expression over plain values gives, with the heap only growing. -/
namespace Ag
open PySem PySem.Spec PyProof.Rows L2

/-! ### heaps that keep -/
theorem _root_.L2.Same.newA {H : Hp} {p : Addr} {o : HO} (h : H p = none) : Same H (upd H p o) := fun a u e => by
  rw [upd_ne (ne_of_none e h)]; exact e
theorem _root_.L2.Same.rdA {H H' : Hp} {a : Addr} {u : HO} (e : Same H H') (h : Rd H a u) : Rd H' a u :=
  h.elim (fun z => .inl (e _ _ z)) fun ⟨o, z⟩ => .inr ⟨o, e _ _ z⟩
theorem _root_.L2.Same.slA {K : PySem.W.Frag} {H H' : Hp} {a : Addr} {xs : List V} (e : Same H H') (h : SqL K H a xs) : SqL K H' a xs := h.imp e.rdA id
theorem _root_.L2.Same.stA {K : PySem.W.Frag} {H H' : Hp} {a : Addr} {xs : List V} (e : Same H H') (h : SqT K H a xs) : SqT K H' a xs := h.imp e.rdA id
theorem _root_.L2.Same.freshA {H H' : Hp} {p : Addr} (e : Same H H') (h : H' p = none) : H p = none := e.free h

/-! ### plain data -/
mutual
theorem dp_mono {K : PySem.W.Frag} {H H' : Hp} (e : Same H H') : ∀ {v : V} {d : PyData}, Dp K H v d → Dp K H' v d
  | _, _, .non => .non
  | _, _, .bl b => .bl b
  | _, _, .int i => .int i
  | _, _, .str x => .str x
  | _, _, .lst h r => .lst (e.slA h) (dps_mono e r)
  | _, _, .tup h r => .tup (e.stA h) (dps_mono e r)
theorem dps_mono {K : PySem.W.Frag} {H H' : Hp} (e : Same H H') : ∀ {vs : List V} {ds : List PyData}, DpAll K H vs ds → DpAll K H' vs ds
  | _, _, .nil => .nil
  | _, _, .cons h r => .cons (dp_mono e h) (dps_mono e r)
end
theorem dps_len {K : PySem.W.Frag} {H : Hp} : ∀ {vs : List V} {ds : List PyData}, DpAll K H vs ds → vs.length = ds.length
  | _, _, .nil => rfl
  | _, _, .cons _ r => by rw [List.length_cons, List.length_cons, dps_len r]
theorem dps_get {K : PySem.W.Frag} {H : Hp} : ∀ {vs : List V} {ds : List PyData} {i : Nat} {d : PyData}, DpAll K H vs ds → ds[i]? = some d → ∃ v, vs[i]? = some v ∧ Dp K H v d
  | _, _, _, _, .nil, h => by simp at h
  | _, _, 0, _, .cons a r, h => by simp at h; subst h; exact ⟨_, rfl, a⟩
  | _, _, i + 1, _, .cons a r, h => by
    obtain ⟨v, e, q⟩ := dps_get (i := i) r (by simpa using h)
    exact ⟨v, by simpa using e, q⟩
theorem dps_get' {K : PySem.W.Frag} {H : Hp} : ∀ {vs : List V} {ds : List PyData} {i : Nat} {v : V}, DpAll K H vs ds → vs[i]? = some v → ∃ d, ds[i]? = some d ∧ Dp K H v d
  | _, _, _, _, .nil, h => by simp at h
  | _, _, 0, _, .cons a r, h => by simp at h; subst h; exact ⟨_, rfl, a⟩
  | _, _, i + 1, _, .cons a r, h => by
    obtain ⟨v, e, q⟩ := dps_get' (i := i) r (by simpa using h)
    exact ⟨v, by simpa using e, q⟩
theorem dps_app {K : PySem.W.Frag} {H : Hp} : ∀ {vs us : List V} {ds es : List PyData}, DpAll K H vs ds → DpAll K H us es → DpAll K H (vs ++ us) (ds ++ es)
  | _, _, _, _, .nil, q => q
  | _, _, _, _, .cons a r, q => .cons a (dps_app r q)
theorem dps_take {K : PySem.W.Frag} {H : Hp} : ∀ {vs : List V} {ds : List PyData} (n : Nat), DpAll K H vs ds → DpAll K H (vs.take n) (ds.take n)
  | _, _, 0, _ => .nil
  | _, _, _ + 1, .nil => .nil
  | _, _, n + 1, .cons a r => .cons a (dps_take n r)
theorem dps_drop {K : PySem.W.Frag} {H : Hp} : ∀ {vs : List V} {ds : List PyData} (n : Nat), DpAll K H vs ds → DpAll K H (vs.drop n) (ds.drop n)
  | _, _, 0, h => h
  | _, _, _ + 1, .nil => .nil
  | _, _, n + 1, .cons _ r => dps_drop n r
theorem dps_strs {K : PySem.W.Frag} {H : Hp} : ∀ (xs : List Str), DpAll K H (xs.map V.str) (xs.map .str)
  | [] => .nil
  | x :: xs => .cons (.str x) (dps_strs xs)
theorem strs_dps {K : PySem.W.Frag} {H : Hp} : ∀ {xs : List Str} {vs : List V}, DpAll K H vs (xs.map .str) → vs = xs.map V.str
  | [], _, h => by cases h; rfl
  | x :: xs, _, h => by
    cases h with
    | cons a r => cases a; rw [strs_dps r]; rfl
theorem ints_dps {K : PySem.W.Frag} {H : Hp} : ∀ {xs : List Int} {vs : List V}, DpAll K H vs (xs.map .int) → vs = xs.map V.int
  | [], _, h => by cases h; rfl
  | x :: xs, _, h => by
    cases h with
    | cons a r => cases a; rw [ints_dps r]; rfl
theorem bls_dps {K : PySem.W.Frag} {H : Hp} : ∀ {xs : List Bool} {vs : List V}, DpAll K H vs (xs.map .bool) → vs = xs.map V.bl
  | [], _, h => by cases h; rfl
  | x :: xs, _, h => by
    cases h with
    | cons a r => cases a; rw [bls_dps r]; rfl


/-! ### data whose lists stand where F allows -/
def KL (K : PySem.W.Frag) (a : Addr) (xs : List V) : Prop := ∃ (o : Obj) (its : Array Value) (n : Nat), K.lookup a = some o ∧ o.cls = .type "list" ∧ o.dict = none ∧ o.data = .seq its n ∧ its.size ≤ sizeLine ∧ Vals xs its.toList
mutual
inductive Df (K : PySem.W.Frag) (F : Addr → Prop) (H : Hp) : V → PyData → Prop
  | non : Df K F H .non .none
  | bl (b : Bool) : Df K F H (.bl b) (.bool b)
  | int (i : Int) : Df K F H (.int i) (.int i)
  | str (x : Str) : Df K F H (.str x) (.str x)
  | lst {a : Addr} {xs : List V} {ds : List PyData} : (Rd H a (.lst xs) ∧ F a) ∨ KL K a xs → DfAll K F H xs ds → Df K F H (.ref a) (.list ds)
  | tup {a : Addr} {xs : List V} {ds : List PyData} : SqT K H a xs → DfAll K F H xs ds → Df K F H (.ref a) (.tuple ds)
inductive DfAll (K : PySem.W.Frag) (F : Addr → Prop) (H : Hp) : List V → List PyData → Prop
  | nil : DfAll K F H [] []
  | cons {v : V} {vs : List V} {d : PyData} {ds : List PyData} : Df K F H v d → DfAll K F H vs ds → DfAll K F H (v :: vs) (d :: ds)
end
section
variable {K : PySem.W.Frag} {F G : Addr → Prop} {H H' : Hp}
mutual
theorem df_dp : ∀ {v : V} {d : PyData}, Df K F H v d → Dp K H v d
  | _, _, .non => .non
  | _, _, .bl b => .bl b
  | _, _, .int i => .int i
  | _, _, .str x => .str x
  | _, _, .lst h r => .lst (h.imp (fun z => z.1) id) (dfs_dps r)
  | _, _, .tup h r => .tup h (dfs_dps r)
theorem dfs_dps : ∀ {vs : List V} {ds : List PyData}, DfAll K F H vs ds → DpAll K H vs ds
  | _, _, .nil => .nil
  | _, _, .cons h r => .cons (df_dp h) (dfs_dps r)
end
mutual
theorem dp_df : ∀ {v : V} {d : PyData}, Dp K H v d → Df K (fun a => H a ≠ none) H v d
  | _, _, .non => .non
  | _, _, .bl b => .bl b
  | _, _, .int i => .int i
  | _, _, .str x => .str x
  | _, _, .lst h r => .lst (h.imp (fun z => ⟨z, by rcases z with z | ⟨o, z⟩ <;> (rw [z]; exact fun q => nomatch q)⟩) id) (dps_dfs r)
  | _, _, .tup h r => .tup h (dps_dfs r)
theorem dps_dfs : ∀ {vs : List V} {ds : List PyData}, DpAll K H vs ds → DfAll K (fun a => H a ≠ none) H vs ds
  | _, _, .nil => .nil
  | _, _, .cons h r => .cons (dp_df h) (dps_dfs r)
end
mutual
theorem df_mono (e : Same H H') (f : ∀ a, F a → G a) : ∀ {v : V} {d : PyData}, Df K F H v d → Df K G H' v d
  | _, _, .non => .non
  | _, _, .bl b => .bl b
  | _, _, .int i => .int i
  | _, _, .str x => .str x
  | _, _, .lst h r => .lst (h.imp (fun z => ⟨e.rdA z.1, f _ z.2⟩) id) (dfs_mono e f r)
  | _, _, .tup h r => .tup (e.stA h) (dfs_mono e f r)
theorem dfs_mono (e : Same H H') (f : ∀ a, F a → G a) : ∀ {vs : List V} {ds : List PyData}, DfAll K F H vs ds → DfAll K G H' vs ds
  | _, _, .nil => .nil
  | _, _, .cons h r => .cons (df_mono e f h) (dfs_mono e f r)
end
theorem rd_other {a D : Addr} {u o : HO} (h : Rd H a u) (n : a ≠ D) : Rd (upd H D o) a u := by
  rcases h with h | ⟨x, h⟩
  · exact .inl (by rw [upd_ne n]; exact h)
  · exact .inr ⟨x, by rw [upd_ne n]; exact h⟩
mutual
/-- a list that the data does not hold is changed -/
theorem df_upd {D : Addr} {ys : List V} {o : HO} (hD : H D = some (.lst ys)) (nf : ¬ F D) : ∀ {v : V} {d : PyData}, Df K F H v d → Df K F (upd H D o) v d
  | _, _, .non => .non
  | _, _, .bl b => .bl b
  | _, _, .int i => .int i
  | _, _, .str x => .str x
  | _, _, .lst h r => .lst (h.imp (fun z => ⟨rd_other z.1 (fun q => nf (q ▸ z.2)), z.2⟩) id) (dfs_upd hD nf r)
  | _, _, .tup h r => .tup (h.imp (fun z => rd_other z (fun q => by
      subst q
      rcases z with z | ⟨x, z⟩ <;> (rw [hD] at z; cases z))) id) (dfs_upd hD nf r)
theorem dfs_upd {D : Addr} {ys : List V} {o : HO} (hD : H D = some (.lst ys)) (nf : ¬ F D) : ∀ {vs : List V} {ds : List PyData}, DfAll K F H vs ds → DfAll K F (upd H D o) vs ds
  | _, _, .nil => .nil
  | _, _, .cons h r => .cons (df_upd hD nf h) (dfs_upd hD nf r)
end
theorem dfs_len : ∀ {vs : List V} {ds : List PyData}, DfAll K F H vs ds → vs.length = ds.length
  | _, _, .nil => rfl
  | _, _, .cons _ r => by rw [List.length_cons, List.length_cons, dfs_len r]
theorem dfs_get : ∀ {vs : List V} {ds : List PyData} {i : Nat} {d : PyData}, DfAll K F H vs ds → ds[i]? = some d → ∃ v, vs[i]? = some v ∧ Df K F H v d
  | _, _, _, _, .nil, h => by simp at h
  | _, _, 0, _, .cons a r, h => by simp at h; subst h; exact ⟨_, rfl, a⟩
  | _, _, i + 1, _, .cons a r, h => by
    obtain ⟨v, e, q⟩ := dfs_get (i := i) r (by simpa using h)
    exact ⟨v, by simpa using e, q⟩
theorem dfs_get' : ∀ {vs : List V} {ds : List PyData} {i : Nat} {v : V}, DfAll K F H vs ds → vs[i]? = some v → ∃ d, ds[i]? = some d ∧ Df K F H v d
  | _, _, _, _, .nil, h => by simp at h
  | _, _, 0, _, .cons a r, h => by simp at h; subst h; exact ⟨_, rfl, a⟩
  | _, _, i + 1, _, .cons a r, h => by
    obtain ⟨d, e, q⟩ := dfs_get' (i := i) r (by simpa using h)
    exact ⟨d, by simpa using e, q⟩
theorem dfs_app : ∀ {vs us : List V} {ds es : List PyData}, DfAll K F H vs ds → DfAll K F H us es → DfAll K F H (vs ++ us) (ds ++ es)
  | _, _, _, _, .nil, q => q
  | _, _, _, _, .cons a r, q => .cons a (dfs_app r q)
theorem dfs_take : ∀ {vs : List V} {ds : List PyData} (n : Nat), DfAll K F H vs ds → DfAll K F H (vs.take n) (ds.take n)
  | _, _, 0, _ => .nil
  | _, _, _ + 1, .nil => .nil
  | _, _, n + 1, .cons a r => .cons a (dfs_take n r)
theorem dfs_drop : ∀ {vs : List V} {ds : List PyData} (n : Nat), DfAll K F H vs ds → DfAll K F H (vs.drop n) (ds.drop n)
  | _, _, 0, h => h
  | _, _, _ + 1, .nil => .nil
  | _, _, n + 1, .cons _ r => dfs_drop n r
theorem dfs_strs : ∀ (xs : List Str), DfAll K F H (xs.map V.str) (xs.map .str)
  | [] => .nil
  | x :: xs => .cons (.str x) (dfs_strs xs)
end
/-- what F allows, or is younger than H1 -/
def Fr (F : Addr → Prop) (H1 : Hp) : Addr → Prop := fun a => F a ∨ H1 a = none
theorem Fr.to {F : Addr → Prop} {H1 H2 : Hp} (s : Same H1 H2) : ∀ a, Fr F H2 a → Fr F H1 a := fun a z => z.imp id fun q => s.freshA q
theorem Fr.base {F : Addr → Prop} {H1 : Hp} : ∀ a, F a → Fr F H1 a := fun a z => .inl z
/-- what stands -/
def nn (H : Hp) : Addr → Prop := fun a => H a ≠ none
/-- all but lists that F does not allow are kept -/
def isLst : HO → Bool | .lst _ => true | _ => false
def SameF (F : Addr → Prop) (H H' : Hp) : Prop := ∀ a u, H a = some u → (F a ∨ isLst u = false) → H' a = some u
theorem SameF.refl {F : Addr → Prop} {H : Hp} : SameF F H H := fun _ _ h _ => h
theorem SameF.trans {F : Addr → Prop} {H H1 H2 : Hp} (a : SameF F H H1) (b : SameF F H1 H2) : SameF F H H2 := fun x u h z => b x u (a x u h z) z
theorem SameF.sub {F G : Addr → Prop} {H H1 : Hp} (a : SameF F H H1) (f : ∀ x, G x → F x) : SameF G H H1 := fun x u h z => a x u h (z.imp (f x) id)
theorem _root_.L2.Same.F {F : Addr → Prop} {H H1 : Hp} (a : Same H H1) : SameF F H H1 := fun x u h _ => a x u h
theorem SameF.upd {F : Addr → Prop} {H : Hp} {D : Addr} {ys : List V} {o : HO} (hD : H D = some (.lst ys)) (nf : ¬ F D) : SameF F H (upd H D o) := fun x u h z => by
  rw [upd_ne (fun q => ?_)]
  · exact h
  · subst q
    rw [hD] at h; cases h
    exact z.elim nf (fun q => nomatch q)
theorem rd_lstF {F : Addr → Prop} {H H1 : Hp} {a : Addr} {xs : List V} (s : SameF F H H1) (h : Rd H a (.lst xs)) (f : F a) : Rd H1 a (.lst xs) := h.elim (fun z => .inl (s _ _ z (.inl f))) fun ⟨o, z⟩ => .inr ⟨o, s _ _ z (.inl f)⟩
theorem sqt_F {K : PySem.W.Frag} {F : Addr → Prop} {H H1 : Hp} {a : Addr} {xs : List V} (s : SameF F H H1) (h : SqT K H a xs) : SqT K H1 a xs := h.imp (fun z => z.elim (fun z => .inl (s _ _ z (.inr rfl))) fun ⟨o, z⟩ => .inr ⟨o, s _ _ z (.inr rfl)⟩) id
mutual
theorem df_monoF {K : PySem.W.Frag} {F : Addr → Prop} {H H1 : Hp} (s : SameF F H H1) : ∀ {v : V} {d : PyData}, Df K F H v d → Df K F H1 v d
  | _, _, .non => .non
  | _, _, .bl b => .bl b
  | _, _, .int i => .int i
  | _, _, .str x => .str x
  | _, _, .lst h r => .lst (h.imp (fun z => ⟨rd_lstF s z.1 z.2, z.2⟩) id) (dfs_monoF s r)
  | _, _, .tup h r => .tup (sqt_F s h) (dfs_monoF s r)
theorem dfs_monoF {K : PySem.W.Frag} {F : Addr → Prop} {H H1 : Hp} (s : SameF F H H1) : ∀ {vs : List V} {ds : List PyData}, DfAll K F H vs ds → DfAll K F H1 vs ds
  | _, _, .nil => .nil
  | _, _, .cons h r => .cons (df_monoF s h) (dfs_monoF s r)
end
/-- a later heap, whose lists allow what stood -/
structure Ext (F : Addr → Prop) (H : Hp) (F2 : Addr → Prop) (H2 : Hp) : Prop where
  same : SameF F H H2
  ok : ∀ a, F a → H a ≠ none → F2 a
theorem Ext.refl {F : Addr → Prop} {H : Hp} : Ext F H F H := ⟨SameF.refl, fun _ h _ => h⟩
mutual
theorem df_in {K : PySem.W.Frag} {F : Addr → Prop} {H : Hp} : ∀ {v : V} {d : PyData}, Df K F H v d → Df K (fun a => F a ∧ H a ≠ none) H v d
  | _, _, .non => .non
  | _, _, .bl b => .bl b
  | _, _, .int i => .int i
  | _, _, .str x => .str x
  | _, _, .lst h r => .lst (h.imp (fun z => ⟨z.1, z.2, by rcases z.1 with z | ⟨o, z⟩ <;> (rw [z]; exact fun q => nomatch q)⟩) id) (dfs_in r)
  | _, _, .tup h r => .tup h (dfs_in r)
theorem dfs_in {K : PySem.W.Frag} {F : Addr → Prop} {H : Hp} : ∀ {vs : List V} {ds : List PyData}, DfAll K F H vs ds → DfAll K (fun a => F a ∧ H a ≠ none) H vs ds
  | _, _, .nil => .nil
  | _, _, .cons h r => .cons (df_in h) (dfs_in r)
end
theorem df_ext {K : PySem.W.Frag} {F F2 : Addr → Prop} {H H2 : Hp} {v : V} {d : PyData} (e : Ext F H F2 H2) (h : Df K F H v d) : Df K F2 H2 v d := df_mono (Same.refl _) (fun a z => e.ok a z.1 z.2) (df_monoF (e.same.sub fun _ z => z.1) (df_in h))
theorem dfs_ext {K : PySem.W.Frag} {F F2 : Addr → Prop} {H H2 : Hp} {v : List V} {d : List PyData} (e : Ext F H F2 H2) (h : DfAll K F H v d) : DfAll K F2 H2 v d := dfs_mono (Same.refl _) (fun a z => e.ok a z.1 z.2) (dfs_monoF (e.same.sub fun _ z => z.1) (dfs_in h))

theorem small5 {n : Nat} (h : n ≤ 100000) : n ≤ sizeLine := Nat.le_trans h (by decide)
theorem lt5 {n : Nat} (h : n < 100000) : n < sizeLine := Nat.lt_of_lt_of_le h (by decide)

/-! ### what evaluates to what, the heap growing -/
def ED (K : PySem.W.Frag) (te : TE) (σ : L2.St) (F : Addr → Prop) (H : Hp) (d : PyData) : Prop := ∀ H1, Same H H1 → ∀ Q : VK, (∀ v H2, Same H1 H2 → Df K (Fr F H1) H2 v d → Q v H2) → te σ H1 Q
def ET (tt : TT) (σ : L2.St) (H : Hp) (b : Bool) : Prop := ∀ H1, Same H H1 → ∀ Q : Bool → Hp → Prop, (∀ H2, Same H1 H2 → Q b H2) → tt σ H1 Q
def EA (K : PySem.W.Frag) (ta : TA) (σ : L2.St) (F : Addr → Prop) (H : Hp) (ds : List PyData) : Prop := ∀ H1, Same H H1 → ∀ Q : List V → Hp → Prop, (∀ vs H2, Same H1 H2 → DfAll K (Fr F H1) H2 vs ds → Q vs H2) → ta σ H1 Q
def EO (to : TO) (σ : L2.St) (H : Hp) (o : Option Int) : Prop := ∀ H1, Same H H1 → ∀ Q : Option Int → Hp → Prop, (∀ H2, Same H1 H2 → Q o H2) → to σ H1 Q

section
variable {K : PySem.W.Frag} {σ : L2.St} {F : Addr → Prop} {H H' : Hp} {ta tb te tc : TE} {t u : TT} {d e : PyData}
theorem ED.mono (s : Same H H') (h : ED K te σ F H d) : ED K te σ F H' d := fun H1 a Q q => h H1 (s.trans a) Q q
theorem ET.mono {b : Bool} (s : Same H H') (h : ET t σ H b) : ET t σ H' b := fun H1 a Q q => h H1 (s.trans a) Q q
theorem ed_var {i : Nat} {v : V} (h : σ[i]? = some (some v)) (hd : Df K F H v d) : ED K (tVar i) σ F H d := fun H1 s Q q => ⟨v, h, q v H1 (Same.refl _) (df_mono s Fr.base hd)⟩
theorem ed_c {v : V} (hd : ∀ F H, Df K F H v d) : ED K (tC v) σ F H d := fun H1 _ _ q => q v H1 (Same.refl _) (hd _ H1)
theorem ed_int {i : Int} : ED K (tC (.int i)) σ F H (.int i) := ed_c fun _ _ => .int i
theorem ed_str {x : Str} : ED K (tC (.str x)) σ F H (.str x) := ed_c fun _ _ => .str x
theorem ed_bl {b : Bool} : ED K (tC (.bl b)) σ F H (.bool b) := ed_c fun _ _ => .bl b
theorem ed_non : ED K (tC .non) σ F H .none := ed_c fun _ _ => .non
theorem ea_nil : EA K tNil σ F H [] := fun H1 _ _ q => q [] H1 (Same.refl _) .nil
theorem ea_cons {tr : TA} {ds : List PyData} (h : ED K te σ F H d) (r : EA K tr σ F H ds) : EA K (tCons te tr) σ F H (d :: ds) := fun H1 s Q q =>
  h H1 s _ fun v H2 s2 hv => r H2 (s.trans s2) _ fun vs H3 s3 hvs => q (v :: vs) H3 (s2.trans s3) (.cons (df_mono s3 (fun _ z => z) hv) (dfs_mono (Same.refl _) (Fr.to s2) hvs))
theorem ed_tup {ta : TA} {ds : List PyData} (h : EA K ta σ F H ds) (hl : ds.length ≤ 100000) : ED K (tTup ta) σ F H (.tuple ds) := fun H1 s Q q =>
  h H1 s _ fun vs H2 s2 hv => ⟨by rw [dfs_len hv]; exact small5 hl, fun p hp => q _ _ (s2.trans (Same.newA hp)) (.tup (.of upd_same) (dfs_mono (Same.newA hp) (fun _ z => z) hv))⟩
theorem ed_lst {ta : TA} {ds : List PyData} (h : EA K ta σ F H ds) (hl : ds.length ≤ 100000) : ED K (tLst ta) σ F H (.list ds) := fun H1 s Q q =>
  h H1 s _ fun vs H2 s2 hv => ⟨by rw [dfs_len hv]; exact small5 hl, fun p hp => q _ _ (s2.trans (Same.newA hp)) (.lst (.inl ⟨.inl upd_same, .inr (s2.freshA hp)⟩) (dfs_mono (Same.newA hp) (fun _ z => z) hv))⟩

/-- an operation of two values, read by its rule -/
def RD (K : PySem.W.Frag) (r : R2) (d e f : PyData) : Prop := ∀ (F : Addr → Prop) x y H1, Df K F H1 x d → Df K F H1 y e → ∀ Q : VK, (∀ v H2, Same H1 H2 → Df K (fun a => F a ∨ H1 a = none) H2 v f → Q v H2) → r x y H1 Q
theorem ed_op {r : R2} {f : PyData} (ha : ED K ta σ F H d) (hb : ED K tb σ F H e) (hr : RD K r d e f) : ED K (tOp r ta tb) σ F H f := fun H1 s Q q =>
  ha H1 s _ fun x H2 s2 hx => hb H2 (s.trans s2) _ fun y H3 s3 hy => hr (Fr F H1) x y H3 (df_mono s3 (fun _ z => z) hx) (df_mono (Same.refl _) (Fr.to s2) hy) Q fun v H4 s4 hv =>
    q v H4 ((s2.trans s3).trans s4) (df_mono (Same.refl _) (fun _ z => z.elim id fun e => .inr ((s2.trans s3).freshA e)) hv)
theorem rd_int {C : Int → Int → Prop} {g : Int → Int → Int} {i j : Int} (hc : C i j) : RD K (rI C fun i j => .int (g i j)) (.int i) (.int j) (.int (g i j)) := fun F x y H1 hx hy Q q => by
  cases hx; cases hy; exact ⟨i, j, rfl, rfl, hc, q _ _ (Same.refl _) (.int _)⟩
theorem rd_int0 {g : Int → Int → Int} {i j : Int} : RD K (rI0 fun i j => .int (g i j)) (.int i) (.int j) (.int (g i j)) := fun F x y H1 hx hy Q q => by
  cases hx; cases hy; exact ⟨i, j, rfl, rfl, q _ _ (Same.refl _) (.int _)⟩
theorem rd_cmp {g : Int → Int → Bool} {i j : Int} : RD K (rI0 fun i j => .bl (g i j)) (.int i) (.int j) (.bool (g i j)) := fun F x y H1 hx hy Q q => by
  cases hx; cases hy; exact ⟨i, j, rfl, rfl, q _ _ (Same.refl _) (.bl _)⟩
theorem ed_add {i j : Int} (ha : ED K ta σ F H (.int i)) (hb : ED K tb σ F H (.int j)) : ED K (tOp (rI0 fun i j => .int (i + j)) ta tb) σ F H (.int (i + j)) := ed_op ha hb rd_int0
theorem ed_sub {i j : Int} (ha : ED K ta σ F H (.int i)) (hb : ED K tb σ F H (.int j)) : ED K (tOp (rI0 fun i j => .int (i - j)) ta tb) σ F H (.int (i - j)) := ed_op ha hb rd_int0
theorem ed_lt {i j : Int} (ha : ED K ta σ F H (.int i)) (hb : ED K tb σ F H (.int j)) : ED K (tOp (rI0 fun i j => .bl (decide (i < j))) ta tb) σ F H (.bool (decide (i < j))) := ed_op ha hb rd_cmp
theorem ed_le {i j : Int} (ha : ED K ta σ F H (.int i)) (hb : ED K tb σ F H (.int j)) : ED K (tOp (rI0 fun i j => .bl (decide (i ≤ j))) ta tb) σ F H (.bool (decide (i ≤ j))) := ed_op ha hb rd_cmp
theorem ed_gt {i j : Int} (ha : ED K ta σ F H (.int i)) (hb : ED K tb σ F H (.int j)) : ED K (tOp (rI0 fun i j => .bl (decide (j < i))) ta tb) σ F H (.bool (decide (j < i))) := ed_op ha hb rd_cmp
theorem ed_ge {i j : Int} (ha : ED K ta σ F H (.int i)) (hb : ED K tb σ F H (.int j)) : ED K (tOp (rI0 fun i j => .bl (decide (j ≤ i))) ta tb) σ F H (.bool (decide (j ≤ i))) := ed_op ha hb rd_cmp
theorem ed_eqD (ha : ED K ta σ F H d) (hb : ED K tb σ F H e) (h1 : SeqAt.shaped d = true) (h2 : SeqAt.shaped e = true) : ED K (tOp (rEqD K) ta tb) σ F H (.bool (PyData.eqv d e)) :=
  ed_op ha hb fun F x y H1 hx hy Q q => ⟨d, e, df_dp hx, df_dp hy, h1, h2, q _ _ (Same.refl _) (.bl _)⟩
theorem ed_neD (ha : ED K ta σ F H d) (hb : ED K tb σ F H e) (h1 : SeqAt.shaped d = true) (h2 : SeqAt.shaped e = true) : ED K (tOp (rNeD K) ta tb) σ F H (.bool (!PyData.eqv d e)) :=
  ed_op ha hb fun F x y H1 hx hy Q q => ⟨d, e, df_dp hx, df_dp hy, h1, h2, q _ _ (Same.refl _) (.bl _)⟩
theorem ed_eqS {x y : Str} (ha : ED K ta σ F H (.str x)) (hb : ED K tb σ F H (.str y)) : ED K (tOp rEq ta tb) σ F H (.bool (decide (x = y))) :=
  ed_op ha hb fun F a b H1 hx hy Q q => by
    cases hx; cases hy
    refine ⟨rfl, ?_⟩
    have e : decide (V.str x = V.str y) = decide (x = y) := by
      by_cases z : x = y
      · rw [decide_eq_true z, decide_eq_true (congrArg V.str z)]
      · rw [decide_eq_false z, decide_eq_false (fun q => z (V.str.inj q))]
    rw [e]; exact q _ _ (Same.refl _) (.bl _)
theorem ed_eqI {x y : Int} (ha : ED K ta σ F H (.int x)) (hb : ED K tb σ F H (.int y)) : ED K (tOp rEq ta tb) σ F H (.bool (decide (x = y))) :=
  ed_op ha hb fun F a b H1 hx hy Q q => by
    cases hx; cases hy
    refine ⟨rfl, ?_⟩
    have e : decide (V.int x = V.int y) = decide (x = y) := by
      by_cases z : x = y
      · rw [decide_eq_true z, decide_eq_true (congrArg V.int z)]
      · rw [decide_eq_false z, decide_eq_false (fun q => z (V.int.inj q))]
    rw [e]; exact q _ _ (Same.refl _) (.bl _)
theorem ed_neS {x y : Str} (ha : ED K ta σ F H (.str x)) (hb : ED K tb σ F H (.str y)) : ED K (tOp rNe ta tb) σ F H (.bool (!decide (x = y))) :=
  ed_op ha hb fun F a b H1 hx hy Q q => by
    cases hx; cases hy
    refine ⟨rfl, ?_⟩
    have e : decide (V.str x = V.str y) = decide (x = y) := by
      by_cases z : x = y
      · rw [decide_eq_true z, decide_eq_true (congrArg V.str z)]
      · rw [decide_eq_false z, decide_eq_false (fun q => z (V.str.inj q))]
    rw [e]; exact q _ _ (Same.refl _) (.bl _)
theorem ed_neI {x y : Int} (ha : ED K ta σ F H (.int x)) (hb : ED K tb σ F H (.int y)) : ED K (tOp rNe ta tb) σ F H (.bool (!decide (x = y))) :=
  ed_op ha hb fun F a b H1 hx hy Q q => by
    cases hx; cases hy
    refine ⟨rfl, ?_⟩
    have e : decide (V.int x = V.int y) = decide (x = y) := by
      by_cases z : x = y
      · rw [decide_eq_true z, decide_eq_true (congrArg V.int z)]
      · rw [decide_eq_false z, decide_eq_false (fun q => z (V.int.inj q))]
    rw [e]; exact q _ _ (Same.refl _) (.bl _)
theorem ed_catS {x y : Str} (ha : ED K ta σ F H (.str x)) (hb : ED K tb σ F H (.str y)) (hl : x.length + y.length ≤ 100000) :
    ED K (tOp (fun x y H Q => ∃ i j, x = .str i ∧ y = .str j ∧ i.length + j.length ≤ sizeLine ∧ Q (.str (i ++ j)) H) ta tb) σ F H (.str (x ++ y)) :=
  ed_op ha hb fun F a b H1 hx hy Q q => by
    cases hx; cases hy; exact ⟨x, y, rfl, rfl, small5 hl, q _ _ (Same.refl _) (.str _)⟩
/-- x is None -/
def isNone : PyData → Bool | .none => true | _ => false
theorem isN_of {F : Addr → Prop} {H : Hp} {x : V} (h : Df K F H x d) : decide (x = .non) = isNone d := by cases h <;> rfl
theorem ed_isN (ha : ED K ta σ F H d) : ED K (tOp (fun x y H Q => y = .non ∧ Q (.bl (decide (x = .non))) H) ta (tC .non)) σ F H (.bool (isNone d)) :=
  ed_op ha ed_non fun F a b H1 hx hy Q q => by
    cases hy; refine ⟨rfl, ?_⟩; rw [isN_of hx]; exact q _ _ (Same.refl _) (.bl _)
/-- a written item of a list, a tuple, a text -/
theorem ed_ixT {ds : List PyData} {j : Nat} (ha : ED K ta σ F H (.tuple ds)) (hb : ED K tb σ F H (.int j)) (h : ds[j]? = some d) : ED K (tOp (rIx K) ta tb) σ F H d :=
  ed_op ha hb fun F a b H1 hx hy Q q => by
    cases hy
    cases hx with
    | tup hs r =>
      obtain ⟨v, e, hv⟩ := dfs_get r h
      exact .inr (.inl ⟨_, _, _, v, rfl, rfl, hs, atI_nat e, q _ _ (Same.refl _) (df_mono (Same.refl _) (fun _ z => .inl z) hv)⟩)
theorem ed_ixL {ds : List PyData} {j : Nat} (ha : ED K ta σ F H (.list ds)) (hb : ED K tb σ F H (.int j)) (h : ds[j]? = some d) : ED K (tOp (rIx K) ta tb) σ F H d :=
  ed_op ha hb fun F a b H1 hx hy Q q => by
    cases hy
    cases hx with
    | lst hs r =>
      obtain ⟨v, e, hv⟩ := dfs_get r h
      exact .inl ⟨_, _, _, v, rfl, rfl, hs.imp (fun z => z.1) id, atI_nat e, q _ _ (Same.refl _) (df_mono (Same.refl _) (fun _ z => .inl z) hv)⟩
theorem ed_ixS {x : Str} {j c : Nat} (ha : ED K ta σ F H (.str x)) (hb : ED K tb σ F H (.int j)) (hl : x.length ≤ 100000) (h : x.cps.toList[j]? = some c) : ED K (tOp (rIx K) ta tb) σ F H (.str ⟨#[c]⟩) :=
  ed_op ha hb fun F a b H1 hx hy Q q => by
    cases hy; cases hx
    exact .inr (.inr ⟨_, _, c, rfl, rfl, small5 hl, atI_nat h, q _ _ (Same.refl _) (.str _)⟩)

/-! ### tests -/
theorem et_test {b : Bool} (h : ED K te σ F H (.bool b)) : ET (tTest te) σ H b := fun H1 s Q q => h H1 s _ fun v H2 s2 hv => by
  cases hv; exact ⟨b, rfl, q H2 s2⟩
theorem et_B {b : Bool} (h : ED K te σ F H (.bool b)) : ET (tB te) σ H b := fun H1 s Q q => h H1 s _ fun v H2 s2 hv => by
  cases hv; exact ⟨b, rfl, q H2 s2⟩
theorem et_and {a b : Bool} (h1 : ET t σ H a) (h2 : a = true → ET u σ H b) : ET (tAnd t u) σ H (a && b) := fun H1 s Q q => h1 H1 s _ fun H2 s2 => by
  cases a with
  | true => exact h2 rfl H2 (s.trans s2) Q fun H3 s3 => q H3 (s2.trans s3)
  | false => exact q H2 s2
theorem et_or {a b : Bool} (h1 : ET t σ H a) (h2 : a = false → ET u σ H b) : ET (tOr t u) σ H (a || b) := fun H1 s Q q => h1 H1 s _ fun H2 s2 => by
  cases a with
  | true => exact q H2 s2
  | false => exact h2 rfl H2 (s.trans s2) Q fun H3 s3 => q H3 (s2.trans s3)
theorem et_not {a : Bool} (h1 : ET t σ H a) : ET (tNot t) σ H (!a) := fun H1 s Q q => h1 H1 s _ fun H2 s2 => q H2 s2
theorem et_is {a b : Bool} (h : ET t σ H a) (e : a = b) : ET t σ H b := e ▸ h
theorem ed_is (h : ED K te σ F H d) (z : d = e) : ED K te σ F H e := z ▸ h
theorem ed_andV {a b : Bool} (h1 : ED K ta σ F H (.bool a)) (h2 : a = true → ED K tb σ F H (.bool b)) : ED K (tAndV ta tb) σ F H (.bool (a && b)) := fun H1 s Q q => h1 H1 s _ fun v H2 s2 hv => by
  cases hv
  refine ⟨a, rfl, ?_⟩
  cases a with
  | true => exact h2 rfl H2 (s.trans s2) Q fun v H3 s3 hv => q v H3 (s2.trans s3) (df_mono (Same.refl _) (Fr.to s2) hv)
  | false => exact q _ H2 s2 (.bl _)
theorem ed_orV {a b : Bool} (h1 : ED K ta σ F H (.bool a)) (h2 : a = false → ED K tb σ F H (.bool b)) : ED K (tOrV ta tb) σ F H (.bool (a || b)) := fun H1 s Q q => h1 H1 s _ fun v H2 s2 hv => by
  cases hv
  refine ⟨a, rfl, ?_⟩
  cases a with
  | true => exact q _ H2 s2 (.bl _)
  | false => exact h2 rfl H2 (s.trans s2) Q fun v H3 s3 hv => q v H3 (s2.trans s3) (df_mono (Same.refl _) (Fr.to s2) hv)
theorem ed_notV {a : Bool} (h1 : ED K ta σ F H (.bool a)) : ED K (tNotV ta) σ F H (.bool (!a)) := fun H1 s Q q => h1 H1 s _ fun v H2 s2 hv => by
  cases hv; exact ⟨a, rfl, q _ H2 s2 (.bl _)⟩
theorem ed_if {b : Bool} (h : ET t σ H b) (h1 : b = true → ED K ta σ F H d) (h2 : b = false → ED K tb σ F H d) : ED K (tIf t ta tb) σ F H d := fun H1 s Q q => h H1 s _ fun H2 s2 => by
  cases b with
  | true => exact h1 rfl H2 (s.trans s2) Q fun v H3 s3 hv => q v H3 (s2.trans s3) (df_mono (Same.refl _) (Fr.to s2) hv)
  | false => exact h2 rfl H2 (s.trans s2) Q fun v H3 s3 hv => q v H3 (s2.trans s3) (df_mono (Same.refl _) (Fr.to s2) hv)
theorem ed_chain {r r' : R2} {a b : Bool} {f : PyData} (ha : ED K ta σ F H d) (hb : ED K tb σ F H e) (hc : ED K tc σ F H f) (h1 : RD K r d e (.bool a)) (h2 : a = true → RD K r' e f (.bool b)) :
    ED K (tChain r r' ta tb tc) σ F H (.bool (a && b)) := fun H1 s Q q =>
  ha H1 s _ fun x H2 s2 hx => hb H2 (s.trans s2) _ fun y H3 s3 hy => h1 (fun _ => True) x y H3 (df_mono s3 (fun _ _ => trivial) hx) (df_mono (Same.refl _) (fun _ _ => trivial) hy) _ fun z H4 s4 hz => by
    cases hz
    refine ⟨a, rfl, ?_⟩
    cases a with
    | true =>
      refine hc H4 (((s.trans s2).trans s3).trans s4) _ fun w H5 s5 hw => h2 rfl (fun _ => True) y w H5 (df_mono (s4.trans s5) (fun _ _ => trivial) hy) (df_mono (Same.refl _) (fun _ _ => trivial) hw) Q fun v H6 s6 hv => ?_
      cases hv
      exact q _ H6 ((((s2.trans s3).trans s4).trans s5).trans s6) (.bl _)
    | false => exact q _ H4 ((s2.trans s3).trans s4) (.bl _)

/-! ### built-in calls -/
def RDC (K : PySem.W.Frag) (r : List V → Hp → VK → Prop) (ds : List PyData) (f : PyData) : Prop := ∀ (F : Addr → Prop) vs H1, DfAll K F H1 vs ds → ∀ Q : VK, (∀ v H2, Same H1 H2 → Df K (fun a => F a ∨ H1 a = none) H2 v f → Q v H2) → r vs H1 Q
theorem ed_cb {r : List V → Hp → VK → Prop} {ta : TA} {ds : List PyData} (h : EA K ta σ F H ds) (hr : RDC K r ds d) : ED K (tCB r ta) σ F H d := fun H1 s Q q =>
  h H1 s _ fun vs H2 s2 hv => hr (Fr F H1) vs H2 hv Q fun v H3 s3 hv3 => q v H3 (s2.trans s3) (df_mono (Same.refl _) (fun _ z => z.elim id fun e => .inr (s2.freshA e)) hv3)
theorem ed_call {sp : Sp} {E : XK} {ta : TA} {ds : List PyData} (h : EA K ta σ F H ds) (hr : RDC K (fun vs H Q => sp vs H Q E) ds d) : ED K (tCall sp [] E ta) σ F H d := fun H1 s Q q =>
  h H1 s _ fun vs H2 s2 hv => by
    show sp (vs ++ []) H2 Q E
    rw [List.append_nil]
    exact hr (Fr F H1) vs H2 hv Q fun v H3 s3 hv3 => q v H3 (s2.trans s3) (df_mono (Same.refl _) (fun _ z => z.elim id fun e => .inr (s2.freshA e)) hv3)
/-- len of data -/
def lenP : PyData → Nat | .list ds => ds.length | .tuple ds => ds.length | .str x => x.length | _ => 0
def hasLen : PyData → Bool | .list _ => true | .tuple _ => true | .str x => decide (x.length ≤ 100000) | _ => false
theorem rdc_len (h : hasLen d = true) : RDC K (fun xs H Q => ∃ x n, xs = [x] ∧ LenV K x H n ∧ Q (.int n) H) [d] (.int (lenP d : Int)) := fun F vs H1 hv Q q => by
  cases hv with
  | cons a r =>
    cases r
    refine ⟨_, lenP d, rfl, ?_, q _ _ (Same.refl _) (.int _)⟩
    cases a with
    | lst hs r => exact .inl ⟨_, hs.imp (fun z => z.1) id, (dfs_len r).symm⟩
    | tup hs r => exact .inr ⟨_, hs, (dfs_len r).symm⟩
    | str x => exact ⟨small5 (of_decide_eq_true h), rfl⟩
    | _ => cases h
theorem ed_len (ha : ED K ta σ F H d) (h : hasLen d = true) : ED K (tCB (fun xs H Q => ∃ x n, xs = [x] ∧ LenV K x H n ∧ Q (.int n) H) (tCons ta tNil)) σ F H (.int (lenP d : Int)) := ed_cb (ea_cons ha ea_nil) (rdc_len h)
/-- isinstance of data -/
def tyName : PyData → String | .none => "NoneType" | .bool _ => "bool" | .int _ => "int" | .str _ => "str" | .list _ => "list" | .tuple _ => "tuple" | .dict _ => "dict"
theorem tyx_of {H : Hp} {x : V} (h : Dp K H x d) : TyX K H x (.type (tyName d)) := by
  cases h with
  | non => exact .base .non
  | bl b => exact .base (.bl b)
  | int i => exact .base (.int i)
  | str x => exact .base (.str x)
  | lst hs r =>
    rcases hs with (h | ⟨o, h⟩) | ⟨o, its, n, hk, hc, _⟩
    · exact .base (.lst h)
    · exact .base (.frz h)
    · exact .kList hk hc
  | tup hs r =>
    rcases hs with (h | ⟨o, h⟩) | ⟨o, its, n, hk, hc, _⟩
    · exact .base (.tup h)
    · exact .fTuple h
    · exact .kTuple hk hc
def isiB (T : String) : PyData → Bool
  | .none => false | .bool _ => T == "bool" || T == "int" | .int _ => T == "int" | .str _ => T == "str" | .list _ => T == "list" | .tuple _ => T == "tuple" | .dict _ => T == "dict"
theorem kit_all {T : String} (hT : T = "str" ∨ T = "tuple" ∨ T = "list" ∨ T = "int" ∨ T = "bool") {H : Hp} {x : V} (h : Dp K H x d) : PySem.W.kitOne K (.type (tyName d)) (.type T) = some (isiB T d) := by
  rcases hT with rfl | rfl | rfl | rfl | rfl
  · cases h with
    | non => exact kit_ty (show kitB "NoneType" "str" = some false by decide +kernel)
    | bl b => exact kit_ty (show kitB "bool" "str" = some false by decide +kernel)
    | int i => exact kit_ty (show kitB "int" "str" = some false by decide +kernel)
    | str x => exact kit_ty (show kitB "str" "str" = some true by decide +kernel)
    | lst hs r => exact kit_ty (show kitB "list" "str" = some false by decide +kernel)
    | tup hs r => exact kit_ty (show kitB "tuple" "str" = some false by decide +kernel)
  · cases h with
    | non => exact kit_ty (show kitB "NoneType" "tuple" = some false by decide +kernel)
    | bl b => exact kit_ty (show kitB "bool" "tuple" = some false by decide +kernel)
    | int i => exact kit_ty (show kitB "int" "tuple" = some false by decide +kernel)
    | str x => exact kit_ty (show kitB "str" "tuple" = some false by decide +kernel)
    | lst hs r => exact kit_ty (show kitB "list" "tuple" = some false by decide +kernel)
    | tup hs r => exact kit_ty (show kitB "tuple" "tuple" = some true by decide +kernel)
  · cases h with
    | non => exact kit_ty (show kitB "NoneType" "list" = some false by decide +kernel)
    | bl b => exact kit_ty (show kitB "bool" "list" = some false by decide +kernel)
    | int i => exact kit_ty (show kitB "int" "list" = some false by decide +kernel)
    | str x => exact kit_ty (show kitB "str" "list" = some false by decide +kernel)
    | lst hs r => exact kit_ty (show kitB "list" "list" = some true by decide +kernel)
    | tup hs r => exact kit_ty (show kitB "tuple" "list" = some false by decide +kernel)
  · cases h with
    | non => exact kit_ty (show kitB "NoneType" "int" = some false by decide +kernel)
    | bl b => exact kit_ty (show kitB "bool" "int" = some true by decide +kernel)
    | int i => exact kit_ty (show kitB "int" "int" = some true by decide +kernel)
    | str x => exact kit_ty (show kitB "str" "int" = some false by decide +kernel)
    | lst hs r => exact kit_ty (show kitB "list" "int" = some false by decide +kernel)
    | tup hs r => exact kit_ty (show kitB "tuple" "int" = some false by decide +kernel)
  · cases h with
    | non => exact kit_ty (show kitB "NoneType" "bool" = some false by decide +kernel)
    | bl b => exact kit_ty (show kitB "bool" "bool" = some true by decide +kernel)
    | int i => exact kit_ty (show kitB "int" "bool" = some false by decide +kernel)
    | str x => exact kit_ty (show kitB "str" "bool" = some false by decide +kernel)
    | lst hs r => exact kit_ty (show kitB "list" "bool" = some false by decide +kernel)
    | tup hs r => exact kit_ty (show kitB "tuple" "bool" = some false by decide +kernel)
theorem ed_isi {T : String} (ha : ED K ta σ F H d) (hT : T = "str" ∨ T = "tuple" ∨ T = "list" ∨ T = "int" ∨ T = "bool") : ED K (tCB (rIsi K) (tCons ta (tCons (tC (.ty T)) tNil))) σ F H (.bool (isiB T d)) := fun H1 s Q q =>
  ha H1 s _ fun x H2 s2 hx => ⟨x, .ty T, _, _, _, rfl, .ty T, tyx_of (df_dp hx), kit_all hT (df_dp hx), q _ _ s2 (.bl _)⟩
/-- all, any of bools -/
theorem ed_all {bs : List Bool} (ha : ED K ta σ F H (.list (bs.map .bool))) : ED K (tCB (rAll K) (tCons ta tNil)) σ F H (.bool (bs.all id)) := ed_cb (ea_cons ha ea_nil) fun F vs H1 hv Q q => by
  cases hv with
  | cons a r =>
    cases r
    cases a with
    | lst hs r => rw [bls_dps (dfs_dps r)] at hs; exact ⟨_, bs, rfl, hs.imp (fun z => z.1) id, q _ _ (Same.refl _) (.bl _)⟩
theorem ed_sum {ns : List Int} (ha : ED K ta σ F H (.list (ns.map .int))) : ED K (tCB (rSum K) (tCons ta tNil)) σ F H (.int ns.sum) := ed_cb (ea_cons ha ea_nil) fun F vs H1 hv Q q => by
  cases hv with
  | cons a r =>
    cases r
    cases a with
    | lst hs r => rw [ints_dps (dfs_dps r)] at hs; exact ⟨_, ns, rfl, hs.imp (fun z => z.1) id, q _ _ (Same.refl _) (.int _)⟩
/-- tuple(xs), list(xs) -/
def seqOf : PyData → List PyData | .list ds => ds | .tuple ds => ds | _ => []
def isSeq : PyData → Bool | .list _ => true | .tuple _ => true | _ => false
theorem ed_tupleOf (ha : ED K ta σ F H d) (h : isSeq d = true) : ED K (tCB (fun xs H Q => ∃ p ys, xs = [.ref p] ∧ ((SqL K H p ys ∧ ∀ l, H l = none → Q (.ref l) (upd H l (.tup ys))) ∨ (SqT K H p ys ∧ Q (.ref p) H))) (tCons ta tNil)) σ F H (.tuple (seqOf d)) := ed_cb (ea_cons ha ea_nil) fun F vs H1 hv Q q => by
  cases hv with
  | cons a r =>
    cases r
    cases a with
    | lst hs r => exact ⟨_, _, rfl, .inl ⟨hs.imp (fun z => z.1) id, fun l hl => q _ _ (Same.newA hl) (.tup (.of upd_same) (dfs_mono (Same.newA hl) (fun _ z => .inl z) r))⟩⟩
    | tup hs r => exact ⟨_, _, rfl, .inr ⟨hs, q _ _ (Same.refl _) (.tup hs (dfs_mono (Same.refl _) (fun _ z => .inl z) r))⟩⟩
    | _ => cases h
theorem ed_listOf (ha : ED K ta σ F H d) (h : isSeq d = true) : ED K (tCB (fun xs H Q => ∃ p ys, xs = [.ref p] ∧ (SqL K H p ys ∨ SqT K H p ys) ∧ ∀ l, H l = none → Q (.ref l) (upd H l (.lst ys))) (tCons ta tNil)) σ F H (.list (seqOf d)) := ed_cb (ea_cons ha ea_nil) fun F vs H1 hv Q q => by
  cases hv with
  | cons a r =>
    cases r
    cases a with
    | lst hs r => exact ⟨_, _, rfl, .inl (hs.imp (fun z => z.1) id), fun l hl => q _ _ (Same.newA hl) (.lst (.inl ⟨.inl upd_same, .inr hl⟩) (dfs_mono (Same.newA hl) (fun _ z => .inl z) r))⟩
    | tup hs r => exact ⟨_, _, rfl, .inr hs, fun l hl => q _ _ (Same.newA hl) (.lst (.inl ⟨.inl upd_same, .inr hl⟩) (dfs_mono (Same.newA hl) (fun _ z => .inl z) r))⟩
    | _ => cases h
end
end Ag

set_option Elab.async false
set_option linter.all false
set_option maxRecDepth 100000
set_option maxHeartbeats 1000000
/-! The end of a law row, the law run at the caller's very surroundings (so that nothing is being shown there), with tables of code objects. -/
namespace Ag
open PySem PySem.Spec PyProof.Rows L2 LamX
def emptyT : Obj := { cls := .none, data := .fields #[] }
/-- what is tracked ahead of the law: the script, unless it is written, and the tables -/
def lawH (a : Addr) (tabs : List Addr) (o : Obj) (xs : List V) (wr : Bool) : Hp := fun b => if b ∈ tabs then some (.tbl #[]) else if b = a ∧ wr = false then some (.frz o (.lst xs)) else none
section
variable {a b : Addr} {tabs : List Addr} {o : Obj} {xs : List V} {wr : Bool} {u : HO}
theorem lawH_tab (h : b ∈ tabs) : lawH a tabs o xs wr b = some (.tbl #[]) := if_pos h
theorem lawH_at (h : a ∉ tabs) : lawH a tabs o xs false a = some (.frz o (.lst xs)) := by
  unfold lawH; rw [if_neg h, if_pos ⟨rfl, rfl⟩]
theorem lawH_cases (h : lawH a tabs o xs wr b = some u) : (b ∈ tabs ∧ u = .tbl #[]) ∨ (b = a ∧ wr = false ∧ b ∉ tabs ∧ u = .frz o (.lst xs)) := by
  unfold lawH at h
  by_cases h1 : b ∈ tabs
  · rw [if_pos h1] at h; cases h; exact .inl ⟨h1, rfl⟩
  · rw [if_neg h1] at h
    by_cases h2 : b = a ∧ wr = false
    · rw [if_pos h2] at h; cases h; exact .inr ⟨h2.1, h2.2, h1, rfl⟩
    · rw [if_neg h2] at h; cases h
theorem lawH_none (h : lawH a tabs o xs wr b = none) : b ∉ tabs := fun z => by rw [lawH_tab z] at h; cases h
end
/-- the law's call: F tells what it does over a heap in which just the script and the tables are tracked -/
theorem law_callG {P : Program} {w : World} {K : PySem.W.Frag} {mg mb : Str → Option Value} {fa a : Addr} {cs : List (Addr × Addr)} {s₁ : Shared} {vs : List Value} {ns : List Int}
    (KX : K.In s₁.heap) (hns : s₁.heap.Ns mainGlobals mg) (hb : s₁.heap.Ns builtinsNs mb) (hbb : ∀ x : Str, x ≠ "__name__" → mb x = bootBuiltins x) (hlim : s₁.heap.NoLimit) (hg : s₁.gens = #[])
    (hT : ∀ p ∈ cs, s₁.heap.get? p.2 = some emptyT) (nT : ∀ p ∈ cs, K.lookup p.2 = none) (C : ∀ p ∈ cs, PySem.W.CodeHd s₁.heap p.1 p.2)
    (hbm : ∃ (bm : Addr) (ob : Obj), mg "__builtins__" = some (.ref bm) ∧ bm ≠ builtinsNs ∧ s₁.heap.get? bm = some ob ∧ ob.cls = .type "module" ∧ ob.dict = some builtinsNs ∧ ob.data = .plain)
    (ha : s₁.heap.get? a = some { cls := .type "list", data := .seq vs.toArray }) (hi : IntsAre vs ns) (hl : ns.length ≤ sizeLine)
    (F : ∀ (base : Heap) (H : Hp), K.In base → base.Ns mainGlobals mg → (∀ p ∈ cs, TabB base mg p.1 p.2) → (∀ p ∈ cs, H p.2 = some (.tbl #[])) → SqL K H a (ns.map V.int) → Env0 P w K mg base callerA [] s₁ H →
      codeAny (model P w) callerA (.call (.ref fa) ⟨[.ref a], []⟩) (CR CX0 [] P w H s₁ (fun v _ => v = .bl true) fun _ _ _ => False) s₁) :
    codeAny (model P w) callerA (.call (.ref fa) ⟨[.ref a], []⟩) (fun r s' => r = .ok (.ret (.bool true)) ∧ OldK s₁.heap s'.heap ∧ s'.os = s₁.os ∧ AllBare s'.gens) s₁ := by
  let sc : Obj := { cls := .type "list", data := .seq vs.toArray }
  let tabs := cs.map Prod.snd
  let wr : Bool := (K.lookup a).isSome
  let H : Hp := lawH a tabs sc (ns.map V.int) wr
  have tget : ∀ b ∈ tabs, s₁.heap.get? b = some emptyT := fun b hb => by
    obtain ⟨p, hp, rfl⟩ := List.mem_map.mp hb; exact hT p hp
  have tmem : ∀ p ∈ cs, p.2 ∈ tabs := fun p hp => List.mem_map_of_mem hp
  have na : a ∉ tabs := fun z => by
    have q := tget a z
    rw [ha] at q
    have := congrArg Obj.data (Option.some.inj q)
    exact nomatch this
  have nk : ∀ b ∈ tabs, K.lookup b = none := fun b hb => by
    obtain ⟨p, hp, rfl⟩ := List.mem_map.mp hb; exact nT p hp
  -- an object that is neither a list nor fields is not tracked
  have free : ∀ {b : Addr} {o : Obj}, s₁.heap.get? b = some o → (∀ z n, o.data ≠ .seq z n) → o.data ≠ .fields #[] → H b = none := fun {b o} e n1 n2 => by
    cases q : H b with
    | none => rfl
    | some u =>
      rcases lawH_cases q with ⟨m, _⟩ | ⟨m, _, _, _⟩
      · rw [tget b m] at e; cases e; exact absurd rfl n2
      · subst m; rw [ha] at e; cases e; exact absurd rfl (n1 _ _)
  have baseG : ∀ {b : Addr} {o : Obj}, s₁.heap.get? b = some o → (∀ z n, o.data ≠ .seq z n) → o.data ≠ .fields #[] → (hidT s₁.heap H).get? b = some o := fun e n1 n2 => hidT_get e (free e n1 n2)
  have nsB : ∀ {b : Addr} {m : Str → Option Value}, s₁.heap.Ns b m → (hidT s₁.heap H).Ns b m := fun ⟨o, es, ep, e, d, r⟩ =>
    ⟨o, es, ep, baseG e (fun z n q => by rw [d] at q; exact nomatch q) (fun q => by rw [d] at q; exact nomatch q), d, r⟩
  have kB : K.In (hidT s₁.heap H) := fun b o e => hidT_get (KX b o e) (by
    cases q : H b with
    | none => rfl
    | some u =>
      rcases lawH_cases q with ⟨m, _⟩ | ⟨m, wf, _, _⟩
      · rw [nk b m] at e; cases e
      · subst m
        have wf : (K.lookup b).isSome = false := wf
        rw [e] at wf; cases wf)
  have mod : L2.Mod K mg (hidT s₁.heap H) := ⟨kB, nsB hns, ⟨mb, nsB hb, hbb⟩, let ⟨mc, h1, h2⟩ := hlim; ⟨mc, nsB h1, h2⟩⟩
  have tb : ∀ p ∈ cs, TabB (hidT s₁.heap H) mg p.1 p.2 := fun p hp => by
    have hp2 := hT p hp
    obtain ⟨bm, ob, b1, b2, b3, b4, b5, b6⟩ := hbm
    refine ⟨?_, ⟨bm, ob, b1, b2, fun q => ?_, fun q => ?_, baseG b3 (fun z n q => by rw [b6] at q; exact nomatch q) (fun q => by rw [b6] at q; exact nomatch q), b4, b5, b6⟩, fun q => ?_⟩
    · obtain ⟨o, us, file, tf, flags, tg, inF, text, tt, e1, r1, r2, r3, rest⟩ := C p hp
      exact ⟨o, us, file, tf, flags, tg, inF, text, tt, baseG e1 (fun z n q => by rw [r2] at q; exact nomatch q) (fun q => by
        rw [r2] at q
        have q := Data.fields.inj q
        subst q; simp at r3), r1, r2, r3, rest⟩
    · obtain ⟨o, es, ep, e, d, _⟩ := hns
      rw [q, e] at b3; cases b3; rw [d] at b6; exact nomatch b6
    · rw [q, hp2] at b3; cases b3; exact nomatch b6
    · obtain ⟨o, es, ep, e, d, _⟩ := hns
      rw [q, hp2] at e; cases e; exact nomatch d
  have hok : HOk P w H s₁.heap := fun b u q => by
    rcases lawH_cases q with ⟨m, rfl⟩ | ⟨rfl, _, _, rfl⟩
    · exact tget b m
    · exact ⟨ha, by rw [List.length_map]; exact hl, vs, 0, vals_ints hi, ha⟩
  have e0 : Env0 P w K mg (hidT s₁.heap H) callerA [] s₁ H := ⟨rfl, mod, fun b o e => of_hidT e, Nat.le_of_eq (hidT_size _ _), trivial, fun b z => (nomatch z), hok, .of_eq hg⟩
  have sq : SqL K H a (ns.map V.int) := by
    cases q : K.lookup a with
    | none =>
      have wf : wr = false := by show (K.lookup a).isSome = false; rw [q]; rfl
      refine .inl (.inr ⟨sc, ?_⟩)
      show lawH a tabs sc (ns.map V.int) wr a = _
      rw [wf]; exact lawH_at na
    | some o =>
      have e := KX a o q
      rw [ha] at e; cases e
      exact .inr ⟨_, vs.toArray, _, q, rfl, rfl, rfl, by rw [List.size_toArray, hi.length]; exact hl, vals_ints hi⟩
  refine codeAny_mono (F _ H kB (nsB hns) tb (fun p hp => lawH_tab (tmem p hp)) sq e0) fun r s' h => ?_
  cases r with
  | error e => exact (show False from h).elim
  | ok fl =>
    cases fl with
    | ret u =>
      obtain ⟨v, H', os, bare, un, hok', rv, q⟩ := h
      cases (show v = V.bl true from q)
      obtain rfl : u = Value.bool true := rv
      have grown : ∀ b ∈ tabs, ∃ more : Array Value, s'.heap.get? b = some { cls := .none, data := .fields more } := fun b hb => by
        obtain ⟨more, z⟩ := un.tbls b #[] (lawH_tab hb)
        exact ⟨_, hok' b _ z⟩
      have kept : ∀ b o, b ∉ tabs → s₁.heap.get? b = some o → s'.heap.get? b = some o := fun b o nb e => by
        cases q : H b with
        | none => exact un.keep b o e q (fun z => nomatch z) (fun z => nomatch z)
        | some u =>
          rcases lawH_cases q with ⟨m, _⟩ | ⟨m, _, _, hu⟩
          · exact absurd m nb
          · subst m; subst hu
            have e2 := (hok' b _ (un.frzs b sc _ q)).1
            rw [ha] at e; cases e; exact e2
      refine ⟨rfl, ⟨fun b o e => ?_, fun b o e => ?_⟩, os, bare⟩
      · by_cases hb : b ∈ tabs
        · obtain ⟨p, hp, rfl⟩ := List.mem_map.mp hb
          obtain ⟨more, hm⟩ := grown _ hb
          rw [hT p hp] at e; cases e
          exact .inr (.inl ⟨((C p hp).tab (hT p hp)).isCodeTable, rfl, #[], more, rfl, by rw [Array.empty_append]; exact hm⟩)
        · exact .inl (kept b o hb e)
      · by_cases hb : b ∈ tabs
        · obtain ⟨more, hm⟩ := grown b hb; exact ⟨_, hm⟩
        · exact ⟨o, kept b o hb e⟩
    | next => exact False.elim h
    | brk => exact False.elim h
    | cont => exact False.elim h
/-- what is known of the law at the head's heap -/
def LawG (l : PySem.W.OpenLaw) (w : World) (K : PySem.W.Frag) (n : Nat) (mg : Str → Option Value) (fa : Addr) (s : Shared) : Prop :=
  ∃ cs : List (Addr × Addr), (∀ p ∈ cs, s.heap.get? p.2 = some emptyT) ∧ (∀ p ∈ cs, K.lookup p.2 = none) ∧ (∀ p ∈ cs, PySem.W.CodeHd s.heap p.1 p.2) ∧
    ∀ (a : Addr) (ns : List Int) (base : Heap) (H : Hp), ns.length ≤ n → (∀ z ∈ ns, Builtin.Int.intBits z ≤ 1048576) → K.In base → base.Ns mainGlobals mg → (∀ p ∈ cs, TabB base mg p.1 p.2) → (∀ p ∈ cs, H p.2 = some (.tbl #[])) → SqL K H a (ns.map V.int) → Env0 l.prog w K mg base callerA [] s H →
      codeAny (model l.prog w) callerA (.call (.ref fa) ⟨[.ref a], []⟩) (CR CX0 [] l.prog w H s (fun v _ => v = .bl true) fun _ _ _ => False) s
theorem walk_G {l : PySem.W.OpenLaw} {n : Nat} {q : Program} {loose : List Str} {XP : (Str → Option Value) → Heap → Prop} {YP : World → Heap → Prop} {d : DefRec} {K : Params → PySem.W.Frag}
    (hn : l.most = some n) (hn2 : n ≤ sizeLine) (hdf : d.params.defaults = []) (hY : ∀ (w : World) (h : Heap), YP w h → (K w.params).In h)
    (F : ∀ (w : World) (mg mb : Str → Option Value) (fa : Addr) (s : Shared) (mean : ExcName → Option Value), PyProof.Rows.Top q (PySem.W.looseW q loose) mean mg mb s.heap → (K w.params).In s.heap → mg d.name = some (.ref fa) → LawG l w (K w.params) n mg fa s) :
    PySem.W.WalkO q loose XP YP l.row.toRowW d [] (fun f vs => PySem.call f vs) := by
  refine Att.attach_callB hn hdf fun w s₀ s₁ mg mb fa o pm cd doc a vs ns G Y ho hd hcd hmg hobj hints hlen hbits hg => ?_
  have KX := hY w _ Y
  obtain ⟨cs, hT, nT, C, hF⟩ := F w mg mb fa s₁ _ G.T KX hmg
  exact law_callG KX G.T.g G.T.b G.T.builtins G.T.nolimit hg hT nT C G.T.bmain hobj hints (Nat.le_trans hlen hn2) fun base H h1 h2 h3 h4 h5 h6 => hF a ns base H hlen hbits h1 h2 h3 h4 h5 h6
end Ag

set_option Elab.async false
set_option linter.all false
set_option maxRecDepth 100000
set_option maxHeartbeats 2000000
/-! try with several clauses, each of which binds what it catches to a name. -/
namespace Ag
open PySem PySem.Spec PyProof.Rows L2
/-- a clause: the class, the slot of its name, and its suite's reading -/
structure Clause where
  cls : Value
  slot : Nat
  ts : Addr → Value → Option Addr → TS
/-- the ends of a suite whose name is unbound behind it -/
def endsU (i : Nat) (D : Ends) : Ends := ⟨fun σ H => D.nx (σ.set i none) H, D.rt, fun σ H => D.bk (σ.set i none) H, fun σ H => D.ct (σ.set i none) H⟩
def wNamed (K : PySem.W.Frag) (n : Nat) (Wout : WX) (D : Ends) : List Clause → WX
  | [] => Wout
  | q :: r => fun c d σ H => ∃ b, PySem.W.exmOne K c q.cls = some b ∧ (b = true → σ.length = n → ∀ a, H a = none → q.ts a c d (endsU q.slot D) (σ.set q.slot (some (.ref a))) H) ∧ (b = false → wNamed K n Wout D r c d σ H)
inductive ClausesOk (X : Cx) : List ExceptHandler → List Clause → Prop
  | nil : ClausesOk X [] []
  | cons {x n : Str} {q : Clause} {b₀ : Stmt} {suite : List Stmt} {np hp : Pos} {hds : List ExceptHandler} {l : List Clause} (names : Names X x q.cls) (hi : X.N[q.slot]? = some n) (loc : X.env.kindOf n = some .local)
      (run : ∀ (a : Addr) (oe : Obj) (c : Value) (d : Option Addr) (pn : List (Addr × Obj)), Zc c d oe → (∃ vs, oe.data = .fields vs) → PSs (X.suite a ((a, oe) :: pn)) (b₀ :: suite) (q.ts a c d)) (rest : ClausesOk X hds l) :
      ClausesOk X (.ExceptHandler (some (.Name x np)) (some n) (b₀ :: suite) hp :: hds) (q :: l)
section
variable {X : Cx} {body : List Stmt} {h₀ : ExceptHandler} {hds : List ExceptHandler} {l : List Clause} {pos : Pos} {tb : WX → TS} {Wout : WX}
theorem ps_try_named (stk : X.stack = X.env :: X.outer) (frm : X.env.frame = some X.env.locals) (nd : X.N.Nodup) (out : Takes X Wout)
    (hb : ∀ (W : WX) (pn : List (Addr × Obj)) (xe : Value → Shared → Prop), Takes (X.tr pn xe) W → PassesOwn (model X.prog X.w) X.A X.env xe → PSs (X.tr pn xe) body (tb W))
    (hh : ClausesOk X (h₀ :: hds) l) : PS X (.Try body (h₀ :: hds) [] [] pos) (fun D σ H => tb (wNamed X.K X.N.length Wout D l) D σ H) := by
  refine ⟨fun pins s σ H D I h => wpAny_Try_except ?_⟩
  have ok := I.ok
  have fr : X.A.frames = some (X.env :: X.outer) := by rw [ok.frames, stk]
  have caught : ∀ (u : Value) (s' : Shared), XE (X.tr (X.pn ++ pins) fun e z => wpAny (model X.prog X.w) X.A (noteFrame e X.env) (fun _ z2 => wpAny (model X.prog X.w) X.A (setFlight e none) (fun _ z3 =>
      wpAny (model X.prog X.w) X.A (handleBy e X.env (h₀ :: hds)) (SP X pins D) X.xe z3) X.xe z2) X.xe z) (wNamed X.K X.N.length Wout D l) u s' →
      wpAny (model X.prog X.w) X.A (noteFrame u X.env) (fun _ z2 => wpAny (model X.prog X.w) X.A (setFlight u none) (fun _ z3 => wpAny (model X.prog X.w) X.A (handleBy u X.env (h₀ :: hds)) (SP X pins D) X.xe z3) X.xe z2) X.xe s' := by
    rintro u s' ⟨a, B, sI, pins', σ1, H1, c, d, rfl, J0, nb, up, sky, na, os, ag, w⟩
    have J : Inv X pins σ1 H1 sI := J0.ofTry ok
    refine Sky.land Zc.steady fr frm (show Sky B (X.env :: X.outer) a (Zc c d) X.env.locals s'.heap by rw [← stk]; exact sky) fun g1 fl1 u1 => ?_
    have J1 : Inv X pins σ1 H1 { s' with heap := g1 } := J.landed nb fl1.1 (up.trans u1) os ag
    obtain ⟨o1, vs1, e1, z1, d1⟩ := fl1.there
    have nfr : a ∉ frs (X.env :: X.outer) := fun hm => by
      obtain ⟨_, o2, e2, no⟩ := fl1.2.2.1.mem hm
      rw [e1] at e2; cases e2
      exact no _ d1
    have nL : a ≠ X.env.locals := fun z => nfr (List.mem_filterMap.mpr ⟨X.env, .head _, by rw [frm, z]⟩)
    have nF : a ∉ X.fs := fun hm => by
      obtain ⟨e, he, q⟩ := List.mem_filterMap.mp hm
      exact nfr (List.mem_filterMap.mpr ⟨e, .tail _ he, q⟩)
    have S1 := J1.suite e1 d1 na nL nF
    have go : ∀ {hs : List ExceptHandler} {ls : List Clause}, ClausesOk X hs ls → wNamed X.K X.N.length Wout D ls c d σ1 H1 → wpAny (model X.prog X.w) X.A (handleBy (.ref a) X.env hs) (SP X pins D) X.xe { s' with heap := g1 } := by
      intro hs ls hk
      induction hk with
      | nil =>
        intro w
        refine wpAny_handleBy_nil ?_
        obtain ⟨_, _, _, o2, vs2, T, oT, ts2, e2, z2, d2, t1, _⟩ := id fl1
        unfold PySem.passOn
        refine wpAny_bind (wpAny_field e2 d2 t1 ?_)
        rw [if_neg (show ¬ (Value.ref T == Value.none) = true from fun z => nomatch z)]
        have last : wpAny (model X.prog X.w) X.A (setFlight (.ref a) X.env.frame) (fun _ z4 => wpAny (model X.prog X.w) X.A (throw (.ref a) : Sem Flow) (SP X pins D) X.xe z4) X.xe { s' with heap := g1 } := by
          rw [frm]
          exact HandSPX.setFlight_upZ fl1 fun g2 h2 u2 => wpAny_throw (out _ _ ⟨a, B, sI, pins, σ1, H1, c, d, rfl, J, nb, (up.trans u1).trans u2, .inr (.inr (by rw [stk]; exact h2)), na, os, ag, w⟩)
        first
          | exact wpAny_bind (wpAny_pure (wpAny_bind last))
          | exact wpAny_bind last
      | @cons x n q b₀ suite np hp hds2 l2 names hi loc run rest ih =>
        rintro ⟨b, hb1, yes, no⟩
        refine wpAny_handleBy_cons (codeAny_handlers_test ?_) (fun z => nomatch z)
        have looks : PySem.W.Looks (model X.prog X.w) g1 (typeOf (.ref a)) c := fun A Q E s k z => wpAny_typeOf_ref (k _ _ e1) (by rw [z1.1]; exact z)
        have tst : ∀ {Q : Value → Shared → Prop} {E : Value → Shared → Prop}, Q q.cls { s' with heap := g1 } → wpAny (model X.prog X.w) (X.A.mark (some (.ref a))) (eval (.Name x np) X.env) Q E { s' with heap := g1 } := fun z => by
          obtain ⟨hg, hdb, hm | ⟨hm, hv, hnn⟩⟩ := names
          · exact ld_glob (X := X.suite a ((a, o1) :: (X.pn ++ pins))) S1 hg hm z hdb
          · exact ld_blt (X := X.suite a ((a, o1) :: (X.pn ++ pins))) S1 hg hm hv z hnn hdb
        refine tst ((PySem.W.exm_one (M := model X.prog X.w) J1.kIn looks hb1).here ?_)
        cases b with
        | false =>
          show wpAny _ X.A (handleBy (.ref a) X.env hds2) _ _ _
          exact ih (no rfl)
        | true =>
          refine codeAny_handlers_suite_as (HandSPX.lands_againZ fl1 fun g2 fl2 u2 => ?_)
          have J2 : Inv X pins σ1 H1 { s' with heap := g2 } := J.landed nb fl2.1 ((up.trans u1).trans u2) os ag
          obtain ⟨o2, vs2, e2, z2, d2⟩ := fl2.there
          refine store_ok (X := X.suite a ((a, o2) :: (X.pn ++ pins))) (v := .ref a) (J2.suite e2 d2 na nL nF) nd hi (show Loc X.env.scope n from .inl loc) rfl (fun s5 S5 => ?_) (.inr loc)
          refine wpAny_mono ((run a o2 c d (X.pn ++ pins) z2 ⟨_, d2⟩).run [] s5 _ H1 _ S5 (yes rfl J2.len a na)) (fun f s6 r6 => ?_) (fun _ _ z => False.elim z)
          have fin : ∀ {σ6 : L2.St} {H6 : Hp} {R : Shared → Prop}, Inv (X.suite a ((a, o2) :: (X.pn ++ pins))) [] σ6 H6 s6 → (∀ s7, Inv X pins (σ6.set q.slot none) H6 s7 → R s7) →
              wpAny (model X.prog X.w) X.A (do bindName X.env n .none; unbindBehindTheSuite X.env n hp) (fun _ s7 => R s7) X.xe s6 := fun S6 r => gone_ok (S6.unsuite ok) nd hi loc r
          cases f with
          | next => obtain ⟨σ6, H6, S6, q6⟩ := r6; exact fin S6 fun s7 J7 => ⟨_, _, J7, q6⟩
          | brk => obtain ⟨σ6, H6, S6, q6⟩ := r6; exact fin S6 fun s7 J7 => ⟨_, _, J7, q6⟩
          | cont => obtain ⟨σ6, H6, S6, q6⟩ := r6; exact fin S6 fun s7 J7 => ⟨_, _, J7, q6⟩
          | ret u => obtain ⟨v6, σ6, H6, S6, v7, q6⟩ := r6; exact fin S6 fun s7 J7 => ⟨_, _, _, J7, v7, q6⟩
    exact go hh w
  refine wpAny_mono ((hb (wNamed X.K X.N.length Wout D l) (X.pn ++ pins) _ (fun u s' xx => caught u s' xx) PassesOwn.looking).run [] s σ H D (I.toTry _) h) (fun f s1 r => ?_) (fun e s1 z => z)
  cases f with
  | next => obtain ⟨σ', H', J', q⟩ := r; exact wpAny_execs_nil ⟨σ', H', J'.ofTry ok, q⟩
  | brk => obtain ⟨σ', H', J', q⟩ := r; exact ⟨σ', H', J'.ofTry ok, q⟩
  | cont => obtain ⟨σ', H', J', q⟩ := r; exact ⟨σ', H', J'.ofTry ok, q⟩
  | ret u => obtain ⟨v, σ', H', J', rv, q⟩ := r; exact ⟨v, σ', H', J'.ofTry ok, rv, q⟩
end
/-- code that is never come to -/
theorem pss_never {X : Cx} {sts : List Stmt} : PSs X sts (fun _ _ _ => False) := ⟨fun _ _ _ _ _ _ h => h.elim⟩
theorem ps_never {X : Cx} {st : Stmt} : PS X st (fun _ _ _ => False) := ⟨fun _ _ _ _ _ _ h => h.elim⟩
theorem pe_never {X : Cx} {e : Expr} : PE X e (fun _ _ _ => False) := ⟨fun _ _ _ _ _ _ h => h.elim⟩
end Ag

set_option Elab.async false
set_option linter.all false
set_option maxRecDepth 100000
set_option maxHeartbeats 1000000
/-! The pen: a dict of five written keys; what a draw leaves. -/
namespace Ag
open PySem PySem.Spec PyProof.Rows L2

abbrev ck (s : Str) : Key := Sum.inr s
def penKV (c : Addr) (at_ dig cnt fold : Int) : List (Key × V) :=
  [(ck "cells", .ref c), (ck "at", .int at_), (ck "digits", .int dig), (ck "count", .int cnt), (ck "fold", .int fold)]
theorem kn1 : ¬ ck "cells" = ck "at" := by decide +kernel
theorem kn2 : ¬ ck "cells" = ck "digits" := by decide +kernel
theorem kn3 : ¬ ck "cells" = ck "count" := by decide +kernel
theorem kn4 : ¬ ck "cells" = ck "fold" := by decide +kernel
theorem kn5 : ¬ ck "at" = ck "digits" := by decide +kernel
theorem kn6 : ¬ ck "at" = ck "count" := by decide +kernel
theorem kn7 : ¬ ck "at" = ck "fold" := by decide +kernel
theorem kn8 : ¬ ck "digits" = ck "count" := by decide +kernel
theorem kn9 : ¬ ck "digits" = ck "fold" := by decide +kernel
theorem kn0 : ¬ ck "count" = ck "fold" := by decide +kernel
theorem sn_cells_at : ¬ Str.ofString "cells" = Str.ofString "at" := by decide +kernel
theorem sn_cells_digits : ¬ Str.ofString "cells" = Str.ofString "digits" := by decide +kernel
theorem sn_cells_count : ¬ Str.ofString "cells" = Str.ofString "count" := by decide +kernel
theorem sn_cells_fold : ¬ Str.ofString "cells" = Str.ofString "fold" := by decide +kernel
theorem sn_at_cells : ¬ Str.ofString "at" = Str.ofString "cells" := by decide +kernel
theorem sn_at_digits : ¬ Str.ofString "at" = Str.ofString "digits" := by decide +kernel
theorem sn_at_count : ¬ Str.ofString "at" = Str.ofString "count" := by decide +kernel
theorem sn_at_fold : ¬ Str.ofString "at" = Str.ofString "fold" := by decide +kernel
theorem sn_digits_cells : ¬ Str.ofString "digits" = Str.ofString "cells" := by decide +kernel
theorem sn_digits_at : ¬ Str.ofString "digits" = Str.ofString "at" := by decide +kernel
theorem sn_digits_count : ¬ Str.ofString "digits" = Str.ofString "count" := by decide +kernel
theorem sn_digits_fold : ¬ Str.ofString "digits" = Str.ofString "fold" := by decide +kernel
theorem sn_count_cells : ¬ Str.ofString "count" = Str.ofString "cells" := by decide +kernel
theorem sn_count_at : ¬ Str.ofString "count" = Str.ofString "at" := by decide +kernel
theorem sn_count_digits : ¬ Str.ofString "count" = Str.ofString "digits" := by decide +kernel
theorem sn_count_fold : ¬ Str.ofString "count" = Str.ofString "fold" := by decide +kernel
theorem sn_fold_cells : ¬ Str.ofString "fold" = Str.ofString "cells" := by decide +kernel
theorem sn_fold_at : ¬ Str.ofString "fold" = Str.ofString "at" := by decide +kernel
theorem sn_fold_digits : ¬ Str.ofString "fold" = Str.ofString "digits" := by decide +kernel
theorem sn_fold_count : ¬ Str.ofString "fold" = Str.ofString "count" := by decide +kernel
section
variable {c : Addr} {a d n f x : Int}
theorem pen_cells : valV (penKV c a d n f) (ck "cells") = some (.ref c) := valV_pos rfl
theorem pen_at : valV (penKV c a d n f) (ck "at") = some (.int a) := by unfold penKV; rw [valV_neg kn1]; exact valV_pos rfl
theorem pen_dig : valV (penKV c a d n f) (ck "digits") = some (.int d) := by unfold penKV; rw [valV_neg kn2, valV_neg kn5]; exact valV_pos rfl
theorem pen_cnt : valV (penKV c a d n f) (ck "count") = some (.int n) := by unfold penKV; rw [valV_neg kn3, valV_neg kn6, valV_neg kn8]; exact valV_pos rfl
theorem pen_fold : valV (penKV c a d n f) (ck "fold") = some (.int f) := by unfold penKV; rw [valV_neg kn4, valV_neg kn7, valV_neg kn9, valV_neg kn0]; exact valV_pos rfl
theorem put_at : putK (penKV c a d n f) (ck "at") (.int x) = penKV c x d n f := by
  unfold putK; rw [valV_any, pen_at]
  simp [penKV, ck, sn_cells_at, sn_cells_digits, sn_cells_count, sn_cells_fold, sn_at_cells, sn_at_digits, sn_at_count, sn_at_fold, sn_digits_cells, sn_digits_at, sn_digits_count, sn_digits_fold, sn_count_cells, sn_count_at, sn_count_digits, sn_count_fold, sn_fold_cells, sn_fold_at, sn_fold_digits, sn_fold_count]
theorem put_dig : putK (penKV c a d n f) (ck "digits") (.int x) = penKV c a x n f := by
  unfold putK; rw [valV_any, pen_dig]
  simp [penKV, ck, sn_cells_at, sn_cells_digits, sn_cells_count, sn_cells_fold, sn_at_cells, sn_at_digits, sn_at_count, sn_at_fold, sn_digits_cells, sn_digits_at, sn_digits_count, sn_digits_fold, sn_count_cells, sn_count_at, sn_count_digits, sn_count_fold, sn_fold_cells, sn_fold_at, sn_fold_digits, sn_fold_count]
theorem put_cnt : putK (penKV c a d n f) (ck "count") (.int x) = penKV c a d x f := by
  unfold putK; rw [valV_any, pen_cnt]
  simp [penKV, ck, sn_cells_at, sn_cells_digits, sn_cells_count, sn_cells_fold, sn_at_cells, sn_at_digits, sn_at_count, sn_at_fold, sn_digits_cells, sn_digits_at, sn_digits_count, sn_digits_fold, sn_count_cells, sn_count_at, sn_count_digits, sn_count_fold, sn_fold_cells, sn_fold_at, sn_fold_digits, sn_fold_count]
theorem put_fold : putK (penKV c a d n f) (ck "fold") (.int x) = penKV c a d n x := by
  unfold putK; rw [valV_any, pen_fold]
  simp [penKV, ck, sn_cells_at, sn_cells_digits, sn_cells_count, sn_cells_fold, sn_at_cells, sn_at_digits, sn_at_count, sn_at_fold, sn_digits_cells, sn_digits_at, sn_digits_count, sn_digits_fold, sn_count_cells, sn_count_at, sn_count_digits, sn_count_fold, sn_fold_cells, sn_fold_at, sn_fold_digits, sn_fold_count]
end
/-- the pen at p, its cells at c; n bounds how often it has been drawn -/
def Pen (p c : Addr) (n : Nat) (H : Hp) : Prop :=
  ∃ (cells : List Int) (a d k f : Int), H p = some (.dK (penKV c a d k f)) ∧ Rd H c (.lst (cells.map V.int)) ∧ 0 ≤ a ∧ 0 ≤ d ∧ 0 ≤ k ∧ k ≤ n ∧ 0 ≤ f ∧ f < 2147483648
/-- all but the pen is kept -/
def But (p : Addr) (H H' : Hp) : Prop := ∀ a o, a ≠ p → H a = some o → H' a = some o
theorem But.refl (p : Addr) (H : Hp) : But p H H := fun _ _ _ h => h
theorem But.trans {p : Addr} {H H1 H2 : Hp} (a : But p H H1) (b : But p H1 H2) : But p H H2 := fun x o n h => b x o n (a x o n h)
theorem But.of {p : Addr} {H H1 : Hp} (a : Same H H1) : But p H H1 := fun x o _ h => a x o h
theorem But.free {p a : Addr} {H H1 : Hp} (b : But p H H1) (h : H1 a = none) (n : a ≠ p) : H a = none := by
  cases q : H a with
  | none => rfl
  | some o => rw [b a o n q] at h; cases h
section
variable {K : PySem.W.Frag} {p c : Addr} {n : Nat} {H H' : Hp}
theorem Pen.ne {a : Addr} {o : HO} (h : Pen p c n H) (e : H a = some o) (no : ∀ kvs, o ≠ .dK kvs) : a ≠ p := by
  obtain ⟨cells, a', d, k, f, hp, _⟩ := h
  exact ne_of e hp (no _)
theorem Pen.rd {a : Addr} {u : HO} (h : Pen p c n H) (b : But p H H') (r : Rd H a u) (no : ∀ kvs, u ≠ .dK kvs) : Rd H' a u := by
  rcases r with r | ⟨o, r⟩
  · exact .inl (b _ _ (h.ne r no) r)
  · exact .inr ⟨o, b _ _ (h.ne r (fun _ z => nomatch z)) r⟩
theorem Pen.sl {a : Addr} {xs : List V} (h : Pen p c n H) (b : But p H H') (r : SqL K H a xs) : SqL K H' a xs := r.imp (fun z => h.rd b z (fun _ z => nomatch z)) id
theorem Pen.st {a : Addr} {xs : List V} (h : Pen p c n H) (b : But p H H') (r : SqT K H a xs) : SqT K H' a xs := r.imp (fun z => h.rd b z (fun _ z => nomatch z)) id
mutual
theorem Pen.dp (h : Pen p c n H) (b : But p H H') : ∀ {v : V} {d : PyData}, Dp K H v d → Dp K H' v d
  | _, _, .non => .non
  | _, _, .bl b => .bl b
  | _, _, .int i => .int i
  | _, _, .str x => .str x
  | _, _, .lst q r => .lst (h.sl b q) (Pen.dps h b r)
  | _, _, .tup q r => .tup (h.st b q) (Pen.dps h b r)
theorem Pen.dps (h : Pen p c n H) (b : But p H H') : ∀ {vs : List V} {ds : List PyData}, DpAll K H vs ds → DpAll K H' vs ds
  | _, _, .nil => .nil
  | _, _, .cons q r => .cons (Pen.dp h b q) (Pen.dps h b r)
end
theorem Pen.same (h : Pen p c n H) (s : Same H H') : Pen p c n H' := by
  obtain ⟨cells, a, d, k, f, hp, hc, r⟩ := h
  exact ⟨cells, a, d, k, f, s _ _ hp, s.rdA hc, r⟩
theorem Pen.more {m : Nat} (h : Pen p c n H) (l : n ≤ m) : Pen p c m H := by
  obtain ⟨cells, a, d, k, f, hp, hc, h1, h2, h3, h4, r⟩ := h
  exact ⟨cells, a, d, k, f, hp, hc, h1, h2, h3, Int.le_trans h4 (by omega), r⟩
theorem Pen.some_p (h : Pen p c n H) : ∃ o, H p = some o := by
  obtain ⟨cells, a, d, k, f, hp, _⟩ := h; exact ⟨_, hp⟩
theorem Pen.some_c (h : Pen p c n H) : ∃ o, H c = some o := by
  obtain ⟨cells, a, d, k, f, hp, hc, _⟩ := h
  rcases hc with hc | ⟨o, hc⟩ <;> exact ⟨_, hc⟩
/-- an own object is changed or made: the pen stands -/
theorem Pen.upd {l : Addr} {o : HO} (h : Pen p c n H) (h1 : l ≠ p) (h2 : l ≠ c) : Pen p c n (L2.upd H l o) := by
  obtain ⟨cells, a, d, k, f, hp, hc, r⟩ := h
  refine ⟨cells, a, d, k, f, by rw [upd_ne (Ne.symm h1)]; exact hp, ?_, r⟩
  rcases hc with hc | ⟨o, hc⟩
  · exact .inl (by rw [upd_ne (Ne.symm h2)]; exact hc)
  · exact .inr ⟨o, by rw [upd_ne (Ne.symm h2)]; exact hc⟩
theorem Pen.ne_p {l : Addr} (h : Pen p c n H) (hl : H l = none) : l ≠ p := by
  obtain ⟨o, e⟩ := h.some_p
  exact Ne.symm (ne_of_none e hl)
theorem Pen.ne_c {l : Addr} (h : Pen p c n H) (hl : H l = none) : l ≠ c := by
  obtain ⟨o, e⟩ := h.some_c
  exact Ne.symm (ne_of_none e hl)
end

section
variable {H : Hp} {p c : Addr} {a d n f x : Int}
theorem pg_cells (h : H p = some (.dK (penKV c a d n f))) : DGet H p (.str "cells") (some (.ref c)) := by
  have q := DGet.k (k := ck "cells") h
  rw [pen_cells] at q; exact q
theorem pg_at (h : H p = some (.dK (penKV c a d n f))) : DGet H p (.str "at") (some (.int a)) := by
  have q := DGet.k (k := ck "at") h
  rw [pen_at] at q; exact q
theorem pg_dig (h : H p = some (.dK (penKV c a d n f))) : DGet H p (.str "digits") (some (.int d)) := by
  have q := DGet.k (k := ck "digits") h
  rw [pen_dig] at q; exact q
theorem pg_cnt (h : H p = some (.dK (penKV c a d n f))) : DGet H p (.str "count") (some (.int n)) := by
  have q := DGet.k (k := ck "count") h
  rw [pen_cnt] at q; exact q
theorem pg_fold (h : H p = some (.dK (penKV c a d n f))) : DGet H p (.str "fold") (some (.int f)) := by
  have q := DGet.k (k := ck "fold") h
  rw [pen_fold] at q; exact q
theorem pp_at (h : H p = some (.dK (penKV c a d n f))) : DPut H p (.str "at") (.int x) (upd H p (.dK (penKV c x d n f))) := by
  have q := DPut.k (k := ck "at") (v := .int x) h (by show 5 < sizeLine; decide)
  rw [put_at] at q; exact q
theorem pp_dig (h : H p = some (.dK (penKV c a d n f))) : DPut H p (.str "digits") (.int x) (upd H p (.dK (penKV c a x n f))) := by
  have q := DPut.k (k := ck "digits") (v := .int x) h (by show 5 < sizeLine; decide)
  rw [put_dig] at q; exact q
theorem pp_cnt (h : H p = some (.dK (penKV c a d n f))) : DPut H p (.str "count") (.int x) (upd H p (.dK (penKV c a d x f))) := by
  have q := DPut.k (k := ck "count") (v := .int x) h (by show 5 < sizeLine; decide)
  rw [put_cnt] at q; exact q
theorem pp_fold (h : H p = some (.dK (penKV c a d n f))) : DPut H p (.str "fold") (.int x) (upd H p (.dK (penKV c a d n x))) := by
  have q := DPut.k (k := ck "fold") (v := .int x) h (by show 5 < sizeLine; decide)
  rw [put_fold] at q; exact q
end
/-- the promise of a draw -/
def spDraw : Sp := fun vs H Q _ => ∃ (p c : Addr) (many : Int) (n : Nat), vs = [.ref p, .int many] ∧ Pen p c n H ∧ 0 < many ∧ many < 1000000 ∧ n < 1000000000000 ∧
  ∀ (d : Int) H', 0 ≤ d → d < many → But p H H' → Pen p c (n + 1) H' → Q (.int d) H'
end Ag

set_option Elab.async false
set_option linter.all false
set_option maxRecDepth 100000
set_option maxHeartbeats 1000000
/-! Comprehensions over data, statements over data. -/
namespace Ag
open PySem PySem.Spec PyProof.Rows L2
/-- a walk that hands out the data ds, as long as what stood at H stands -/
structure Wk (K : PySem.W.Frag) (F : Addr → Prop) (H : Hp) (J : It) (ds : List PyData) : Prop where
  go : ∀ i H', SameF F H H' → i < ds.length → J.go i H'
  stop : ∀ H', SameF F H H' → J.stop ds.length H'
  yld : ∀ i H' x H'', i < ds.length → SameF F H H' → J.yld i H' x H'' → ∃ d, ds[i]? = some d ∧ Same H' H'' ∧ Df K (fun a => F a ∧ H a ≠ none) H'' x d
def EI (K : PySem.W.Frag) (wi : TI) (σ : L2.St) (F : Addr → Prop) (H : Hp) (ds : List PyData) : Prop := ∀ H1, Same H H1 → ∀ R : It → Hp → Prop, (∀ J H2, Same H1 H2 → Wk K (Fr F H1) H2 J ds → R J H2) → wi σ H1 R
section
variable {K : PySem.W.Frag} {σ : L2.St} {F : Addr → Prop} {H : Hp} {te tl : TE} {ds : List PyData}
theorem slF {a : Addr} {xs : List V} {H' : Hp} (s : SameF F H H') (h : (Rd H a (.lst xs) ∧ F a) ∨ KL K a xs) : SqL K H' a xs := h.imp (fun z => rd_lstF s z.1 z.2) id
theorem wk_list {a : Addr} {xs : List V} (h : (Rd H a (.lst xs) ∧ F a) ∨ KL K a xs) (r : DfAll K F H xs ds) : Wk K F H (Itl K a) ds where
  go := fun i H' s hi => by
    obtain ⟨d, e⟩ : ∃ d, ds[i]? = some d := ⟨_, List.getElem?_eq_getElem hi⟩
    obtain ⟨v, q, _⟩ := dfs_get r e
    exact ⟨xs, v, slF s h, q⟩
  stop := fun H' s => ⟨xs, slF s h, by rw [dfs_len r]; exact Nat.le_refl _⟩
  yld := fun i H' x H'' _ s y => by
    obtain ⟨rfl, y⟩ := y
    obtain ⟨d, e, hd⟩ := dfs_get' (dfs_monoF (s.sub fun _ z => z.1) (dfs_in r)) (y xs (slF s h))
    exact ⟨d, e, Same.refl _, hd⟩
theorem wk_tup {a : Addr} {xs : List V} (h : SqT K H a xs) (r : DfAll K F H xs ds) : Wk K F H (Itt K a) ds where
  go := fun i H' s hi => by
    obtain ⟨d, e⟩ : ∃ d, ds[i]? = some d := ⟨_, List.getElem?_eq_getElem hi⟩
    obtain ⟨v, q, _⟩ := dfs_get r e
    exact ⟨xs, v, sqt_F s h, q⟩
  stop := fun H' s => ⟨xs, sqt_F s h, by rw [dfs_len r]; exact Nat.le_refl _⟩
  yld := fun i H' x H'' _ s y => by
    obtain ⟨rfl, y⟩ := y
    obtain ⟨d, e, hd⟩ := dfs_get' (dfs_monoF (s.sub fun _ z => z.1) (dfs_in r)) (y xs (sqt_F s h))
    exact ⟨d, e, Same.refl _, hd⟩
theorem ei_list (h : ED K tl σ F H (.list ds)) : EI K (iList K tl) σ F H ds := fun H1 s R q => h H1 s _ fun v H2 s2 hv => by
  cases hv with
  | lst hs r => exact ⟨_, rfl, ⟨_, hs.imp (fun z => z.1) id⟩, q _ H2 s2 (wk_list hs r)⟩
theorem ei_tup (h : ED K tl σ F H (.tuple ds)) : EI K (iTup K tl) σ F H ds := fun H1 s R q => h H1 s _ fun v H2 s2 hv => by
  cases hv with
  | tup hs r => exact ⟨_, rfl, ⟨_, hs⟩, q _ H2 s2 (wk_tup hs r)⟩
def signs (x : Str) : List PyData := x.cps.toList.map fun c => .str ⟨#[c]⟩
theorem ei_str {x : Str} (h : ED K te σ F H (.str x)) : EI K (iStr te) σ F H (signs x) := fun H1 s R q => h H1 s _ fun v H2 s2 hv => by
  cases hv
  refine ⟨x, rfl, q _ H2 s2 ⟨fun i H' _ hi => ?_, fun H' _ => ?_, fun i H' y H'' _ _ z => ?_⟩⟩
  · show i < x.cps.size
    rw [← Array.length_toList]; unfold signs at hi; rw [List.length_map] at hi; exact hi
  · show x.cps.size ≤ (signs x).length
    unfold signs; rw [List.length_map, Array.length_toList]; exact Nat.le_refl _
  · obtain ⟨rfl, c, e, rfl⟩ := z
    refine ⟨.str ⟨#[c]⟩, ?_, Same.refl _, .str _⟩
    unfold signs
    rw [List.getElem?_map, Array.getElem?_toList, e]; rfl
/-- the numbers below n -/
def nums (n : Nat) : List PyData := (List.range n).map fun i => .int (i : Nat)
theorem ei_range {n : Nat} (h : ED K te σ F H (.int (n : Nat))) (hn : n ≤ 100000) : EI K (iRng1 (tCons te tNil)) σ F H (nums n) := fun H1 s R q => h H1 s _ fun v H2 s2 hv => by
  cases hv
  refine ⟨_, rfl, by omega, by omega, q _ H2 s2 ⟨fun i H' _ hi => ?_, fun H' _ => ?_, fun i H' y H'' hi _ z => ?_⟩⟩
  · show i < ((n : Int)).toNat
    unfold nums at hi; rw [List.length_map, List.length_range] at hi; omega
  · show ((n : Int)).toNat ≤ (nums n).length
    unfold nums; rw [List.length_map, List.length_range]; omega
  · obtain ⟨rfl, rfl⟩ := z
    unfold nums at hi; rw [List.length_map, List.length_range] at hi
    refine ⟨.int (i : Nat), ?_, Same.refl _, by rw [Int.zero_add]; exact .int _⟩
    unfold nums; rw [List.getElem?_map, List.getElem?_range hi]; rfl
def zipD (xs ys : List PyData) : List PyData := List.zipWith (fun a b => .tuple [a, b]) xs ys
theorem ei_zip {ta : TA} {xs ys : List PyData} (h : EA K ta σ F H [.tuple xs, .tuple ys]) : EI K (RZ.iZipA K ta) σ F H (zipD xs ys) := fun H1 s R q => h H1 s _ fun vs H2 s2 hv => by
  cases hv with
  | cons a r =>
    cases r with
    | cons b r =>
      cases r
      cases a with
      | tup ha ra =>
        cases b with
        | tup hb rb =>
          refine ⟨_, _, _, _, rfl, .inr ⟨ha, hb, q _ H2 s2 ⟨fun i H' s3 hi => ?_, fun H' s3 => ?_, fun i H' y H'' _ s3 z => ?_⟩⟩⟩
          · have hi' : i < xs.length ∧ i < ys.length := by
              unfold zipD at hi; rw [List.length_zipWith] at hi; omega
            obtain ⟨v, e, _⟩ := dfs_get ra (List.getElem?_eq_getElem hi'.1)
            obtain ⟨v2, e2, _⟩ := dfs_get rb (List.getElem?_eq_getElem hi'.2)
            exact ⟨_, _, v, v2, sqt_F s3 ha, sqt_F s3 hb, e, e2⟩
          · refine ⟨_, _, sqt_F s3 ha, sqt_F s3 hb, ?_⟩
            unfold zipD; rw [List.length_zipWith, dfs_len ra, dfs_len rb]; omega
          · obtain ⟨T, x, x2, rfl, hT, rfl, e1, e2⟩ := z
            obtain ⟨d, q1, hd⟩ := dfs_get' (dfs_in ra) (e1 _ (sqt_F s3 ha))
            obtain ⟨d2, q2, hd2⟩ := dfs_get' (dfs_in rb) (e2 _ (sqt_F s3 hb))
            refine ⟨.tuple [d, d2], ?_, Same.newA hT, .tup (.of upd_same) (.cons (df_mono (Same.newA hT) (fun _ z => z) (df_monoF (s3.sub fun _ z => z.1) hd)) (.cons (df_mono (Same.newA hT) (fun _ z => z) (df_monoF (s3.sub fun _ z => z.1) hd2)) .nil))⟩
            unfold zipD; rw [List.getElem?_zipWith, q1, q2]
/-- a comprehension over data: the list made -/
theorem lc_run {wi : TI} {g : TG} {tt : TT} {vs : List Nat} {f : PyData → Bool} {m : PyData → PyData} (hi : EI K wi σ F H ds) (hl : ds.length ≤ 50000)
    (ht : ∀ F2 H1, Ext F H F2 H1 → ∀ v d, d ∈ ds → Df K F2 H1 v d → ∃ σ2, (∀ Q : L2.St → Hp → Prop, Q σ2 H1 → g v (wipe σ vs) H1 Q) ∧ wipe σ2 vs = wipe σ vs ∧ ET tt σ2 H1 (f d) ∧ (f d = true → ED K te σ2 F2 H1 (m d))) :
    ∀ H1, Same H H1 → ∀ Q : VK, (∀ D ys H', Same H1 H' → H1 D = none → H' D = some (.lst ys) → DfAll K (fun a => Fr F H1 a ∧ a ≠ D) H' ys ((ds.filter f).map m) → Q (.ref D) H') → tLc wi g tt te vs σ H1 Q := fun H1 s Q q => hi H1 s _ fun J H2 s2 W D hD => by
  have out : ∀ i, i ≤ ds.length → (((ds.take i).filter f).map m).length < 100000 := fun i hi => by
    rw [List.length_map]
    have := List.length_filter_le f (ds.take i)
    rw [List.length_take] at this
    omega
  have hD1 : H1 D = none := s2.freshA hD
  -- what items may be: lists not at D
  let F2 : Addr → Prop := fun a => Fr F H1 a ∧ a ≠ D
  have nF : ¬ F2 D := fun z => z.2 rfl
  refine ⟨fun i k H' => k = ds.length - i ∧ i ≤ ds.length ∧ Same H2 H' ∧ ∃ ys, H' D = some (.lst ys) ∧ DfAll K F2 H' ys (((ds.take i).filter f).map m), ⟨ds.length, by simp, Nat.zero_le _, Same.newA hD, [], upd_same, by simp; exact .nil⟩, ?_⟩
  rintro i k H' ⟨rfl, hi, s3, ys, e, r⟩
  by_cases lt : i < ds.length
  · refine .inr ⟨W.go i H' s3.F lt, fun H5 => Same H2 H5 ∧ ∃ ys, H5 D = some (.lst ys) ∧ DfAll K F2 H5 ys (((ds.take (i + 1)).filter f).map m), fun H5 ⟨a, b⟩ => ⟨ds.length - (i + 1), by omega, rfl, lt, a, b⟩, fun x H3 y => ?_⟩
    obtain ⟨d, hd, s4, hx⟩ := W.yld i H' x H3 lt s3.F y
    have hx2 : Df K F2 H3 x d := df_mono (Same.refl _) (fun a z => ⟨z.1, fun q => z.2 (q ▸ hD)⟩) hx
    obtain ⟨σ2, hg, hw, htt, hte⟩ := ht F2 H3 ⟨(((s.trans s2).trans s3).trans s4).F, fun a z n => ⟨.inl z, fun q => n (s.freshA (q ▸ hD1))⟩⟩ x d (List.mem_of_getElem? hd) hx2
    have tk : ds.take (i + 1) = ds.take i ++ [d] := by rw [List.take_succ, hd]; rfl
    refine hg _ ⟨hw, htt H3 (Same.refl _) _ fun H4 s5 => ?_⟩
    cases hf : f d with
    | true =>
      refine hte hf H4 s5 _ fun v H5 s6 hv => ?_
      have e4 : H4 D = some (.lst ys) := s5 _ _ (s4 _ _ e)
      have e5 : H5 D = some (.lst ys) := s6 _ _ e4
      have s45 := (s4.trans s5).trans s6
      have r5 : DfAll K F2 H5 ys (((ds.take i).filter f).map m) := dfs_mono s45 (fun _ z => z) r
      have v5 : Df K F2 H5 v (m d) := df_mono (Same.refl _) (fun a z => by
        rcases z with z | z
        · exact z
        · exact ⟨.inr (s2.freshA (s3.freshA ((s4.trans s5).freshA z))), fun q => by rw [q, e4] at z; cases z⟩) hv
      refine ⟨ys, e5, lt5 (by rw [dfs_len r5]; exact out i hi), fun a u h => ?_, ys ++ [v], upd_same, ?_⟩
      · rw [upd_ne (ne_of_none h hD)]; exact s45 _ _ (s3 _ _ h)
      · rw [tk, List.filter_append, List.map_append]
        have e1 : ([d].filter f).map m = [m d] := by simp [hf]
        rw [e1]
        exact dfs_app (dfs_upd e5 nF r5) (.cons (df_upd e5 nF v5) .nil)
    | false =>
      refine ⟨fun a u h => s5 _ _ (s4 _ _ (s3 _ _ h)), ys, s5 _ _ (s4 _ _ e), ?_⟩
      rw [tk, List.filter_append, List.map_append]
      have e1 : ([d].filter f).map m = [] := by simp [hf]
      rw [e1, List.append_nil]
      exact dfs_mono (s4.trans s5) (fun _ z => z) r
  · have : i = ds.length := by omega
    subst this
    refine .inl ⟨W.stop H' s3.F, q D ys H' (s2.trans s3) hD1 e ?_⟩
    rw [List.take_length] at r; exact r
/-- a comprehension over data -/
theorem ed_lc {wi : TI} {g : TG} {tt : TT} {vs : List Nat} {f : PyData → Bool} {m : PyData → PyData} (hi : EI K wi σ F H ds) (hl : ds.length ≤ 50000)
    (ht : ∀ F2 H1, Ext F H F2 H1 → ∀ v d, d ∈ ds → Df K F2 H1 v d → ∃ σ2, (∀ Q : L2.St → Hp → Prop, Q σ2 H1 → g v (wipe σ vs) H1 Q) ∧ wipe σ2 vs = wipe σ vs ∧ ET tt σ2 H1 (f d) ∧ (f d = true → ED K te σ2 F2 H1 (m d))) :
    ED K (tLc wi g tt te vs) σ F H (.list ((ds.filter f).map m)) := fun H1 s Q q => lc_run hi hl ht H1 s Q fun D ys H' s2 n e r => q _ _ s2 (.lst (.inl ⟨.inl e, .inr n⟩) (dfs_mono (Same.refl _) (fun _ z => z.1) r))
theorem et_yes : ET tYes σ H true := fun H1 _ _ q => q H1 (Same.refl _)
end
/-! ### statements over data -/
section
variable {K : PySem.W.Frag} {σ : L2.St} {F : Addr → Prop} {H : Hp} {te ta tb : TE} {t : TT} {d e : PyData} {D : Ends} {tu tw : TS}
theorem s_ret (h : ED K te σ F H d) (k : ∀ v H1, Same H H1 → Df K (Fr F H) H1 v d → D.rt v H1) : tRet te D σ H := h H (Same.refl _) _ k
theorem s_set {i : Nat} (h : ED K te σ F H d) (k : ∀ v H1, Same H H1 → Df K (Fr F H) H1 v d → D.nx (σ.set i (some v)) H1) : tAsg te (gName i) D σ H := h H (Same.refl _) _ k
theorem s_if {b : Bool} (h : ET t σ H b) (h1 : b = true → ∀ H1, Same H H1 → tu D σ H1) (h2 : b = false → ∀ H1, Same H H1 → tw D σ H1) : tIfS t tu tw D σ H := h H (Same.refl _) _ fun H1 s => by
  cases b with
  | true => exact h1 rfl H1 s
  | false => exact h2 rfl H1 s
theorem ed_notInS {c : Nat} {z : Str} (ha : ED K ta σ F H (.str ⟨#[c]⟩)) (hb : ED K tb σ F H (.str z)) :
    ED K (tOp (fun x y H Q => ∃ (c : Nat) (z : Str), x = .str ⟨#[c]⟩ ∧ y = .str z ∧ Q (.bl (!decide (c ∈ z.cps.toList))) H) ta tb) σ F H (.bool (!decide (c ∈ z.cps.toList))) :=
  ed_op ha hb fun F a b H1 hx hy Q q => by
    cases hx; cases hy; exact ⟨c, z, rfl, rfl, q _ _ (Same.refl _) (.bl _)⟩
theorem ed_inS {c : Nat} {z : Str} (ha : ED K ta σ F H (.str ⟨#[c]⟩)) (hb : ED K tb σ F H (.str z)) :
    ED K (tOp (fun x y H Q => ∃ (c : Nat) (z : Str), x = .str ⟨#[c]⟩ ∧ y = .str z ∧ Q (.bl (decide (c ∈ z.cps.toList))) H) ta tb) σ F H (.bool (decide (c ∈ z.cps.toList))) :=
  ed_op ha hb fun F a b H1 hx hy Q q => by
    cases hx; cases hy; exact ⟨c, z, rfl, rfl, q _ _ (Same.refl _) (.bl _)⟩
end
end Ag

set_option Elab.async false
set_option linter.all false
set_option maxRecDepth 100000
set_option maxHeartbeats 1000000
/-! More rules over data: x is True, in of texts, slices and sums of tuples, list.extend of a tuple. -/
namespace Ag
open PySem PySem.Spec PyProof.Rows L2
/-- a value of data -/
def isDat : V → Bool | .non | .bl _ | .int _ | .str _ | .ref _ => true | _ => false
def rIsX (neg : Bool) : R2 := fun x y H Q => ∃ b, y = .bl b ∧ isDat x = true ∧ Q (.bl (if neg then !decide (x = .bl b) else decide (x = .bl b))) H
theorem is_dat {v : Value} {x : V} {b : Bool} (r : RelV x v) (h : isDat x = true) : plainIs v (.bool b) = true ∧ (v == Value.bool b) = decide (x = .bl b) := by
  cases x with
  | non => cases r; exact ⟨rfl, by rw [decide_eq_false (fun z => nomatch z)]; rfl⟩
  | bl c => cases r; exact ⟨rfl, by cases c <;> cases b <;> decide⟩
  | int i => obtain ⟨t, rfl⟩ := r; exact ⟨rfl, by rw [decide_eq_false (fun z => nomatch z)]; rfl⟩
  | str i => obtain ⟨t, rfl⟩ := r; exact ⟨rfl, by rw [decide_eq_false (fun z => nomatch z)]; rfl⟩
  | ref a => cases r; exact ⟨rfl, by rw [decide_eq_false (fun z => nomatch z)]; rfl⟩
  | _ => cases h
theorem op_isB {X : Cx} : OpR X (compareOp .Is) (rIsX false) := by
  intro pins s σ H x y v u Q I rx ry h
  obtain ⟨b, rfl, hd, q⟩ := h
  cases (show u = Value.bool b from ry)
  obtain ⟨h1, h2⟩ := is_dat (b := b) rx hd
  exact wpAny_is_plain h1 ⟨.bl _, H, I, rfl, by rw [h2]; exact q⟩
theorem op_isnotB {X : Cx} : OpR X (compareOp .IsNot) (rIsX true) := by
  intro pins s σ H x y v u Q I rx ry h
  obtain ⟨b, rfl, hd, q⟩ := h
  cases (show u = Value.bool b from ry)
  obtain ⟨h1, h2⟩ := is_dat (b := b) rx hd
  exact wpAny_isNot_plain h1 ⟨.bl _, H, I, rfl, by rw [h2]; exact q⟩
end Ag
namespace PySem.AutoSeq1
open PySem PySem.Spec PyProof.Rows
set_option maxRecDepth 8000 in
theorem list_extend_tup (l : Addr) (items : Array Value) (n : Nat) (b : Addr) (items2 : Array Value) (n2 : Nat) (dd : Option Addr) (sl : Array (Option Value)) (hs0 : ¬(!items.isEmpty && Builtin.List.listTooLong (items.size + items2.size)) = true) (hs1 : items.size ≤ sizeLine) (hs2 : items.size + items2.size ≤ sizeLine + 1) :
    Meets (Builtin.«list.extend» ⟨[.ref l, .ref b], []⟩) (fun _ R s => s.heap.get? l = some { cls := .type "list", dict := none, data := .seq items n, slots := #[] } ∧ s.heap.get? b = some { cls := .type "tuple", dict := dd, data := .seq items2 n2, slots := sl } ∧ R (.ok (.ret Value.none)) { s with heap := s.heap.update l (Obj.mapSeq fun x => x ++ items2), toks := s.toks }) :=
  .of_wp fun prog w A R s h => by
    obtain ⟨hp, g, d, tk, os⟩ := s; obtain ⟨hl, hb, h⟩ := h; have f1 := idx_int; have f2 := sub_tuple_tuple; have f3 := sub_list_list; have f4 := sub_tuple_list; have f5 := sub_list_tuple;
    have hz' : (items ++ items2).size ≤ sizeLine + 1 := by rw [Array.size_append]; exact hs2
    wp_walk using (wpAny_updateSeq hl rfl (hz := hs1) (_hz' := hz')), wpAny_loadPart' hl, wpAny_loadPart' hb; exact ⟨_, rfl, h⟩
end PySem.AutoSeq1
namespace Ag
open PySem PySem.Spec PyProof.Rows L2
/-- l.extend(tuple) -/
def rExtendT (K : PySem.W.Frag) : V → List V → Hp → VK → Prop := fun x vs H Q => ∃ l b xs zs, x = .ref l ∧ vs = [.ref b] ∧ H l = some (.lst xs) ∧ SqT K H b zs ∧ xs.length + zs.length ≤ sizeLine ∧ Q .non (upd H l (.lst (xs ++ zs)))
theorem mt_extendT {X : Cx} : MtM X "list.extend" (rExtendT X.K) := by
  intro pins s σ H x vs v us Q I rx rv h
  obtain ⟨l, b, xs, zs, rfl, rfl, hH, hB, hz, q⟩ := h
  cases rx
  obtain ⟨u, rfl, ru⟩ := rv.one
  cases ru
  obtain ⟨z, its, n, r, hl, e⟩ := I.lstM hH
  obtain ⟨its2, r2, ⟨⟨oc, od, odt, osl⟩, e2, ec, n2, ed⟩, hz2⟩ := I.tuple hB
  simp only at ec ed
  subst ec ed
  have hl2 := r2.length
  have hsz : its.toArray.size + its2.toArray.size ≤ sizeLine := by rw [List.size_toArray, List.size_toArray]; omega
  have hlong : ¬ (!its.toArray.isEmpty && Builtin.List.listTooLong (its.toArray.size + its2.toArray.size)) = true := by
    rw [notLongL hsz, Bool.and_false]
    exact Bool.false_ne_true
  refine call_meets F.slot_list_extend ⟨_, e, rfl⟩ F.entry_list_extend (F.args_list_extend_2 _ _)
    (PySem.AutoSeq1.list_extend_tup l its.toArray n b its2.toArray n2 od osl hlong (by rw [List.size_toArray]; omega) (by omega)) ⟨e, e2, ?_⟩
  refine ⟨.non, _, I.lset (its' := its ++ its2) hH e (by simp) (r.append r2) ?_, rfl, q⟩
  rw [List.length_append]
  omega

section
variable {K : PySem.W.Frag} {σ : L2.St} {F : Addr → Prop} {H : Hp} {te ta tb : TE} {d e : PyData}
theorem df_isDat {x : V} (h : Df K F H x d) : isDat x = true := by cases h <;> rfl
def isB (b : Bool) : PyData → Bool | .bool c => c == b | _ => false
theorem isB_of {b : Bool} {x : V} (h : Df K F H x d) : decide (x = .bl b) = isB b d := by
  cases h with
  | bl c => cases c <;> cases b <;> decide
  | _ => exact decide_eq_false (fun z => nomatch z)
theorem ed_isB {b : Bool} (ha : ED K ta σ F H d) : ED K (tOp (rIsX false) ta (tC (.bl b))) σ F H (.bool (isB b d)) :=
  ed_op ha ed_bl fun F x y H1 hx hy Q q => by
    cases hy; refine ⟨b, rfl, df_isDat hx, ?_⟩
    show Q (.bl (decide (x = .bl b))) H1
    rw [isB_of hx]; exact q _ _ (Same.refl _) (.bl _)
theorem ed_isnotB {b : Bool} (ha : ED K ta σ F H d) : ED K (tOp (rIsX true) ta (tC (.bl b))) σ F H (.bool (!isB b d)) :=
  ed_op ha ed_bl fun F x y H1 hx hy Q q => by
    cases hy; refine ⟨b, rfl, df_isDat hx, ?_⟩
    show Q (.bl (!decide (x = .bl b))) H1
    rw [isB_of hx]; exact q _ _ (Same.refl _) (.bl _)
theorem inV_strs (x : Str) : ∀ (xs : List Str), inV (.str x) (xs.map V.str) = decide (x ∈ xs)
  | [] => rfl
  | y :: ys => by
    have ih := inV_strs x ys
    unfold inV at ih ⊢
    rw [List.map_cons, List.any_cons, ih]
    have e : eqV (.str y) (.str x) = decide (y = x) := rfl
    rw [e]
    by_cases h : x = y
    · subst h; simp
    · have h' : ¬ y = x := fun q => h q.symm
      simp [h, h']
theorem flat_strs : ∀ (xs : List Str), (xs.map V.str).all flatV = true
  | [] => rfl
  | y :: ys => by rw [List.map_cons, List.all_cons, flat_strs ys]; rfl
theorem ed_inSeq {x : Str} {xs : List Str} (ha : ED K ta σ F H (.str x)) (hb : ED K tb σ F H e) (he : e = .tuple (xs.map .str) ∨ e = .list (xs.map .str)) : ED K (tOp (rIn K false) ta tb) σ F H (.bool (decide (x ∈ xs))) :=
  ed_op ha hb fun F a b H1 hx hy Q q => by
    cases hx
    have h : ∃ p, b = .ref p ∧ (SqL K H1 p (xs.map V.str) ∨ SqT K H1 p (xs.map V.str)) := by
      rcases he with rfl | rfl
      · cases hy with
        | tup h r => rw [strs_dps (dfs_dps r)] at h; exact ⟨_, rfl, .inr h⟩
      · cases hy with
        | lst h r => rw [strs_dps (dfs_dps r)] at h; exact ⟨_, rfl, .inl (h.imp (fun z => z.1) id)⟩
    obtain ⟨p, rfl, h⟩ := h
    refine ⟨p, _, rfl, h, rfl, flat_strs xs, ?_⟩
    show Q (.bl (inV (.str x) (xs.map V.str))) H1
    rw [inV_strs]; exact q _ _ (Same.refl _) (.bl _)
theorem ed_notInSeq {x : Str} {xs : List Str} (ha : ED K ta σ F H (.str x)) (hb : ED K tb σ F H e) (he : e = .tuple (xs.map .str) ∨ e = .list (xs.map .str)) : ED K (tOp (rIn K true) ta tb) σ F H (.bool (!decide (x ∈ xs))) :=
  ed_op ha hb fun F a b H1 hx hy Q q => by
    cases hx
    have h : ∃ p, b = .ref p ∧ (SqL K H1 p (xs.map V.str) ∨ SqT K H1 p (xs.map V.str)) := by
      rcases he with rfl | rfl
      · cases hy with
        | tup h r => rw [strs_dps (dfs_dps r)] at h; exact ⟨_, rfl, .inr h⟩
      · cases hy with
        | lst h r => rw [strs_dps (dfs_dps r)] at h; exact ⟨_, rfl, .inl (h.imp (fun z => z.1) id)⟩
    obtain ⟨p, rfl, h⟩ := h
    refine ⟨p, _, rfl, h, rfl, flat_strs xs, ?_⟩
    show Q (.bl (!inV (.str x) (xs.map V.str))) H1
    rw [inV_strs]; exact q _ _ (Same.refl _) (.bl _)
theorem ed_catT {xs ys : List PyData} (ha : ED K ta σ F H (.tuple xs)) (hb : ED K tb σ F H (.tuple ys)) (hl : xs.length + ys.length ≤ 100000) : ED K (tOp (rCatA K) ta tb) σ F H (.tuple (xs ++ ys)) :=
  ed_op ha hb fun F a b H1 hx hy Q q => by
    cases hx with
    | tup h r =>
      cases hy with
      | tup h2 r2 =>
        refine ⟨_, _, _, _, rfl, rfl, h, h2, by rw [dfs_len r, dfs_len r2]; exact small5 hl, fun z => ?_, fun _ z => ?_, fun _ _ p hp => ?_⟩
        · subst z; cases r; exact q _ _ (Same.refl _) (.tup h2 (dfs_mono (Same.refl _) (fun _ z => .inl z) r2))
        · subst z; cases r2; exact q _ _ (Same.refl _) (by rw [List.append_nil]; exact .tup h (dfs_mono (Same.refl _) (fun _ z => .inl z) r))
        · exact q _ _ (Same.newA hp) (.tup (.of upd_same) (dfs_mono (Same.newA hp) (fun _ z => .inl z) (dfs_app r r2)))
def cutD (xs : List PyData) (lo hi : Option Int) : List PyData := (xs.drop (HT.sIx xs.length 0 lo)).take (HT.sIx xs.length xs.length hi - HT.sIx xs.length 0 lo)
theorem dfs_cut {vs : List V} {ds : List PyData} {lo hi : Option Int} (h : DfAll K F H vs ds) : DfAll K F H (cutV vs lo hi) (cutD ds lo hi) := by
  unfold cutV cutD; rw [dfs_len h]; exact dfs_take _ (dfs_drop _ h)
theorem cutD_all {ds : List PyData} {lo hi : Option Int} (h : HT.sIx ds.length 0 lo = 0 ∧ HT.sIx ds.length ds.length hi = ds.length) : cutD ds lo hi = ds := by
  unfold cutD; rw [h.1, h.2, List.drop_zero, Nat.sub_zero, List.take_length]
theorem eo_none : EO tNoPart σ H none := fun H1 s Q q => q H1 (Same.refl _)
theorem eo_some {i : Int} (h : ED K te σ F H (.int i)) : EO (tPart te) σ H (some i) := fun H1 s Q q => h H1 s _ fun v H2 s2 hv => by
  cases hv; exact ⟨i, rfl, q H2 s2⟩
theorem ed_slT {xs : List PyData} {tl th : TO} {lo hi : Option Int} (h : ED K te σ F H (.tuple xs)) (hl : EO tl σ H lo) (hh : EO th σ H hi) : ED K (tSl (rSlA K) te tl th) σ F H (.tuple (cutD xs lo hi)) := fun H1 s Q q =>
  h H1 s _ fun v H2 s2 hv => hl H2 (s.trans s2) _ fun H3 s3 => hh H3 ((s.trans s2).trans s3) _ fun H4 s4 => by
    cases hv with
    | tup ht r =>
      have s34 := s3.trans s4
      have s24 := s2.trans s34
      refine ⟨_, _, rfl, s34.stA ht, fun z => ?_, fun _ p hp => ?_⟩
      · rw [dfs_len r] at z
        exact q _ _ s24 (by rw [cutD_all z]; exact .tup (s34.stA ht) (dfs_mono s34 (fun _ z => z) r))
      · exact q _ _ (s24.trans (Same.newA hp)) (.tup (.of upd_same) (dfs_mono (s34.trans (Same.newA hp)) (fun _ z => z) (dfs_cut r)))
theorem ed_slL {xs : List PyData} {tl th : TO} {lo hi : Option Int} (h : ED K te σ F H (.list xs)) (hl : EO tl σ H lo) (hh : EO th σ H hi) : ED K (tSl (rSlL K) te tl th) σ F H (.list (cutD xs lo hi)) := fun H1 s Q q =>
  h H1 s _ fun v H2 s2 hv => hl H2 (s.trans s2) _ fun H3 s3 => hh H3 ((s.trans s2).trans s3) _ fun H4 s4 => by
    cases hv with
    | lst ht r =>
      have s34 := s3.trans s4
      have s24 := s2.trans s34
      refine ⟨_, _, rfl, s34.slA (ht.imp (fun z => z.1) id), fun p hp => ?_⟩
      exact q _ _ (s24.trans (Same.newA hp)) (.lst (.inl ⟨.inl upd_same, .inr (s24.freshA hp)⟩) (dfs_mono (s34.trans (Same.newA hp)) (fun _ z => z) (dfs_cut r)))
theorem filt_tt {α : Type} (l : List α) : l.filter (fun _ => true) = l := List.filter_eq_self.mpr fun _ _ => rfl
end
end Ag

set_option Elab.async false
set_option linter.all false
set_option maxRecDepth 100000
set_option maxHeartbeats 1000000
/-! A list beside the empty list, whatever its depth. -/
namespace Ag
open PySem PySem.Spec PyProof.Rows L2
def rNeE (K : PySem.W.Frag) : R2 := fun x y H Q => ∃ ds, Dp K H x (.list ds) ∧ Dp K H y (.list []) ∧ PyData.canLayAll0 ds = true ∧ Q (.bl (!ds.isEmpty)) H
def rEqE (K : PySem.W.Frag) : R2 := fun x y H Q => ∃ ds, Dp K H x (.list ds) ∧ Dp K H y (.list []) ∧ PyData.canLayAll0 ds = true ∧ Q (.bl ds.isEmpty) H
theorem eqv_empty : ∀ (ds : List PyData), PyData.eqv (.list ds) (.list []) = ds.isEmpty
  | [] => by simp [PyData.eqv, PyData.eqvAll]
  | _ :: _ => by simp [PyData.eqv, PyData.eqvAll]
theorem room_empty {A : Around} {d : PyData} (hu : A.units + 64 < cLine) : A.units + min d.depth (PyData.list []).depth < cLine := by
  have h : (PyData.list []).depth ≤ 64 := by decide
  have h2 : min d.depth (PyData.list []).depth ≤ (PyData.list []).depth := Nat.min_le_right _ _
  omega
theorem op_neE {X : Cx} (hu : X.A.units + 64 < cLine) : OpR X (compareOp .NotEq) (rNeE X.K) := by
  intro pins s σ H x y v u Q I rx ry h
  obtain ⟨ds, hd, he, sd, q⟩ := h
  obtain ⟨as, r1⟩ := Dp.reads I (.list ds) x v hd rx
  obtain ⟨bs, r2⟩ := Dp.reads I (.list []) y u he ry
  exact SeqAt.compareNe_reads r1 r2 (by simpa [PyData.canLay0] using sd) (by simp [PyData.canLay0, PyData.canLayAll0]) (room_empty hu) ⟨.bl _, H, I, rfl, by rw [eqv_empty]; exact q⟩
theorem op_eqE {X : Cx} (hu : X.A.units + 64 < cLine) : OpR X (compareOp .Eq) (rEqE X.K) := by
  intro pins s σ H x y v u Q I rx ry h
  obtain ⟨ds, hd, he, sd, q⟩ := h
  obtain ⟨as, r1⟩ := Dp.reads I (.list ds) x v hd rx
  obtain ⟨bs, r2⟩ := Dp.reads I (.list []) y u he ry
  exact SeqAt.compareEq_reads r1 r2 (by simpa [PyData.canLay0] using sd) (by simp [PyData.canLay0, PyData.canLayAll0]) (room_empty hu) ⟨.bl _, H, I, rfl, by rw [eqv_empty]; exact q⟩
section
variable {K : PySem.W.Frag} {σ : L2.St} {F : Addr → Prop} {H : Hp} {te ta tb : TE} {ds : List PyData}
theorem ed_neE (ha : ED K ta σ F H (.list ds)) (hb : ED K tb σ F H (.list [])) (hl : PyData.canLayAll0 ds = true) : ED K (tOp (rNeE K) ta tb) σ F H (.bool (!ds.isEmpty)) :=
  ed_op ha hb fun F a b H1 hx hy Q q => ⟨ds, df_dp hx, df_dp hy, hl, q _ _ (Same.refl _) (.bl _)⟩
theorem ed_eqE (ha : ED K ta σ F H (.list ds)) (hb : ED K tb σ F H (.list [])) (hl : PyData.canLayAll0 ds = true) : ED K (tOp (rEqE K) ta tb) σ F H (.bool ds.isEmpty) :=
  ed_op ha hb fun F a b H1 hx hy Q q => ⟨ds, df_dp hx, df_dp hy, hl, q _ _ (Same.refl _) (.bl _)⟩
theorem ed_emp : ED K (tLst tNil) σ F H (.list []) := ed_lst ea_nil (by decide)
/-- a comprehension of two clauses over data: the list made -/
theorem lc2_run {wi wi1 : TI} {g g1 : TG} {tt tt1 : TT} {vs vs1 : List Nat} {es : PyData → List PyData} {m : PyData → PyData} (hi : EI K wi σ F H ds) (hl : (ds.flatMap es).length ≤ 50000)
    (ht : ∀ F2 H1, Ext F H F2 H1 → ∀ v d, d ∈ ds → Df K F2 H1 v d → ∃ σ2, (∀ Q : L2.St → Hp → Prop, Q σ2 H1 → g v (wipe σ vs) H1 Q) ∧ wipe σ2 vs = wipe σ vs ∧ ET tt σ2 H1 true ∧ EI K wi1 σ2 F2 H1 (es d) ∧
      ∀ F3 H2, Ext F2 H1 F3 H2 → ∀ v2 d2, d2 ∈ es d → Df K F3 H2 v2 d2 → ∃ σ3, (∀ Q : L2.St → Hp → Prop, Q σ3 H2 → g1 v2 (wipe σ2 vs1) H2 Q) ∧ wipe σ3 vs1 = wipe σ2 vs1 ∧ ET tt1 σ3 H2 true ∧ ED K te σ3 F3 H2 (m d2)) :
    ∀ H1, Same H H1 → ∀ Q : VK, (∀ D ys H', Same H1 H' → H1 D = none → H' D = some (.lst ys) → DfAll K (fun a => Fr F H1 a ∧ a ≠ D) H' ys ((ds.flatMap es).map m) → Q (.ref D) H') → tLc2 wi g tt wi1 g1 tt1 te vs vs1 σ H1 Q := fun H1 s Q q => hi H1 s _ fun J H2 s2 W D hD => by
  have hD1 : H1 D = none := s2.freshA hD
  let F2 : Addr → Prop := fun a => Fr F H1 a ∧ a ≠ D
  have nF : ¬ F2 D := fun z => z.2 rfl
  refine ⟨fun i k H' => k = ds.length - i ∧ i ≤ ds.length ∧ Same H2 H' ∧ ∃ ys, H' D = some (.lst ys) ∧ DfAll K F2 H' ys (((ds.take i).flatMap es).map m), ⟨ds.length, by simp, Nat.zero_le _, Same.newA hD, [], upd_same, by simp; exact .nil⟩, ?_⟩
  rintro i k H' ⟨rfl, hi, s3, ys, e, r⟩
  by_cases lt : i < ds.length
  · refine .inr ⟨W.go i H' s3.F lt, fun H5 => Same H2 H5 ∧ ∃ ys, H5 D = some (.lst ys) ∧ DfAll K F2 H5 ys (((ds.take (i + 1)).flatMap es).map m), fun H5 ⟨a, b⟩ => ⟨ds.length - (i + 1), by omega, rfl, lt, a, b⟩, fun x H3 y => ?_⟩
    obtain ⟨d, hd, s4, hx⟩ := W.yld i H' x H3 lt s3.F y
    have hx2 : Df K F2 H3 x d := df_mono (Same.refl _) (fun a z => ⟨z.1, fun q => z.2 (q ▸ hD)⟩) hx
    obtain ⟨σ2, hg, hw, htt, hin, hte⟩ := ht F2 H3 ⟨(((s.trans s2).trans s3).trans s4).F, fun a z n => ⟨.inl z, fun q => n (s.freshA (q ▸ hD1))⟩⟩ x d (List.mem_of_getElem? hd) hx2
    have tk : ds.take (i + 1) = ds.take i ++ [d] := by rw [List.take_succ, hd]; rfl
    have tkf : (ds.take (i + 1)).flatMap es = (ds.take i).flatMap es ++ es d := by rw [tk, List.flatMap_append]; simp
    have bnd : ((ds.take i).flatMap es ++ es d).length ≤ 50000 := by
      rw [← tkf]
      refine Nat.le_trans ?_ hl
      conv => rhs; rw [← List.take_append_drop (i + 1) ds, List.flatMap_append, List.length_append]
      exact Nat.le_add_right _ _
    refine hg _ ⟨hw, htt H3 (Same.refl _) _ fun H4 s5 => ?_⟩
    have e4 : H4 D = some (.lst ys) := s5 _ _ (s4 _ _ e)
    refine hin H4 s5 _ fun J1 H6 s6 W1 => ?_
    have e6 := s6 _ _ e4
    have s36 := (s4.trans s5).trans s6
    have nF4 : ¬ Fr F2 H4 D := fun z => z.elim nF (fun z => by rw [e4] at z; cases z)
    have to2 : ∀ a, Fr F2 H4 a → F2 a := fun a z => z.elim id fun z => ⟨.inr (s2.freshA (s3.freshA ((s4.trans s5).freshA z))), fun q => by rw [q, e4] at z; cases z⟩
    refine ⟨fun j k H' => k = (es d).length - j ∧ j ≤ (es d).length ∧ Same H2 H' ∧ SameF (Fr F2 H4) H6 H' ∧ ∃ ys, H' D = some (.lst ys) ∧ DfAll K F2 H' ys (((ds.take i).flatMap es ++ (es d).take j).map m), ⟨(es d).length, by simp, Nat.zero_le _, s3.trans s36, SameF.refl, ys, e6, by simp only [List.take_zero, List.append_nil]; exact dfs_mono s36 (fun _ z => z) r⟩, ?_⟩
    rintro j k H' ⟨rfl, hj, t3, tF, zs, ez, rz⟩
    by_cases lj : j < (es d).length
    · refine .inr ⟨W1.go j H' tF lj, fun H5 => Same H2 H5 ∧ SameF (Fr F2 H4) H6 H5 ∧ ∃ ys, H5 D = some (.lst ys) ∧ DfAll K F2 H5 ys (((ds.take i).flatMap es ++ (es d).take (j + 1)).map m), fun H5 ⟨a, b, c⟩ => ⟨(es d).length - (j + 1), by omega, rfl, lj, a, b, c⟩, fun x2 H7 y2 => ?_⟩
      obtain ⟨d2, hd2, t4, hx3⟩ := W1.yld j H' x2 H7 lj tF y2
      have hx4 : Df K F2 H7 x2 d2 := df_mono (Same.refl _) (fun a z => to2 a z.1) hx3
      have F37 : SameF F2 H3 H7 := ((s5.trans s6).F.trans (tF.sub fun a z => .inl z)).trans t4.F
      obtain ⟨σ3, hg3, hw3, htt3, hte3⟩ := hte F2 H7 ⟨F37, fun a z _ => z⟩ x2 d2 (List.mem_of_getElem? hd2) hx4
      have tk2 : (es d).take (j + 1) = (es d).take j ++ [d2] := by rw [List.take_succ, hd2]; rfl
      refine hg3 _ ⟨hw3, htt3 H7 (Same.refl _) _ fun H8 t5 => ?_⟩
      refine hte3 H8 t5 _ fun v H9 t6 hv => ?_
      have t46 := (t4.trans t5).trans t6
      have e9 : H9 D = some (.lst zs) := t46 _ _ ez
      have r9 : DfAll K F2 H9 zs (((ds.take i).flatMap es ++ (es d).take j).map m) := dfs_mono t46 (fun _ z => z) rz
      have v9 : Df K F2 H9 v (m d2) := df_mono (Same.refl _) (fun a z => by
        rcases z with z | z
        · exact z
        · exact ⟨.inr (s2.freshA (t3.freshA ((t4.trans t5).freshA z))), fun q => by
            have := (t4.trans t5) _ _ ez
            rw [q, this] at z; cases z⟩) hv
      have len9 := dfs_len r9
      rw [List.length_map, List.length_append, List.length_take] at len9
      rw [List.length_append] at bnd
      refine ⟨zs, e9, lt5 (by omega), fun a u h => ?_, (tF.trans t46.F).trans (SameF.upd e9 nF4), zs ++ [v], upd_same, ?_⟩
      · rw [upd_ne (ne_of_none h hD)]; exact t46 _ _ (t3 _ _ h)
      · rw [tk2, ← List.append_assoc, List.map_append]
        exact dfs_app (dfs_upd e9 nF r9) (.cons (df_upd e9 nF v9) .nil)
    · have : j = (es d).length := by omega
      subst this
      refine .inl ⟨W1.stop H' tF, t3, zs, ez, ?_⟩
      rw [tkf]; rw [List.take_length] at rz; exact rz
  · have : i = ds.length := by omega
    subst this
    refine .inl ⟨W.stop H' s3.F, q D ys H' (s2.trans s3) hD1 e ?_⟩
    rw [List.take_length] at r; exact r
end
end Ag

set_option Elab.async false
set_option linter.all false
set_option maxRecDepth 100000
set_option maxHeartbeats 1000000
/-! A text times an int; data that is good, made without naming it. -/
namespace Ag
open PySem PySem.Spec PyProof.Rows L2
def rRepS : R2 := fun x y H Q => ∃ (z : Str) (n : Nat), x = .str z ∧ y = .int (n : Int) ∧ z.length ≤ 1000 ∧ n ≤ 1000 ∧ Q (.str (Txt.mul z n)) H
theorem op_repS {X : Cx} : OpR X (binaryOp .Mult) rRepS := by
  intro pins s σ H x y v u Q I rx ry h
  obtain ⟨z, n, rfl, rfl, h1, h2, q⟩ := h
  obtain ⟨t, rfl⟩ := rx
  obtain ⟨t', rfl⟩ := ry
  exact SB.mul (mulOk_of 1000 1000 h1 (by omega) (by omega) (by decide) (by decide)) fun t' k => ⟨.str _, H, I.tok _, ⟨_, rfl⟩, q⟩
end Ag

set_option Elab.async false
set_option linter.all false
set_option maxRecDepth 100000
set_option maxHeartbeats 1000000
/-! sorted(list of alike data) over the layer: texts, ints, tuples of such. -/
namespace Ag
open PySem PySem.Spec PyProof.Rows L2
open PySem.W (EachIs AllAlike Sortable dataKind sortLe dataLt keyToks)
/-- a is not behind b -/
def leD (a b : PyData) : Bool := !dataLt b a
theorem each_of {h : Heap} : ∀ {xs : List V} {us : List Value} {ds : List PyData} {as : List Addr}, Vals xs us → ReadsAll h us ds as → EachIs (fun (u : Value) (b : V × PyData) => RelV b.1 u ∧ (∃ as, Reads h u b.2 as) ∧ b.2 ∈ ds) us (xs.zip ds)
  | [], _, _, _, .nil, .nil => .nil
  | x :: xs, u :: us, _, _, .cons r t, .cons (d := d) (ds := ds) h1 h2 => by
    rw [List.zip_cons_cons]
    refine .cons ⟨r, ⟨_, h1⟩, List.mem_cons_self⟩ (EachIs.mono (fun u b z => ⟨z.1, z.2.1, List.mem_cons_of_mem _ z.2.2⟩) (each_of t h2))
theorem vals_each {us : List Value} {zs : List (V × PyData)} (h : EachIs (fun (u : Value) (b : V × PyData) => RelV b.1 u) us zs) : Vals (zs.map Prod.fst) us := by
  induction h with
  | nil => exact .nil
  | cons a _ ih => exact .cons a ih
theorem each_reads {h : Heap} : ∀ {us : List Value} {ds : List PyData} {as : List Addr}, ReadsAll h us ds as → EachIs (fun v d => ∃ as, Reads h v d as) us ds
  | [], _, _, .nil => .nil
  | _ :: _, _, _, .cons a r => .cons ⟨_, a⟩ (each_reads r)
/-- sorted(xs): the data in their order, equal ones as they stood; zs: the items beside their data -/
def rSortD (K : PySem.W.Frag) : List V → Hp → VK → Prop := fun vs H Q => ∃ (a : Addr) (xs : List V) (ds : List PyData), vs = [V.ref a] ∧ SqL K H a xs ∧ DpAll K H xs ds ∧ AllAlike ds ∧ Sortable ds ∧ (∀ d ∈ ds, d.depth ≤ 50) ∧
  ∀ (zs : List (V × PyData)) p, zs.Perm (xs.zip ds) → zs.map Prod.snd = ds.mergeSort leD → H p = none → Q (.ref p) (upd H p (.lst (zs.map Prod.fst)))
theorem cr_sortD {X : Cx} (hu : X.A.units + 64 < cLine) : CallR X (.builtin "sorted") (rSortD X.K) := by
  intro pins s σ H vs us Q I r h
  obtain ⟨a, xs, ds, rfl, hs, hd, al, so, dp, q⟩ := h
  obtain ⟨its, rv, hl, hz⟩ := I.list hs
  rw [Vals.ref1 r]
  obtain ⟨as, hr⟩ := Dp.readsAll I ds xs its hd rv
  have len : its.length = ds.length := by rw [← rv.length, dps_len hd]
  have hr2 : ReadsAll (PySem.W.sortingHeap (PySem.W.copyHeap s.heap its) (s.heap.objs.size + 1) its) its ds as := PyProof.Rows.ReadsAll.keeps (fun b o e => PySem.W.sorting_copy_old e) hr
  refine PySem.W.sorted_vals (κ := dataKind (PySem.W.sortingHeap (PySem.W.copyHeap s.heap its) (s.heap.objs.size + 1) its) ds) hl.isList (PySem.W.SortsAt.data (each_reads hr2) al so fun d hd => ?_) (by rw [← rv.length]; exact hz) ?_
  · have := dp d hd
    show X.A.units + 1 + 1 + d.depth < cLine
    omega
  · have e1 := each_of rv hr2
    have hk : EachIs (fun (v : Value) (b : V × PyData) => (dataKind (PySem.W.sortingHeap (PySem.W.copyHeap s.heap its) (s.heap.objs.size + 1) its) ds).keyOf v = some (keyToks b.2)) its (xs.zip ds) :=
      EachIs.mono (fun u b z => by
        obtain ⟨_, ⟨as, h2⟩, h3⟩ := z
        exact PySem.W.dataKind_some al h3 h2) e1
    have e2 : EachIs (fun (u : Value) (b : V × PyData) => RelV b.1 u) its (xs.zip ds) := EachIs.mono (fun u b z => z.1) e1
    have e3 := PySem.W.sortVals_each (κ := dataKind (PySem.W.sortingHeap (PySem.W.copyHeap s.heap its) (s.heap.objs.size + 1) its) ds) (rev := false) (ks := its) (fun b : V × PyData => keyToks b.2) e2 hk
    have hn : H (s.heap.objs.size + 1) = none := I.hok.fresh (Nat.le_succ _)
    have hv := vals_each e3
    have pm : ((xs.zip ds).mergeSort (sortLe (dataKind (PySem.W.sortingHeap (PySem.W.copyHeap s.heap its) (s.heap.objs.size + 1) its) ds).toKeyOrd false fun b : V × PyData => keyToks b.2)).Perm (xs.zip ds) := List.mergeSort_perm _ _
    obtain ⟨n, hat⟩ := sortedAll_at s.heap its (PySem.W.sortVals (dataKind (PySem.W.sortingHeap (PySem.W.copyHeap s.heap its) (s.heap.objs.size + 1) its) ds) false its its).toArray
    refine ⟨.ref (s.heap.objs.size + 1), upd H (s.heap.objs.size + 1) (.lst (((xs.zip ds).mergeSort (sortLe (dataKind (PySem.W.sortingHeap (PySem.W.copyHeap s.heap its) (s.heap.objs.size + 1) its) ds).toKeyOrd false fun b : V × PyData => keyToks b.2)).map Prod.fst)),
      I.laid (t' := s.toks) (fun b o e => sortedAll_old e) (Nat.le_succ _) ⟨?_, _, n, hv, hat⟩, rfl, q _ _ pm ?_ hn⟩
    · rw [List.length_map, pm.length_eq, List.length_zip]
      have := dps_len hd
      have := rv.length
      omega
    · exact (PySem.W.sort_maps (s := leD) Prod.snd fun p _ q _ => rfl).trans (by rw [List.map_snd_zip (by have := dps_len hd; omega)])
end Ag

set_option Elab.async false
set_option linter.all false
set_option maxRecDepth 100000
set_option maxHeartbeats 1000000
/-! Texts split and joined, as data. -/
namespace Ag
open PySem PySem.Spec PyProof.Rows L2
section
variable {K : PySem.W.Frag} {σ : L2.St} {F : Addr → Prop} {H : Hp} {to te : TE} {a b : Str}
theorem ed_split (ho : ED K to σ F H (.str a)) (he : ED K te σ F H (.str b)) (hb : (b.length == 0) = false) (ha : a.length ≤ 100000) :
    ED K (tM1 (fun x xs H Q => ∃ a b, x = .str a ∧ xs = [.str b] ∧ (b.length == 0) = false ∧ a.length + 2 ≤ sizeLine ∧ rNewStrs (Txt.split a b) H Q) to te) σ F H (.list ((Txt.split a b).map .str)) := fun H1 s Q q =>
  ho H1 s _ fun v H2 s2 hv => by
    cases hv
    refine ⟨⟨a, rfl⟩, he H2 (s.trans s2) _ fun u H3 s3 hu => ?_⟩
    cases hu
    refine ⟨a, b, rfl, rfl, hb, Nat.le_trans (Nat.add_le_add_right ha 2) (by decide), fun p hp => ?_⟩
    have s23 := s2.trans s3
    exact q _ _ (s23.trans (Same.newA hp)) (.lst (.inl ⟨.inl upd_same, .inr (s23.freshA hp)⟩) (dfs_strs _))
theorem ed_join {ys : List Str} {e : PyData} (ho : ED K to σ F H (.str a)) (he : ED K te σ F H e) (h : e = .list (ys.map .str) ∨ e = .tuple (ys.map .str)) (hl : (ys.map (·.length)).sum + ys.length * a.length ≤ 16777216) :
    ED K (tM1 (fun x xs H Q => ∃ a p, ∃ ys : List Str, x = .str a ∧ xs = [.ref p] ∧ (SqL K H p (ys.map V.str) ∨ SqT K H p (ys.map V.str)) ∧ (ys.map (·.length)).sum + ys.length * a.length ≤ 16777216 ∧ Q (.str (Txt.join a ys)) H) to te) σ F H (.str (Txt.join a ys)) := fun H1 s Q q =>
  ho H1 s _ fun v H2 s2 hv => by
    cases hv
    refine ⟨⟨a, rfl⟩, he H2 (s.trans s2) _ fun u H3 s3 hu => ?_⟩
    have hq : ∃ p, u = .ref p ∧ (SqL K H3 p (ys.map V.str) ∨ SqT K H3 p (ys.map V.str)) := by
      rcases h with rfl | rfl
      · cases hu with
        | lst h r => rw [strs_dps (dfs_dps r)] at h; exact ⟨_, rfl, .inl (h.imp (fun z => z.1) id)⟩
      · cases hu with
        | tup h r => rw [strs_dps (dfs_dps r)] at h; exact ⟨_, rfl, .inr h⟩
    obtain ⟨p, rfl, hs⟩ := hq
    exact ⟨a, p, ys, rfl, rfl, hs, hl, q _ _ (s2.trans s3) (.str _)⟩
end
end Ag

set_option Elab.async false
set_option linter.all false
set_option maxRecDepth 100000
set_option maxHeartbeats 1000000
/-! repr of data, where nothing is being shown. -/
namespace Ag
open PySem PySem.Spec PyProof.Rows L2
/-- data, or an empty dict -/
def Dx (K : PySem.W.Frag) (H : Hp) (v : V) (d : PyData) : Prop := Dp K H v d ∨ (d = .dict [] ∧ ∃ a, v = .ref a ∧ H a = some (.dK []))
theorem Dx.mono {K : PySem.W.Frag} {H H' : Hp} {v : V} {d : PyData} (e : Same H H') (h : Dx K H v d) : Dx K H' v d := h.imp (dp_mono e) fun ⟨a, b, c, q⟩ => ⟨a, b, c, e _ _ q⟩
theorem Dx.dp {K : PySem.W.Frag} {H : Hp} {v : V} {d : PyData} (h : Dp K H v d) : Dx K H v d := .inl h
theorem Dx.reads {X : Cx} {pins : List (Addr × Obj)} {σ : L2.St} {H : Hp} {s : Shared} (I : Inv X pins σ H s) {d : PyData} {v : V} {u : Value} (h : Dx X.K H v d) (r : RelV v u) : ∃ as, Reads s.heap u d as ∧ (d.hasDict = true → sysModules ∉ as) := by
  rcases h with h | ⟨rfl, a, rfl, h⟩
  · obtain ⟨as, q⟩ := Dp.reads I d v u h r
    refine ⟨as, q, fun z => ?_⟩
    have nd : d.hasDict = false := by
      have key : ∀ (d : PyData) (v : V), Dp X.K H v d → d.hasDict = false := by
        intro d v h
        exact Dp.rec (motive_1 := fun _ d _ => d.hasDict = false) (motive_2 := fun _ ds _ => PyData.hasDictAll ds = false) (by simp [PyData.hasDict]) (fun _ => by simp [PyData.hasDict]) (fun _ => by simp [PyData.hasDict]) (fun _ => by simp [PyData.hasDict])
          (fun _ _ ih => by simp only [PyData.hasDict]; exact ih) (fun _ _ ih => by simp only [PyData.hasDict]; exact ih) (by simp [PyData.hasDictAll]) (fun _ _ i1 i2 => by simp only [PyData.hasDictAll]; rw [i1, i2]; rfl) h
      exact key d v h
    rw [nd] at z; cases z
  · cases r
    obtain ⟨_, ns, vs, kv, o, es, ep, e1, ⟨c1, _⟩, e3, e4, e5, _⟩ := I.hok a _ h
    cases kv
    have ez : es.toList = [] := by
      cases q : es.toList with
      | nil => rfl
      | cons x r => rw [q] at e5; cases e5
    refine ⟨_, .dict e1 c1 e3 (by rw [ez]; exact .nil) (by rw [ez]; exact .nil), fun _ m => ?_⟩
    have m : sysModules = a := by simpa using m
    rw [m] at ns; simp at ns
def rRepr (K : PySem.W.Frag) : List V → Hp → VK → Prop := fun vs H Q => ∃ x d, vs = [x] ∧ Dx K H x d ∧ d.showable = true ∧ d.depth ≤ 50 ∧ d.shown.length ≤ sizeLine ∧ Q (.str d.shown) H
theorem cr_repr {X : Cx} (hg : X.A.guards = some []) (hu : X.A.units + 64 < cLine) : CallR X (.builtin "repr") (rRepr X.K) := by
  intro pins s σ H vs us Q I r h
  obtain ⟨x, d, rfl, hd, sh, dp, sz, q⟩ := h
  obtain ⟨u, rfl, ru⟩ := r.one
  obtain ⟨as, hr, hsm⟩ := Dx.reads I hd ru
  cases hr with
  | none => exact PySem.P.repr_of_none ⟨.str _, H, I.tok _, ⟨_, rfl⟩, q⟩
  | bool b => exact PySem.P.repr_of_bool ⟨.str _, H, I.tok _, ⟨_, rfl⟩, q⟩
  | int i t => exact PySem.P.repr_of_int (by simpa [PyData.showable] using sh) ⟨.str _, H, I.tok _, ⟨_, rfl⟩, q⟩
  | str x t => exact PySem.P.repr_of_str ⟨.str _, H, I.tok _, ⟨_, rfl⟩, q⟩ sz
  | list h1 h2 h3 h4 => exact PySem.repr_of_reads' (.list h1 h2 h3 h4) sh hsm hg (by omega) (fun _ _ e => e) (fun h' u tk hk => ⟨.str _, H, I.kept hk, ⟨_, rfl⟩, q⟩) sz
  | tuple h1 h2 h3 h4 => exact PySem.repr_of_reads' (.tuple h1 h2 h3 h4) sh hsm hg (by omega) (fun _ _ e => e) (fun h' u tk hk => ⟨.str _, H, I.kept hk, ⟨_, rfl⟩, q⟩) sz
  | dict h1 h2 h3 h4 h5 => exact PySem.repr_of_reads' (.dict h1 h2 h3 h4 h5) sh hsm hg (by omega) (fun _ _ e => e) (fun h' u tk hk => ⟨.str _, H, I.kept hk, ⟨_, rfl⟩, q⟩) sz
theorem ed_repr {K : PySem.W.Frag} {σ : L2.St} {F : Addr → Prop} {H : Hp} {ta : TE} {d : PyData} (ha : ED K ta σ F H d) (h1 : d.showable = true) (h2 : d.depth ≤ 50) (h3 : d.shown.length ≤ sizeLine) : ED K (tCB (rRepr K) (tCons ta tNil)) σ F H (.str d.shown) :=
  ed_cb (ea_cons ha ea_nil) fun F vs H1 hv Q q => by
    cases hv with
    | cons a r => cases r; exact ⟨_, d, rfl, .inl (df_dp a), h1, h2, h3, q _ _ (Same.refl _) (.str _)⟩
end Ag

set_option Elab.async false
set_option linter.all false
set_option maxRecDepth 100000
set_option maxHeartbeats 2000000
set_option pp.maxSteps 300
namespace Ag
open PySem PySem.Spec PyProof.Rows L2
/-! own exceptions as values: made by their own __init__, read, asked by isinstance -/
/-- C(e, ..) as a value -/
def tMkV (C : Addr) (sp : Sp) (dvs : List V) (ta : TA) : TE := fun σ H Q => ta σ H fun vs H1 => vs.length ≤ 1000 ∧ ∀ a, H1 a = none → sp (.ref a :: (vs ++ dvs)) (upd H1 a (exo a C none)) (fun v H2 => v = .non ∧ Q (.ref a) H2) (fun _ _ _ => False)
section
variable {X : Cx} {e : Expr} {es : List Expr} {te : TE} {ta : TA} {p pos : Pos}
theorem pe_oex {CX : CXT} {x : Str} {C fI : Addr} {k : Nat} {fd : FuncData} {ps : List Str} {sp : Sp} {ds : List Value} {dvs : List V} (T : OexC X.K C) (iC : PySem.W.findIn X.K (.ref C) "__init__" = some (some (.ref fI))) (tI : PySem.W.typeIn X.K (.ref fI) = some (.type "function"))
    (F1 : FnOk X.prog X.w X.K X.mg X.base CX k fI fd ps sp) (hr : Room (k + 1) X.A) (hb : Binds X.K fd ps ds) (hd : Vals dvs ds) (hx : Passes CX X (fun _ _ _ => False)) (hg : Gl X x) (hm : X.mg x = some (.ref C)) (ha : PA X (e :: es) ta)
    (hdb : (x == ("__debug__" : Str)) = false := by decide) (he : starEach (e :: es) X.env = (false, eval e X.env) :: starEach es X.env := by rfl) (hpl : (backTo pos (starEach es X.env)).any (·.1) = false := by rfl) :
    PE X (.Call (.Name x p) (e :: es) [] pos) (tMkV C sp dvs ta) := by
  refine ⟨fun pins s σ H Q I h => ?_⟩
  obtain ⟨nm, q, N, bs, bm, sn, sub, ab, col, dd, k0, k1, k2, k3, k5, hC, hbm⟩ := T.cls
  refine wpAny_Call_Name_kw (ld_glob I hg hm ?_ hdb)
  refine PySem.W.callWith_K (h₀ := X.base) I.ok.mod.kin T.kC (thn (ha.run pos pins s σ H _ I h) fun us s1 ⟨vs, H1, I1, r1, hz, q1⟩ => ⟨I1.kIn, ?_⟩) he hpl
  show wpAny _ _ (call (.ref C) us) _ _ _
  obtain ⟨hp, g, dr, tk, os⟩ := s1
  have hsz : hp.objs.size ≤ hp.objs.size + 1 := Nat.le_succ _
  have hq := q1 (hp.objs.size + 1) (I1.hok.fresh hsz)
  have hget : ((hp.push (PySem.W.kdv_tup us)).push (PySem.HandSPX.excO C hp.objs.size)).get? (hp.objs.size + 1) = some (PySem.HandSPX.excO C hp.objs.size) := by heap_get
  have I2 : Inv X pins σ (upd H1 (hp.objs.size + 1) (exo (hp.objs.size + 1) C none)) ⟨(hp.push (PySem.W.kdv_tup us)).push (PySem.HandSPX.excO C hp.objs.size), g, dr, tk, os⟩ :=
    I1.laid (t' := tk) (a := hp.objs.size + 1) (o := exo (hp.objs.size + 1) C none) (h' := (hp.push (PySem.W.kdv_tup us)).push (PySem.HandSPX.excO C hp.objs.size)) (fun _ _ z => Heap.get?_push_of_some _ (Heap.get?_push_of_some _ z)) hsz (exo_ok hget)
  have r2 : Vals (V.ref (hp.objs.size + 1) :: (vs ++ dvs)) (Value.ref (hp.objs.size + 1) :: (us ++ ds)) := .cons rfl (r1.append hd)
  have hl : (Value.ref (hp.objs.size + 1) :: us ++ ds).length = ps.length := by
    have e := r2.length
    rw [F1.len _ _ _ _ hq] at e
    exact e.symm
  have hus : us.length ≤ sizeLine := by
    rw [← Paired.length r1, sizeLine_eq]
    omega
  refine wpAny_call (PySem.HandSPX.call_own F.excBase_ValueError (fun Y => PySem.HandSPX.refsVE_contains Y bm hbm) (I1.kIn _ _ hC) (PySem.W.looks_findIn I1.kIn iC) (fun self => PySem.W.bind_fn I1.kIn self tI) hus
    (codeAny_mono (F1.run _ X.stack _ _ ⟨Value.ref (hp.objs.size + 1) :: us, []⟩ (Value.ref (hp.objs.size + 1) :: (us ++ ds)) _ _ (fun _ _ _ => False) (hr.make C us []) (I2.env0.make C us []) (hb _ (Value.ref (hp.objs.size + 1) :: us) I2.kIn hl) r2 hq) fun r s' hq' => ?_))
  cases r with
  | error er => exact hx pins σ _ _ er s' I2 hq'
  | ok fl =>
    cases fl with
    | ret u =>
      obtain ⟨v, H2, I3, rv, ev, q2⟩ := I2.after hq'
      subst ev
      exact ⟨rv, .ref _, H2, I3, rfl, q2⟩
    | next => exact False.elim hq'
    | brk => exact False.elim hq'
    | cont => exact False.elim hq'
/-- C(), an own exception without an own __init__ -/
theorem pe_exc0 {C : Addr} {bmB : List Value} {B newId initId : String} {x : Str} (F : ExcBaseFacts B newId initId bmB) (q : PySem.W.excIn X.K C bmB newId = true) (gC : X.mg x = some (.ref C)) (kC : PySem.W.keepIn X.K (.ref C) = true) (hg : Gl X x)
    (hdb : (x == ("__debug__" : Str)) = false := by decide) :
    PE X (.Call (.Name x p) [] [] pos) (fun σ H Q => ∀ a, H a = none → Q (.ref a) (upd H a (ExO (.ref C) a))) := by
  refine ⟨fun pins s σ H Q I h => ?_⟩
  refine wpAny_Call_Name_kw (ld_glob I hg gC ?_ hdb)
  refine PySem.W.callWith_K0 (first := []) I.kIn kC ?_
  show wpAny _ _ (call (.ref C) []) _ _ _
  obtain ⟨bm, N, nm, qn, bs, hdct, sn, sub, ab, col, dd, k0, k1, k2, k3, k5, mN, hC, hN, hni, T⟩ := exc_obj I.kIn q
  refine wpAny_call_exc_subT F T hC hN hni (fun h' a hm => ?_) (by show 0 ≤ sizeLine; rw [sizeLine_eq]; omega)
  have hn : H a = none := I.hok.gone hm.new
  obtain ⟨t, ht, _, _⟩ := hm.there
  exact ⟨.ref a, upd H a (ExO (.ref C) a), I.laidN hm.keeps hm.new hn (exO_ok ht ⟨rfl, rfl⟩ rfl rfl rfl (show 4 < 6 by decide)), rfl, h a hn⟩
/-- the field of an own exception that is a value -/
def tXo (K : PySem.W.Frag) (f : Str) (te : TE) : TE := fun σ H Q => te σ H fun x H1 => ∃ (a C dd : Addr) (fs : List (Str × V)) (v : V), x = .ref a ∧ H1 a = some (exo a C (some dd)) ∧ H1 dd = some (exd dd fs) ∧ fs.lookup f = some v ∧ XfC K C ∧ PySem.W.findIn K (.ref C) f = some none ∧ Q v H1
theorem pe_xo {n : Str} (he : PE X e te) (hb : attributeBase e n X.env (eval e X.env) = eval e X.env := by rfl) : PE X (.Attribute e n pos) (tXo X.K n te) := by
  refine ⟨fun pins s σ H Q I h => ?_⟩
  refine attr_of hb (thn (he.run pins s σ H _ I h) fun u s1 hh => ?_)
  obtain ⟨x, H1, I1, rx, a, C, dd, fs, v, ex, ea, ed, l, T, hno, q⟩ := hh
  subst ex
  obtain rfl : u = Value.ref a := rx
  obtain ⟨t0, ha⟩ := exo_at I1.hok ea
  obtain ⟨mA, hns, hr⟩ := exd_at I1.hok ed
  obtain ⟨od, ho, hl⟩ := lookIn_ns hns
  obtain ⟨u, hu, ru⟩ := RelO.some_of (v := v) (o := mA n) (by rw [← l]; exact hr n)
  have J : PySem.W.InstAt s1.heap a _ C (some od) := ⟨ha, rfl, rfl, ho⟩
  exact HandSPX.exc_get I1.kIn J T.ga T.gg T.exC (PySem.W.findObj_own T.hdC hno rfl (by rw [hl, hu])) (handed_of ru) ⟨v, H1, I1.tok _, ru, q⟩
/-- an exception as a value: with fields, or without -/
def ExAt (H : Hp) (a C : Addr) : Prop := (∃ d fs, H a = some (exo a C (some d)) ∧ H d = some (exd d fs)) ∨ H a = some (ExO (.ref C) a)
/-- isinstance(one, c), one an exception that is a value -/
def rIsV (K : PySem.W.Frag) : List V → Hp → VK → Prop := fun xs H Q => ∃ (a D : Addr) (c : V) (cv : Value) (b : Bool), xs = [.ref a, c] ∧ ExAt H a D ∧ ExcC K D ∧ (∀ u, RelV c u → u = cv) ∧ PySem.W.kitOne K (.ref D) cv = some b ∧ Q (.bl b) H
theorem call_isV : CallR X (.builtin "isinstance") (rIsV X.K) := by
  intro pins s σ H xs us Q I r h
  obtain ⟨a, D, c, cv, b, rfl, ha, C, hcv, e, q⟩ := h
  cases r with
  | cons rx rr =>
    cases rr with
    | cons rt rr =>
      cases rr
      cases rx
      have ec := hcv _ rt
      subst ec
      have hcl : (PySem.W.clsIn X.K D).isSome = true := by
        obtain ⟨cd, hc, _⟩ := PySem.W.any_some C.hd
        rw [hc]; rfl
      have J : ∃ oe od, PySem.W.InstAt s.heap a oe D od := by
        rcases ha with ⟨d, fs, ea, ed⟩ | ea
        · obtain ⟨t0, ho⟩ := exo_at I.hok ea
          obtain ⟨mA, hns, _⟩ := exd_at I.hok ed
          obtain ⟨od, hod, _⟩ := lookIn_ns hns
          exact ⟨_, some od, ho, rfl, rfl, hod⟩
        · obtain ⟨⟨oe, vs, ho, hz, hd, _⟩, _⟩ := I.hok a _ ea
          obtain ⟨oc, od, oda, osl⟩ := oe
          obtain ⟨h1, h2⟩ := hz
          dsimp only at h1 h2 hd
          subst h1 h2 hd
          exact ⟨_, none, ho, rfl, rfl, trivial⟩
      obtain ⟨oe, od, J⟩ := J
      exact PySem.W.kia_one (PySem.W.kitx_exc hcl C.hg C.hk C.hs C.ha C.hn C.ht C.hm) I.kIn J e (fun z => nomatch z) fun tk => ⟨.bl b, H, I.kept (t' := tk) fun _ _ z => z, rfl, q⟩
/-- isinstance(e, c), e the exception that the suite holds, with a dict -/
def rIsP (K : PySem.W.Frag) (a : Addr) (cls : Value) (d : Option Addr) : List V → Hp → VK → Prop := fun xs H Q => ∃ (D dd : Addr) (fs : List (Str × V)) (c : V) (cv : Value) (b : Bool), xs = [.ref a, c] ∧ cls = .ref D ∧ d = some dd ∧ H dd = some (.xd fs) ∧ ExcC K D ∧ (∀ u, RelV c u → u = cv) ∧ PySem.W.kitOne K (.ref D) cv = some b ∧ Q (.bl b) H
theorem call_isP {a : Addr} {oe : Obj} {pn : List (Addr × Obj)} {cls : Value} {d : Option Addr} (hz : Zc cls d oe) (hf : ∃ vs, oe.data = .fields vs) : CallR (X.suite a ((a, oe) :: pn)) (.builtin "isinstance") (rIsP X.K a cls d) := by
  intro pins s σ H xs us Q I r h
  obtain ⟨D, dd, fs, c, cv, b, rfl, rfl, rfl, ed, C, hcv, e, q⟩ := h
  cases r with
  | cons rx rr =>
    cases rr with
    | cons rt rr =>
      cases rr
      cases rx
      have ec := hcv _ rt
      subst ec
      have hcl : (PySem.W.clsIn X.K D).isSome = true := by
        obtain ⟨cd, hc, _⟩ := PySem.W.any_some C.hd
        rw [hc]; rfl
      obtain ⟨hget, _⟩ := I.pin (a, oe) (List.mem_append.mpr (.inl List.mem_cons_self))
      obtain ⟨vs, hv⟩ := hf
      have hx : ObjOk X.prog X.w H s.heap dd (.xd fs) := I.hok dd _ ed
      obtain ⟨mA, hns, _⟩ := hx
      obtain ⟨od, hod, _⟩ := lookIn_ns hns
      have J : PySem.W.InstAt s.heap a oe D (some od) := ⟨hget, hz.1, by unfold PySem.W.notCls; rw [hv] <;> rfl, by rw [hz.2]; exact hod⟩
      exact PySem.W.kia_one (PySem.W.kitx_exc hcl C.hg C.hk C.hs C.ha C.hn C.ht C.hm) I.kIn J e (fun z => nomatch z) fun tk => ⟨.bl b, H, I.kept (t' := tk) fun _ _ z => z, rfl, q⟩
end
end Ag

set_option Elab.async false
set_option linter.all false
set_option maxRecDepth 100000
set_option maxHeartbeats 1000000
/-! The order of alike data over the layer. -/
namespace Ag
open PySem PySem.Spec PyProof.Rows L2
open PySem.W (alike alikeAll dataLt)
def rLtD (K : PySem.W.Frag) : R2 := fun x y H Q => ∃ d e, Dp K H x d ∧ Dp K H y e ∧ alike d e = true ∧ d ≠ .none ∧ min d.depth e.depth ≤ 50 ∧ Q (.bl (dataLt d e)) H
def rGtD (K : PySem.W.Frag) : R2 := fun x y H Q => ∃ d e, Dp K H x d ∧ Dp K H y e ∧ alike d e = true ∧ d ≠ .none ∧ min d.depth e.depth ≤ 50 ∧ Q (.bl (dataLt e d)) H
theorem op_ltD {X : Cx} (hu : X.A.units + 64 < cLine) : OpR X (compareOp .Lt) (rLtD X.K) := by
  intro pins s σ H x y v u Q I rx ry h
  obtain ⟨d, e, hd, he, al, nn, dp, q⟩ := h
  obtain ⟨as, r1⟩ := Dp.reads I d x v hd rx
  obtain ⟨bs, r2⟩ := Dp.reads I e y u he ry
  exact PySem.W.lt_data r1 r2 al nn (by omega) ⟨.bl _, H, I, rfl, q⟩
theorem op_gtD {X : Cx} (hu : X.A.units + 64 < cLine) : OpR X (compareOp .Gt) (rGtD X.K) := by
  intro pins s σ H x y v u Q I rx ry h
  obtain ⟨d, e, hd, he, al, nn, dp, q⟩ := h
  obtain ⟨as, r1⟩ := Dp.reads I d x v hd rx
  obtain ⟨bs, r2⟩ := Dp.reads I e y u he ry
  exact PySem.W.gt_data r1 r2 al nn (by omega) ⟨.bl _, H, I, rfl, q⟩
theorem alike_strs : ∀ (xs ys : List Str), alikeAll (xs.map .str) (ys.map .str) = true
  | [], _ => by simp [alikeAll]
  | _ :: _, [] => by simp [alikeAll]
  | x :: xs, y :: ys => by
    simp only [List.map_cons, alikeAll, Bool.and_eq_true]
    exact ⟨by simp [alike], alike_strs xs ys⟩
section
variable {K : PySem.W.Frag} {σ : L2.St} {F : Addr → Prop} {H : Hp} {ta tb : TE} {d e : PyData}
theorem ed_ltD (ha : ED K ta σ F H d) (hb : ED K tb σ F H e) (h1 : alike d e = true) (h2 : d ≠ .none) (h3 : min d.depth e.depth ≤ 50) : ED K (tOp (rLtD K) ta tb) σ F H (.bool (dataLt d e)) :=
  ed_op ha hb fun F x y H1 hx hy Q q => ⟨d, e, df_dp hx, df_dp hy, h1, h2, h3, q _ _ (Same.refl _) (.bl _)⟩
theorem ed_gtD (ha : ED K ta σ F H d) (hb : ED K tb σ F H e) (h1 : alike d e = true) (h2 : d ≠ .none) (h3 : min d.depth e.depth ≤ 50) : ED K (tOp (rGtD K) ta tb) σ F H (.bool (dataLt e d)) :=
  ed_op ha hb fun F x y H1 hx hy Q q => ⟨d, e, df_dp hx, df_dp hy, h1, h2, h3, q _ _ (Same.refl _) (.bl _)⟩
end
theorem strs_depth : ∀ (xs : List Str), PyData.depthAll (xs.map .str) ≤ 1
  | [] => by simp [PyData.depthAll]
  | x :: xs => by
    have := strs_depth xs
    simp only [List.map_cons, PyData.depthAll, PyData.depth]
    omega
end Ag

set_option Elab.async false
set_option linter.all false
set_option maxRecDepth 100000
set_option maxHeartbeats 1000000
/-! Either of two promises; the empty dict asked for its kind. -/
namespace Ag
open PySem PySem.Spec PyProof.Rows L2
/-- a promise that holds where one of two does -/
def spOr (sp sp' : Sp) : Sp := fun vs H Q E => sp vs H Q E ∨ sp' vs H Q E
theorem fn_or {P : Program} {w : World} {K : PySem.W.Frag} {mg : Str → Option Value} {base : Heap} {CX : CXT} {k : Nat} {f : Addr} {fd : FuncData} {ps : List Str} {sp sp' : Sp} (F : FnOk P w K mg base CX k f fd ps sp) (G : FnOk P w K mg base CX k f fd ps sp') :
    FnOk P w K mg base CX k f fd ps (spOr sp sp') :=
  ⟨fun vs H Q E q => q.elim (F.len vs H Q E) (G.len vs H Q E), fun A outer s H args us vs Q E hr he hb hv hs => hs.elim (fun z => F.run A outer s H args us vs Q E hr he hb hv z) (fun z => G.run A outer s H args us vs Q E hr he hb hv z)⟩
section
variable {K : PySem.W.Frag} {σ : L2.St} {F : Addr → Prop} {H : Hp}
theorem kit_dict {T : String} (hT : T = "str" ∨ T = "tuple" ∨ T = "list" ∨ T = "int" ∨ T = "bool") : PySem.W.kitOne K (.type "dict") (.type T) = some false := by
  rcases hT with rfl | rfl | rfl | rfl | rfl
  · exact kit_ty (show kitB "dict" "str" = some false by decide +kernel)
  · exact kit_ty (show kitB "dict" "tuple" = some false by decide +kernel)
  · exact kit_ty (show kitB "dict" "list" = some false by decide +kernel)
  · exact kit_ty (show kitB "dict" "int" = some false by decide +kernel)
  · exact kit_ty (show kitB "dict" "bool" = some false by decide +kernel)
theorem ed_isiE {i : Nat} {a : Addr} {T : String} (h : σ[i]? = some (some (.ref a))) (ha : H a = some (.dK [])) (hT : T = "str" ∨ T = "tuple" ∨ T = "list" ∨ T = "int" ∨ T = "bool") :
    ED K (tCB (rIsi K) (tCons (tVar i) (tCons (tC (.ty T)) tNil))) σ F H (.bool false) := fun H1 s Q q =>
  ⟨_, h, .ref a, .ty T, _, _, _, rfl, .ty T, .base (.dK (s _ _ ha)), kit_dict hT, q _ _ (Same.refl _) (.bl _)⟩
theorem dp_strsF {v : V} {xs : List Str} (h : Dp K H v (.tuple (xs.map .str))) : Df K F H v (.tuple (xs.map .str)) := by
  cases h with
  | tup hs r => have := strs_dps r; subst this; exact .tup hs (dfs_strs xs)
end
end Ag

set_option Elab.async false
set_option linter.all false
set_option maxRecDepth 100000
set_option maxHeartbeats 1000000
/-! Texts of plain signs and how long they may be; lists of texts, made and joined anew. -/
namespace Ag
open PySem PySem.Spec PyProof.Rows L2
/-- plain signs, at most n of them -/
def As (n : Nat) (x : Str) : Prop := (∀ c ∈ x.cps.toList, c < 128) ∧ x.length ≤ n
theorem As.more {m n : Nat} {x : Str} (h : As m x) (l : m ≤ n) : As n x := ⟨h.1, Nat.le_trans h.2 l⟩
theorem as_cat {m n : Nat} {x y : Str} (h : As m x) (k : As n y) : As (m + n) (x ++ y) := by
  refine ⟨fun c hc => ?_, by rw [Str.length_append]; exact Nat.add_le_add h.2 k.2⟩
  have e : (x ++ y).cps.toList = x.cps.toList ++ y.cps.toList := TL.tl_append x y
  rw [e] at hc
  exact (List.mem_append.mp hc).elim (h.1 c) (k.1 c)
theorem as_cut {n : Nat} {x : Str} {lo hi : Option Int} (h : As n x) : As n (cutS x lo hi) := by
  have e : (cutS x lo hi).cps.toList = (x.cps.toList.drop (HT.sIx x.length 0 lo)).take (HT.sIx x.length x.length hi - HT.sIx x.length 0 lo) := by
    unfold cutS; simp
  refine ⟨fun c hc => h.1 c ?_, ?_⟩
  · rw [e] at hc; exact List.mem_of_mem_drop (List.mem_of_mem_take hc)
  · show (cutS x lo hi).cps.size ≤ n
    rw [← Array.length_toList, e, List.length_take, List.length_drop, Array.length_toList]
    have : x.cps.size ≤ n := h.2
    omega
theorem up1_lt : ∀ c, c < 128 → PyProof.Rows.up1 c < 128 := by decide +kernel
theorem as_upper {n : Nat} {x : Str} (h : As n x) : As n (Txt.upper x) := by
  rw [PyProof.Rows.upper_ascii h.1]
  refine ⟨fun c hc => ?_, ?_⟩
  · have hc : c ∈ (x.cps.map PyProof.Rows.up1).toList := hc
    rw [Array.toList_map] at hc
    obtain ⟨b, hb, rfl⟩ := List.mem_map.mp hc
    exact up1_lt b (h.1 b hb)
  · show (x.cps.map PyProof.Rows.up1).size ≤ n
    rw [Array.size_map]; exact h.2
/-- a checked text -/
def asB (n : Nat) (x : Str) : Bool := x.cps.toList.all (fun c => decide (c < 128)) && decide (x.length ≤ n)
theorem as_of {n : Nat} {x : Str} (h : asB n x = true) : As n x := by
  unfold asB at h
  obtain ⟨h1, h2⟩ := Bool.and_eq_true_iff.mp h
  exact ⟨fun c hc => of_decide_eq_true (List.all_eq_true.mp h1 c hc), of_decide_eq_true h2⟩
theorem as_join {s : Str} {n m : Nat} (hs : As m s) : ∀ {xs : List Str}, (∀ x ∈ xs, As n x) → As (xs.length * (n + m)) (Str.join s xs)
  | [], _ => ⟨fun c hc => absurd hc (List.not_mem_nil), (Nat.zero_le _)⟩
  | [x], h => ((h x List.mem_cons_self).more (by simp))
  | x :: y :: r, h => by
    have i := as_join hs (xs := y :: r) fun z hz => h z (List.mem_cons_of_mem _ hz)
    have e : Str.join s (x :: y :: r) = x ++ s ++ Str.join s (y :: r) := rfl
    rw [e]
    refine (as_cat (as_cat (h x List.mem_cons_self) hs) i).more ?_
    simp only [List.length_cons, Nat.add_mul, Nat.one_mul]; omega
section
variable {K : PySem.W.Frag} {σ : L2.St} {F : Addr → Prop} {H : Hp} {te ta tb : TE} {d e : PyData}
theorem ed_slS {x : Str} {tl th : TO} {lo hi : Option Int} (h : ED K te σ F H (.str x)) (hx : x.length ≤ 100000) (hl : EO tl σ H lo) (hh : EO th σ H hi) : ED K (tSl rSlS te tl th) σ F H (.str (cutS x lo hi)) := fun H1 s Q q =>
  h H1 s _ fun v H2 s2 hv => by
    cases hv
    refine hl H2 (s.trans s2) _ fun H3 s3 => hh H3 ((s.trans s2).trans s3) _ fun H4 s4 => ?_
    exact ⟨x, rfl, small5 hx, q _ _ ((s2.trans s3).trans s4) (.str _)⟩
theorem ed_upper {x : Str} (h : ED K te σ F H (.str x)) (hx : x.length ≤ 100000) : ED K (tM0 (fun x xs H Q => ∃ a, x = .str a ∧ xs = [] ∧ a.length ≤ 5592405 ∧ Q (.str (Txt.upper a)) H) te) σ F H (.str (Txt.upper x)) := fun H1 s Q q =>
  h H1 s _ fun v H2 s2 hv => by
    cases hv
    exact ⟨⟨x, rfl⟩, x, rfl, rfl, by omega, q _ _ s2 (.str _)⟩
/-- gives a list of these texts -/
def EL (te : TE) (σ : L2.St) (H : Hp) (xs : List Str) : Prop := ∀ H1, Same H H1 → ∀ Q : VK, (∀ p H2, Same H1 H2 → H2 p = some (.lst (xs.map V.str)) → Q (.ref p) H2) → te σ H1 Q
theorem EL.mono {H' : Hp} {xs : List Str} (s : Same H H') (h : EL te σ H xs) : EL te σ H' xs := fun H1 a Q q => h H1 (s.trans a) Q q
theorem el_var {i : Nat} {p : Addr} {xs : List Str} (h : σ[i]? = some (some (.ref p))) (hp : H p = some (.lst (xs.map V.str))) : EL (tVar i) σ H xs := fun H1 s Q q => ⟨_, h, q p H1 (Same.refl _) (s _ _ hp)⟩
theorem el_cat {xs ys : List Str} (ha : EL ta σ H xs) (hb : EL tb σ H ys) (hl : xs.length + ys.length ≤ 100000) : EL (tOp rCat ta tb) σ H (xs ++ ys) := fun H1 s Q q =>
  ha H1 s _ fun p H2 s2 hp => hb H2 (s.trans s2) _ fun b H3 s3 hb3 =>
    ⟨p, b, _, _, rfl, rfl, s3 _ _ hp, hb3, by rw [List.length_map, List.length_map]; exact small5 hl, fun l hn => q l _ ((s2.trans s3).trans (Same.newA hn)) (by rw [upd_same, List.map_append])⟩
theorem el_lst {t : TA} {xs : List Str} (h : EA K t σ F H (xs.map .str)) (hl : xs.length ≤ 100000) : EL (tLst t) σ H xs := fun H1 s Q q =>
  h H1 s _ fun vs H2 s2 hv => by
    have e := strs_dps (dfs_dps hv)
    subst e
    exact ⟨by rw [List.length_map]; exact small5 hl, fun p hp => q p _ (s2.trans (Same.newA hp)) upd_same⟩
def cutW (xs : List Str) (lo hi : Option Int) : List Str := (xs.drop (HT.sIx xs.length 0 lo)).take (HT.sIx xs.length xs.length hi - HT.sIx xs.length 0 lo)
theorem cutW_map (xs : List Str) (lo hi : Option Int) : cutV (xs.map V.str) lo hi = (cutW xs lo hi).map V.str := by
  unfold cutV cutW; rw [List.length_map, List.map_take, List.map_drop]
theorem cutW_mem {xs : List Str} {lo hi : Option Int} {x : Str} (h : x ∈ cutW xs lo hi) : x ∈ xs := List.mem_of_mem_drop (List.mem_of_mem_take h)
theorem cutW_len {xs : List Str} {lo hi : Option Int} : (cutW xs lo hi).length ≤ xs.length := by
  unfold cutW; rw [List.length_take, List.length_drop]; omega
theorem el_slice {xs : List Str} {tl th : TO} {lo hi : Option Int} (h : EL te σ H xs) (hl : EO tl σ H lo) (hh : EO th σ H hi) : EL (tSl (rSlL K) te tl th) σ H (cutW xs lo hi) := fun H1 s Q q =>
  h H1 s _ fun p H2 s2 hp => hl H2 (s.trans s2) _ fun H3 s3 => hh H3 ((s.trans s2).trans s3) _ fun H4 s4 =>
    ⟨p, _, rfl, .inl (.inl (s4 _ _ (s3 _ _ hp))), fun l hn => q l _ (((s2.trans s3).trans s4).trans (Same.newA hn)) (by rw [upd_same, cutW_map])⟩
theorem el_rep2 {xs : List Str} {tb : TE} (ha : EL ta σ H xs) (hb : ED K tb σ F H (.int 2)) (hl : xs.length ≤ 50000) : EL (tOp rRep ta tb) σ H (xs ++ xs) := fun H1 s Q q =>
  ha H1 s _ fun p H2 s2 hp => hb H2 (s.trans s2) _ fun b H3 s3 hb3 => by
    cases hb3
    refine ⟨p, 2, _, rfl, rfl, s3 _ _ hp, by decide, by decide, ?_, fun l hn => q l _ ((s2.trans s3).trans (Same.newA hn)) ?_⟩
    · rw [List.length_map]; refine small5 ?_
      show xs.length * 2 ≤ _
      omega
    · rw [upd_same]
      show some (HO.lst (List.replicate 2 (xs.map V.str)).flatten) = _
      rw [List.map_append]; simp [List.replicate]
theorem el_if {t : TT} {b : Bool} {xs ys : List Str} (h : ET t σ H b) (h1 : b = true → EL ta σ H xs) (h2 : b = false → EL tb σ H ys) : EL (tIf t ta tb) σ H (if b then xs else ys) := fun H1 s Q q => h H1 s _ fun H2 s2 => by
  cases b with
  | true => exact h1 rfl H2 (s.trans s2) _ fun p H3 s3 hp => q p H3 (s2.trans s3) hp
  | false => exact h2 rfl H2 (s.trans s2) _ fun p H3 s3 hp => q p H3 (s2.trans s3) hp
end
end Ag

set_option Elab.async false
set_option linter.all false
set_option maxRecDepth 100000
set_option maxHeartbeats 1000000
/-! What stays where the pen is drawn and tables of code objects grow. -/
namespace Ag
open PySem PySem.Spec PyProof.Rows L2 LamX
/-- all but the pen and the tables is kept -/
def Kp (p : Addr) (H H' : Hp) : Prop := ∀ a o, a ≠ p → (∀ ps, o ≠ .tbl ps) → H a = some o → H' a = some o
theorem Kp.refl (p : Addr) (H : Hp) : Kp p H H := fun _ _ _ _ h => h
theorem Kp.trans {p : Addr} {H H1 H2 : Hp} (a : Kp p H H1) (b : Kp p H1 H2) : Kp p H H2 := fun x o n t h => b x o n t (a x o n t h)
theorem Kp.but {p : Addr} {H H1 : Hp} (b : But p H H1) : Kp p H H1 := fun x o n _ h => b x o n h
theorem Kp.of {p : Addr} {H H1 : Hp} (b : Same H H1) : Kp p H H1 := fun x o _ _ h => b x o h
theorem Kp.ext {p : Addr} {H H1 : Hp} (b : ExtN H H1) : Kp p H H1 := fun x o _ t h => b x o h t
section
variable {K : PySem.W.Frag} {p c : Addr} {n : Nat} {H H' : Hp}
theorem Pen.rdK {a : Addr} {u : HO} (h : Pen p c n H) (b : Kp p H H') (r : Rd H a u) (no : ∀ kvs, u ≠ .dK kvs) (nt : ∀ ps, u ≠ .tbl ps) : Rd H' a u := by
  rcases r with r | ⟨o, r⟩
  · exact .inl (b _ _ (h.ne r no) nt r)
  · exact .inr ⟨o, b _ _ (h.ne r (fun _ z => nomatch z)) (fun _ z => nomatch z) r⟩
theorem Pen.slK {a : Addr} {xs : List V} (h : Pen p c n H) (b : Kp p H H') (r : SqL K H a xs) : SqL K H' a xs := r.imp (fun z => h.rdK b z (fun _ z => nomatch z) (fun _ z => nomatch z)) id
theorem Pen.stK {a : Addr} {xs : List V} (h : Pen p c n H) (b : Kp p H H') (r : SqT K H a xs) : SqT K H' a xs := r.imp (fun z => h.rdK b z (fun _ z => nomatch z) (fun _ z => nomatch z)) id
mutual
theorem Pen.dpK (h : Pen p c n H) (b : Kp p H H') : ∀ {v : V} {d : PyData}, Dp K H v d → Dp K H' v d
  | _, _, .non => .non
  | _, _, .bl b => .bl b
  | _, _, .int i => .int i
  | _, _, .str x => .str x
  | _, _, .lst q r => .lst (h.slK b q) (Pen.dpsK h b r)
  | _, _, .tup q r => .tup (h.stK b q) (Pen.dpsK h b r)
theorem Pen.dpsK (h : Pen p c n H) (b : Kp p H H') : ∀ {vs : List V} {ds : List PyData}, DpAll K H vs ds → DpAll K H' vs ds
  | _, _, .nil => .nil
  | _, _, .cons q r => .cons (Pen.dpK h b q) (Pen.dpsK h b r)
end
theorem Pen.ext (h : Pen p c n H) (b : ExtN H H') : Pen p c n H' := by
  obtain ⟨cells, a, d, k, f, hp, hc, r⟩ := h
  refine ⟨cells, a, d, k, f, b _ _ hp (fun _ z => nomatch z), ?_, r⟩
  rcases hc with hc | ⟨o, hc⟩
  · exact .inl (b _ _ hc (fun _ z => nomatch z))
  · exact .inr ⟨o, b _ _ hc (fun _ z => nomatch z)⟩
/-- the tables stand where but the pen is changed -/
theorem tabs_but {T : List (Addr × Str)} (h : Pen p c n H) (b : But p H H') (t : Tabs T H) : Tabs T H' := fun q hq => by
  obtain ⟨ps, e, tr, co⟩ := t q hq
  refine ⟨ps, b _ _ (h.ne e (fun _ z => nomatch z)) e, tr, fun pos cv hcv => ?_⟩
  obtain ⟨cc, rfl, hc⟩ := co pos cv hcv
  exact ⟨cc, rfl, b _ _ (h.ne hc (fun _ z => nomatch z)) hc⟩
end
end Ag

set_option Elab.async false
set_option linter.all false
set_option maxRecDepth 100000
set_option maxHeartbeats 1000000
set_option pp.maxSteps 300
/-! Short ways through readings: values, pairs of arguments, loops. -/
namespace Ag
open PySem PySem.Spec PyProof.Rows L2 LamX
theorem ite2 {c : Prop} [Decidable c] {A B : Prop} (h1 : c → A) (h2 : ¬ c → B) : if c then A else B := by
  by_cases h : c
  · rw [if_pos h]; exact h1 h
  · rw [if_neg h]; exact h2 h
section
variable {K : PySem.W.Frag} {σ : L2.St} {F : Addr → Prop} {H : Hp} {te ta tb : TE} {d e : PyData}
theorem dfs_ints : ∀ (xs : List Int), DfAll K F H (xs.map V.int) (xs.map .int)
  | [] => .nil
  | x :: xs => .cons (.int x) (dfs_ints xs)
theorem ed_val {v : V} (hd : Df K F H v d) : ED K (tC v) σ F H d := fun H1 s Q q => q v H1 (Same.refl _) (df_mono s Fr.base hd)
theorem run_edc {tr : TA} {Q : List V → Hp → Prop} (h : ED K te σ F H d) (k : ∀ v H1, Same H H1 → Df K (Fr F H) H1 v d → tr σ H1 fun vs H2 => Q (v :: vs) H2) : tCons te tr σ H Q := h H (Same.refl _) _ k
theorem run_catT {v y : V} {xs ys : List PyData} {Q : VK} (hv : Df K F H v (.tuple xs)) (hy : Df K F H y (.tuple ys)) (hl : xs.length + ys.length ≤ 100000) (k : ∀ z H1, Same H H1 → Df K (Fr F H) H1 z (.tuple (xs ++ ys)) → Q z H1) : rCatA K v y H Q :=
  ed_catT (σ := []) (ed_val hv) (ed_val hy) hl H (Same.refl _) Q k
theorem run_el1 {xs : List Str} {tr : TA} {Q : List V → Hp → Prop} (h : EL te σ H xs) (k : ∀ p H1, Same H H1 → H1 p = some (.lst (xs.map V.str)) → tr σ H1 fun vs H2 => Q (V.ref p :: vs) H2) : tCons te tr σ H Q := h H (Same.refl _) _ k
/-- while, and what follows -/
theorem run_while {c : TT} {tb tz : TS} {D : Ends} {W : Nat → L2.St → Hp → Prop} {m0 : Nat} (h0 : W m0 σ H)
    (hs : ∀ m σ H, W m σ H → ∃ b, ET c σ H b ∧ (b = true → ∀ H1, Same H H1 → ∃ N : L2.St → Hp → Prop, (∀ σ' H', N σ' H' → ∃ m', m' < m ∧ W m' σ' H') ∧ tb { D with nx := N, ct := N, bk := tz D } σ H1) ∧ (b = false → ∀ H1, Same H H1 → tz D σ H1)) :
    tSeq (tWhile c tb) tz D σ H := ⟨W, ⟨m0, h0⟩, fun m σ H w => by
  obtain ⟨b, hc, h1, h2⟩ := hs m σ H w
  refine hc H (Same.refl _) _ fun H2 s2 => ?_
  cases b with
  | true => exact h1 rfl H2 s2
  | false => exact h2 rfl H2 s2⟩
end
theorem lt_int {a b : Nat} : decide ((a : Int) < (b : Int)) = decide (a < b) := by
  by_cases h : a < b
  · rw [decide_eq_true h, decide_eq_true (by omega)]
  · rw [decide_eq_false h, decide_eq_false (by omega)]
theorem take_snoc {α : Type} {l : List α} {j : Nat} {x : α} (h : l[j]? = some x) : l.take (j + 1) = l.take j ++ [x] := by rw [List.take_succ, h]; rfl
theorem zip_get {α β : Type} {xs : List α} {ys : List β} {j : Nat} {x : α} {y : β} (h1 : xs[j]? = some x) (h2 : ys[j]? = some y) : (xs.zip ys)[j]? = some (x, y) := by
  rw [List.getElem?_zip_eq_some]; exact ⟨h1, h2⟩
theorem str_at {xs : List Str} {j : Nat} {v : V} (h : (xs.map V.str)[j]? = some v) : ∃ s, xs[j]? = some s ∧ v = .str s := by
  rw [List.getElem?_map] at h
  cases e : xs[j]? with
  | none => rw [e] at h; cases h
  | some s => rw [e] at h; exact ⟨s, rfl, (Option.some.inj h).symm⟩
theorem int_at {xs : List Int} {j : Nat} {v : V} (h : (xs.map V.int)[j]? = some v) : ∃ s, xs[j]? = some s ∧ v = .int s := by
  rw [List.getElem?_map] at h
  cases e : xs[j]? with
  | none => rw [e] at h; cases h
  | some s => rw [e] at h; exact ⟨s, rfl, (Option.some.inj h).symm⟩
theorem sqt_upd {K : PySem.W.Frag} {H : Hp} {D a : Addr} {u o : HO} {xs : List V} (hD : H D = some u) (n1 : ∀ zs, u ≠ .tup zs) (n2 : ∀ x zs, u ≠ .frz x (.tup zs)) (h : SqT K H a xs) : SqT K (upd H D o) a xs := h.imp (fun z => rd_other z fun e => by
  subst e
  rcases z with z | ⟨x, z⟩
  · rw [hD] at z; exact n1 _ (Option.some.inj z)
  · rw [hD] at z; exact n2 _ _ (Option.some.inj z)) id
end Ag

set_option Elab.async false
set_option linter.all false
set_option maxRecDepth 100000
set_option maxHeartbeats 1000000
/-! What is a list or a tuple: asked for its kind, walked, sliced. -/
namespace Ag
open PySem PySem.Spec PyProof.Rows L2
def iVE (K : PySem.W.Frag) (i : Nat) : TI := fun σ H R => ∃ a, σ[i]? = some (some (.ref a)) ∧ (((∃ xs, SqL K H a xs) ∧ R (Itl K a) H) ∨ ((∃ xs, SqT K H a xs) ∧ R (Itt K a) H))
theorem pi_ve {X : Cx} {tg e : Expr} {i : Nat} (h : PE X e (tVar i)) : PI X tg e (iVE X.K i) := ⟨fun pins s σ H R I ⟨a, h1, h2⟩ => by
  rcases h2 with ⟨l, r⟩ | ⟨l, r⟩
  · exact (pi_list h).run pins s σ H R I ⟨_, h1, a, rfl, l, r⟩
  · exact (pi_tup h).run pins s σ H R I ⟨_, h1, a, rfl, l, r⟩⟩
section
variable {K : PySem.W.Frag} {σ : L2.St} {F : Addr → Prop} {H : Hp} {te ta : TE} {d : PyData} {ds : List PyData}
theorem ei_ve {i : Nat} {v : V} (h : σ[i]? = some (some v)) (hd : Df K F H v d) (he : d = .list ds ∨ d = .tuple ds) : EI K (iVE K i) σ F H ds := fun H1 s R q => by
  have hd1 := df_mono (G := Fr F H1) s (fun _ z => .inl z) hd
  rcases he with rfl | rfl
  · cases hd1 with
    | lst hs r => exact ⟨_, h, .inl ⟨⟨_, hs.imp (fun z => z.1) id⟩, q _ H1 (Same.refl _) (wk_list hs r)⟩⟩
  · cases hd1 with
    | tup hs r => exact ⟨_, h, .inr ⟨⟨_, hs⟩, q _ H1 (Same.refl _) (wk_tup hs r)⟩⟩
/-- isinstance(x, (tuple, list)) -/
theorem ed_isiTL (ha : ED K ta σ F H d) : ED K (tCB (rIsiT K) (tCons ta (tCons (tTup (tCons (tC (.ty "tuple")) (tCons (tC (.ty "list")) tNil))) tNil))) σ F H (.bool (isiB "tuple" d || isiB "list" d)) := fun H1 s Q q =>
  ha H1 s _ fun x H2 s2 hx => ⟨(by show 2 ≤ sizeLine; decide), fun p hp => by
    have hx3 := df_mono (G := Fr F H1) (Same.newA (o := .tup [.ty "tuple", .ty "list"]) hp) (fun _ z => z) hx
    refine ⟨x, p, _, .type (tyName d), [.type "tuple", .type "list"], _, rfl, upd_same, .cons (.ty _) (.cons (.ty _) .nil), tyx_of (df_dp hx3), ?_, q _ _ (s2.trans (Same.newA hp)) (.bl _)⟩
    have h1 := kit_all (T := "tuple") (.inr (.inl rfl)) (df_dp hx3)
    have h2 := kit_all (T := "list") (.inr (.inr (.inl rfl))) (df_dp hx3)
    unfold PySem.W.kitAny
    rw [h1]
    cases isiB "tuple" d with
    | true => rfl
    | false =>
      unfold PySem.W.kitAny
      rw [h2]
      cases isiB "list" d <;> rfl⟩
end
end Ag

set_option Elab.async false
set_option linter.all false
set_option maxRecDepth 100000
set_option maxHeartbeats 1000000
set_option pp.maxSteps 300
/-! A tuple whose very object is known: its methods. -/
namespace Ag
open PySem PySem.Spec PyProof.Rows L2
/-- a tuple without a dict -/
def FzT (H : Hp) (a : Addr) (xs : List V) : Prop := ∃ o : Obj, H a = some (.frz o (.tup xs)) ∧ o.dict = none
theorem FzT.st {K : PySem.W.Frag} {H : Hp} {a : Addr} {xs : List V} (h : FzT H a xs) : SqT K H a xs := let ⟨o, e, _⟩ := h; .inl (.inr ⟨o, e⟩)
theorem FzT.same {H H' : Hp} {a : Addr} {xs : List V} (s : Same H H') (h : FzT H a xs) : FzT H' a xs := let ⟨o, e, d⟩ := h; ⟨o, s _ _ e, d⟩
/-- tuple(list) -/
def rTupF (K : PySem.W.Frag) : List V → Hp → VK → Prop := fun xs H Q => ∃ p ys, xs = [.ref p] ∧ SqL K H p ys ∧ ∀ l o, H l = none → o.dict = none → Q (.ref l) (upd H l (.frz o (.tup ys)))
theorem call_tupleF {X : Cx} : CallR X (.type "tuple") (rTupF X.K) := by
  intro pins s σ H xs us Q I r h
  obtain ⟨p, ys, rfl, hq, q⟩ := h
  obtain ⟨u, rfl, rx⟩ := r.one
  cases rx
  obtain ⟨its, rv, pl, hz⟩ := I.list hq
  have ln := rv.length
  refine call_tuple_list pl.isList (fun h' kp => ?_) (by simp only [List.size_toArray]; omega)
  have I1 : Inv X pins σ H { s with heap := h' } := I.kept (t' := s.toks) kp
  have I2 : Inv X pins σ (upd H h'.objs.size (.frz { cls := .type "tuple", data := .seq its.toArray } (.tup ys))) { s with heap := h'.push { cls := .type "tuple", data := .seq its.toArray } } :=
    I1.laid (t' := s.toks) (fun b o e => Heap.get?_push_of_some _ e) (Nat.le_refl _) ⟨Heap.get?_push_size _ rfl, hz, its, rv, IsTup.new _ _⟩
  exact ⟨.ref h'.objs.size, _, I2, rfl, q _ _ (I1.hok.fresh (Nat.le_refl _)) rfl⟩
def tBMT (r : V → List V → Hp → VK → Prop) (to : TE) (t : TA) : TE := fun σ H Q => to σ H fun x H1 => (∃ a xs, x = .ref a ∧ FzT H1 a xs) ∧ t σ H1 fun vs H2 => r x vs H2 Q
theorem pe_bmT {X : Cx} {name : Str} {id : String} {r : V → List V → Hp → VK → Prop} {o e : Expr} {es : List Expr} {to : TE} {t : TA} {apos cpos : Pos} (slot : Slot "tuple" name id) (hty : typeOf (.builtin id) = pure (.type "method_descriptor")) (hm : MtR X id r) (ho : PE X o to) (ha : PA X (e :: es) t)
    (b0 : attributeBase o name X.env (eval o X.env) = eval o X.env := by rfl) (f0 : ((backTo cpos (starEach (e :: es) X.env)).all (fun x => !x.1) && (backToKw cpos (keywordEach [] X.env)).all (fun x => x.1.isSome) && decide ((e :: es).length + ([] : List Keyword).length + (if ([] : List Keyword).isEmpty then 0 else 1) < 30)) = true := by rfl) (l0 : (apos.endLine == cpos.line) = true := by rfl) (t0 : starEach (e :: es) X.env = (false, eval e X.env) :: starEach es X.env := by rfl) (p0 : (backTo cpos (starEach es X.env)).any (·.1) = false := by rfl) :
    PE X (.Call (.Attribute o name apos) (e :: es) [] cpos) (tBMT r to t) := by
  refine ⟨fun pins s σ H Q I h => wpAny_Call_method_late b0 f0 l0 rfl (thn (ho.run pins s σ H _ I h) fun v z ⟨x, H1, I1, rx, ⟨a, xs, ex, ob, ea, ed⟩, q1⟩ => ?_)⟩
  subst ex
  obtain rfl : v = Value.ref a := rx
  obtain ⟨g, _, its, _, o2, g2, cl, _⟩ := (show ObjOk X.prog X.w H1 z.heap a (.frz ob (.tup xs)) from I1.hok a _ ea)
  refine ⟨"tuple", id, PySem.F.plainAttrs_tuple, slot, hty, ⟨o2, g2, cl⟩, fun b eb => ?_, ?_⟩
  · cases eb; exact ⟨ob, g, ed⟩
  have hA := ha.run cpos pins z σ H1 _ I1 q1
  rw [t0] at hA ⊢
  refine Calls.callWith_builtin (by show (false || (backTo cpos (starEach es X.env)).any (·.1)) = false; rw [p0]; rfl) (Calls.evalArgs_plain (thn hA fun us s2 ⟨vs, H2, I2, r2, q2⟩ => hm pins s2 σ H2 (.ref a) vs (.ref a) us Q I2 rfl r2 q2))
end Ag

set_option Elab.async false
set_option linter.all false
set_option maxRecDepth 100000
set_option maxHeartbeats 4000000
/-! set(tuple of texts). -/
namespace Ag
open PySem PySem.Spec PyProof.Rows L2
section
variable {P : Program} {w : World} {A : Around} {E : Value → Shared → Prop}
set_option maxHeartbeats 4000000 in
theorem set_of_strsT {s : Shared} {l : Addr} {items : Array Value} {xs : List Str} {Q : Value → Shared → Prop} (hh : A.handled = none) (hl : s.heap.IsTuple l items) (hi : StrsAre items.toList xs) (hb : xs.length + 1 < scanBound)
    (hQ : ∀ (h' : Heap) (tk : Nat) S m, SetAtG (PySem.strKind P w) h' s.heap.objs.size S m → m ≤ xs.length → (∀ k, S k = true ↔ k ∈ xs) → (∀ b o, s.heap.get? b = some o → h'.get? b = some o) → Q (.ref s.heap.objs.size) { s with heap := h', toks := tk }) :
    wpAny (model P w) A (call (.type "set") [.ref l]) Q E s := by
  have isz : items.size = xs.length := by rw [← StrsAre.len_eq hi, Array.length_toList]
  obtain ⟨c, tl, hmro⟩ := F.called_set.mro
  have hmade := F.called_set.made
  have hsub := F.called_set.sub
  refine wpAny_call (codeAny_of_tree ?_)
  show wpAny _ _ (callAny (.type "set") _) _ _ _
  refine wpAny_pure ⟨Code.quiet_builtin _ (by decide +kernel), codeAny_builtin F.entry_type_call ?_⟩
  rw [Around.under_plain (weight_type_call_type "set" [.ref l] []) rfl]
  have h1 := F.called_set.notType
  have h2 := F.called_set.canCreate
  have hct := F.typeCall_set_1 (.ref l)
  repeat (any_goals (first | assumption | wp_step))
  refine codeAny_mono (code_set_led1 (.ref l) (E := E) (Q₁ := fun obj s₁ => obj = .ref s.heap.objs.size ∧ s₁ = { s with heap := s.heap.push ({ cls := .type "set", dict := none, data := .set #[] 0 (.fresh 0 0 (!w.params.followText "set-order")) } : Obj) }) ⟨rfl, rfl⟩) fun r s₁ hr => ?_
  cases r with
  | error e => exact hr
  | ok fl =>
    cases fl with
    | ret obj =>
      obtain ⟨rfl, rfl⟩ := hr
      have hS : (s.heap.push ({ cls := .type "set", dict := none, data := .set #[] 0 (.fresh 0 0 (!w.params.followText "set-order")) } : Obj)).get? s.heap.objs.size = some ({ cls := .type "set", dict := none, data := .set #[] 0 (.fresh 0 0 (!w.params.followText "set-order")) } : Obj) := Heap.get?_push_size _ rfl
      have hT : Shared.TypeIs { s with heap := s.heap.push ({ cls := .type "set", dict := none, data := .set #[] 0 (.fresh 0 0 (!w.params.followText "set-order")) } : Obj) } (.ref s.heap.objs.size) "set" := ⟨_, hS, rfl⟩
      have hli := F.called_set.init.lookup
      have hbi := F.called_set.init.bind (.ref s.heap.objs.size)
      repeat (any_goals (first | assumption | wp_step))
      refine codeAny_mono (codeAny_call_builtin (R := wants (fun r s₂ => r = .none ∧ ∃ h' tk S m, s₂ = { s with heap := h', toks := tk } ∧ SetAtG (PySem.strKind P w) h' s.heap.objs.size S m ∧ m ≤ xs.length ∧ (∀ k, S k = true ↔ k ∈ xs) ∧
          (∀ b o, s.heap.get? b = some o → h'.get? b = some o)) E) F.called_set.init.plain F.entry_set_init (check_set_init_1 hT ?_)) fun r₂ s₂ hr₂ => ?_
      · obtain ⟨ol, hol, hcl, nl, hdl⟩ := hl
        obtain ⟨ocls, odict, odata, oslots⟩ := ol
        simp only at hcl hdl
        subst hcl; subst hdl
        have hol1 : (s.heap.push ({ cls := .type "set", dict := none, data := .set #[] 0 (.fresh 0 0 (!w.params.followText "set-order")) } : Obj)).get? l = some { cls := .type "tuple", dict := odict, data := .seq items nl, slots := oslots } := Heap.get?_push_of_some _ hol
        have hsls := F.sub_tuple_set
        have hslf := F.sub_tuple_frozenset
        have hne : (Value.type "tuple" == Value.type "dict") = false := by decide
        have hl1 : (s.heap.push ({ cls := .type "set", dict := none, data := .set #[] 0 (.fresh 0 0 (!w.params.followText "set-order")) } : Obj)).IsTuple l items := ⟨_, hol1, rfl, nl, rfl⟩
        unfold Builtin.«set.__init__» noKeywords Builtin.Frozenset.updateFrom
        generalize hPI : pyIter = PI
        wp_walk
        subst hPI
        refine wpAny_pyIter_tuple hl1 ?_
        refine wpAny_bind (wpAny_runValue ?_)
        have llt : l < s.heap.objs.size := Heap.lt_size hol
        have hh3 : A.in1.in1.in1.handled = none := by simp [hh]
        have z1 : (s.heap.push ({ cls := .type "set", dict := none, data := .set #[] 0 (.fresh 0 0 (!w.params.followText "set-order")) } : Obj)).objs.size = s.heap.objs.size + 1 := Heap.size_push ..
        have ne1 : l ≠ (s.heap.push ({ cls := .type "set", dict := none, data := .set #[] 0 (.fresh 0 0 (!w.params.followText "set-order")) } : Obj)).objs.size := by rw [z1]; exact Nat.ne_of_lt (Nat.lt_succ_of_lt llt)
        have hnf : s.heap.objs.size ∉ [(s.heap.push ({ cls := .type "set", dict := none, data := .set #[] 0 (.fresh 0 0 (!w.params.followText "set-order")) } : Obj)).objs.size, l] := by
          rw [z1]; intro z
          rcases List.mem_cons.mp z with z | z
          · exact Nat.ne_of_lt (Nat.lt_succ_self _) z
          · exact Nat.ne_of_gt llt (List.mem_singleton.mp z)
        have hval : ∀ (i : Nat) (v : Value), items[i]? = some v → ∃ x t, xs[i]? = some x ∧ v = .str x t := fun i v q => by
          have q2 : items.toList[i]? = some v := by rw [Array.getElem?_toList]; exact q
          obtain ⟨t, e⟩ := SS.strs_at hi i v q2
          have il : i < xs.length := by rw [← isz, ← Array.length_toList]; exact (List.getElem?_eq_some_iff.mp q2).1
          refine ⟨_, t, ?_, e⟩
          rw [List.getD_eq_getElem?_getD, List.getElem?_eq_getElem il]; rfl
        refine upd_loop ((Walks.tuple hh3 _ l ne1 items).toS) s.heap.objs.size hnf xs isz hb hval (items.size - 0) 0 _ (by omega) (Nat.zero_le _)
          ⟨⟨_, Heap.get?_push_size _ rfl, rfl, rfl⟩, (hl1.push _)⟩ ⟨_, 0, SetAtG.fresh (kd := PySem.strKind P w) (Heap.get?_push_of_some _ hS), Nat.le_refl _, fun k => (by simp)⟩ fun s' S m mv hS' hm hk => ?_
        obtain ⟨h', g2, d', tk', os'⟩ := s'
        have eg : g2 = s.gens := mv.gens
        have ed : d' = s.drawn := mv.drawn
        have eo : os' = s.os := mv.os
        subst eg; subst ed; subst eo
        show wpAny _ _ _ _ _ _
        refine wpAny_pure ?_
        show wpAny _ _ (ret Value.none) _ _ _
        refine wpAny_pure ⟨rfl, h', tk', S, m, rfl, hS', by rw [← isz]; exact hm, hk, fun b o e => mv.heap b o (fun z => ?_) (Heap.get?_push_of_some _ (Heap.get?_push_of_some _ e))⟩
        have lb := Heap.lt_size e
        rcases List.mem_cons.mp z with z | z
        · exact Nat.ne_of_lt lb z
        · exact Nat.ne_of_lt (Nat.lt_succ_of_lt lb) ((List.mem_singleton.mp z).trans z1)
      · cases r₂ with
        | error e => exact hr₂
        | ok fl₂ =>
          cases fl₂ with
          | ret r =>
            obtain ⟨rfl, h', tk, S, m, rfl, hS', hm, hk, kp⟩ := hr₂
            repeat (any_goals (first | assumption | wp_step))
            exact hQ _ _ _ _ hS' hm hk kp
          | _ => exact hr₂.elim
    | _ => exact hr.elim
end

def rSetT (K : PySem.W.Frag) (P : Program) (w : World) : List V → Hp → VK → Prop := fun vs H Q => ∃ (a : Addr) (xs : List Str), vs = [V.ref a] ∧ SqT K H a (xs.map V.str) ∧ xs.length < 4000 ∧ ∀ p, H p = none → Q (.ref p) (upd H p (StrSet P w p xs))
theorem cr_setT {X : Cx} (hc : X.calm = true) : CallR X (.type "set") (rSetT X.K X.prog X.w) := by
  intro pins s σ H vs us Q I r h
  obtain ⟨a, xs, rfl, hs, hb, q⟩ := h
  obtain ⟨its, rv, hl, _⟩ := I.tuple hs
  rw [Vals.ref1 r]
  have hn : H s.heap.objs.size = none := I.hok.fresh (Nat.le_refl _)
  refine set_of_strsT (P := X.prog) (w := X.w) (I.ok.hd hc) hl rv.strs (by unfold scanBound; omega) fun h' tk S m hS hm hk kp => ?_
  refine ⟨.ref s.heap.objs.size, upd H s.heap.objs.size (StrSet X.prog X.w s.heap.objs.size xs), I.laid (t' := tk) kp (Nat.le_refl _) ?_, rfl, q _ hn⟩
  refine ⟨⟨S, m, hS, hm, hk⟩, ?_, ?_⟩
  · obtain ⟨o, es, ep, t, R⟩ := hS
    exact ⟨o, R.at_⟩
  · rintro h1 h2 ⟨S, m, hS, hm, hk⟩ e
    exact ⟨S, m, hS.keep e, hm, hk⟩
end Ag

set_option Elab.async false
set_option linter.all false
set_option maxRecDepth 100000
set_option maxHeartbeats 2000000
set_option pp.maxSteps 300
/-! enumerate of a tuple. -/
namespace Ag
open PySem PySem.Spec PyProof.Rows L2
set_option maxHeartbeats 4000000 in
theorem enum_newB {v : Value} {o : Obj} {Ok : Heap → Prop} (B : Begins v o Ok) :
    Meets (Builtin.«enumerate.__new__» ⟨[.type "enumerate", v], []⟩) (fun _ R z => Ok z.heap ∧
      R (.ok (.ret (.ref (z.heap.push o).objs.size))) { z with heap := (z.heap.push o).push { cls := .type "enumerate", data := .fields #[.none, .bool false, .ref z.heap.objs.size, rawInt 0, .none, .none] } }) :=
  .of_wp fun prog w A R z hz => by
    obtain ⟨hp, gn, dr, tk, sy⟩ := z; obtain ⟨hok, hz⟩ := hz; have hsub := sub_enumerate
    have itr : ∀ {A' : Around} {E : Value → Shared → Prop} {Q : Value → Shared → Prop}, Q (.ref hp.objs.size) ⟨hp.push o, gn, dr, tk, sy⟩ → wpAny (model prog w) A' (pyIter v) Q E ⟨hp, gn, dr, tk, sy⟩ := fun q => B.iter prog w _ _ ⟨hp, gn, dr, tk, sy⟩ _ hok q
    wp_walk using itr
    refine wpAny_stack_any fun stk => wpAny_pure ?_
    split
    · rename_i c _ _ _ _ _; cases (c == Value.type "enumerate") <;> (wp_walk using itr; exact ⟨_, rfl, hz⟩)
    · wp_walk using itr; exact ⟨_, rfl, hz⟩
section
variable {prog : Program} {w : World} {A : Around} {E : Value → Shared → Prop} {z : Shared}
/-- enumerate(t) -/
theorem enum_tup {t : Addr} {its : Array Value} {Q : Value → Shared → Prop} (ht : z.heap.IsTuple t its)
    (k : ∀ h', IsEnum h' (z.heap.objs.size + 1) z.heap.objs.size 0 .none → h'.IsTupleIter z.heap.objs.size t 0 → (∀ b o, z.heap.get? b = some o → h'.get? b = some o) → Q (.ref (z.heap.objs.size + 1)) { z with heap := h' }) :
    wpAny (model prog w) A (call (.type "enumerate") [.ref t]) Q E z := by
  have hn : (z.heap.push { cls := .type "tuple_iterator", data := .fields #[.ref t, .int 0 0] }).objs.size = z.heap.objs.size + 1 := Heap.size_push ..
  refine callType_new F.called_enumerate (by decide) (F.typeCall_enumerate_1 _) (F.newCall_enumerate_1 _) (fun o => F.args_object_init_2 o _) F.entry_enumerate_new (enum_newB (begins_tuple t its)) ⟨ht, ?_⟩
  show _ ∧ _; rw [hn]
  have en : IsEnum ((z.heap.push { cls := .type "tuple_iterator", data := .fields #[.ref t, .int 0 0] }).push { cls := .type "enumerate", data := .fields #[.none, .bool false, .ref z.heap.objs.size, rawInt 0, .none, .none] }) (z.heap.objs.size + 1) z.heap.objs.size 0 .none := by
    have q := Heap.get?_push_size (z.heap.push { cls := .type "tuple_iterator", data := .fields #[.ref t, .int 0 0] }) (o := { cls := .type "enumerate", data := .fields #[.none, .bool false, .ref z.heap.objs.size, rawInt 0, .none, .none] }) rfl
    rw [hn] at q; exact q
  exact ⟨⟨_, en, rfl⟩, k _ en ⟨_, Heap.get?_push_of_some _ (Heap.get?_push_size _ rfl), rfl, rfl⟩ fun b o q => Heap.get?_push_of_some _ (Heap.get?_push_of_some _ q)⟩
end
/-- the tuple at a, each item in a new pair with its place -/
def IteT (K : PySem.W.Frag) (a : Addr) : It :=
  ⟨fun i H => ∃ (xs : List V) (x : V), SqT K H a xs ∧ xs[i]? = some x, fun i H v H' => ∃ T x, v = .ref T ∧ H T = none ∧ H' = upd H T (.tup [.int (i : Nat), x]) ∧ ∀ xs, SqT K H a xs → xs[i]? = some x, fun i H => ∃ xs : List V, SqT K H a xs ∧ xs.length = i⟩
theorem turn_enumT {P : Program} {w : World} {K : PySem.W.Frag} {es : List Expr} {kk : Nat} {tpos : Pos} (a e it : Addr) :
    Turn P w K (.Tuple es kk tpos) (IteT K a) [e, it] e (fun i h => (∃ old, IsEnum h e it ((i : Nat) : Int) old) ∧ h.IsTupleIter it a i ∧ e ≠ it ∧ a ≠ it ∧ e ≠ a) where
  mem := List.mem_cons_self
  obj := fun i h st b hb => by
    obtain ⟨⟨old, he⟩, ⟨o, ho, hc, hd⟩, _⟩ := st
    rcases List.mem_cons.mp hb with q | q
    · subst q; exact ⟨_, he, fun v z => nomatch z⟩
    · rw [List.mem_singleton.mp q]; exact ⟨o, ho, fun v z => by rw [hd] at z; exact nomatch z⟩
  keep := fun i h h' st k => let ⟨⟨old, he⟩, hi, ne⟩ := st; ⟨⟨old, k e (by simp) _ he⟩, hi.at fun o z => k it (by simp) o z, ne⟩
  item := by
    intro X hP hw hK hc i pins s σ H E I fr st hg
    subst hP hw hK
    obtain ⟨⟨old, he⟩, hit, n1, n2, n3⟩ := st
    obtain ⟨xs, x, hq, hx⟩ := hg
    obtain ⟨its, rv, p, _⟩ := I.tuple hq
    obtain ⟨u, hu, ru⟩ := rv.get hx
    have le : e < s.heap.objs.size := Heap.lt_size he
    have li : it < s.heap.objs.size := by obtain ⟨_, q, _⟩ := hit; exact Heap.lt_size q
    have lt : i < its.toArray.size := by rw [List.size_toArray]; exact (List.getElem?_eq_some_iff.mp hu).1
    refine wpAny_pyNext_enum_itemD (Draws.tuple (A := X.A.in1) (show X.A.in1.handled = none from I.ok.hd hc) it a n2 its.toArray) he ⟨hit, p⟩ lt n1 (by simp [n1, n3]) fun y h1 tk hy ho hs hT hz hk => ?_
    have ey : y = u := by
      have hy : its.toArray[i]? = some y := hy
      rw [List.getElem?_toArray, hu] at hy; exact (Option.some.inj hy).symm
    subst ey
    refine ⟨_, rfl, wpAny_letOwnedTupleGo_enum (s := { s with heap := h1, toks := tk + 1 }) ho fun h2 he2 sb => ?_⟩
    have hT2 : h2.get? s.heap.objs.size = some { cls := .type "tuple", data := .seq #[.int i tk, y] } := (sb.2 _ (Nat.ne_of_gt le)).trans hT
    have new : ObjOk X.prog X.w (upd H s.heap.objs.size (.tup [.int (i : Nat), x])) h2 s.heap.objs.size (.tup [.int (i : Nat), x]) := ⟨(by show 2 ≤ sizeLine; decide), [.int i tk, y], .cons ⟨_, rfl⟩ (.cons ru .nil), ⟨_, hT2, rfl, _, rfl⟩⟩
    have I1 : Inv X pins σ (upd H s.heap.objs.size (.tup [.int (i : Nat), x])) { s with heap := h2, toks := tk + 1 } :=
      I.turnedNew (ch := [e, it]) (fun b ob hb q => (sb.2 b (fun z => hb (by rw [z]; exact List.mem_cons_self))).trans (hk b ob (fun z => hb (by rw [z]; exact List.mem_cons_self)) (fun z => hb (by rw [z]; exact List.mem_cons_of_mem _ List.mem_cons_self)) q)) fr (Nat.le_refl _) new
    refine ⟨.ref s.heap.objs.size, _, I1, rfl, ⟨_, x, rfl, I.hok.fresh (Nat.le_refl _), rfl, fun ys h => by rw [I.tuple_inj h hq]; exact hx⟩, ⟨⟨y, ?_⟩, hs.1.at fun o q => (sb.2 it (Ne.symm n1)).trans q, n1, n2, n3⟩, fun b hb => ?_⟩
    · rw [show ((i + 1 : Nat) : Int) = (i : Int) + 1 by omega]; exact he2
    · have hb' : b < s.heap.objs.size := by
        rcases List.mem_cons.mp hb with z | z
        · rw [z]; exact le
        · rw [List.mem_singleton.mp z]; exact li
      rw [upd_ne (Nat.ne_of_lt hb')]; exact (fr b hb).1
  done := by
    intro X hP hw hK hc i pins s σ H E I fr st hg
    subst hP hw hK
    obtain ⟨⟨old, he⟩, hit, n1, n2, n3⟩ := st
    obtain ⟨xs, hq, hx⟩ := hg
    obtain ⟨its, rv, p, _⟩ := I.tuple hq
    obtain ⟨f0, f1, _, f3, f4, f5⟩ := fr it (List.mem_cons_of_mem _ List.mem_cons_self)
    have hi : its.toArray.size = i := by rw [List.size_toArray, ← rv.length]; exact hx
    subst hi
    exact wpAny_pyNext_enum_endD (Draws.tuple (A := X.A.in1) (show X.A.in1.handled = none from I.ok.hd hc) it a n2 its.toArray) he ⟨hit, p⟩ fun h1 eb => ⟨rfl, I.turned (t' := s.toks) (fun b o hb q => eb b o hb q) f0 f1 f3 f4 f5⟩
  self := fun A i z Q E st q => by obtain ⟨⟨_, he⟩, _⟩ := st; exact wpAny_pyIter_enum he q
/-- enumerate(tuple) -/
def iEnT (K : PySem.W.Frag) (ta : TA) : TI := fun σ H R => ta σ H fun vs H1 => ∃ a xs, vs = [.ref a] ∧ SqT K H1 a xs ∧ R (IteT K a) H1
theorem pi_enumT {X : Cx} {e : Expr} {ta : TA} {p pos tpos : Pos} {es : List Expr} {kk : Nat} (hg : Gl X "enumerate") (hm : X.mg "enumerate" = none) (ha : PA X [e] ta) (hs : starEach [e] X.env = [(false, eval e X.env)] := by rfl) :
    PI X (.Tuple es kk tpos) (.Call (.Name "enumerate" p) [e] [] pos) (iEnT X.K ta) := by
  refine ⟨fun pins s σ H R I h => Call_ (ld_blt I hg hm boot_enumerate (PyProof.Rows.callWith_type1 (thn (ha.run pos pins s σ H _ I h) fun us z ⟨vs, H1, I1, r1, q1⟩ => ?_) hs rfl))⟩
  obtain ⟨a, xs, rfl, hq, q⟩ := q1
  obtain ⟨u, rfl, r⟩ := r1.one
  cases r
  obtain ⟨its, rv, p, hz⟩ := I1.tuple hq
  have hlt : a < z.heap.objs.size := by obtain ⟨o, ho, _⟩ := id p; exact Heap.lt_size ho
  refine enum_tup p fun h' he hit hk => wpAny_pyIter_enum he ?_
  have I2 : Inv X pins σ H1 { z with heap := h' } := I1.kept (t' := z.toks) hk
  refine ⟨z.heap.objs.size + 1, [z.heap.objs.size + 1, z.heap.objs.size], _, _, H1, rfl, I2, turn_enumT a (z.heap.objs.size + 1) z.heap.objs.size, ⟨⟨.none, he⟩, hit, Nat.succ_ne_self _, Nat.ne_of_lt hlt, Nat.ne_of_gt (Nat.lt_succ_of_lt hlt)⟩, fun b hb => ?_, q⟩
  have le : z.heap.objs.size ≤ b := by
    rcases List.mem_cons.mp hb with q | q
    · rw [q]; exact Nat.le_succ _
    · rw [List.mem_singleton.mp q]; exact Nat.le_refl _
  exact I1.fpOk le (I1.hok.fresh le)
end Ag

set_option Elab.async false
set_option linter.all false
set_option maxRecDepth 100000
set_option maxHeartbeats 4000000
/-! Sets of fewer than 64 tuples whose items are numbers and texts. -/
namespace Ag
open PySem PySem.Spec PyProof.Rows L2
section
variable {P : Program} {w : World}
/-- the probe at its c-th step, and what it keeps -/
abbrev prb (m : Nat) (g : Int) (c : Nat) : SetTable.Probe := nth m (runAt m (SetTable.bits g % (m + 1)) (SetTable.bits g)) c
theorem prb_add (m : Nat) (g : Int) (c q : Nat) : nth m (prb m g c) q = prb m g (c + q) := (nth_add m c _ q).symm
theorem prb_way (m : Nat) (g : Int) (c q : Nat) : (nth m (prb m g c) q).j = way m g (c + q) := congrArg (fun z : SetTable.Probe => z.j) (prb_add m g c q)
theorem nth_dm (m : Nat) : ∀ (n : Nat) (z : SetTable.Probe), z.dummy = none → (nth m z n).dummy = none
  | 0, _, e => e
  | n + 1, z, e => nth_dm m n (adv m z) (by unfold adv; split <;> exact e)

variable {κ : Type} [DecidableEq κ] (kd : HeapKind P w κ)
/-- what a set asks of the keys it holds -/
structure KeyOk : Prop where
  old : ∀ {h h' : Heap} {k : κ} {b : Addr}, (∀ c o, h.get? c = some o → h'.get? c = some o) → kd.is h k b → kd.is h' k b
  but : ∀ {h h' : Heap} {k : κ} {b d : Addr} {o : Obj} {vs : Array (Int × Value)} {n : Nat} {t : SetTable}, kd.is h k b → h.get? d = some o → o.data = .set vs n t → Heap.SameBut d h h' → kd.is h' k b
  cls : ∀ {A : Around} {E : Value → Shared → Prop} {s : Shared} {k : κ} {b : Addr} {Q : Bool → Shared → Prop}, kd.is s.heap k b → Q false s → wpAny (model P w) A (ofAClassStatement 8 (.ref b)) Q E s
  byv : ∀ {A : Around} {E : Value → Shared → Prop} {s : Shared} {k : κ} {b : Addr} {Q : Bool → Shared → Prop}, kd.is s.heap k b → (∀ r, Q r s) → wpAny (model P w) A (hashByValue 8 (.ref b)) Q E s
/-- the entries of a table whose keys are those of L -/
def entH (L : List (Addr × κ)) : List (Int × Value) := L.map fun z => (kd.hash z.2, Value.ref z.1)
structure SetH (h : Heap) (a : Addr) (L : List (Addr × κ)) (vs : Array (Int × Value)) (n : Nat) (t : SetTable) : Prop where
  at_ : ∃ o, h.get? a = some o ∧ o.ExactSet ∧ o.data = .set vs n t
  ents : vs.toList = entH kd L
  lay : TabOk t (L.map fun z => kd.hash z.2)
  once : (L.map Prod.snd).Nodup
  keys : ∀ z ∈ L, kd.is h z.2 z.1
  told : w.params.followText "set-order" = true ∨ t.led = true
  loose : L.length * 5 < t.mask * 3
  small : L.length < 64
variable {kd} {A : Around} {E : Value → Shared → Prop} {s : Shared} {a : Addr} {L : List (Addr × κ)} {vs : Array (Int × Value)} {n : Nat} {t : SetTable}
theorem ent_len {vs : Array (Int × Value)} {L : List (Addr × κ)} (e : vs.toList = entH kd L) : vs.size = L.length := by
  have := congrArg List.length e
  unfold entH at this
  rwa [Array.length_toList, List.length_map] at this
theorem ent_at {vs : Array (Int × Value)} {L : List (Addr × κ)} (e : vs.toList = entH kd L) {i : Nat} {z : Addr × κ} (hz : L[i]? = some z) : vs[i]? = some (kd.hash z.2, Value.ref z.1) := by
  have : vs.toList[i]? = some (kd.hash z.2, Value.ref z.1) := by rw [e]; unfold entH; rw [List.getElem?_map, hz]; rfl
  rwa [Array.getElem?_toList] at this
theorem fit_of {vs : Array (Int × Value)} {L : List (Addr × κ)} {t : SetTable} (e : vs.toList = entH kd L) (h1 : t.place.size = vs.size) (h2 : t.dummies = #[]) (h3 : vs.size ≤ t.mask) : t.fits vs.size = true := by
  unfold SetTable.fits SetTable.fill
  rw [h2, Bool.and_eq_true, beq_iff_eq, decide_eq_true_eq]
  exact ⟨h1, by show t.place.size + 0 ≤ t.mask; omega⟩
theorem byv_if (ok : KeyOk kd) {c : Bool} {k : κ} {b : Addr} {α : Type} {F : Bool → Sem α} {Q : α → Shared → Prop} (hb : kd.is s.heap k b) (q : ∀ r, wpAny (model P w) A (F r) Q E s) : wpAny (model P w) A (if c = true then hashByValue 8 (.ref b) >>= F else pure true >>= F) Q E s := by
  cases c with
  | true => exact wp_if_pos rfl (wpAny_bind (ok.byv hb q))
  | false => exact wp_if_neg (by decide) (wpAny_bind (wpAny_pure (q true)))
theorem SetH.plc (R : SetH kd s.heap a L vs n t) : t.place.size = L.length := by
  have := R.lay.sz
  rwa [List.length_map] at this
theorem SetH.fits (R : SetH kd s.heap a L vs n t) : t.fits vs.size = true := by
  have z := ent_len R.ents
  have r := R.loose
  exact fit_of R.ents (by rw [R.plc, z]) R.lay.dm (by omega)
/-- nothing shows when keys are looked for among keys -/
theorem unseen (ok : KeyOk kd) {k : κ} {b : Addr} {Q : Bool → Shared → Prop} (hb : kd.is s.heap k b) {ys : List Value} (all : ∀ y ∈ ys, ∃ j c, y = Value.ref c ∧ kd.is s.heap j c) (q : Q false s) :
    wpAny (model P w) A (searchCouldBeSeen (.ref b) ys) Q E s := by
  unfold searchCouldBeSeen
  refine wpAny_bind (wpAny_forIn_list _ (fun left out s1 => out.1 = none ∧ s1 = s ∧ ∀ y ∈ left, ∃ j c, y = Value.ref c ∧ kd.is s.heap j c) _ (fun y left out s1 z => ?_) (fun out s1 z => ?_) _ _ ⟨rfl, rfl, all⟩)
  · obtain ⟨e1, rfl, z⟩ := z
    obtain ⟨j, c, rfl, hc⟩ := z y List.mem_cons_self
    have z2 := fun u hu => z u (List.mem_cons_of_mem _ hu)
    dsimp only
    by_cases hv : (b == c || (carriedByValue (.ref b) && carriedByValue (.ref c))) = true
    · exact wp_if_pos hv (wpAny_pure ⟨rfl, rfl, z2⟩)
    · refine wp_if_neg hv (wpAny_bind (kd.quiet hb ?_))
      simp only [Bool.not_true, Bool.false_eq_true, if_false]
      refine wpAny_bind (kd.quiet hc ?_)
      simp only [Bool.not_true, Bool.false_eq_true, if_false]
      refine wpAny_bind (ok.cls hb ?_)
      simp only [Bool.false_eq_true, if_false]
      refine wpAny_bind (ok.cls hc ?_)
      simp only [Bool.false_eq_true, if_false]
      exact wpAny_pure ⟨rfl, rfl, z2⟩
  · obtain ⟨o1, o2⟩ := out
    obtain ⟨e1, rfl, _⟩ := z
    have e1 : o1 = none := e1
    subst e1
    exact wpAny_pure q
/-- looking for a key that is to be added, from the c-th step on; at the e-th step is the first empty slot -/
theorem look_from (ok : KeyOk kd) (R : SetH kd s.heap a L vs n t) {b : Addr} {k : κ} (hb : kd.is s.heap k b) (ro : kd.room A) {e : Nat} (e1 : e < 10 * SetTable.turns t.mask) (e2 : way t.mask (kd.hash k) e ∉ t.place.toList)
    (e3 : ∀ c, c < e → way t.mask (kd.hash k) c ∈ t.place.toList) {Q : SetFound → Shared → Prop} (yes : k ∈ L.map Prod.snd → Q (.there none) s) (no : k ∉ L.map Prod.snd → Q (.free (way t.mask (kd.hash k) e) false) s) :
    ∀ (u c : Nat) (o : Option SetTable.Probe), o.getD (t.probeStart (kd.hash k)) = prb t.mask (kd.hash k) c → c ≤ e → e < u + c →
      (∀ (i : Nat) z, L[i]? = some z → z.2 = k → ∃ d, c ≤ d ∧ d < e ∧ t.place.toList[i]? = some (way t.mask (kd.hash k) d)) → wpAny (model P w) A (setSearchFrom a (.ref b) (kd.hash k) true u o) Q E s
  | 0, c, o, _, h1, h2, _ => absurd h2 (by omega)
  | u + 1, c, o, ho, h1, h2, still => by
    obtain ⟨ob, g1, g2, g3⟩ := R.at_
    rw [setSearchFrom_succ]
    refine wpAny_bind (wpAny_setState_of g1 g3 R.fits ?_)
    dsimp only
    have ng : ¬ t.gaveWay = true := by
      unfold SetTable.gaveWay
      rw [mask_odd R.lay.mok]; decide
    refine wp_if_neg ng ?_
    try refine wpAny_bind (wpAny_pure ?_)
    have hs : ∀ (i : Nat) z, L[i]? = some z → (fun i => (vs[i]?.map (·.1)).getD 0) i = kd.hash z.2 := fun i z hz => by
      show (vs[i]?.map (·.1)).getD 0 = _
      rw [ent_at R.ents hz]; rfl
    rcases go_spec t R.lay.ris R.lay.dm (fun i => (vs[i]?.map (·.1)).getD 0) (kd.hash k) (10 * SetTable.turns t.mask) (e - c) (prb t.mask (kd.hash k) c) (nth_dm _ _ _ rfl) (by omega) (fun q hq => by rw [prb_way]; exact e3 _ (by omega)) (by rw [prb_way, show c + (e - c) = e by omega]; exact e2) with ⟨q, i, f1, f2, f3, f4, f5⟩ | ⟨f4, f5⟩
    · -- one with the same hash
      rw [prb_way, prb_add] at f5
      rw [prb_way] at f2
      have st : t.probe (fun i => (vs[i]?.map (·.1)).getD 0) (kd.hash k) (o.getD (t.probeStart (kd.hash k))) = some (.candidate (way t.mask (kd.hash k) (c + q)) i (prb t.mask (kd.hash k) (c + (q + 1)))) := by rw [ho]; exact f5
      rw [st]
      dsimp only
      have il : i < L.length := by
        have z := (List.getElem?_eq_some_iff.mp f2).1
        rw [Array.length_toList, R.plc] at z; exact z
      obtain ⟨z, hz⟩ : ∃ z, L[i]? = some z := ⟨_, List.getElem?_eq_getElem il⟩
      have zL : z ∈ L := List.mem_of_getElem? hz
      have sl : t.slot (way t.mask (kd.hash k) (c + q)) = .live i := slot_live R.lay.ris f2
      have on : wpAny (model P w) A (searchRest a (.ref b) (kd.hash k) true u vs t (way t.mask (kd.hash k) (c + q)) i (prb t.mask (kd.hash k) (c + (q + 1)))) Q E s := by
        unfold searchRest
        rw [ent_at R.ents hz]
        dsimp only
        refine wpAny_bind (wpAny_holding (kd.eqBool ro (R.keys z zL) hb ?_))
        refine wpAny_bind (wpAny_setState_of g1 g3 R.fits ?_)
        dsimp only
        by_cases eq : z.2 = k
        · exact wp_if_pos (by rw [decide_eq_true eq]; rfl) (wpAny_pure (yes (List.mem_map.mpr ⟨z, zL, eq⟩)))
        · have fl : (true && decide (z.2 = k)) = false := by rw [decide_eq_false eq]; rfl
          refine wp_if_neg (by rw [fl]; decide) ?_
          try refine wpAny_bind (wpAny_pure ?_)
          rw [sameMem]
          dsimp only
          simp only [if_true, sl, ent_at R.ents hz]
          refine wpAny_bind (wpAny_isSame_ref_self (wpAny_bind (wpAny_pure ?_)))
          simp only [if_true]
          refine wp_if_neg (by rw [decide_eq_false eq]; decide) ?_
          refine look_from ok R hb ro e1 e2 e3 yes no u (c + (q + 1)) _ rfl (by omega) (by omega) fun i' z' hz' ek => ?_
          obtain ⟨d, d1, d2, d3⟩ := still i' z' hz' ek
          refine ⟨d, ?_, d2, d3⟩
          rcases Nat.lt_trichotomy d (c + q) with lt | rfl | gt
          · refine absurd ((hs i' z' hz').trans (congrArg kd.hash ek)) (f4 (d - c) i' (by omega) ?_)
            rw [prb_way, show c + (d - c) = d by omega]; exact d3
          · have same := slot_live R.lay.ris d3
            rw [sl] at same
            injection same with same
            rw [← same, hz] at hz'
            exact absurd ((congrArg Prod.snd (Option.some.inj hz')).trans ek) eq
          · omega
      by_cases tl : t.led = true
      · refine wp_if_neg (by rw [tl]; decide) ?_
        try refine wpAny_bind (wpAny_pure ?_)
        exact on
      · refine wp_if_pos (by rw [Bool.not_eq_true] at tl; rw [tl]; rfl) ?_
        refine wpAny_bind (unseen ok hb (fun y hy => ?_) ?_)
        · obtain ⟨y1, m1, m2⟩ := List.mem_map.mp hy
          have m3 : y1 ∈ vs.toList := by
            have : y1 ∈ vs ∧ y1.1 = kd.hash k := by simpa using m1
            simpa using this.1
          rw [R.ents] at m3
          obtain ⟨z2, hz2, m4⟩ := List.mem_map.mp m3
          exact ⟨z2.2, z2.1, by rw [← m2, ← m4], R.keys z2 hz2⟩
        · refine wp_if_neg (by decide) ?_
          try refine wpAny_bind (wpAny_pure ?_)
          exact on
    · -- the empty slot is come to
      rw [prb_way, show c + (e - c) = e by omega] at f5
      have st : t.probe (fun i => (vs[i]?.map (·.1)).getD 0) (kd.hash k) (o.getD (t.probeStart (kd.hash k))) = some (.empty (way t.mask (kd.hash k) e) none) := by rw [ho]; exact f5
      rw [st]
      dsimp only
      refine wpAny_pure (no fun hm => ?_)
      obtain ⟨z, zL, ek⟩ := List.mem_map.mp hm
      obtain ⟨i, hi, ei⟩ := List.getElem_of_mem zL
      have hz : L[i]? = some z := by rw [List.getElem?_eq_getElem hi, ei]
      obtain ⟨d, d1, d2, d3⟩ := still i z hz ek
      refine absurd ((hs i z hz).trans (congrArg kd.hash ek)) (f4 (d - c) i (by omega) ?_)
      rw [prb_way, show c + (d - c) = d by omega]; exact d3
theorem look_at (ok : KeyOk kd) (R : SetH kd s.heap a L vs n t) {b : Addr} {k : κ} (hb : kd.is s.heap k b) (ro : kd.room A) {Q : SetFound → Shared → Prop} (yes : k ∈ L.map Prod.snd → Q (.there none) s)
    (no : ∀ e, k ∉ L.map Prod.snd → way t.mask (kd.hash k) e ∉ t.place.toList → (∀ c, c < e → way t.mask (kd.hash k) c ∈ t.place.toList) → Q (.free (way t.mask (kd.hash k) e) false) s) :
    wpAny (model P w) A (setSearch a (.ref b) (kd.hash k) true) Q E s := by
  have rm := R.loose
  obtain ⟨e, e1, e2, e3⟩ := R.lay.first (by rw [List.length_map]; omega) (kd.hash k)
  have few : e < 100000 := by
    have : 10 * SetTable.turns t.mask ≤ 1420 := by
      unfold SetTable.turns
      rcases R.lay.mok with m | m | m <;> omega
    omega
  unfold setSearch
  refine look_from ok R hb ro e1 e2 e3 yes (fun hn => no e hn e2 e3) 100000 0 none rfl (Nat.zero_le _) (by omega) fun i z hz ek => ?_
  have il : i < t.place.toList.length := by
    rw [Array.length_toList, R.plc]
    exact (List.getElem?_eq_some_iff.mp hz).1
  have hj := List.getElem?_eq_getElem il
  obtain ⟨d, d1, d2⟩ := R.lay.before e2 (h := kd.hash k) (i := i) (by rw [List.getElem?_map, hz, ← ek]; rfl) hj
  exact ⟨d, Nat.zero_le _, d1, by rw [d2]; exact hj⟩
end
end Ag

set_option Elab.async false
set_option linter.all false
set_option maxRecDepth 100000
set_option maxHeartbeats 4000000
namespace Ag
open PySem PySem.Spec PyProof.Rows L2
theorem self_pick {α : Type} : ∀ l : List α, (List.range l.length).filterMap (fun i => l[i]?) = l
  | [] => rfl
  | x :: l => by
    have e : (List.range (x :: l).length).filterMap (fun i => (x :: l)[i]?) = x :: (List.range l.length).filterMap (fun i => l[i]?) := by
      rw [List.length_cons, List.range_succ_eq_map, List.filterMap_cons_some (b := x) (by rfl), List.filterMap_map]
      congr 1
    rw [e, self_pick l]
section
variable {P : Program} {w : World} {κ : Type} [DecidableEq κ] {kd : HeapKind P w κ} {A : Around} {E : Value → Shared → Prop} {s : Shared} {a : Addr} {L : List (Addr × κ)} {vs : Array (Int × Value)} {n : Nat} {t : SetTable}
theorem picked {vs : Array (Int × Value)} {L : List (Addr × κ)} (e : vs.toList = entH kd L) : ∀ l : List Nat, (∀ i ∈ l, i < L.length) →
    l.filterMap (fun i => vs[i]?) = entH kd (l.filterMap fun i => L[i]?) ∧ ((l.filterMap fun i => L[i]?).map fun z => kd.hash z.2) = l.map fun i => (vs.map (·.1)).getD i 0
  | [], _ => ⟨rfl, rfl⟩
  | i :: l, h => by
    obtain ⟨h1, h2⟩ := picked e l fun j hj => h j (List.mem_cons_of_mem _ hj)
    have hi := h i List.mem_cons_self
    have e1 : L[i]? = some L[i] := List.getElem?_eq_getElem hi
    have e2 := ent_at e e1
    have e3 : (vs.map (·.1)).getD i 0 = kd.hash (L[i]).2 := by
      have : (vs.map (·.1))[i]? = some (kd.hash (L[i]).2) := by rw [Array.getElem?_map, e2]; rfl
      rw [Array.getD_eq_getD_getElem?, this]; rfl
    rw [List.filterMap_cons_some e2, List.filterMap_cons_some e1, h1, List.map_cons, List.map_cons, h2, e3]
    exact ⟨rfl, rfl⟩
/-- the table is laid anew, with more room -/
theorem relay_h (ok : KeyOk kd) {o : Obj} (g1 : s.heap.get? a = some o) (g2 : o.ExactSet) (g3 : o.data = .set vs n t) (e : vs.toList = entH kd L) (z : t.place.size = vs.size) (dm : t.dummies = #[]) (le : vs.size ≤ t.mask) (once : (L.map Prod.snd).Nodup)
    (keys : ∀ z ∈ L, kd.is s.heap z.2 z.1) (told : w.params.followText "set-order" = true ∨ t.led = true) (few : L.length < 64) {want M : Nat} (w1 : SetTable.sizeAbove want - 1 = M) (w2 : MaskOk M) (w3 : SetTable.sizeAbove want ≤ 128)
    (w4 : L.length * 5 < M * 3) {Q : Unit → Shared → Prop} (q : ∀ h' L' vs' n' t', Heap.SameBut a s.heap h' → SetH kd h' a L' vs' n' t' → L'.Perm L → Q () { s with heap := h' }) : wpAny (model P w) A (setRelay a want) Q E s := by
  have len := ent_len e
  obtain ⟨t', od, r1, r2, r3, r4, r5, r6, r7⟩ := relaid_ok t (hs := vs.map (·.1)) (wanted := want) w1 w2 (by rw [Array.size_map, len]; omega)
  rw [Array.size_map, len] at r2
  obtain ⟨p1, p2⟩ := picked e od.toList fun i hi => List.mem_range.mp (r2.mem_iff.mp hi)
  have p3 : (od.toList.filterMap fun i => L[i]?).Perm L := by
    have := r2.filterMap fun i => L[i]?
    rwa [self_pick] at this
  have p4 : (od.filterMap (vs[·]?)).toList = entH kd (od.toList.filterMap fun i => L[i]?) := by rw [Array.toList_filterMap]; exact p1
  rw [← p2] at r3
  generalize od.toList.filterMap (fun i => L[i]?) = L' at p3 p4 r3
  have len2 := ent_len p4
  rw [p3.length_eq] at len2
  rw [setRelay_eq]
  refine wpAny_bind (wpAny_setState_of g1 g3 (fit_of e z dm le) ?_)
  dsimp only
  refine wp_if_neg (by rw [sizeLine_eq]; omega) ?_
  try refine wpAny_bind (wpAny_pure ?_)
  rw [r1]
  dsimp only
  refine wpAny_bind ?_
  refine wp_if_neg (by rw [len2, len]; simp) ?_
  try refine wpAny_bind (wpAny_pure ?_)
  refine wpAny_pure ?_
  dsimp only
  refine wpAny_storeSet_of g1 g3 ?_ (by rw [len2, sizeLine_eq]; omega)
  have sb : Heap.SameBut a s.heap (s.heap.update a (Obj.putSet (od.filterMap (vs[·]?)) t')) := Heap.SameBut.update ..
  exact q _ L' (od.filterMap (vs[·]?)) (n + 1) t' sb ⟨⟨_, store_at g1 g3, ⟨g2.1, g2.2.1, g2.2.2⟩, rfl⟩, p4, r3, (p3.map Prod.snd).nodup_iff.mpr once, fun y hy => ok.but (keys y (p3.mem_iff.mp hy)) g1 g3 sb, by rw [r5]; exact told,
    by rw [p3.length_eq, r4]; exact w4, by rw [p3.length_eq]; exact few⟩ p3
theorem grown_case {m l : Nat} (mk : MaskOk m) (lt : l * 5 < m * 3) (ge : m * 3 ≤ (l + 1) * 5) (few : l + 1 < 64) : ∃ M, SetTable.sizeAbove (SetTable.grown (l + 1)) - 1 = M ∧ MaskOk M ∧ SetTable.sizeAbove (SetTable.grown (l + 1)) ≤ 128 ∧ (l + 1) * 5 < M * 3 := by
  rcases mk with rfl | rfl | rfl
  · have : l = 4 := by omega
    subst this
    exact ⟨31, by rw [size_20], .inr (.inl rfl), by rw [size_20]; decide, by decide⟩
  · have : l = 18 := by omega
    subst this
    exact ⟨127, by rw [size_76], .inr (.inr rfl), by rw [size_76]; decide, by decide⟩
  · exact absurd ge (by omega)
/-- a key is added -/
theorem add_h (ok : KeyOk kd) (R : SetH kd s.heap a L vs n t) {b : Addr} {k : κ} (hb : kd.is s.heap k b) (ro : kd.room A) (few : L.length + 1 < 64) {Q : Bool → Shared → Prop}
    (q : ∀ r h' L' vs' n' t', Heap.SameBut a s.heap h' → SetH kd h' a L' vs' n' t' → (k ∈ L.map Prod.snd → L' = L) → (k ∉ L.map Prod.snd → L'.Perm ((b, k) :: L)) → Q r { s with heap := h' }) :
    wpAny (model P w) A (setAddHashed a (.ref b) (kd.hash k)) Q E s := by
  obtain ⟨o, g1, g2, g3⟩ := R.at_
  have len := ent_len R.ents
  have rm := R.loose
  unfold setAddHashed
  refine wpAny_holding ?_
  rw [show (100000 : Nat) = 99999 + 1 from rfl, setAddHashedIn_succ]
  refine wpAny_bind (wpAny_setState_of g1 g3 R.fits ?_)
  dsimp only
  refine wp_if_neg (by simp [byScan, Value.scannable]) ?_
  try refine wpAny_bind (wpAny_pure ?_)
  refine wpAny_bind (look_at ok R hb ro (fun yes => ?_) fun e no e2 e3 => ?_)
  · dsimp only
    exact wpAny_pure (q false s.heap L vs n t (Heap.SameBut.refl a s.heap) R (fun _ => rfl) fun no => absurd yes no)
  · dsimp only
    refine wpAny_bind (wpAny_setState_of g1 g3 R.fits ?_)
    dsimp only
    obtain ⟨q1, q2, q3, q4, q5, q6, q7, q8, q9⟩ := R.lay.put e2 e3
    generalize hT : t.put (way t.mask (kd.hash k) e) = T1 at q1 q3 q4 q5 q7 q8 q9 ⊢
    obtain ⟨t0, j⟩ := T1
    dsimp only at q1 q3 q4 q5 q7 q8 q9 ⊢
    subst q1
    refine byv_if ok hb fun r0 => ?_
    generalize hT2 : (if r0 = true then t0 else { t0 with plain := false }) = t1
    obtain ⟨q3, q4, q5, q9⟩ : TabOk t1 ((L.map fun z => kd.hash z.2).take (SetTable.below t.place (way t.mask (kd.hash k) e)) ++ kd.hash k :: (L.map fun z => kd.hash z.2).drop (SetTable.below t.place (way t.mask (kd.hash k) e))) ∧ t1.mask = t.mask ∧ t1.led = t.led ∧ t1.fill = (L.map fun z => kd.hash z.2).length + 1 := by
      subst hT2
      cases r0 with
      | true => exact ⟨q3, q4, q5, q9⟩
      | false => exact ⟨⟨q3.ris, q3.dm, q3.sz, q3.mok, q3.bd, q3.reach⟩, q4, q5, q9⟩
    clear hT2
    generalize hj : SetTable.below t.place (way t.mask (kd.hash k) e) = j at q2 q3 ⊢
    have p1 := put_perm L j (b, k)
    have e1 : (SetTable.insertAt vs j (kd.hash k, Value.ref b)).toList = entH kd (L.take j ++ (b, k) :: L.drop j) := by
      rw [SetTable.toList_insertAt, R.ents]
      unfold entH
      rw [List.map_append, List.map_cons, List.map_take, List.map_drop]
    have p2 : ((L.take j ++ (b, k) :: L.drop j).map fun z => kd.hash z.2) = (L.map fun z => kd.hash z.2).take j ++ kd.hash k :: (L.map fun z => kd.hash z.2).drop j := by rw [List.map_append, List.map_cons, List.map_take, List.map_drop]
    rw [← p2] at q3
    generalize SetTable.insertAt vs j (kd.hash k, Value.ref b) = v1 at e1 ⊢
    generalize L.take j ++ (b, k) :: L.drop j = L1 at p1 q3 e1
    have l1 : L1.length = L.length + 1 := p1.length_eq
    have l2 : v1.size = L.length + 1 := by rw [ent_len e1, l1]
    have once : (L1.map Prod.snd).Nodup := (p1.map Prod.snd).nodup_iff.mpr (List.nodup_cons.mpr ⟨no, R.once⟩)
    refine wpAny_bind (wpAny_storeSet_of g1 g3 ?_ (by rw [l2, sizeLine_eq]; omega))
    have sb : Heap.SameBut a s.heap (s.heap.update a (Obj.putSet v1 t1)) := Heap.SameBut.update ..
    have o1 := store_at (es' := v1) (t' := t1) g1 g3
    generalize s.heap.update a (Obj.putSet v1 t1) = h1 at sb o1 ⊢
    have keys : ∀ z ∈ L1, kd.is h1 z.2 z.1 := fun z hz => by
      rcases List.mem_cons.mp (p1.mem_iff.mp hz) with ez | hz
      · rw [ez]; exact ok.but hb g1 g3 sb
      · exact ok.but (R.keys z hz) g1 g3 sb
    have told : w.params.followText "set-order" = true ∨ t1.led = true := by rw [q5]; exact R.told
    have full : t1.tooFull = true ↔ t.mask * 3 ≤ (L.length + 1) * 5 := by
      unfold SetTable.tooFull
      rw [decide_eq_true_iff, q9, List.length_map, q4]
    by_cases tf : t1.tooFull = true
    · obtain ⟨M, w1, w2, w3, w4⟩ := grown_case R.lay.mok rm (full.mp tf) few
      first
        | (refine wpAny_bind ?_; refine wp_if_pos (by rw [tf]; rfl) ?_)
        | (refine wp_if_pos (by rw [tf]; rfl) ?_; refine wpAny_bind ?_)
      rw [len]
      refine relay_h (s := { s with heap := h1 }) ok o1 ⟨g2.1, g2.2.1, g2.2.2⟩ rfl e1 (by have := q3.sz; rw [List.length_map] at this; rw [this, l1, l2]) q3.dm (by rw [l2, q4]; rcases R.lay.mok with m | m | m <;> omega) once keys told (by rw [l1]; exact few) w1 w2 w3 (by rw [l1]; exact w4) fun h2 L2 v2 n2 t2 sb2 R2 p3 => ?_
      exact wpAny_pure (q true h2 L2 v2 n2 t2 (sb.trans sb2) R2 (fun yes => absurd yes no) fun _ => p3.trans p1)
    · have nf : ¬ t.mask * 3 ≤ (L.length + 1) * 5 := fun z => tf (full.mpr z)
      rw [Bool.not_eq_true] at tf
      first
        | refine wp_if_neg (by rw [tf]; decide) ?_
        | (refine wpAny_bind ?_; refine wp_if_neg (by rw [tf]; decide) ?_; refine wpAny_pure ?_)
      refine wpAny_pure (q true h1 L1 v1 (n + 1) t1 sb ⟨⟨_, o1, ⟨g2.1, g2.2.1, g2.2.2⟩, rfl⟩, e1, q3, once, keys, told, by rw [l1, q4]; omega, by rw [l1]; exact few⟩ (fun yes => absurd yes no) fun _ => p1)
/-- what a set has got of the first i keys -/
structure Has (ks : List (Addr × κ)) (i : Nat) (L : List (Addr × κ)) : Prop where
  of : ∀ z ∈ L, z ∈ ks.take i
  all : ∀ z ∈ ks.take i, z.2 ∈ L.map Prod.snd
  len : L.length ≤ i
theorem Has.step {ks L L' : List (Addr × κ)} {i : Nat} {z : Addr × κ} (g : Has ks i L) (h : ks[i]? = some z) (h1 : z.2 ∈ L.map Prod.snd → L' = L) (h2 : z.2 ∉ L.map Prod.snd → L'.Perm (z :: L)) : Has ks (i + 1) L' := by
  have e : ks.take (i + 1) = ks.take i ++ [z] := by rw [List.take_succ, h]; rfl
  rw [show Has ks (i + 1) L' ↔ ((∀ y ∈ L', y ∈ ks.take (i + 1)) ∧ (∀ y ∈ ks.take (i + 1), y.2 ∈ L'.map Prod.snd) ∧ L'.length ≤ i + 1) from ⟨fun x => ⟨x.of, x.all, x.len⟩, fun x => ⟨x.1, x.2.1, x.2.2⟩⟩, e]
  by_cases hz : z.2 ∈ L.map Prod.snd
  · rw [h1 hz]
    refine ⟨fun y hy => List.mem_append_left _ (g.of y hy), fun y hy => ?_, Nat.le_succ_of_le g.len⟩
    rcases List.mem_append.mp hy with m | m
    · exact g.all y m
    · rw [List.mem_singleton.mp m]; exact hz
  · have pm := h2 hz
    refine ⟨fun y hy => ?_, fun y hy => (pm.map Prod.snd).mem_iff.mpr ?_, by rw [pm.length_eq]; exact Nat.succ_le_succ g.len⟩
    · rcases List.mem_cons.mp (pm.mem_iff.mp hy) with m | m
      · rw [m]; exact List.mem_append_right _ List.mem_cons_self
      · exact List.mem_append_left _ (g.of y m)
    · rcases List.mem_append.mp hy with m | m
      · exact List.mem_cons_of_mem _ (g.all y m)
      · rw [List.mem_singleton.mp m]; exact List.mem_cons_self
theorem SetH.keep {h h' : Heap} (R : SetH kd h a L vs n t) (e : ∀ o, h.get? a = some o → h'.get? a = some o) (k : ∀ z ∈ L, kd.is h' z.2 z.1) : SetH kd h' a L vs n t := by
  obtain ⟨o, g1, g⟩ := R.at_
  exact ⟨⟨o, e o g1, g⟩, R.ents, R.lay, R.once, k, R.told, R.loose, R.small⟩
theorem setH_new {h : Heap} (g : h.get? a = some { cls := .type "set", dict := none, data := .set #[] 0 (.fresh 0 0 (!w.params.followText "set-order")) }) : SetH kd h a [] #[] 0 (.fresh 0 0 (!w.params.followText "set-order")) := by
  refine ⟨⟨_, g, ⟨rfl, rfl, rfl⟩, rfl⟩, rfl, ⟨List.Pairwise.nil, rfl, rfl, .inl rfl, fun y hy => ?_, fun i y j hi => ?_⟩, List.nodup_nil, fun z hz => ?_, ?_, ?_, ?_⟩
  · cases hy
  · simp at hi
  · cases hz
  · show _ ∨ (!w.params.followText "set-order") = true
    cases w.params.followText "set-order" <;> simp
  · show 0 * 5 < 7 * 3; decide
  · show 0 < 64; decide
end
end Ag

set_option Elab.async false
set_option linter.all false
set_option maxRecDepth 100000
set_option maxHeartbeats 4000000
namespace Ag
open PySem PySem.Spec PyProof.Rows L2
section
variable {P : Program} {w : World} {A : Around} {E : Value → Shared → Prop} {s : Shared}
/-- tuples of numbers and texts -/
abbrev TKind (P : Program) (w : World) : HeapKind P w (List Key) := tupleKind (mixKind P w)
theorem flat_items {k : List Key} {us : List Value} (h : ItemsAre (mixKind P w) k us) : ∀ u ∈ us, (∃ i t, u = Value.int i t) ∨ ∃ x t, u = Value.str x t := by
  induction h with
  | nil => exact fun u hu => absurd hu List.not_mem_nil
  | cons a _ ih =>
    refine fun u hu => (List.mem_cons.mp hu).elim (fun e => ?_) (ih u)
    subst e
    rcases keyIs_shape a with ⟨i, t, _, e⟩ | ⟨x, t, _, e⟩
    · exact .inl ⟨i, t, e⟩
    · exact .inr ⟨x, t, e⟩
theorem cls_flat {n : Nat} {u : Value} (h : (∃ i t, u = Value.int i t) ∨ ∃ x t, u = Value.str x t) : ofAClassStatement n u = pure false := by
  rcases h with ⟨i, t, rfl⟩ | ⟨x, t, rfl⟩ <;> cases n <;> rfl
theorem byv_flat {n : Nat} {u : Value} (h : (∃ i t, u = Value.int i t) ∨ ∃ x t, u = Value.str x t) : ∃ r, hashByValue n u = pure r := by
  rcases h with ⟨i, t, rfl⟩ | ⟨x, t, rfl⟩
  · exact ⟨true, by cases n <;> rfl⟩
  · exact ⟨false, by cases n <;> rfl⟩
theorem tkind_ok : KeyOk (TKind P w) where
  old := fun e k => let ⟨o, its, m, e1, e2⟩ := k; ⟨o, its, m, e _ _ e1, e2⟩
  but := fun {h h' k b d o vs n t} hk g1 g3 sb => by
    obtain ⟨o', its, m, e1, e2, e3, e4⟩ := hk
    refine ⟨o', its, m, (sb.2 b fun z => ?_).trans e1, e2, e3, e4⟩
    subst z
    rw [e1] at g1
    cases Option.some.inj g1
    rw [e3] at g3; cases g3
  cls := fun {A E s k b Q} hk q => by
    have ty := IsTupleKey.typeIs hk
    obtain ⟨o, its, m, e1, _, e3, e4⟩ := hk
    unfold ofAClassStatement
    refine wpAny_bind (wpAny_typeOf ty ?_)
    dsimp only
    simp only [show (("tuple" : String) == "tuple") = true by decide, if_true, Bool.not_true, Bool.false_eq_true, if_false]
    try refine wpAny_bind (wpAny_pure ?_)
    try simp only [Bool.not_true, Bool.false_eq_true, if_false]
    show wpAny _ _ (seqItems? (.ref b) >>= _) _ _ s
    refine wpAny_bind (wpAny_seqItems e1 e3 ?_)
    dsimp only
    refine wpAny_bind ?_
    show wpAny _ _ (forIn its _ _) _ _ s
    rw [← Array.forIn_toList]
    refine wpAny_forIn_list _ (fun left out s1 => out.1 = none ∧ s1 = s ∧ ∀ u ∈ left, (∃ i t, u = Value.int i t) ∨ ∃ x t, u = Value.str x t) _ (fun u left out s1 z => ?_) (fun out s1 z => ?_) _ _ ⟨rfl, rfl, flat_items e4⟩
    · obtain ⟨_, rfl, z⟩ := z
      rw [cls_flat (z u List.mem_cons_self)]
      refine wpAny_bind (wpAny_pure ?_)
      simp only [Bool.false_eq_true, if_false]
      exact wpAny_pure ⟨rfl, rfl, fun y hy => z y (List.mem_cons_of_mem _ hy)⟩
    · obtain ⟨o1, o2⟩ := out
      obtain ⟨z1, rfl, _⟩ := z
      have z1 : o1 = none := z1
      subst z1
      exact wpAny_pure q
  byv := fun {A E s k b Q} hk q => by
    have ty := IsTupleKey.typeIs hk
    obtain ⟨o, its, m, e1, _, e3, e4⟩ := hk
    unfold hashByValue
    refine wpAny_bind (wpAny_specialOf ty F.slot_tuple_hash.lookup ?_)
    show wpAny _ _ (seqItems? (.ref b) >>= _) _ _ s
    refine wpAny_bind (wpAny_seqItems e1 e3 ?_)
    refine wpAny_bind ?_
    show wpAny _ _ (forIn its _ _) _ _ s
    rw [← Array.forIn_toList]
    refine wpAny_forIn_list _ (fun left out s1 => s1 = s ∧ ∀ u ∈ left, (∃ i t, u = Value.int i t) ∨ ∃ x t, u = Value.str x t) _ (fun u left out s1 z => ?_) (fun out s1 z => ?_) _ _ ⟨rfl, flat_items e4⟩
    · obtain ⟨rfl, z⟩ := z
      obtain ⟨r, er⟩ := byv_flat (n := 7) (z u List.mem_cons_self)
      rw [er]
      refine wpAny_bind (wpAny_pure ?_)
      cases r with
      | true =>
        simp only [Bool.not_true, Bool.false_eq_true, if_false]
        exact wpAny_pure ⟨rfl, fun y hy => z y (List.mem_cons_of_mem _ hy)⟩
      | false =>
        simp only [Bool.not_false, if_true]
        exact wpAny_pure (wpAny_pure (q _))
    · obtain ⟨o1, o2⟩ := out
      obtain ⟨rfl, _⟩ := z
      cases o1 with
      | none => exact wpAny_pure (q _)
      | some r => exact wpAny_pure (q _)
variable {κ : Type} [DecidableEq κ] {kd : HeapKind P w κ}
/-- set.update's loop over keys -/
theorem upd_keys (ok : KeyOk kd) {I : Addr} {fp wr : List Addr} {G : Array GenState → Array GenState → Prop} {n : Nat} {Pv : Nat → Value → Prop} {St : Nat → Shared → Prop} {R : Result → Shared → Prop}
    (W : WalksS P w A.in1 I fp wr G n Pv St) (C : Addr) (hC : C ∉ fp) (ks : List (Addr × κ)) (hn : n = ks.length) (hb : ks.length < 64) (hv : ∀ i v, Pv i v → ∃ z, ks[i]? = some z ∧ v = Value.ref z.1)
    (h0 : Heap) (hk : ∀ z ∈ ks, kd.is h0 z.2 z.1) (hC0 : h0.get? C = none) (hw0 : ∀ b ∈ wr, h0.get? b = none) (ro : kd.room A.in1) :
    ∀ (j i : Nat) (s : Shared), n - i = j → i ≤ n → St i s → (∀ b o, h0.get? b = some o → s.heap.get? b = some o) → (∃ L vs m t, SetH kd s.heap C L vs m t ∧ Has ks i L) →
      (∀ s' L vs m t, Moved (C :: wr) G s s' → SetH kd s'.heap C L vs m t → Has ks n L → (∀ b o, h0.get? b = some o → s'.heap.get? b = some o) → R (.ok (.ret .none)) s') →
      codeAny (model P w) A (.builtin "set.update.loop" ⟨[.ref C, .ref I], []⟩) R s := by
  have hCw : C ∉ wr := fun z => hC (W.sub _ z)
  have wide : ∀ b ∈ wr, b ∈ C :: wr := fun b z => List.mem_cons_of_mem _ z
  have stay : ∀ {s s' : Shared}, Moved wr G s s' → (∀ b o, h0.get? b = some o → s.heap.get? b = some o) → ∀ b o, h0.get? b = some o → s'.heap.get? b = some o := fun mv kp b o e => mv.heap b o (fun z => by rw [hw0 b z] at e; cases e) (kp b o e)
  have isIn : ∀ {L i}, Has ks i L → ∀ z ∈ L, kd.is h0 z.2 z.1 := fun g z hz => hk z (List.mem_of_mem_take (g.of z hz))
  intro j
  induction j with
  | zero =>
    intro i s hj hi st kp ⟨L, vs, m, t, hS, g⟩ hR
    obtain rfl : i = n := by omega
    refine codeAny_builtin F.entry_set_update_loop ?_
    rw [Around.under_plainId F.plain_set_update_loop _]
    show wpAny _ A.in1 (pyNext (.ref I) >>= _) _ _ s
    refine wpAny_bind (W.done s _ _ st fun s' mv => ?_)
    show wpAny _ A.in1 (ret Value.none) _ _ s'
    have kp2 := stay mv kp
    exact wpAny_pure (hR s' L vs m t (mv.mono wide) (hS.keep (fun o e => mv.heap C o hCw e) fun z hz => ok.old kp2 (isIn g z hz)) g kp2)
  | succ j ih =>
    intro i s hj hi st kp ⟨L, vs, m, t, hS, g⟩ hR
    have lt : i < n := by omega
    refine codeAny_builtin F.entry_set_update_loop ?_
    rw [Around.under_plainId F.plain_set_update_loop _]
    show wpAny _ A.in1 (pyNext (.ref I) >>= _) _ _ s
    refine wpAny_bind (W.item i s _ _ lt st fun v s' pv st' mv => ?_)
    obtain ⟨z, hz, rfl⟩ := hv i v pv
    have kp2 := stay mv kp
    have hS2 := hS.keep (h' := s'.heap) (fun o e => mv.heap C o hCw e) fun z hz => ok.old kp2 (isIn g z hz)
    have hz2 : kd.is s'.heap z.2 z.1 := ok.old kp2 (hk z (List.mem_of_getElem? hz))
    show wpAny _ A.in1 (holding [Value.ref z.1] (setAdd C (.ref z.1)) >>= _) _ _ s'
    refine wpAny_bind (wpAny_holding ?_)
    unfold setAdd
    refine wpAny_holding (wpAny_bind (kd.pyHash ro hz2 ?_))
    refine add_h (s := { s' with toks := s'.toks + kd.draws z.2 }) ok hS2 hz2 ro (by have := g.len; omega) fun r h' L' vs' m' t' sb hS3 c1 c2 => ?_
    have kp3 : ∀ b o, h0.get? b = some o → h'.get? b = some o := fun b o e => (sb.2 b (fun q => by rw [q, hC0] at e; cases e)).trans (kp2 b o e)
    refine wpAny_pure ⟨plainId_quiet F.plain_set_update_loop _, ih (i + 1) _ (by omega) lt (W.frame _ s' _ _ st' (Nat.le_add_right _ _) fun b q o e => ?_) kp3 ⟨L', vs', m', t', hS3, g.step hz c1 c2⟩ fun s2 L2 vs2 m2 t2 mv2 hS4 g2 kp4 => hR s2 L2 vs2 m2 t2 ?_ hS4 g2 kp4⟩
    · rw [sb.2 b (fun y => hC (y ▸ q))]; exact e
    · refine Moved.trans W.gtrans ((mv.mono wide).then_heap (Nat.le_add_right _ _) fun b o q e => ?_) mv2
      rw [sb.2 b (fun y => q (y ▸ List.mem_cons_self))]; exact e
set_option maxHeartbeats 4000000 in
theorem set_of_keys (ok : KeyOk kd) {s : Shared} {l : Addr} {items : Array Value} {ks : List (Addr × κ)} {Q : Value → Shared → Prop} (hh : A.handled = none) (hl : s.heap.IsList l items) (hi : items.toList = ks.map fun z => Value.ref z.1) (hk : ∀ z ∈ ks, kd.is s.heap z.2 z.1) (hb : ks.length < 64)
    (ro : kd.room A.in1.in1.in1)
    (hQ : ∀ (h' : Heap) (tk : Nat) L vs m t, SetH kd h' s.heap.objs.size L vs m t → Has ks ks.length L → (∀ b o, s.heap.get? b = some o → h'.get? b = some o) → Q (.ref s.heap.objs.size) { s with heap := h', toks := tk }) :
    wpAny (model P w) A (call (.type "set") [.ref l]) Q E s := by
  have isz : items.size = ks.length := by
    have := congrArg List.length hi
    rwa [Array.length_toList, List.length_map] at this
  obtain ⟨c, tl, hmro⟩ := F.called_set.mro
  have hmade := F.called_set.made
  have hsub := F.called_set.sub
  refine wpAny_call (codeAny_of_tree ?_)
  show wpAny _ _ (callAny (.type "set") _) _ _ _
  refine wpAny_pure ⟨Code.quiet_builtin _ (by decide +kernel), codeAny_builtin F.entry_type_call ?_⟩
  rw [Around.under_plain (weight_type_call_type "set" [.ref l] []) rfl]
  have h1 := F.called_set.notType
  have h2 := F.called_set.canCreate
  have hct := F.typeCall_set_1 (.ref l)
  repeat (any_goals (first | assumption | wp_step))
  refine codeAny_mono (code_set_led1 (.ref l) (E := E) (Q₁ := fun obj s₁ => obj = .ref s.heap.objs.size ∧ s₁ = { s with heap := s.heap.push ({ cls := .type "set", dict := none, data := .set #[] 0 (.fresh 0 0 (!w.params.followText "set-order")) } : Obj) }) ⟨rfl, rfl⟩) fun r s₁ hr => ?_
  cases r with
  | error e => exact hr
  | ok fl =>
    cases fl with
    | ret obj =>
      obtain ⟨rfl, rfl⟩ := hr
      have hS : (s.heap.push ({ cls := .type "set", dict := none, data := .set #[] 0 (.fresh 0 0 (!w.params.followText "set-order")) } : Obj)).get? s.heap.objs.size = some ({ cls := .type "set", dict := none, data := .set #[] 0 (.fresh 0 0 (!w.params.followText "set-order")) } : Obj) := Heap.get?_push_size _ rfl
      have hT : Shared.TypeIs { s with heap := s.heap.push ({ cls := .type "set", dict := none, data := .set #[] 0 (.fresh 0 0 (!w.params.followText "set-order")) } : Obj) } (.ref s.heap.objs.size) "set" := ⟨_, hS, rfl⟩
      have hli := F.called_set.init.lookup
      have hbi := F.called_set.init.bind (.ref s.heap.objs.size)
      repeat (any_goals (first | assumption | wp_step))
      refine codeAny_mono (codeAny_call_builtin (R := wants (fun r s₂ => r = .none ∧ ∃ h' tk L vs m t, s₂ = { s with heap := h', toks := tk } ∧ SetH kd h' s.heap.objs.size L vs m t ∧ Has ks ks.length L ∧
          (∀ b o, s.heap.get? b = some o → h'.get? b = some o)) E) F.called_set.init.plain F.entry_set_init (check_set_init_1 hT ?_)) fun r₂ s₂ hr₂ => ?_
      · obtain ⟨ol, hol, hcl, nl, hdl⟩ := hl
        obtain ⟨ocls, odict, odata, oslots⟩ := ol
        simp only at hcl hdl
        subst hcl; subst hdl
        have hol1 : (s.heap.push ({ cls := .type "set", dict := none, data := .set #[] 0 (.fresh 0 0 (!w.params.followText "set-order")) } : Obj)).get? l = some { cls := .type "list", dict := odict, data := .seq items nl, slots := oslots } := Heap.get?_push_of_some _ hol
        have hsls := F.sub_list_set
        have hslf := F.sub_list_frozenset
        have hne : (Value.type "list" == Value.type "dict") = false := by decide
        have hl1 : (s.heap.push ({ cls := .type "set", dict := none, data := .set #[] 0 (.fresh 0 0 (!w.params.followText "set-order")) } : Obj)).IsList l items := ⟨_, hol1, rfl, nl, rfl⟩
        unfold Builtin.«set.__init__» noKeywords Builtin.Frozenset.updateFrom
        generalize hPI : pyIter = PI
        wp_walk
        subst hPI
        refine wpAny_pyIter_list hl1 ?_
        refine wpAny_bind (wpAny_runValue ?_)
        have llt : l < s.heap.objs.size := Heap.lt_size hol
        have hh3 : A.in1.in1.in1.handled = none := by simp [hh]
        have z1 : (s.heap.push ({ cls := .type "set", dict := none, data := .set #[] 0 (.fresh 0 0 (!w.params.followText "set-order")) } : Obj)).objs.size = s.heap.objs.size + 1 := Heap.size_push ..
        have ne1 : l ≠ (s.heap.push ({ cls := .type "set", dict := none, data := .set #[] 0 (.fresh 0 0 (!w.params.followText "set-order")) } : Obj)).objs.size := by rw [z1]; exact Nat.ne_of_lt (Nat.lt_succ_of_lt llt)
        have hnf : s.heap.objs.size ∉ [(s.heap.push ({ cls := .type "set", dict := none, data := .set #[] 0 (.fresh 0 0 (!w.params.followText "set-order")) } : Obj)).objs.size, l] := by
          rw [z1]; intro z
          rcases List.mem_cons.mp z with z | z
          · exact Nat.ne_of_lt (Nat.lt_succ_self _) z
          · exact Nat.ne_of_gt llt (List.mem_singleton.mp z)
        have hval : ∀ (i : Nat) (v : Value), items[i]? = some v → ∃ z, ks[i]? = some z ∧ v = Value.ref z.1 := fun i v q => by
          have q2 : items.toList[i]? = some v := by rw [Array.getElem?_toList]; exact q
          rw [hi, List.getElem?_map] at q2
          cases e : ks[i]? with
          | none => rw [e] at q2; cases q2
          | some z => rw [e] at q2; exact ⟨z, rfl, (Option.some.inj q2).symm⟩
        have noObj : ∀ b, s.heap.objs.size ≤ b → s.heap.get? b = none := fun b hb => by
          cases q : s.heap.get? b with
          | none => rfl
          | some o => exact absurd (Heap.lt_size q) (Nat.not_lt.mpr hb)
        refine upd_keys ok ((Walks.list hh3 _ l ne1 items).toS) s.heap.objs.size hnf ks isz hb hval s.heap hk (noObj _ (Nat.le_refl _)) (fun b hb => noObj b (by rw [List.mem_singleton.mp hb, z1]; exact Nat.le_succ _)) ro (items.size - 0) 0 _ (by omega) (Nat.zero_le _)
          ⟨⟨_, Heap.get?_push_size _ rfl, rfl, rfl⟩, (hl1.push _)⟩ (fun b o e => Heap.get?_push_of_some _ (Heap.get?_push_of_some _ e)) ⟨[], #[], 0, _, setH_new (Heap.get?_push_of_some _ hS), ⟨fun z hz => (nomatch hz), fun z hz => (nomatch hz), Nat.le_refl _⟩⟩ fun s' L vs m t mv hS' g kp => ?_
        obtain ⟨h', g2, d', tk', os'⟩ := s'
        have eg : g2 = s.gens := mv.gens
        have ed : d' = s.drawn := mv.drawn
        have eo : os' = s.os := mv.os
        subst eg; subst ed; subst eo
        show wpAny _ _ _ _ _ _
        refine wpAny_pure ?_
        show wpAny _ _ (ret Value.none) _ _ _
        rw [isz] at g
        exact wpAny_pure ⟨rfl, h', tk', L, vs, m, t, rfl, hS', g, kp⟩
      · cases r₂ with
        | error e => exact hr₂
        | ok fl₂ =>
          cases fl₂ with
          | ret r =>
            obtain ⟨rfl, h', tk, L, vs, m, t, rfl, hS', g, kp⟩ := hr₂
            repeat (any_goals (first | assumption | wp_step))
            exact hQ _ _ _ _ _ _ hS' g kp
          | _ => exact hr₂.elim
    | _ => exact hr.elim
set_option maxHeartbeats 4000000 in
theorem set_of_keysT (ok : KeyOk kd) {s : Shared} {l : Addr} {items : Array Value} {ks : List (Addr × κ)} {Q : Value → Shared → Prop} (hh : A.handled = none) (hl : s.heap.IsTuple l items) (hi : items.toList = ks.map fun z => Value.ref z.1) (hk : ∀ z ∈ ks, kd.is s.heap z.2 z.1) (hb : ks.length < 64)
    (ro : kd.room A.in1.in1.in1)
    (hQ : ∀ (h' : Heap) (tk : Nat) L vs m t, SetH kd h' s.heap.objs.size L vs m t → Has ks ks.length L → (∀ b o, s.heap.get? b = some o → h'.get? b = some o) → Q (.ref s.heap.objs.size) { s with heap := h', toks := tk }) :
    wpAny (model P w) A (call (.type "set") [.ref l]) Q E s := by
  have isz : items.size = ks.length := by
    have := congrArg List.length hi
    rwa [Array.length_toList, List.length_map] at this
  obtain ⟨c, tl, hmro⟩ := F.called_set.mro
  have hmade := F.called_set.made
  have hsub := F.called_set.sub
  refine wpAny_call (codeAny_of_tree ?_)
  show wpAny _ _ (callAny (.type "set") _) _ _ _
  refine wpAny_pure ⟨Code.quiet_builtin _ (by decide +kernel), codeAny_builtin F.entry_type_call ?_⟩
  rw [Around.under_plain (weight_type_call_type "set" [.ref l] []) rfl]
  have h1 := F.called_set.notType
  have h2 := F.called_set.canCreate
  have hct := F.typeCall_set_1 (.ref l)
  repeat (any_goals (first | assumption | wp_step))
  refine codeAny_mono (code_set_led1 (.ref l) (E := E) (Q₁ := fun obj s₁ => obj = .ref s.heap.objs.size ∧ s₁ = { s with heap := s.heap.push ({ cls := .type "set", dict := none, data := .set #[] 0 (.fresh 0 0 (!w.params.followText "set-order")) } : Obj) }) ⟨rfl, rfl⟩) fun r s₁ hr => ?_
  cases r with
  | error e => exact hr
  | ok fl =>
    cases fl with
    | ret obj =>
      obtain ⟨rfl, rfl⟩ := hr
      have hS : (s.heap.push ({ cls := .type "set", dict := none, data := .set #[] 0 (.fresh 0 0 (!w.params.followText "set-order")) } : Obj)).get? s.heap.objs.size = some ({ cls := .type "set", dict := none, data := .set #[] 0 (.fresh 0 0 (!w.params.followText "set-order")) } : Obj) := Heap.get?_push_size _ rfl
      have hT : Shared.TypeIs { s with heap := s.heap.push ({ cls := .type "set", dict := none, data := .set #[] 0 (.fresh 0 0 (!w.params.followText "set-order")) } : Obj) } (.ref s.heap.objs.size) "set" := ⟨_, hS, rfl⟩
      have hli := F.called_set.init.lookup
      have hbi := F.called_set.init.bind (.ref s.heap.objs.size)
      repeat (any_goals (first | assumption | wp_step))
      refine codeAny_mono (codeAny_call_builtin (R := wants (fun r s₂ => r = .none ∧ ∃ h' tk L vs m t, s₂ = { s with heap := h', toks := tk } ∧ SetH kd h' s.heap.objs.size L vs m t ∧ Has ks ks.length L ∧
          (∀ b o, s.heap.get? b = some o → h'.get? b = some o)) E) F.called_set.init.plain F.entry_set_init (check_set_init_1 hT ?_)) fun r₂ s₂ hr₂ => ?_
      · obtain ⟨ol, hol, hcl, nl, hdl⟩ := hl
        obtain ⟨ocls, odict, odata, oslots⟩ := ol
        simp only at hcl hdl
        subst hcl; subst hdl
        have hol1 : (s.heap.push ({ cls := .type "set", dict := none, data := .set #[] 0 (.fresh 0 0 (!w.params.followText "set-order")) } : Obj)).get? l = some { cls := .type "tuple", dict := odict, data := .seq items nl, slots := oslots } := Heap.get?_push_of_some _ hol
        have hsls := F.sub_tuple_set
        have hslf := F.sub_tuple_frozenset
        have hne : (Value.type "tuple" == Value.type "dict") = false := by decide
        have hl1 : (s.heap.push ({ cls := .type "set", dict := none, data := .set #[] 0 (.fresh 0 0 (!w.params.followText "set-order")) } : Obj)).IsTuple l items := ⟨_, hol1, rfl, nl, rfl⟩
        unfold Builtin.«set.__init__» noKeywords Builtin.Frozenset.updateFrom
        generalize hPI : pyIter = PI
        wp_walk
        subst hPI
        refine wpAny_pyIter_tuple hl1 ?_
        refine wpAny_bind (wpAny_runValue ?_)
        have llt : l < s.heap.objs.size := Heap.lt_size hol
        have hh3 : A.in1.in1.in1.handled = none := by simp [hh]
        have z1 : (s.heap.push ({ cls := .type "set", dict := none, data := .set #[] 0 (.fresh 0 0 (!w.params.followText "set-order")) } : Obj)).objs.size = s.heap.objs.size + 1 := Heap.size_push ..
        have ne1 : l ≠ (s.heap.push ({ cls := .type "set", dict := none, data := .set #[] 0 (.fresh 0 0 (!w.params.followText "set-order")) } : Obj)).objs.size := by rw [z1]; exact Nat.ne_of_lt (Nat.lt_succ_of_lt llt)
        have hnf : s.heap.objs.size ∉ [(s.heap.push ({ cls := .type "set", dict := none, data := .set #[] 0 (.fresh 0 0 (!w.params.followText "set-order")) } : Obj)).objs.size, l] := by
          rw [z1]; intro z
          rcases List.mem_cons.mp z with z | z
          · exact Nat.ne_of_lt (Nat.lt_succ_self _) z
          · exact Nat.ne_of_gt llt (List.mem_singleton.mp z)
        have hval : ∀ (i : Nat) (v : Value), items[i]? = some v → ∃ z, ks[i]? = some z ∧ v = Value.ref z.1 := fun i v q => by
          have q2 : items.toList[i]? = some v := by rw [Array.getElem?_toList]; exact q
          rw [hi, List.getElem?_map] at q2
          cases e : ks[i]? with
          | none => rw [e] at q2; cases q2
          | some z => rw [e] at q2; exact ⟨z, rfl, (Option.some.inj q2).symm⟩
        have noObj : ∀ b, s.heap.objs.size ≤ b → s.heap.get? b = none := fun b hb => by
          cases q : s.heap.get? b with
          | none => rfl
          | some o => exact absurd (Heap.lt_size q) (Nat.not_lt.mpr hb)
        refine upd_keys ok ((Walks.tuple hh3 _ l ne1 items).toS) s.heap.objs.size hnf ks isz hb hval s.heap hk (noObj _ (Nat.le_refl _)) (fun b hb => noObj b (by rw [List.mem_singleton.mp hb, z1]; exact Nat.le_succ _)) ro (items.size - 0) 0 _ (by omega) (Nat.zero_le _)
          ⟨⟨_, Heap.get?_push_size _ rfl, rfl, rfl⟩, (hl1.push _)⟩ (fun b o e => Heap.get?_push_of_some _ (Heap.get?_push_of_some _ e)) ⟨[], #[], 0, _, setH_new (Heap.get?_push_of_some _ hS), ⟨fun z hz => (nomatch hz), fun z hz => (nomatch hz), Nat.le_refl _⟩⟩ fun s' L vs m t mv hS' g kp => ?_
        obtain ⟨h', g2, d', tk', os'⟩ := s'
        have eg : g2 = s.gens := mv.gens
        have ed : d' = s.drawn := mv.drawn
        have eo : os' = s.os := mv.os
        subst eg; subst ed; subst eo
        show wpAny _ _ _ _ _ _
        refine wpAny_pure ?_
        show wpAny _ _ (ret Value.none) _ _ _
        rw [isz] at g
        exact wpAny_pure ⟨rfl, h', tk', L, vs, m, t, rfl, hS', g, kp⟩
      · cases r₂ with
        | error e => exact hr₂
        | ok fl₂ =>
          cases fl₂ with
          | ret r =>
            obtain ⟨rfl, h', tk, L, vs, m, t, rfl, hS', g, kp⟩ := hr₂
            repeat (any_goals (first | assumption | wp_step))
            exact hQ _ _ _ _ _ _ hS' g kp
          | _ => exact hr₂.elim
    | _ => exact hr.elim
end
end Ag

set_option Elab.async false
set_option linter.all false
set_option maxRecDepth 100000
set_option maxHeartbeats 2000000
/-! Sets of tuples over the layer: set(list or tuple of tuples), sorted of such a set. -/
namespace Ag
open PySem PySem.Spec PyProof.Rows L2
open PySem.W (EachIs AllAlike Sortable dataKind sortLe dataLt keyToks sortingHeap sortingHeap_old)
/-- a key as data -/
def itmD : Key → PyData | .inl i => .int i | .inr x => .str x
def keyD (k : List Key) : PyData := .tuple (k.map itmD)
theorem dps_key {K : PySem.W.Frag} {H : Hp} : ∀ k : List Key, DpAll K H (k.map kV) (k.map itmD)
  | [] => .nil
  | .inl i :: k => .cons (.int i) (dps_key k)
  | .inr x :: k => .cons (.str x) (dps_key k)
theorem depth_key : ∀ k : List Key, PyData.depthAll (k.map itmD) = 0
  | [] => by simp [PyData.depthAll]
  | .inl i :: k => by simp [PyData.depthAll, itmD, PyData.depth, depth_key k]
  | .inr x :: k => by simp [PyData.depthAll, itmD, PyData.depth, depth_key k]
theorem keyD_depth (k : List Key) : (keyD k).depth ≤ 1 := by
  have := depth_key k
  unfold keyD
  simp only [PyData.depth]
  omega
theorem map_of_perm {α β : Type} (f : α → β) {us vs : List β} (p : us.Perm vs) : ∀ L : List α, L.map f = vs → ∃ M : List α, M.Perm L ∧ us = M.map f := by
  induction p with
  | nil =>
    intro L e
    cases L with
    | nil => exact ⟨[], .nil, rfl⟩
    | cons x l => cases e
  | cons u _ ih =>
    intro L e
    cases L with
    | nil => cases e
    | cons x l =>
      rw [List.map_cons, List.cons.injEq] at e
      obtain ⟨M, a, b⟩ := ih l e.2
      exact ⟨x :: M, a.cons x, by rw [List.map_cons, e.1, b]⟩
  | swap u v l =>
    intro L e
    match L, e with
    | x :: y :: l', e =>
      rw [List.map_cons, List.map_cons, List.cons.injEq, List.cons.injEq] at e
      exact ⟨y :: x :: l', .swap x y l', by rw [List.map_cons, List.map_cons, e.1, e.2.1, e.2.2]⟩
  | trans _ _ ih1 ih2 =>
    intro L e
    obtain ⟨M, a, b⟩ := ih2 L e
    obtain ⟨N, c, d⟩ := ih1 M b.symm
    exact ⟨N, c.trans a, d⟩
theorem each_pairs : ∀ M : List (Addr × List Key), EachIs (fun (u : Value) (b : V × (Addr × List Key)) => RelV b.1 u) (M.map fun z => Value.ref z.1) (M.map fun z => (V.ref z.1, z))
  | [] => .nil
  | z :: M => .cons rfl (each_pairs M)
section
variable {P : Program} {w : World}
theorem vals_fst {β : Type} {us : List Value} {zs : List (V × β)} (h : EachIs (fun (u : Value) (b : V × β) => RelV b.1 u) us zs) : Vals (zs.map Prod.fst) us := by
  induction h with
  | nil => exact .nil
  | cons a _ ih => exact .cons a ih
/-- a set's table, without what stands at the keys' places -/
structure Set0 (P : Program) (w : World) (h : Heap) (a : Addr) (L : List (Addr × List Key)) (vs : Array (Int × Value)) (n : Nat) (t : SetTable) : Prop where
  at_ : ∃ o, h.get? a = some o ∧ o.ExactSet ∧ o.data = .set vs n t
  ents : vs.toList = entH (TKind P w) L
  lay : TabOk t (L.map fun z => (TKind P w).hash z.2)
  once : (L.map Prod.snd).Nodup
  told : w.params.followText "set-order" = true ∨ t.led = true
  loose : L.length * 5 < t.mask * 3
  small : L.length < 64
variable {h : Heap} {a : Addr} {L : List (Addr × List Key)} {vs : Array (Int × Value)} {n : Nat} {t : SetTable}
theorem SetH.bare (R : SetH (TKind P w) h a L vs n t) : Set0 P w h a L vs n t := ⟨R.at_, R.ents, R.lay, R.once, R.told, R.loose, R.small⟩
theorem Set0.full (R : Set0 P w h a L vs n t) (k : ∀ z ∈ L, (TKind P w).is h z.2 z.1) : SetH (TKind P w) h a L vs n t := ⟨R.at_, R.ents, R.lay, R.once, k, R.told, R.loose, R.small⟩
/-- the set of the keys of ks, at a -/
def KeySet (P : Program) (w : World) (a : Addr) (ks : List (Addr × List Key)) : HO := .ext fun h => ∃ L vs n t, Set0 P w h a L vs n t ∧ Has ks ks.length L
theorem refs_val : ∀ {ks : List (Addr × List Key)} {us : List Value}, Vals (ks.map fun z => V.ref z.1) us → us = ks.map fun z => Value.ref z.1
  | [], _, .nil => rfl
  | z :: ks, _, .cons r t => by
    have e := refs_val t
    cases r
    rw [e]; rfl
theorem val_refs : ∀ ks : List (Addr × List Key), Vals (ks.map fun z => V.ref z.1) (ks.map fun z => Value.ref z.1)
  | [] => .nil
  | z :: ks => .cons rfl (val_refs ks)
end
section
variable {X : Cx}
theorem key_at {pins : List (Addr × Obj)} {σ : L2.St} {H : Hp} {s : Shared} (I : L2.Inv X pins σ H s) {b : Addr} {k : List Key} (h : SqT X.K H b (k.map kV)) : (TKind X.prog X.w).is s.heap k b := by
  obtain ⟨its, r, ⟨o, e1, e2, n, e3⟩, _⟩ := I.tuple h
  exact ⟨o, its.toArray, n, e1, e2, e3, by simpa using items_are r⟩
def rSetQ (K : PySem.W.Frag) (P : Program) (w : World) : List V → Hp → VK → Prop := fun xs H Q => ∃ (l : Addr) (ks : List (Addr × List Key)), xs = [V.ref l] ∧ (SqL K H l (ks.map fun z => V.ref z.1) ∨ SqT K H l (ks.map fun z => V.ref z.1)) ∧ (∀ z ∈ ks, SqT K H z.1 (z.2.map kV)) ∧ ks.length < 64 ∧
  ∀ p, H p = none → Q (.ref p) (upd H p (KeySet P w p ks))
theorem cr_setQ (hc : X.calm = true) (hu : X.A.units + 3 < cLine) : CallR X (.type "set") (rSetQ X.K X.prog X.w) := by
  intro pins s σ H vs us Q I r h
  obtain ⟨l, ks, rfl, hs, hk, hb, q⟩ := h
  rw [Vals.ref1 r]
  have hn : H s.heap.objs.size = none := I.hok.fresh (Nat.le_refl _)
  have keys : ∀ z ∈ ks, (TKind X.prog X.w).is s.heap z.2 z.1 := fun z hz => key_at I (hk z hz)
  have fin : ∀ (h' : Heap) (tk : Nat) L vs m t, SetH (TKind X.prog X.w) h' s.heap.objs.size L vs m t → Has ks ks.length L → (∀ b o, s.heap.get? b = some o → h'.get? b = some o) →
      ∃ y H', Inv X pins σ H' { s with heap := h', toks := tk } ∧ RelV y (Value.ref s.heap.objs.size) ∧ Q y H' := fun h' tk L vs m t R g kp => by
    refine ⟨.ref s.heap.objs.size, upd H s.heap.objs.size (KeySet X.prog X.w s.heap.objs.size ks), I.laid (t' := tk) kp (Nat.le_refl _) ⟨⟨L, vs, m, t, R.bare, g⟩, ?_, ?_⟩, rfl, q _ hn⟩
    · obtain ⟨o, e, _⟩ := R.at_
      exact ⟨o, e⟩
    · rintro h1 h2 ⟨L, vs, m, t, R, g⟩ e
      obtain ⟨o, e1, e2⟩ := R.at_
      exact ⟨L, vs, m, t, ⟨⟨o, e o e1, e2⟩, R.ents, R.lay, R.once, R.told, R.loose, R.small⟩, g⟩
  rcases hs with hs | hs
  · obtain ⟨its, rv, hl, _⟩ := I.list hs
    exact set_of_keys (P := X.prog) (w := X.w) tkind_ok (I.ok.hd hc) hl.isList (refs_val rv) keys hb hu fin
  · obtain ⟨its, rv, hl, _⟩ := I.tuple hs
    exact set_of_keysT (P := X.prog) (w := X.w) tkind_ok (I.ok.hd hc) hl (refs_val rv) keys hb hu fin
def rSortQ (K : PySem.W.Frag) (P : Program) (w : World) : List V → Hp → VK → Prop := fun xs H Q => ∃ (a : Addr) (ks : List (Addr × List Key)), xs = [V.ref a] ∧ H a = some (KeySet P w a ks) ∧ (∀ z ∈ ks, SqT K H z.1 (z.2.map kV)) ∧ AllAlike (ks.map fun z => keyD z.2) ∧ Sortable (ks.map fun z => keyD z.2) ∧
  ∀ (L zs : List (Addr × List Key)) p, Has ks ks.length L → (L.map Prod.snd).Nodup → zs.Perm L → (zs.map fun z => keyD z.2) = (L.map fun z => keyD z.2).mergeSort leD → H p = none → Q (.ref p) (upd H p (.lst (zs.map fun z => V.ref z.1)))
theorem cr_sortQ (hc : X.calm = true) (hu : X.A.units + 64 < cLine) : CallR X (.builtin "sorted") (rSortQ X.K X.prog X.w) := by
  intro pins s σ H vs us Q I r h
  obtain ⟨a, ks, rfl, ha, hk, al, so, q⟩ := h
  obtain ⟨⟨L, tv, m, t, R0, g⟩, _⟩ := I.hok a _ ha
  rw [Vals.ref1 r]
  have sub : ∀ z ∈ L, z ∈ ks := fun z hz => List.mem_of_mem_take (g.of z hz)
  have R := R0.full fun z hz => key_at I (hk z (sub z hz))
  obtain ⟨o, g1, g2, g3⟩ := R.at_
  have len := ent_len R.ents
  have sm := R.small
  refine Calls.call_function_entry kind_sorted plain_sorted entry_sorted (args_sorted1 _) ?_
  unfold Builtin.«sorted»
  refine wpAny_bind (m := checkCount "sorted" 1 1 _) (wpAny_pure ?_)
  refine wpAny_bind (collect_set (A := X.A.in1) (I.ok.hd hc) ⟨o, g1, g2.1, g3⟩ R.fits (by unfold scanBound; omega) R.lay.ris R.told fun s1 us k1 hz gs o1 pm => ?_)
  have e1 : tv.toList.map (·.2) = L.map fun z => Value.ref z.1 := by
    rw [R.ents]; unfold entH; rw [List.map_map]; rfl
  rw [e1] at pm
  obtain ⟨M, pM, rfl⟩ := map_of_perm _ pm L rfl
  have subM : ∀ z ∈ M, z ∈ ks := fun z hz => sub z (pM.mem_iff.mp hz)
  have hlen : (M.map fun z => Value.ref z.1).length ≤ sizeLine := by rw [List.length_map, pM.length_eq, sizeLine_eq]; omega
  have dps : ∀ N : List (Addr × List Key), (∀ z ∈ N, z ∈ ks) → DpAll X.K H (N.map fun z => V.ref z.1) (N.map fun z => keyD z.2) := by
    intro N
    induction N with
    | nil => exact fun _ => .nil
    | cons z N ih => exact fun hN => .cons (.tup (hk z (hN z List.mem_cons_self)) (dps_key z.2)) (ih fun y hy => hN y (List.mem_cons_of_mem _ hy))
  have alM : AllAlike (M.map fun z => keyD z.2) := fun d hd e he => by
    obtain ⟨z, hz, rfl⟩ := List.mem_map.mp hd
    obtain ⟨y, hy, rfl⟩ := List.mem_map.mp he
    exact al _ (List.mem_map.mpr ⟨z, subM z hz, rfl⟩) _ (List.mem_map.mpr ⟨y, subM y hy, rfl⟩)
  have soM : Sortable (M.map fun z => keyD z.2) := by
    have up : ∀ d ∈ M.map (fun z => keyD z.2), d ∈ ks.map fun z => keyD z.2 := fun d hd => by
      obtain ⟨z, hz, rfl⟩ := List.mem_map.mp hd
      exact List.mem_map.mpr ⟨z, subM z hz, rfl⟩
    exact so.imp (fun h d hd => h d (up d hd)) fun h d hd => h d (up d hd)
  obtain ⟨as, hr⟩ := Dp.readsAll I _ _ _ (dps M subM) (val_refs M)
  refine wpAny_bind (wpAny_newList ?_ hlen)
  have hoL : (s1.heap.push (seqObj "list" (M.map fun z => Value.ref z.1).toArray 0)).get? s1.heap.objs.size = some (seqObj "list" (M.map fun z => Value.ref z.1).toArray 0) := Heap.get?_push_size _ rfl
  have old : ∀ b u, s.heap.get? b = some u → (sortingHeap (s1.heap.push (seqObj "list" (M.map fun z => Value.ref z.1).toArray 0)) s1.heap.objs.size (M.map fun z => Value.ref z.1)).get? b = some u := fun b u e => by
    have e2 := k1 b u e
    exact sortingHeap_old (Nat.ne_of_lt (Heap.lt_size e2)) (Heap.get?_push_of_some _ e2)
  have hr2 := PyProof.Rows.ReadsAll.keeps old hr
  generalize hh : sortingHeap (s1.heap.push (seqObj "list" (M.map fun z => Value.ref z.1).toArray 0)) s1.heap.objs.size (M.map fun z => Value.ref z.1) = h2 at hr2
  have hS : ∀ d ∈ M.map (fun z => keyD z.2), X.A.in1.in1.units + d.depth < cLine := fun d hd => by
    obtain ⟨z, hz, rfl⟩ := List.mem_map.mp hd
    have := keyD_depth z.2
    show X.A.units + 1 + 1 + _ < cLine
    omega
  refine wpAny_bind (wpAny_holding (wpAny_call_entry slot_list_sort ⟨_, hoL, rfl⟩ entry_list_sort (PySem.W.list_sort_vals (κ := dataKind h2 (M.map fun z => keyD z.2)) (s := { s1 with heap := s1.heap.push (seqObj "list" (M.map fun z => Value.ref z.1).toArray 0) }) hoL (by rw [hh]; exact PySem.W.SortsAt.data (s := { s1 with heap := h2 }) (each_reads hr2) alM soM hS) hlen ⟨_, rfl, ?_⟩) (args_list_sort _)))
  · have e2 := each_pairs M
    have hk2 : EachIs (fun (v : Value) (b : V × (Addr × List Key)) => (dataKind h2 (M.map fun z => keyD z.2)).keyOf v = some (keyToks (keyD b.2.2))) (M.map fun z => Value.ref z.1) (M.map fun z => (V.ref z.1, z)) := by
      have all : ∀ (N : List (Addr × List Key)) {as : List Addr}, (∀ z ∈ N, z ∈ M) → ReadsAll h2 (N.map fun z => Value.ref z.1) (N.map fun z => keyD z.2) as → EachIs (fun (v : Value) (b : V × (Addr × List Key)) => (dataKind h2 (M.map fun z => keyD z.2)).keyOf v = some (keyToks (keyD b.2.2))) (N.map fun z => Value.ref z.1) (N.map fun z => (V.ref z.1, z)) := by
        intro N
        induction N with
        | nil => exact fun _ _ => .nil
        | cons z N ih =>
          intro as hN hrN
          cases hrN with
          | cons a b => exact .cons (PySem.W.dataKind_some alM (List.mem_map.mpr ⟨z, hN z List.mem_cons_self, rfl⟩) a) (ih (fun y hy => hN y (List.mem_cons_of_mem _ hy)) b)
      exact all M (fun _ h => h) hr2
    have e3 := PySem.W.sortVals_each (κ := dataKind h2 (M.map fun z => keyD z.2)) (rev := false) (ks := M.map fun z => Value.ref z.1) (fun b : V × (Addr × List Key) => keyToks (keyD b.2.2)) e2 hk2
    obtain ⟨c, hc2⟩ := sortedHeap_at (vs := M.map fun z => Value.ref z.1) (out := (PySem.W.sortVals (dataKind h2 (M.map fun z => keyD z.2)) false (M.map fun z => Value.ref z.1) (M.map fun z => Value.ref z.1)).toArray) hoL
    generalize PySem.W.sortVals (dataKind h2 (M.map fun z => keyD z.2)) false (M.map fun z => Value.ref z.1) (M.map fun z => Value.ref z.1) = out at e3 hc2 ⊢
    have ps : ((M.map fun z => (V.ref z.1, z)).mergeSort (sortLe (dataKind h2 (M.map fun z => keyD z.2)).toKeyOrd false fun b : V × (Addr × List Key) => keyToks (keyD b.2.2))).Perm (M.map fun z => (V.ref z.1, z)) := List.mergeSort_perm _ _
    have ms : ((M.map fun z => (V.ref z.1, z)).mergeSort (sortLe (dataKind h2 (M.map fun z => keyD z.2)).toKeyOrd false fun b : V × (Addr × List Key) => keyToks (keyD b.2.2))).map (fun b => keyD b.2.2) = ((M.map fun z => (V.ref z.1, z)).map fun b => keyD b.2.2).mergeSort leD :=
      PySem.W.sort_maps (s := leD) (fun b : V × (Addr × List Key) => keyD b.2.2) fun p _ q _ => rfl
    generalize (M.map fun z => (V.ref z.1, z)).mergeSort (sortLe (dataKind h2 (M.map fun z => keyD z.2)).toKeyOrd false fun b : V × (Addr × List Key) => keyToks (keyD b.2.2)) = W at e3 ps ms
    have kp : ∀ b u, s.heap.get? b = some u → (sortedHeap (s1.heap.push (seqObj "list" (M.map fun z => Value.ref z.1).toArray 0)) s1.heap.objs.size (M.map fun z => Value.ref z.1) out.toArray).get? b = some u := fun b u e => by
      have e2 := k1 b u e
      have lt := Heap.lt_size e2
      rw [sortedHeap_old (Nat.ne_of_lt lt) (by rw [size_push']; exact Nat.lt_succ_of_lt lt)]
      exact Heap.get?_push_of_some _ e2
    generalize sortedHeap (s1.heap.push (seqObj "list" (M.map fun z => Value.ref z.1).toArray 0)) s1.heap.objs.size (M.map fun z => Value.ref z.1) out.toArray = h3 at kp hc2 ⊢
    have hn : H s1.heap.objs.size = none := I.hok.fresh hz
    have hv := vals_fst e3
    have e4 : W.map Prod.fst = (W.map Prod.snd).map fun z => V.ref z.1 := by
      rw [List.map_map]
      refine List.map_congr_left fun b hb => ?_
      obtain ⟨z, _, rfl⟩ := List.mem_map.mp (ps.mem_iff.mp hb)
      rfl
    have e5 : (W.map Prod.snd).Perm M := by
      have := ps.map Prod.snd
      rw [List.map_map] at this
      exact this.trans (by rw [show (Prod.snd ∘ fun z : Addr × List Key => (V.ref z.1, z)) = id from rfl, List.map_id])
    have e6 : ((W.map Prod.snd).map fun z => keyD z.2) = (M.map fun z => keyD z.2).mergeSort leD := by
      rw [List.map_map]
      refine ms.trans ?_
      rw [List.map_map]; rfl
    have small : (W.map Prod.fst).length ≤ sizeLine := by
      rw [List.length_map, ps.length_eq, List.length_map, pM.length_eq, sizeLine_eq]; omega
    have J : Inv X pins σ (upd H s1.heap.objs.size (.lst (W.map Prod.fst))) { s with heap := h3, gens := s1.gens, drawn := s1.drawn, toks := s1.toks } :=
      I.call (ch := []) (Un.laid kp hz hn) (I.hok.laid kp hz ⟨small, _, c, hv, hc2⟩) (by rw [gs]; exact I.bare) (fun _ z => nomatch z)
    have es : ({ s1 with heap := h3 } : Shared) = { s with heap := h3, gens := s1.gens, drawn := s1.drawn, toks := s1.toks } := by
      cases s1; cases s; cases o1; rfl
    refine wpAny_pure ⟨_, rfl, .ref s1.heap.objs.size, _, ?_, rfl, q M (W.map Prod.snd) s1.heap.objs.size ⟨fun z hz => g.of z (pM.mem_iff.mp hz), fun z hz => (pM.map Prod.snd).mem_iff.mpr (g.all z hz), by rw [pM.length_eq]; exact g.len⟩ ((pM.map Prod.snd).nodup_iff.mpr R.once) e5 e6 hn⟩
    rw [← e4]
    exact es ▸ J
end
end Ag

set_option Elab.async false
set_option linter.all false
set_option maxRecDepth 100000
set_option maxHeartbeats 4000000
/-! sorted(tuple of texts). -/
namespace Ag
open PySem PySem.Spec PyProof.Rows L2
section
variable {P : Program} {w : World} {A : Around} {E : Value → Shared → Prop} {s : Shared}
/-- what is collected from a tuple, and where the heap ends behind it -/
theorem collect_tup {a : Addr} {o : Obj} {its : Array Value} {n : Nat} {Q : List Value → Shared → Prop} (ho : s.heap.get? a = some o) (hc : o.cls = .type "tuple") (hd : o.data = .seq its n) (hz : its.size ≤ sizeLine)
    (k : ∀ h', (∀ b u, s.heap.get? b = some u → h'.get? b = some u) → s.heap.objs.size ≤ h'.objs.size → Q its.toList { s with heap := h' }) : wpAny (model P w) A (collect (.ref a)) Q E s := by
  obtain ⟨N, hN⟩ : ∃ N : Obj, N = { cls := .type "list", data := .seq ([] : List Value).toArray } := ⟨_, rfl⟩
  have new : (s.heap.push N).get? s.heap.objs.size = some N := by subst hN; exact Heap.get?_push_size _ rfl
  have kept : ∀ b u, s.heap.get? b = some u → ((s.heap.push N).update s.heap.objs.size (Obj.mapSeq (· ++ its))).get? b = some u := fun b u e =>
    (Heap.get?_update_other _ _ (Nat.ne_of_gt (Heap.lt_size e))).trans (Heap.get?_push_of_some _ e)
  have big : s.heap.objs.size ≤ ((s.heap.push N).update s.heap.objs.size (Obj.mapSeq (· ++ its))).objs.size := by
    have e1 : ((s.heap.push N).update s.heap.objs.size (Obj.mapSeq (· ++ its))).get? s.heap.objs.size ≠ none := by
      rw [Heap.get?_update_self _ new (by subst hN; rfl)]; exact fun z => nomatch z
    cases q : ((s.heap.push N).update s.heap.objs.size (Obj.mapSeq (· ++ its))).get? s.heap.objs.size with
    | none => exact absurd q e1
    | some u => exact Nat.le_of_lt (Heap.lt_size q)
  have got : ((s.heap.push N).update s.heap.objs.size (Obj.mapSeq (· ++ its))).get? s.heap.objs.size = some (Obj.mapSeq (· ++ its) N) := Heap.get?_update_self _ new (by subst hN; rfl)
  have last : wpAny (model P w) A (match Value.ref s.heap.objs.size with | Value.ref b => (do match (← load b).data with | Data.seq xs _ => pure xs.toList | _ => unsupported "internal:collect") | _ => unsupported "internal:collect") Q E { s with heap := (s.heap.push N).update s.heap.objs.size (Obj.mapSeq (· ++ its)) } := by
    show wpAny _ A (load s.heap.objs.size >>= _) _ _ _
    apply wpAny_bind
    apply wpAny_load got
    subst hN
    apply wpAny_pure
    have e : ((#[] : Array Value) ++ its).toList = its.toList := by simp
    show Q ((#[] : Array Value) ++ its).toList _
    rw [e]
    exact k _ kept big
  unfold collect
  apply wpAny_bind
  apply wpAny_runValue
  apply codeAny_builtin F.entry_proto_collect
  rw [show Around.under A (.builtin "proto.collect" ⟨[.ref a], []⟩) = A.in1 from Around.under_plainId F.plain_proto_collect _]
  show wpAny _ A.in1 (newList [] >>= fun l => again (.builtin "list.__iadd__" ⟨[l, .ref a], []⟩)) _ _ s
  apply wpAny_bind
  refine wpAny_newObj_type ?_
  refine wpAny_pure ?_
  refine ⟨plainId_quiet F.plain_list_iadd _, codeAny_builtin F.entry_list_iadd ?_⟩
  rw [show ∀ B, Around.under B (.builtin "list.__iadd__" ⟨[.ref s.heap.objs.size, .ref a], []⟩) = B.in1 from fun B => Around.under_plainId F.plain_list_iadd _]
  show wpAny _ A.in1 (Builtin.List.listExtendWith (.ref s.heap.objs.size) (.ref a) (.ref s.heap.objs.size)) _ _ _
  subst hN
  have run := wpAny_extend_seq (hsz := hz) (A := A) (R := fun r t => r = .ok (.ret (.ref s.heap.objs.size)) ∧ t = { s with heap := (s.heap.push { cls := .type "list", data := .seq ([] : List Value).toArray }).update s.heap.objs.size (Obj.mapSeq (· ++ its)) })
    (prog := P) (w := w) (s := { s with heap := s.heap.push { cls := .type "list", data := .seq ([] : List Value).toArray } }) s.heap.objs.size a (.ref s.heap.objs.size) 0 (.inr rfl) new (Heap.get?_push_of_some _ ho) hc hd ⟨rfl, rfl⟩
  refine wpAny_mono run (fun f t h => ?_) (fun e t h => absurd h.1 (by simp))
  cases f with
  | done f =>
    obtain ⟨e, rfl⟩ := h
    cases e
    exact last
  | again c => exact ⟨h.1, codeAny_mono h.2 fun r t2 hr => by obtain ⟨rfl, rfl⟩ := hr; exact last⟩
theorem sorted_of_tup {a : Addr} {o : Obj} {its : Array Value} {n : Nat} {xs : List Str} {Q : Value → Shared → Prop} (ho : s.heap.get? a = some o) (hc : o.cls = .type "tuple") (hd : o.data = .seq its n) (hz : its.size ≤ sizeLine) (hx : StrsAre its.toList xs)
    (k : ∀ h' p (out : Array Value) (c : Nat) (ys : List Str), (∀ b u, s.heap.get? b = some u → h'.get? b = some u) → s.heap.objs.size ≤ p → h'.get? p = some (seqObj "list" out c) → StrsAre out.toList ys → sortedS ys = true → ys.Perm xs → Q (.ref p) { s with heap := h' }) :
    wpAny (model P w) A (call (.builtin "sorted") [.ref a]) Q E s := by
  refine Calls.call_function_entry kind_sorted plain_sorted entry_sorted (args_sorted1 _) ?_
  unfold Builtin.«sorted»
  apply wpAny_bind (m := checkCount "sorted" 1 1 _)
  apply wpAny_pure
  apply wpAny_bind
  refine collect_tup (A := A.in1) ho hc hd hz fun h1 k1 z1 => ?_
  have small : its.toList.length ≤ sizeLine := by rw [Array.length_toList]; exact hz
  refine wpAny_bind (wpAny_newList ?_ small)
  have hoL : (h1.push (seqObj "list" its.toList.toArray 0)).get? h1.objs.size = some (seqObj "list" its.toList.toArray 0) := Heap.get?_push_size _ rfl
  refine wpAny_bind (wpAny_holding (wpAny_call_entry slot_list_sort ⟨_, hoL, rfl⟩ entry_list_sort (list_sort_treeKAny (s := { s with heap := h1.push (seqObj "list" its.toList.toArray 0) }) strKind_oneLt hoL hx.keysOf (fun v₁ v₂ rest e => keyKind_strs (by rw [← e]; exact hx)) small fun st' hp hs => ⟨_, rfl, ?_⟩) (args_list_sort _)))
  obtain ⟨ys, a1, a2, a3⟩ := sorted_out_str hx hp hs
  obtain ⟨c, hc2⟩ := sortedHeap_at (vs := its.toList) (out := (arrOf st').map (·.2)) hoL
  refine wpAny_pure ⟨_, rfl, k _ h1.objs.size _ c ys (fun b u e => ?_) z1 hc2 a1 a3 a2⟩
  have q := k1 b u e
  have lt := Heap.lt_size q
  rw [sortedHeap_old (Nat.ne_of_lt lt) (by rw [size_push']; exact Nat.lt_succ_of_lt lt)]
  exact Heap.get?_push_of_some _ q
end
def rSortTS (K : PySem.W.Frag) : List V → Hp → VK → Prop := fun vs H Q => ∃ (a : Addr) (xs : List Str), vs = [V.ref a] ∧ SqT K H a (xs.map V.str) ∧ ∀ ys p, ys.Perm xs → sortedS ys = true → H p = none → Q (.ref p) (upd H p (.lst (ys.map V.str)))
theorem cr_sortTS {X : Cx} : CallR X (.builtin "sorted") (rSortTS X.K) := by
  intro pins s σ H vs us Q I r h
  obtain ⟨a, xs, rfl, ha, q⟩ := h
  obtain ⟨its, rv, ⟨o, ho, hc, n, hd⟩, hz⟩ := I.tuple ha
  rw [Vals.ref1 r]
  refine sorted_of_tup ho hc hd (by rw [List.size_toArray, ← rv.length]; exact hz) rv.strs fun h' p out c ys kp hp hg hout srt pm => ?_
  have hn : H p = none := I.hok.fresh hp
  have small : (ys.map V.str).length ≤ sizeLine := by
    rw [List.length_map] at hz ⊢
    rw [pm.length_eq]; exact hz
  exact ⟨.ref p, _, I.laid (t' := s.toks) (o := .lst (ys.map V.str)) kp hp ⟨small, out.toList, c, vals_of_strs hout, hg⟩, rfl, q ys p pm srt hn⟩
end Ag

set_option Elab.async false
set_option linter.all false
set_option maxRecDepth 100000
set_option maxHeartbeats 2000000
/-! A dict comprehension over anything that is walked. -/
namespace Ag
open PySem PySem.Spec PyProof.Rows L2
theorem dc_it {J : It} {n : Nat} {G : Hp → Prop} {Y : Nat → Hp → V → Hp → Prop} (wk : Walk J n G Y) {g : TG} {tt : TT} {tk tv : TE} {vs : List Nat} {σ : L2.St} {H0 : Hp} {D : Addr} {Qd : Hp → Prop} (Pv : Nat → Hp → Prop) (p0 : Pv 0 (upd H0 D (.dK []))) (stands : ∀ i H, i ≤ n → Pv i H → G H)
    (turn : ∀ i x H H', i < n → Pv i H → Y i H x H' → g x (wipe σ vs) H' fun σ2 H2 => wipe σ2 vs = wipe σ vs ∧ tt σ2 H2 fun b H3 =>
      if b = true then tk σ2 H3 fun y H4 => tv σ2 H4 fun z H5 => ∃ kvs k, y = kV k ∧ H5 D = some (.dK kvs) ∧ kvs.length < sizeLine ∧ Pv (i + 1) (upd H5 D (.dK (putK kvs k z))) else Pv (i + 1) H3) (last : ∀ H, Pv n H → Qd H) :
    ∃ W : Nat → Nat → Hp → Prop, (∃ m, W 0 m (upd H0 D (.dK []))) ∧ ∀ i m H, W i m H →
      (J.stop i H ∧ Qd H) ∨ (J.go i H ∧ ∃ Nx : Hp → Prop, (∀ H', Nx H' → ∃ m', m' < m ∧ W (i + 1) m' H') ∧ ∀ x H', J.yld i H x H' → g x (wipe σ vs) H' fun σ2 H2 => wipe σ2 vs = wipe σ vs ∧ tt σ2 H2 fun b H3 =>
        if b = true then tk σ2 H3 fun y H4 => tv σ2 H4 fun z H5 => ∃ kvs k, y = kV k ∧ H5 D = some (.dK kvs) ∧ kvs.length < sizeLine ∧ Nx (upd H5 D (.dK (putK kvs k z))) else Nx H3) := by
  refine ⟨fun i m H => m + i = n ∧ Pv i H, ⟨n, by simp, p0⟩, fun i m H ⟨e, p⟩ => ?_⟩
  have q := stands i H (by omega) p
  cases m with
  | zero =>
    have e : i = n := by omega
    subst e
    exact .inl ⟨wk.stops H q, last H p⟩
  | succ m => exact .inr ⟨wk.goes i H (by omega) q, Pv (i + 1), fun H' p' => ⟨m, Nat.lt_succ_self _, by omega, p'⟩, fun x H' y => turn i x H H' (by omega) p (wk.yields i H x H' (by omega) q y)⟩
/-- tuple(x) -/
abbrev tupR (K : PySem.W.Frag) : List V → Hp → VK → Prop := fun xs H Q => ∃ p ys, xs = [.ref p] ∧ ((SqL K H p ys ∧ ∀ l, H l = none → Q (.ref l) (upd H l (.tup ys))) ∨ (SqT K H p ys ∧ Q (.ref p) H))
end Ag

set_option Elab.async false
set_option linter.all false
set_option maxRecDepth 100000
set_option maxHeartbeats 2000000
set_option pp.maxSteps 300
/-! a == b of two instances of one class that has no == of its own: are they one? -/
namespace Ag
open PySem PySem.Spec PyProof.Rows L2
section
variable {prog : Program} {w : World} {A : Around} {E : Value → Shared → Prop} {s : Shared} {K : PySem.W.Frag} {x y C : Addr} {ox oy : Obj} {od od2 : Option Obj}
theorem call_objEq2 {Q : Value → Shared → Prop} (X : K.In s.heap) (I : PySem.W.InstAt s.heap x ox C od) (J : PySem.W.InstAt s.heap y oy C od2) (ne : x ≠ y) (hm : PySem.W.mroIn K C (.type "object") = some true) (hq : Q .notImplemented s) :
    wpAny (model prog w) A (call (.builtin "object.__eq__") [.ref x, .ref y]) Q E s :=
  wpAny_call (codeAny_call_builtin F.cmp_object.eq.plain F.cmpEntry_eq (PySem.W.check_slot F.cmpKind_eq F.cmpSplit_eq (I.type.andThen (PySem.W.looks_mroIn X hm)) (F.cmpArgs_eq _ _) (objEq_entry_other ne I.at_ J.at_ (by rw [I.cls]; exact fun z => nomatch z) hq)))
theorem try_objEq {Q : Option Value → Shared → Prop} (X : K.In s.heap) (I : PySem.W.InstAt s.heap x ox C od) (J : PySem.W.InstAt s.heap y oy C od2) (ne : x ≠ y) (hm : PySem.W.mroIn K C (.type "object") = some true) (hs : PySem.W.findIn K (.ref C) "__eq__" = some (some (.builtin "object.__eq__")))
    (hq : Q none s) : wpAny (model prog w) A (tryCompare (.ref x) "__eq__" (.ref y)) Q E s := by
  unfold tryCompare
  exact wpAny_bind (HN.ifBound_objEq X I hs (call_objEq2 X I J ne hm (wpAny_pure hq)))
theorem rc_two (hu : A.units < cLine) (X : K.In s.heap) (I : PySem.W.InstAt s.heap x ox C od) (J : PySem.W.InstAt s.heap y oy C od2) (ne : x ≠ y) (hm : PySem.W.mroIn K C (.type "object") = some true) (hs : PySem.W.findIn K (.ref C) "__eq__" = some (some (.builtin "object.__eq__")))
    {Q : Value → Shared → Prop} (h : Q (.bool false) s) : wpAny (model prog w) A (richCompare .Eq (.ref x) (.ref y)) Q E s := by
  simp only [richCompare, cmpInfo_Eq, oneThing_ref]
  refine wpAny_holding (wpAny_bind (wpAny_cRoomFor hu ?_))
  refine wpAny_bind (I.type.here ?_)
  refine wpAny_bind (J.type.here ?_)
  rw [if_neg (by simp)]
  refine wpAny_bind (wpAny_pure ?_)
  simp only [Bool.false_eq_true, if_false, Bool.not_false, if_true]
  refine wpAny_bind (m := tryCompare (.ref x) _ (.ref y)) (try_objEq X I J ne hm hs ?_)
  refine wpAny_bind (m := tryCompare (.ref y) _ (.ref x)) (try_objEq X J I (Ne.symm ne) hm hs ?_)
  exact wpAny_bind (wpAny_rule (wpAny_bind (wpAny_isSame_ref_other ne I.at_ J.at_ (by rw [I.cls]; exact fun z => nomatch z) (wpAny_pure h))))
end
section
variable {X : Cx} {C : Addr}
def rEqI (C : Addr) : R2 := fun x y H Q => ∃ a b dx dy fs gs, x = .ref a ∧ y = .ref b ∧ H a = some (.ins C dx fs) ∧ H b = some (.ins C dy gs) ∧ a ≠ b ∧ Q (.bl false) H
theorem op_eqI (hm : PySem.W.mroIn X.K C (.type "object") = some true) (hs : PySem.W.findIn X.K (.ref C) "__eq__" = some (some (.builtin "object.__eq__"))) (hu : X.A.units < cLine) : OpR X (compareOp .Eq) (rEqI C) := by
  intro pins s σ H x y v u Q I rx ry h
  obtain ⟨a, b, dx, dy, fs, gs, rfl, rfl, hA, hB, ne, q⟩ := h
  cases rx; cases ry
  obtain ⟨mA, J1, _⟩ := ins_get I.hok hA
  obtain ⟨od1, J1, _⟩ := J1.look
  obtain ⟨mB, J2, _⟩ := ins_get I.hok hB
  obtain ⟨od2, J2, _⟩ := J2.look
  show wpAny (model X.prog X.w) X.A (richCompare .Eq (.ref a) (.ref b)) (EP X pins σ Q) X.xe s
  exact rc_two hu I.kIn J1 J2 ne hm hs ⟨.bl false, H, I, rfl, q⟩
end
end Ag

set_option Elab.async false
set_option linter.all false
set_option maxRecDepth 100000
set_option maxHeartbeats 1000000
namespace Ag
open PySem PySem.Spec PyProof.Rows L2
/-! ### the text by places -/
def top (i : Nat) : Stmt := PySem.Challenge.pw_againnotes_k31_whole_courses.main.body.getD i (.Pass ⟨0, 0, 0, 0⟩)
abbrev s_wall : Stmt := top 0
abbrev s_BadRow___init__ : Stmt := inClass (top 3) 0
abbrev s_is_whole : Stmt := top 5
abbrev s_as_tuples : Stmt := top 6
abbrev s_ascending : Stmt := top 7
abbrev s_is_name : Stmt := top 11
abbrev s_is_row : Stmt := top 13
abbrev s_need_rows : Stmt := top 14
abbrev s_Server___init__ : Stmt := inClass (top 15) 0
abbrev s_Server___eq__ : Stmt := inClass (top 15) 1
abbrev s_Server___len__ : Stmt := inClass (top 15) 2
abbrev s_Server___contains__ : Stmt := inClass (top 15) 3
abbrev s_Server___add__ : Stmt := inClass (top 15) 4
abbrev s_Server___sub__ : Stmt := inClass (top 15) 5
abbrev s_Server___or__ : Stmt := inClass (top 15) 6
abbrev s_Server_answers : Stmt := inClass (top 15) 7
abbrev s_Server_known : Stmt := inClass (top 15) 8
abbrev s_Server_halls : Stmt := inClass (top 15) 9
abbrev s_Server_calls : Stmt := inClass (top 15) 10
abbrev s_Server_doubts : Stmt := inClass (top 15) 11
abbrev s_Course___init__ : Stmt := inClass (top 17) 0
abbrev s_are_words : Stmt := top 18
abbrev s_is_course : Stmt := top 19
abbrev s_law_pen : Stmt := top 21
abbrev s_law_draw : Stmt := top 22
abbrev s_law_pick : Stmt := top 23
abbrev s_law_shuffled : Stmt := top 24
abbrev s_law_some : Stmt := top 25
abbrev s_law_name : Stmt := top 26
abbrev s_law_names : Stmt := top 27
abbrev s_law_mixed : Stmt := top 28
abbrev s_law_same : Stmt := top 29
abbrev s_law_is_whole : Stmt := top 30
abbrev s_law_server_of : Stmt := top 31
abbrev s_law_some_server : Stmt := top 32
abbrev s_law_made_server : Stmt := top 33
abbrev s_law_calls_at : Stmt := top 34
abbrev s_law_is_name : Stmt := top 35
abbrev s_law_is_course : Stmt := top 36
abbrev s_law_bent_course : Stmt := top 37
abbrev s_law_some_course : Stmt := top 38
abbrev s_law : Stmt := top 39
structure DefAt (K : PySem.W.Frag) (mg : Str → Option Value) (x : Str) (st : Stmt) (ps : List Str) (a : Addr) (fd : FuncData) : Prop where
  fn : Fun K x x st a fd
  mg : mg x = some (.ref a)
  bd : Binds K fd ps []
structure MethAt (K : PySem.W.Frag) (x qual : Str) (st : Stmt) (ps : List Str) (a : Addr) (fd : FuncData) : Prop where
  fn : Fun K x qual st a fd
  bd : Binds K fd ps []
structure DefAtD (K : PySem.W.Frag) (mg : Str → Option Value) (x : Str) (st : Stmt) (ps : List Str) (dvs : List V) (a : Addr) (fd : FuncData) : Prop where
  fn : FunD K x x (defArgs st) (defBody st) (defScope st) dvs [] a fd
  mg : mg x = some (.ref a)
  bd : Binds K fd ps []
structure MethAtD (K : PySem.W.Frag) (x qual : Str) (st : Stmt) (ps : List Str) (dvs : List V) (a : Addr) (fd : FuncData) : Prop where
  fn : FunD K x qual (defArgs st) (defBody st) (defScope st) dvs [] a fd
  bd : Binds K fd ps []
theorem bt_isinstance : bootBuiltins ("isinstance" : Str) = some (.builtin "isinstance") := by decide +kernel
theorem bt_tuple : bootBuiltins ("tuple" : Str) = some (.type "tuple") := by decide +kernel
theorem bt_all : bootBuiltins ("all" : Str) = some (.builtin "all") := by decide +kernel
theorem bt_enumerate : bootBuiltins ("enumerate" : Str) = some (.type "enumerate") := by decide +kernel
theorem bt_range : bootBuiltins ("range" : Str) = some (.type "range") := by decide +kernel
theorem bt_int : bootBuiltins ("int" : Str) = some (.type "int") := by decide +kernel
theorem bt_sorted : bootBuiltins ("sorted" : Str) = some (.builtin "sorted") := by decide +kernel
theorem bt_bool : bootBuiltins ("bool" : Str) = some (.type "bool") := by decide +kernel
theorem bt_list : bootBuiltins ("list" : Str) = some (.type "list") := by decide +kernel
theorem bt_len : bootBuiltins ("len" : Str) = some (.builtin "len") := by decide +kernel
theorem bt_str : bootBuiltins ("str" : Str) = some (.type "str") := by decide +kernel
theorem bt_set : bootBuiltins ("set" : Str) = some (.type "set") := by decide +kernel
theorem bt_repr : bootBuiltins ("repr" : Str) = some (.builtin "repr") := by decide +kernel
theorem bt_min : bootBuiltins ("min" : Str) = some (.builtin "min") := by decide +kernel
theorem bt_zip : bootBuiltins ("zip" : Str) = some (.type "zip") := by decide +kernel
structure Txt (w : World) (K : PySem.W.Frag) (mg : Str → Option Value) where
  C_AgainError : Addr
  g_AgainError : mg "AgainError" = some (.ref C_AgainError)
  ox_AgainError : OexC K C_AgainError
  xf_AgainError : XfC K C_AgainError
  sb_AgainError : PySem.W.subIn K (.ref C_AgainError) (.ref C_AgainError) = some true
  C_BadRow : Addr
  g_BadRow : mg "BadRow" = some (.ref C_BadRow)
  a_BadRow___init__ : Addr
  d_BadRow___init__ : FuncData
  D_BadRow___init__ : MethAt K "__init__" "BadRow.__init__" s_BadRow___init__ ["self", "what", "row"] a_BadRow___init__ d_BadRow___init__
  na_BadRow_what : NoAttr K C_BadRow "what"
  na_BadRow_row : NoAttr K C_BadRow "row"
  ox_BadRow : OexC K C_BadRow
  xf_BadRow : XfC K C_BadRow
  sb_BadRow : PySem.W.subIn K (.ref C_BadRow) (.ref C_BadRow) = some true
  ic_BadRow : PySem.W.findIn K (.ref C_BadRow) "__init__" = some (some (.ref a_BadRow___init__))
  ti_BadRow : PySem.W.typeIn K (.ref a_BadRow___init__) = some (.type "function")
  C_Server : Addr
  g_Server : mg "Server" = some (.ref C_Server)
  a_Server___init__ : Addr
  d_Server___init__ : FuncData
  D_Server___init__ : MethAt K "__init__" "Server.__init__" s_Server___init__ ["self", "rows"] a_Server___init__ d_Server___init__
  a_Server___eq__ : Addr
  d_Server___eq__ : FuncData
  D_Server___eq__ : MethAt K "__eq__" "Server.__eq__" s_Server___eq__ ["self", "other"] a_Server___eq__ d_Server___eq__
  a_Server___len__ : Addr
  d_Server___len__ : FuncData
  D_Server___len__ : MethAt K "__len__" "Server.__len__" s_Server___len__ ["self"] a_Server___len__ d_Server___len__
  a_Server___contains__ : Addr
  d_Server___contains__ : FuncData
  D_Server___contains__ : MethAt K "__contains__" "Server.__contains__" s_Server___contains__ ["self", "row"] a_Server___contains__ d_Server___contains__
  a_Server___add__ : Addr
  d_Server___add__ : FuncData
  D_Server___add__ : MethAt K "__add__" "Server.__add__" s_Server___add__ ["self", "row"] a_Server___add__ d_Server___add__
  a_Server___sub__ : Addr
  d_Server___sub__ : FuncData
  D_Server___sub__ : MethAt K "__sub__" "Server.__sub__" s_Server___sub__ ["self", "row"] a_Server___sub__ d_Server___sub__
  a_Server___or__ : Addr
  d_Server___or__ : FuncData
  D_Server___or__ : MethAt K "__or__" "Server.__or__" s_Server___or__ ["self", "other"] a_Server___or__ d_Server___or__
  a_Server_answers : Addr
  d_Server_answers : FuncData
  D_Server_answers : MethAt K "answers" "Server.answers" s_Server_answers ["self", "hall", "call"] a_Server_answers d_Server_answers
  a_Server_known : Addr
  d_Server_known : FuncData
  D_Server_known : MethAt K "known" "Server.known" s_Server_known ["self", "hall"] a_Server_known d_Server_known
  a_Server_halls : Addr
  d_Server_halls : FuncData
  D_Server_halls : MethAt K "halls" "Server.halls" s_Server_halls ["self"] a_Server_halls d_Server_halls
  a_Server_calls : Addr
  d_Server_calls : FuncData
  D_Server_calls : MethAt K "calls" "Server.calls" s_Server_calls ["self"] a_Server_calls d_Server_calls
  a_Server_doubts : Addr
  d_Server_doubts : FuncData
  D_Server_doubts : MethAt K "doubts" "Server.doubts" s_Server_doubts ["self"] a_Server_doubts d_Server_doubts
  na_Server_rows : NoAttr K C_Server "rows"
  na_Server__answers : NoAttr K C_Server "_answers"
  na_Server__known : NoAttr K C_Server "_known"
  cl_Server : Cls K C_Server
  mk_Server : Mk K C_Server a_Server___init__
  mt_Server___eq__ : Meth K C_Server "__eq__" a_Server___eq__
  mt_Server___len__ : Meth K C_Server "__len__" a_Server___len__
  mt_Server___contains__ : Meth K C_Server "__contains__" a_Server___contains__
  mt_Server___add__ : Meth K C_Server "__add__" a_Server___add__
  mt_Server___sub__ : Meth K C_Server "__sub__" a_Server___sub__
  mt_Server___or__ : Meth K C_Server "__or__" a_Server___or__
  mt_Server_answers : Meth K C_Server "answers" a_Server_answers
  mt_Server_known : Meth K C_Server "known" a_Server_known
  mt_Server_halls : Meth K C_Server "halls" a_Server_halls
  mt_Server_calls : Meth K C_Server "calls" a_Server_calls
  mt_Server_doubts : Meth K C_Server "doubts" a_Server_doubts
  C_Course : Addr
  g_Course : mg "Course" = some (.ref C_Course)
  a_Course___init__ : Addr
  d_Course___init__ : FuncData
  D_Course___init__ : MethAt K "__init__" "Course.__init__" s_Course___init__ ["self", "calls", "halls", "ring"] a_Course___init__ d_Course___init__
  na_Course_calls : NoAttr K C_Course "calls"
  na_Course_halls : NoAttr K C_Course "halls"
  na_Course_ring : NoAttr K C_Course "ring"
  cl_Course : Cls K C_Course
  mk_Course : Mk K C_Course a_Course___init__
  ki_Course_Course : PySem.W.kitOne K (.ref C_Course) (.ref C_Course) = some true
  ty_Course : ∀ (H : Hp) (a dx : Addr) (fs : List (Str × V)), H a = some (.ins C_Course dx fs) → TyOf K H (.ref a) (.ref C_Course)
  kt_Course : PySem.W.kitOne K (.type "tuple") (.ref C_Course) = some false
  kn_Course : PySem.W.kitOne K (.type "NoneType") (.ref C_Course) = some false
  kint_Course : PySem.W.kitOne K (.type "int") (.ref C_Course) = some false
  oe_Course : PySem.W.findIn K (.ref C_Course) "__eq__" = some (some (.builtin "object.__eq__"))
  om_Course : PySem.W.mroIn K C_Course (.type "object") = some true
  a_wall : Addr
  d_wall : FuncData
  D_wall : DefAt K mg "_wall" s_wall ["k"] a_wall d_wall
  a_is_whole : Addr
  d_is_whole : FuncData
  D_is_whole : DefAtD K mg "is_whole" s_is_whole ["value", "least", "most"] [.non] a_is_whole d_is_whole
  a_as_tuples : Addr
  d_as_tuples : FuncData
  D_as_tuples : DefAt K mg "as_tuples" s_as_tuples ["value"] a_as_tuples d_as_tuples
  a_ascending : Addr
  d_ascending : FuncData
  D_ascending : DefAt K mg "ascending" s_ascending ["names"] a_ascending d_ascending
  a_is_name : Addr
  d_is_name : FuncData
  D_is_name : DefAt K mg "is_name" s_is_name ["value"] a_is_name d_is_name
  a_is_row : Addr
  d_is_row : FuncData
  D_is_row : DefAt K mg "is_row" s_is_row ["value"] a_is_row d_is_row
  a_need_rows : Addr
  d_need_rows : FuncData
  D_need_rows : DefAt K mg "need_rows" s_need_rows ["rows"] a_need_rows d_need_rows
  a_are_words : Addr
  d_are_words : FuncData
  D_are_words : DefAt K mg "are_words" s_are_words ["value"] a_are_words d_are_words
  a_is_course : Addr
  d_is_course : FuncData
  D_is_course : DefAt K mg "is_course" s_is_course ["server", "value"] a_is_course d_is_course
  a_law_pen : Addr
  d_law_pen : FuncData
  D_law_pen : DefAt K mg "_law_pen" s_law_pen ["script"] a_law_pen d_law_pen
  a_law_draw : Addr
  d_law_draw : FuncData
  D_law_draw : DefAt K mg "_law_draw" s_law_draw ["pen", "many"] a_law_draw d_law_draw
  a_law_pick : Addr
  d_law_pick : FuncData
  D_law_pick : DefAt K mg "_law_pick" s_law_pick ["pen", "some"] a_law_pick d_law_pick
  a_law_shuffled : Addr
  d_law_shuffled : FuncData
  D_law_shuffled : DefAt K mg "_law_shuffled" s_law_shuffled ["pen", "some"] a_law_shuffled d_law_shuffled
  a_law_some : Addr
  d_law_some : FuncData
  D_law_some : DefAt K mg "_law_some" s_law_some ["pen", "some", "most"] a_law_some d_law_some
  a_law_name : Addr
  d_law_name : FuncData
  D_law_name : DefAt K mg "_law_name" s_law_name ["pen", "index"] a_law_name d_law_name
  a_law_names : Addr
  d_law_names : FuncData
  D_law_names : DefAt K mg "_law_names" s_law_names ["pen", "many"] a_law_names d_law_names
  a_law_mixed : Addr
  d_law_mixed : FuncData
  D_law_mixed : DefAt K mg "_law_mixed" s_law_mixed ["pen", "some"] a_law_mixed d_law_mixed
  a_law_same : Addr
  d_law_same : FuncData
  D_law_same : DefAt K mg "_law_same" s_law_same ["told", "due"] a_law_same d_law_same
  a_law_is_whole : Addr
  d_law_is_whole : FuncData
  D_law_is_whole : DefAt K mg "_law_is_whole" s_law_is_whole ["value", "least", "most"] a_law_is_whole d_law_is_whole
  a_law_server_of : Addr
  d_law_server_of : FuncData
  D_law_server_of : DefAt K mg "_law_server_of" s_law_server_of ["rows"] a_law_server_of d_law_server_of
  a_law_some_server : Addr
  d_law_some_server : FuncData
  D_law_some_server : DefAt K mg "_law_some_server" s_law_some_server ["pen", "calls", "places", "share"] a_law_some_server d_law_some_server
  a_law_made_server : Addr
  d_law_made_server : FuncData
  D_law_made_server : DefAt K mg "_law_made_server" s_law_made_server ["pen", "server"] a_law_made_server d_law_made_server
  a_law_calls_at : Addr
  d_law_calls_at : FuncData
  D_law_calls_at : DefAt K mg "_law_calls_at" s_law_calls_at ["server", "place"] a_law_calls_at d_law_calls_at
  a_law_is_name : Addr
  d_law_is_name : FuncData
  D_law_is_name : DefAt K mg "_law_is_name" s_law_is_name ["value"] a_law_is_name d_law_is_name
  a_law_is_course : Addr
  d_law_is_course : FuncData
  D_law_is_course : DefAt K mg "_law_is_course" s_law_is_course ["server", "value"] a_law_is_course d_law_is_course
  a_law_bent_course : Addr
  d_law_bent_course : FuncData
  D_law_bent_course : DefAt K mg "_law_bent_course" s_law_bent_course ["pen", "server", "value"] a_law_bent_course d_law_bent_course
  a_law_some_course : Addr
  d_law_some_course : FuncData
  D_law_some_course : DefAt K mg "_law_some_course" s_law_some_course ["pen", "server"] a_law_some_course d_law_some_course
  a_law : Addr
  d_law : FuncData
  D_law : DefAt K mg "law" s_law ["script"] a_law d_law
  t_FIGURES : Tok
  g_FIGURES : mg "FIGURES" = some (.str "0123456789" t_FIGURES)
  t_LETTERS : Tok
  g_LETTERS : mg "LETTERS" = some (.str "abcdefghijklmnopqrstuvwxyz" t_LETTERS)
  b_isinstance : mg "isinstance" = none
  b_tuple : mg "tuple" = none
  b_all : mg "all" = none
  b_enumerate : mg "enumerate" = none
  b_range : mg "range" = none
  b_int : mg "int" = none
  b_sorted : mg "sorted" = none
  b_bool : mg "bool" = none
  b_list : mg "list" = none
  b_len : mg "len" = none
  b_str : mg "str" = none
  b_set : mg "set" = none
  b_repr : mg "repr" = none
  b_min : mg "min" = none
  b_zip : mg "zip" = none
theorem sc_wall : FnScope ["k"] ["k"] (defScope s_wall) := ⟨rfl, rfl, rfl, by decide +kernel, rfl, by decide +kernel, by decide +kernel⟩
theorem sc_BadRow___init__ : FnScope ["self", "what", "row"] ["self", "what", "row"] (defScope s_BadRow___init__) := ⟨rfl, rfl, rfl, by decide +kernel, rfl, by decide +kernel, by decide +kernel⟩
theorem sc_is_whole : FnScope ["value", "least", "most"] ["value", "least", "most"] (defScope s_is_whole) := ⟨rfl, rfl, rfl, by decide +kernel, rfl, by decide +kernel, by decide +kernel⟩
theorem sc_as_tuples : FnScope ["value", "part"] ["value"] (defScope s_as_tuples) := ⟨rfl, rfl, rfl, by decide +kernel, rfl, by decide +kernel, by decide +kernel⟩
theorem sc_ascending : FnScope ["names"] ["names"] (defScope s_ascending) := ⟨rfl, rfl, rfl, by decide +kernel, rfl, by decide +kernel, by decide +kernel⟩
theorem sc_is_name : FnScope ["value", "sign"] ["value"] (defScope s_is_name) := ⟨rfl, rfl, rfl, by decide +kernel, rfl, by decide +kernel, by decide +kernel⟩
theorem sc_is_row : FnScope ["value", "part"] ["value"] (defScope s_is_row) := ⟨rfl, rfl, rfl, by decide +kernel, rfl, by decide +kernel, by decide +kernel⟩
theorem sc_need_rows : FnScope ["rows", "row"] ["rows"] (defScope s_need_rows) := ⟨rfl, rfl, rfl, by decide +kernel, rfl, by decide +kernel, by decide +kernel⟩
theorem sc_Server___init__ : FnScope ["self", "rows", "told", "hall", "call", "other", "known"] ["self", "rows"] (defScope s_Server___init__) := ⟨rfl, rfl, rfl, by decide +kernel, rfl, by decide +kernel, by decide +kernel⟩
theorem sc_Server___eq__ : FnScope ["self", "other"] ["self", "other"] (defScope s_Server___eq__) := ⟨rfl, rfl, rfl, by decide +kernel, rfl, by decide +kernel, by decide +kernel⟩
theorem sc_Server___len__ : FnScope ["self"] ["self"] (defScope s_Server___len__) := ⟨rfl, rfl, rfl, by decide +kernel, rfl, by decide +kernel, by decide +kernel⟩
theorem sc_Server___contains__ : FnScope ["self", "row"] ["self", "row"] (defScope s_Server___contains__) := ⟨rfl, rfl, rfl, by decide +kernel, rfl, by decide +kernel, by decide +kernel⟩
theorem sc_Server___add__ : FnScope ["self", "row"] ["self", "row"] (defScope s_Server___add__) := ⟨rfl, rfl, rfl, by decide +kernel, rfl, by decide +kernel, by decide +kernel⟩
theorem sc_Server___sub__ : FnScope ["self", "row", "one"] ["self", "row"] (defScope s_Server___sub__) := ⟨rfl, rfl, rfl, by decide +kernel, rfl, by decide +kernel, by decide +kernel⟩
theorem sc_Server___or__ : FnScope ["self", "other"] ["self", "other"] (defScope s_Server___or__) := ⟨rfl, rfl, rfl, by decide +kernel, rfl, by decide +kernel, by decide +kernel⟩
theorem sc_Server_answers : FnScope ["self", "hall", "call"] ["self", "hall", "call"] (defScope s_Server_answers) := ⟨rfl, rfl, rfl, by decide +kernel, rfl, by decide +kernel, by decide +kernel⟩
theorem sc_Server_known : FnScope ["self", "hall"] ["self", "hall"] (defScope s_Server_known) := ⟨rfl, rfl, rfl, by decide +kernel, rfl, by decide +kernel, by decide +kernel⟩
theorem sc_Server_halls : FnScope ["self", "row"] ["self"] (defScope s_Server_halls) := ⟨rfl, rfl, rfl, by decide +kernel, rfl, by decide +kernel, by decide +kernel⟩
theorem sc_Server_calls : FnScope ["self", "row"] ["self"] (defScope s_Server_calls) := ⟨rfl, rfl, rfl, by decide +kernel, rfl, by decide +kernel, by decide +kernel⟩
theorem sc_Server_doubts : FnScope ["self"] ["self"] (defScope s_Server_doubts) := ⟨rfl, rfl, rfl, by decide +kernel, rfl, by decide +kernel, by decide +kernel⟩
theorem sc_Course___init__ : FnScope ["self", "calls", "halls", "ring"] ["self", "calls", "halls", "ring"] (defScope s_Course___init__) := ⟨rfl, rfl, rfl, by decide +kernel, rfl, by decide +kernel, by decide +kernel⟩
theorem sc_are_words : FnScope ["value", "one"] ["value"] (defScope s_are_words) := ⟨rfl, rfl, rfl, by decide +kernel, rfl, by decide +kernel, by decide +kernel⟩
theorem sc_is_course : FnScope ["server", "value", "at", "call"] ["server", "value"] (defScope s_is_course) := ⟨rfl, rfl, rfl, by decide +kernel, rfl, by decide +kernel, by decide +kernel⟩
theorem sc_law_pen : FnScope ["script", "fold", "cell"] ["script"] (defScope s_law_pen) := ⟨rfl, rfl, rfl, by decide +kernel, rfl, by decide +kernel, by decide +kernel⟩
theorem sc_law_draw : FnScope ["pen", "many", "cell", "digit", "blend"] ["pen", "many"] (defScope s_law_draw) := ⟨rfl, rfl, rfl, by decide +kernel, rfl, by decide +kernel, by decide +kernel⟩
theorem sc_law_pick : FnScope ["pen", "some"] ["pen", "some"] (defScope s_law_pick) := ⟨rfl, rfl, rfl, by decide +kernel, rfl, by decide +kernel, by decide +kernel⟩
theorem sc_law_shuffled : FnScope ["pen", "some", "left", "found", "lap"] ["pen", "some"] (defScope s_law_shuffled) := ⟨rfl, rfl, rfl, by decide +kernel, rfl, by decide +kernel, by decide +kernel⟩
theorem sc_law_some : FnScope ["pen", "some", "most"] ["pen", "some", "most"] (defScope s_law_some) := ⟨rfl, rfl, rfl, by decide +kernel, rfl, by decide +kernel, by decide +kernel⟩
theorem sc_law_name : FnScope ["pen", "index", "word", "spot", "place"] ["pen", "index"] (defScope s_law_name) := ⟨rfl, rfl, rfl, by decide +kernel, rfl, by decide +kernel, by decide +kernel⟩
theorem sc_law_names : FnScope ["pen", "many", "index"] ["pen", "many"] (defScope s_law_names) := ⟨rfl, rfl, rfl, by decide +kernel, rfl, by decide +kernel, by decide +kernel⟩
theorem sc_law_mixed : FnScope ["pen", "some"] ["pen", "some"] (defScope s_law_mixed) := ⟨rfl, rfl, rfl, by decide +kernel, rfl, by decide +kernel, by decide +kernel⟩
theorem sc_law_same : FnScope ["told", "due", "one", "two"] ["told", "due"] (defScope s_law_same) := ⟨rfl, rfl, rfl, by decide +kernel, rfl, by decide +kernel, by decide +kernel⟩
theorem sc_law_is_whole : FnScope ["value", "least", "most"] ["value", "least", "most"] (defScope s_law_is_whole) := ⟨rfl, rfl, rfl, by decide +kernel, rfl, by decide +kernel, by decide +kernel⟩
theorem sc_law_server_of : FnScope ["rows", "answers", "places", "place", "call", "other", "one"] ["rows"] (defScope s_law_server_of) := ⟨rfl, rfl, rfl, by decide +kernel, rfl, by decide +kernel, by decide +kernel⟩
theorem sc_law_some_server : FnScope ["pen", "calls", "places", "share", "rows", "place", "call", "turn"] ["pen", "calls", "places", "share"] (defScope s_law_some_server) := ⟨rfl, rfl, rfl, by decide +kernel, rfl, by decide +kernel, by decide +kernel⟩
theorem sc_law_made_server : FnScope ["pen", "server"] ["pen", "server"] (defScope s_law_made_server) := ⟨rfl, rfl, rfl, by decide +kernel, rfl, by decide +kernel, by decide +kernel⟩
theorem sc_law_calls_at : FnScope ["server", "place", "key"] ["server", "place"] (defScope s_law_calls_at) := ⟨rfl, rfl, rfl, by decide +kernel, rfl, by decide +kernel, by decide +kernel⟩
theorem sc_law_is_name : FnScope ["value", "sign"] ["value"] (defScope s_law_is_name) := ⟨rfl, rfl, rfl, by decide +kernel, rfl, by decide +kernel, by decide +kernel⟩
theorem sc_law_is_course : FnScope ["server", "value", "one", "rows", "at", "row"] ["server", "value"] (defScope s_law_is_course) := ⟨rfl, rfl, rfl, by decide +kernel, rfl, by decide +kernel, by decide +kernel⟩
theorem sc_law_bent_course : FnScope ["pen", "server", "value", "calls", "halls", "ring", "at", "one", "call", "key", "some"] ["pen", "server", "value"] (defScope s_law_bent_course) := ⟨rfl, rfl, rfl, by decide +kernel, rfl, by decide +kernel, by decide +kernel⟩
theorem sc_law_some_course : FnScope ["pen", "server", "hall", "calls", "halls", "lap", "known", "call", "rings", "at"] ["pen", "server"] (defScope s_law_some_course) := ⟨rfl, rfl, rfl, by decide +kernel, rfl, by decide +kernel, by decide +kernel⟩
theorem sc_law : FnScope ["script", "pen", "lap", "calls", "halls", "server", "made", "turn", "course", "step", "bent", "at", "mixed", "value", "kept"] ["script"] (defScope s_law) := ⟨rfl, rfl, rfl, by decide +kernel, rfl, by decide +kernel, by decide +kernel⟩
end Ag

set_option Elab.async false
set_option linter.all false
set_option maxRecDepth 100000
set_option maxHeartbeats 1000000
namespace Ag
open PySem PySem.Spec PyProof.Rows L2
theorem rd_but {H : Hp} {p : Addr} {o : HO} : But p H (upd H p o) := fun a u n h => by rw [upd_ne n]; exact h
theorem rd_upd {H : Hp} {p c : Addr} {o : HO} {xs : List V} {kvs : List (Key × V)} (hp : H p = some (.dK kvs)) (h : Rd H c (.lst xs)) : Rd (upd H p o) c (.lst xs) := by
  rcases h with h | ⟨u, h⟩
  · exact .inl (by rw [upd_ne (ne_of h hp (fun z => nomatch z))]; exact h)
  · exact .inr ⟨u, by rw [upd_ne (ne_of h hp (fun z => nomatch z))]; exact h⟩
section
variable {P : Program} {w : World} {K : PySem.W.Frag} {mg : Str → Option Value} {base : Heap} (T : Txt w K mg)
theorem ok_draw : FnOk P w K mg base CX0 1 T.a_law_draw T.d_law_draw ["pen", "many"] spDraw := by
  refine T.D_law_draw.fn.ok sc_law_draw (fun vs H Q E h => ?_) (fun cdv A outer s H vs Q E hr h => ?_)
  · obtain ⟨p, c, many, n, rfl, _⟩ := h; rfl
  · obtain ⟨p, c, many, n, rfl, hP, m0, m1, n1, k⟩ := h
    refine ⟨_, (pss_cons (ps_dput (hu_of hr) (pv 0) pe_str (pe_op op_add (pe_dget (hu_of hr) (pv 0) pe_str (fun _ _ => rfl)) pe_int) rfl)
      (C8.pss_cut (ps_if (PW.pt (pw_and (pt_cmpR op_eq (pe_dget (hu_of hr) (pv 0) pe_str (fun _ _ => rfl)) pe_int (nomark _)) (pw_and1 (pt_cmpR op_lt (pe_dget (hu_of hr) (pv 0) pe_str (fun _ _ => rfl)) (pe_callB call_len (by rfl) T.b_len bt_len (pa_cons (pe_dget (hu_of hr) (pv 0) pe_str (fun _ _ => rfl)) pa_nil)) (nomark _))))) (pss_cons (ps_set (i := 2) sc_law_draw.nd rfl (by first | exact Or.inl rfl | exact Or.inr rfl) (pe_ix ix_seq (pe_dget (hu_of hr) (pv 0) pe_str (fun _ _ => rfl)) (pe_dget (hu_of hr) (pv 0) pe_str (fun _ _ => rfl)) (fun _ _ => rfl)))
      (pss_cons (ps_dput (hu_of hr) (pv 0) pe_str (pe_op op_add (pe_dget (hu_of hr) (pv 0) pe_str (fun _ _ => rfl)) pe_int) rfl)
      (pss_one (ps_if (pt_cmpR op_ge (pv 2) (pe_op op_pow pe_int pe_int) (nomark _)) (pss_one (ps_dput (hu_of hr) (pv 0) pe_str (pe_op op_sub (pv 2) (pe_op op_pow pe_int pe_int)) rfl)) (pss_one (ps_dput (hu_of hr) (pv 0) pe_str (pe_op op_mod (pe_callTy call_int1 (by rfl) T.b_int bt_int (pa_cons (pe_op op_add (pe_op op_mul (pe_dget (hu_of hr) (pv 0) pe_str (fun _ _ => rfl)) pe_int) (pv 2)) pa_nil)) pe_int) rfl)))))) pss_nil)
      (pss_cons (ps_if (pt_cmpR op_gt (pe_dget (hu_of hr) (pv 0) pe_str (fun _ _ => rfl)) pe_int (nomark _)) (pss_cons (ps_set (i := 3) sc_law_draw.nd rfl (by first | exact Or.inl rfl | exact Or.inr rfl) (pe_op op_mod (pe_callTy call_int1 (by rfl) T.b_int bt_int (pa_cons (pe_dget (hu_of hr) (pv 0) pe_str (fun _ _ => rfl)) pa_nil)) (pv 1)))
      (pss_cons (ps_dput (hu_of hr) (pv 0) pe_str (pe_op op_fdiv (pe_dget (hu_of hr) (pv 0) pe_str (fun _ _ => rfl)) (pv 1)) rfl)
      (pss_one (ps_ret (pv 3))))) pss_nil)
      (pss_cons (ps_set (i := 4) sc_law_draw.nd rfl (by first | exact Or.inl rfl | exact Or.inr rfl) (pe_op op_add (pe_op op_add (pe_dget (hu_of hr) (pv 0) pe_str (fun _ _ => rfl)) (pe_op op_mul (pe_dget (hu_of hr) (pv 0) pe_str (fun _ _ => rfl)) pe_int)) pe_int))
      (pss_one (ps_ret (pe_op op_mod (pe_op op_fdiv (pe_callTy call_int1 (by rfl) T.b_int bt_int (pa_cons (pe_op op_mod (pe_op op_pow (pv 4) pe_int) pe_int) pa_nil)) pe_int) (pv 1)))))))), ?_⟩
    obtain ⟨cells, a, d, cn, f, hp, hc, a0, d0, c0, cnn, f0, f1⟩ := hP
    -- pen["count"] = pen["count"] + 1
    refine ⟨_, rfl, p, _, rfl, pg_cnt hp, _, _, rfl, rfl, _, rfl, p, _, rfl, pp_cnt hp, ?_⟩
    have b1 : But p H (upd H p (.dK (penKV c a d (cn + 1) f))) := rd_but
    have c1 := rd_upd (o := .dK (penKV c a d (cn + 1) f)) hp hc
    have p1 : (upd H p (.dK (penKV c a d (cn + 1) f))) p = some (.dK (penKV c a d (cn + 1) f)) := upd_same
    generalize upd H p (.dK (penKV c a d (cn + 1) f)) = H1 at b1 c1 p1
    refine ⟨fun σ' H' => ∃ (a' d' f' : Int) (o : Option V), σ' = [some (.ref p), some (.int many), o, none, none] ∧ 0 ≤ a' ∧ 0 ≤ d' ∧ 0 ≤ f' ∧ f' < 2147483648 ∧ H' p = some (.dK (penKV c a' d' (cn + 1) f')) ∧ Rd H' c (.lst (cells.map V.int)) ∧ But p H H', ?_, ?_⟩
    · -- if pen["digits"] == 0 and pen["at"] < len(pen["cells"]):
      refine ⟨_, rfl, p, _, rfl, pg_dig p1, rfl, _, rfl, ?_⟩
      refine ite2 (fun hz => ?_) (fun hz => ?_)
      · refine ⟨_, rfl, p, _, rfl, pg_at p1, _, rfl, p, _, rfl, pg_cells p1, _, _, rfl, .inl ⟨_, .inl c1, rfl⟩, _, _, rfl, rfl, _, rfl, ?_⟩
        refine ite2 (fun hl => ?_) (fun hl => ?_)
        · -- the next cell
          have hl := of_decide_eq_true hl
          obtain ⟨x, hx⟩ : ∃ x, cells[a.toNat]? = some x := ⟨_, List.getElem?_eq_getElem (by rw [List.length_map] at hl; omega)⟩
          have hx' : (cells.map V.int)[a.toNat]? = some (V.int x) := by rw [List.getElem?_map, hx]; rfl
          have ea : ((a.toNat : Nat) : Int) = a := by omega
          refine ⟨_, rfl, p, _, rfl, pg_cells p1, _, rfl, p, _, rfl, pg_at p1, .inl ⟨_, _, _, _, rfl, rfl, .inl c1, by rw [← ea]; exact atI_nat hx', ?_⟩⟩
          refine ⟨_, rfl, p, _, rfl, pg_at p1, _, _, rfl, rfl, _, rfl, p, _, rfl, pp_at p1, ?_⟩
          have b2 : But p H (upd H1 p (.dK (penKV c (a + 1) d (cn + 1) f))) := b1.trans rd_but
          have c2 := rd_upd (o := .dK (penKV c (a + 1) d (cn + 1) f)) p1 c1
          have p2 : (upd H1 p (.dK (penKV c (a + 1) d (cn + 1) f))) p = some (.dK (penKV c (a + 1) d (cn + 1) f)) := upd_same
          generalize upd H1 p (.dK (penKV c (a + 1) d (cn + 1) f)) = H2 at b2 c2 p2
          refine ⟨_, rfl, _, _, rfl, rfl, ⟨by decide, by decide, by decide⟩, _, _, rfl, rfl, _, rfl, ?_⟩
          refine ite2 (fun hg => ?_) (fun hg => ?_)
          · refine ⟨_, rfl, _, _, rfl, rfl, ⟨by decide, by decide, by decide⟩, _, _, rfl, rfl, _, rfl, p, _, rfl, pp_dig p2, ?_⟩
            exact ⟨a + 1, _, f, _, rfl, by omega, by have := of_decide_eq_true hg; omega, f0, f1, upd_same, rd_upd p2 c2, b2.trans rd_but⟩
          · refine ⟨_, rfl, p, _, rfl, pg_fold p2, _, _, rfl, rfl, .inl ⟨by omega, by omega⟩, _, rfl, _, _, rfl, rfl, .inl ⟨_, rfl, _, _, rfl, rfl, (by show (0 : Int) < 2147483269; decide), _, rfl, p, _, rfl, pp_fold p2, ?_⟩⟩
            exact ⟨a + 1, d, _, _, rfl, by omega, d0, Int.emod_nonneg _ (by decide), Int.lt_trans (Int.emod_lt_of_pos _ (by decide)) (by decide), upd_same, rd_upd p2 c2, b2.trans rd_but⟩
        · exact ⟨a, d, f, _, rfl, a0, d0, f0, f1, p1, c1, b1⟩
      · exact ⟨a, d, f, _, rfl, a0, d0, f0, f1, p1, c1, b1⟩
    · rintro σ' H' ⟨a', d', f', o, rfl, a0, d0, f0, f1, p1, c1, b1⟩
      refine ⟨_, rfl, p, _, rfl, pg_dig p1, _, _, rfl, rfl, _, rfl, ?_⟩
      refine ite2 (fun hg => ?_) (fun hg => ?_)
      · -- a digit
        refine ⟨_, rfl, p, _, rfl, pg_dig p1, .inl ⟨_, rfl, _, rfl, _, _, rfl, rfl, m0, ?_⟩⟩
        refine ⟨_, rfl, p, _, rfl, pg_dig p1, _, rfl, _, _, rfl, rfl, ⟨m0, by omega⟩, _, rfl, p, _, rfl, pp_dig p1, ?_⟩
        refine ⟨_, rfl, ?_⟩
        exact k _ _ (Int.emod_nonneg _ (by omega)) (Int.emod_lt_of_pos _ m0) (b1.trans rd_but) ⟨cells, a', _, cn + 1, f', upd_same, rd_upd p1 c1, a0, Int.ediv_nonneg d0 (by omega), by omega, by omega, f0, f1⟩
      · -- the mix
        refine ⟨_, rfl, p, _, rfl, pg_fold p1, _, rfl, p, _, rfl, pg_cnt p1, _, _, rfl, rfl, .inr ⟨by decide, by decide⟩, _, _, rfl, rfl, _, _, rfl, rfl, ?_⟩
        refine ⟨_, rfl, _, _, rfl, rfl, ⟨by decide, by decide, by omega⟩, _, _, rfl, rfl, (by show (0 : Int) < 2305843009213693951; decide), .inl ⟨_, rfl, _, _, rfl, rfl, ⟨by decide, by decide⟩, _, rfl, _, _, rfl, rfl, m0, ?_⟩⟩
        exact k _ _ (Int.emod_nonneg _ (by omega)) (Int.emod_lt_of_pos _ m0) b1 ⟨cells, a', d', cn + 1, f', p1, c1, a0, d0, by omega, by omega, f0, f1⟩
end
end Ag

set_option Elab.async false
set_option linter.all false
set_option maxRecDepth 100000
set_option maxHeartbeats 1000000
set_option exponentiation.threshold 2000
namespace Ag
open PySem PySem.Spec PyProof.Rows L2
theorem atI_int {α : Type} {xs : List α} {i : Int} {v : α} (h0 : 0 ≤ i) (h : xs[i.toNat]? = some v) : atI xs i = some v := by
  obtain ⟨k, rfl⟩ : ∃ k : Nat, i = k := ⟨i.toNat, by omega⟩
  exact atI_nat h

/-! ### names, as texts -/
abbrev S (l : List Nat) : Str := SX.S l
def Digs (i : Nat) : List Nat := (Str.ofString (toString (i : Int))).cps.toList
theorem digs_ok : ∀ i, i < 32 → 1 ≤ (Digs i).length ∧ (Digs i).length ≤ 2 ∧ ∀ c ∈ Digs i, 48 ≤ c ∧ c ≤ 57 := by decide +kernel
theorem digs_inj : ∀ i, i < 32 → ∀ j, j < 32 → Digs i = Digs j → i = j := by decide +kernel
def Nm (i : Nat) (s : Str) : Prop := ∃ a b : List Nat, s = S (a ++ Digs i ++ b) ∧ 1 ≤ a.length ∧ a.length + b.length ≤ 8 ∧ ∀ c ∈ a ++ b, 97 ≤ c ∧ c ≤ 122
theorem nm_filter {i : Nat} {a b : List Nat} (hi : i < 32) (h : ∀ c ∈ a ++ b, 97 ≤ c ∧ c ≤ 122) : (a ++ Digs i ++ b).filter (fun c => decide (c ≤ 57)) = Digs i := by
  have ha : a.filter (fun c => decide (c ≤ 57)) = [] := List.filter_eq_nil_iff.mpr fun c hc => by have := h c (List.mem_append_left _ hc); simp; omega
  have hb : b.filter (fun c => decide (c ≤ 57)) = [] := List.filter_eq_nil_iff.mpr fun c hc => by have := h c (List.mem_append_right _ hc); simp; omega
  have hd : (Digs i).filter (fun c => decide (c ≤ 57)) = Digs i := List.filter_eq_self.mpr fun c hc => by have := (digs_ok i hi).2.2 c hc; simp; omega
  rw [List.filter_append, List.filter_append, ha, hb, hd]; simp
theorem nm_inj {i j : Nat} {s : Str} (hi : i < 32) (hj : j < 32) (h1 : Nm i s) (h2 : Nm j s) : i = j := by
  obtain ⟨a, b, e1, _, _, h⟩ := h1
  obtain ⟨a', b', e2, _, _, h'⟩ := h2
  have e : a ++ Digs i ++ b = a' ++ Digs j ++ b' := SX.S_inj (e1.symm.trans e2)
  have q := congrArg (List.filter (fun c => decide (c ≤ 57))) e
  rw [nm_filter hi h, nm_filter hj h'] at q
  exact digs_inj i hi j hj q
/-- the names of the indices below m, in some order -/
def Nms (m : Nat) (ns : List Str) : Prop := ∃ ms : List Str, ms.length = m ∧ (∀ j s, ms[j]? = some s → Nm j s) ∧ ns.Perm ms
theorem nms_nodup {m : Nat} {ns : List Str} (hm : m ≤ 32) (h : Nms m ns) : ns.Nodup := by
  obtain ⟨ms, hl, hn, hp⟩ := h
  refine hp.nodup_iff.mpr (List.nodup_iff_pairwise_ne.mpr (List.pairwise_iff_getElem.mpr fun i j hi hj hij e => ?_))
  have h1 := hn i _ (List.getElem?_eq_getElem hi)
  have h2 := hn j _ (List.getElem?_eq_getElem hj)
  rw [e] at h1
  have := nm_inj (by omega) (by omega) h1 h2
  omega
theorem nms_mem {m : Nat} {ns : List Str} (h : Nms m ns) {s : Str} (hs : s ∈ ns) : ∃ j, j < m ∧ Nm j s := by
  obtain ⟨ms, hl, hn, hp⟩ := h
  obtain ⟨j, hj, e⟩ := List.getElem_of_mem (hp.mem_iff.mp hs)
  exact ⟨j, by omega, hn j s (by rw [List.getElem?_eq_getElem hj, e])⟩
theorem nms_len {m : Nat} {ns : List Str} (h : Nms m ns) : ns.length = m := by
  obtain ⟨ms, hl, hn, hp⟩ := h; rw [hp.length_eq, hl]
theorem cut_take (l : List Nat) (k : Nat) (h : k ≤ l.length) : cutS (S l) none (some (k : Int)) = S (l.take k) := by
  unfold cutS
  rw [HT.sIx_none, HT.sIx_nat, SX.S_len, Nat.min_eq_left h]
  simp [SX.S]
theorem cut_drop (l : List Nat) (k : Nat) (h : k ≤ l.length) : cutS (S l) (some (k : Int)) none = S (l.drop k) := by
  unfold cutS
  rw [HT.sIx_none, HT.sIx_nat, SX.S_len, Nat.min_eq_left h]
  have e : (l.drop k).take (l.length - k) = l.drop k := List.take_of_length_le (by rw [List.length_drop]; exact Nat.le_refl _)
  simp [SX.S, e]
theorem cut_takeI (l : List Nat) (k : Int) (h0 : 0 ≤ k) (h : k ≤ l.length) : cutS (S l) none (some k) = S (l.take k.toNat) := by
  obtain ⟨j, rfl⟩ : ∃ j : Nat, k = j := ⟨k.toNat, by omega⟩
  exact cut_take l j (by omega)
theorem cut_dropI (l : List Nat) (k : Int) (h0 : 0 ≤ k) (h : k ≤ l.length) : cutS (S l) (some k) none = S (l.drop k.toNat) := by
  obtain ⟨j, rfl⟩ : ∃ j : Nat, k = j := ⟨k.toNat, by omega⟩
  exact cut_drop l j (by omega)
theorem letters_at : ∀ d, d < 26 → ("abcdefghijklmnopqrstuvwxyz" : Str).cps.toList[d]? = some (97 + d) := by decide +kernel
theorem S_one (c : Nat) : (⟨#[c]⟩ : Str) = S [c] := rfl
theorem letters_short : ("abcdefghijklmnopqrstuvwxyz" : Str).length ≤ sizeLine := by decide +kernel

/-! ### promises -/
def spPick (K : PySem.W.Frag) : Sp := fun vs H Q _ => ∃ (p c a : Addr) (xs : List V) (n : Nat), vs = [.ref p, .ref a] ∧ Pen p c n H ∧ (SqL K H a xs ∨ SqT K H a xs) ∧ 0 < xs.length ∧ xs.length < 100000 ∧ n < 1000000000000 ∧
  ∀ (i : Nat) v H', xs[i]? = some v → But p H H' → Pen p c (n + 1) H' → Q v H'
def spShuf (K : PySem.W.Frag) : Sp := fun vs H Q _ => ∃ (p c a : Addr) (xs : List V) (n : Nat), vs = [.ref p, .ref a] ∧ Pen p c n H ∧ (SqL K H a xs ∨ SqT K H a xs) ∧ xs.length < 100000 ∧ n + 100000 < 1000000000000 ∧
  ∀ (l : Addr) (ys : List V) H', ys.Perm xs → H l = none → H' l = some (.lst ys) → But p H H' → Pen p c (n + xs.length) H' → Q (.ref l) H'
def spName : Sp := fun vs H Q _ => ∃ (p c : Addr) (i n : Nat), vs = [.ref p, .int (i : Int)] ∧ Pen p c n H ∧ i < 32 ∧ n + 100000 < 1000000000000 ∧
  ∀ (s : Str) H', Nm i s → But p H H' → Pen p c (n + 10) H' → Q (.str s) H'
def spNames (K : PySem.W.Frag) : Sp := fun vs H Q _ => ∃ (p c : Addr) (m n : Nat), vs = [.ref p, .int (m : Int)] ∧ Pen p c n H ∧ m ≤ 31 ∧ n + 200000 < 1000000000000 ∧
  ∀ (l : Addr) (ns : List Str) H', Nms m ns → H l = none → H' l = some (.lst (ns.map V.str)) → But p H H' → Pen p c (n + 400) H' → Q (.ref l) H'
/-- tuple(sorted(names)) -/
def spCalls (K : PySem.W.Frag) : Sp := fun vs H Q _ => ∃ (p c : Addr) (m n : Nat), vs = [.ref p, .int (m : Int)] ∧ Pen p c n H ∧ m ≤ 31 ∧ n + 200000 < 1000000000000 ∧
  ∀ (l : Addr) (ns : List Str) H', Nms m ns → sortedS ns = true → FzT H' l (ns.map V.str) → But p H H' → Pen p c (n + 400) H' → Q (.ref l) H'

theorem seq_at {n : Nat} {i : Int} (h0 : 0 ≤ i) (h1 : i < n) : seqIndex? i n = some i.toNat := (ixN_seq (by unfold ixN; rw [if_pos h0, if_pos h1])).1

section
variable {P : Program} {w : World} {K : PySem.W.Frag} {mg : Str → Option Value} {base : Heap} (T : Txt w K mg)
theorem ok_pick : FnOk P w K mg base CX0 2 T.a_law_pick T.d_law_pick ["pen", "some"] (spPick K) := by
  have G_law_draw := ok_draw (P := P) (base := base) T
  refine T.D_law_pick.fn.ok sc_law_pick (fun vs H Q E h => ?_) (fun cdv A outer s H vs Q E hr h => ?_)
  · obtain ⟨p, c, a, xs, n, rfl, _⟩ := h; rfl
  · obtain ⟨p, c, a, xs, n, rfl, hP, hs, x0, x1, n1, k⟩ := h
    refine ⟨_, (pss_one (ps_ret (pe_ix ix_seq (pv 1) (pe_call (G_law_draw) (hr.mono (by omega)) (by rfl) T.D_law_draw.mg T.D_law_draw.fn.kp T.D_law_draw.bd .nil pass0 (pa_cons (pv 0) (pa_cons (pe_callB call_len (by rfl) T.b_len bt_len (pa_cons (pv 1) pa_nil)) pa_nil))) (fun _ _ => rfl)))), ?_⟩
    have hl : LenV K (.ref a) H xs.length := hs.elim (fun z => .inl ⟨_, z, rfl⟩) fun z => .inr ⟨_, z, rfl⟩
    refine ⟨_, rfl, _, rfl, _, rfl, _, _, rfl, hl, p, c, _, n, rfl, hP, by omega, by omega, n1, fun d H1 d0 d1 b1 P1 => ?_⟩
    have hd : d.toNat < xs.length := by omega
    have ed : ((d.toNat : Nat) : Int) = d := by omega
    have hx : xs[d.toNat]? = some xs[d.toNat] := List.getElem?_eq_getElem hd
    rcases hs with hs | hs
    · exact .inl ⟨_, _, _, _, rfl, rfl, hP.sl b1 hs, atI_int d0 hx, k _ _ _ hx b1 P1⟩
    · exact .inr (.inl ⟨_, _, _, _, rfl, rfl, hP.st b1 hs, atI_int d0 hx, k _ _ _ hx b1 P1⟩)

theorem ok_shuf : FnOk P w K mg base CX0 2 T.a_law_shuffled T.d_law_shuffled ["pen", "some"] (spShuf K) := by
  have G_law_draw := ok_draw (P := P) (base := base) T
  refine T.D_law_shuffled.fn.ok sc_law_shuffled (fun vs H Q E h => ?_) (fun cdv A outer s H vs Q E hr h => ?_)
  · obtain ⟨p, c, a, xs, n, rfl, _⟩ := h; rfl
  · obtain ⟨p, c, a, xs, n, rfl, hP, hs, x1, n1, k⟩ := h
    refine ⟨_, (pss_cons (ps_par (i := 2) (j := 3) (by rfl) sc_law_shuffled.nd rfl rfl (by decide) rfl rfl (pa_cons (pe_callTy call_list_of (by rfl) T.b_list bt_list (pa_cons (pv 1) pa_nil)) (pa_cons (pe_lst pa_nil) pa_nil)) (by rfl))
      (pss_cons (ps_for PassesOwn.never rfl (pi_range1 (by rfl) T.b_range (pa_cons (pe_callB call_len (by rfl) T.b_len bt_len (pa_cons (pv 1) pa_nil)) pa_nil)) (pg_name (i := 4) sc_law_shuffled.nd rfl (by first | exact Or.inl rfl | exact Or.inr rfl)) (pss_one (ps_expr (pe_bm PySem.F.plainAttrs_list PySem.F.slot_list_append PySem.F.type_list_append mt_append (pv 3) (pa_cons (pe_bm PySem.F.plainAttrs_list PySem.F.slot_list_pop PySem.F.type_list_pop mt_popAt (pv 2) (pa_cons (pe_call (G_law_draw) (hr.mono (by omega)) (by rfl) T.D_law_draw.mg T.D_law_draw.fn.kp T.D_law_draw.bd .nil pass0 (pa_cons (pv 0) (pa_cons (pe_callB call_len (by rfl) T.b_len bt_len (pa_cons (pv 2) pa_nil)) pa_nil))) pa_nil)) pa_nil)))))
      (pss_one (ps_ret (pv 3))))), ?_⟩
    refine ⟨_, rfl, _, _, rfl, hs, fun l1 hl1 => ⟨Nat.zero_le _, fun l2 hl2 => ⟨_, _, rfl, ?_⟩⟩⟩
    have n12 : l1 ≠ l2 := fun z => by rw [z, upd_same] at hl2; cases hl2
    have hl2' : H l2 = none := by rw [upd_ne (Ne.symm n12)] at hl2; exact hl2
    have s1 : Same H (upd (upd H l1 (.lst xs)) l2 (.lst [])) := (Same.newA hl1).trans (Same.newA hl2)
    have e1 : (upd (upd H l1 (.lst xs)) l2 (.lst [])) l1 = some (.lst xs) := by rw [upd_ne n12]; exact upd_same
    have e2 : (upd (upd H l1 (.lst xs)) l2 (.lst [])) l2 = some (.lst []) := upd_same
    generalize upd (upd H l1 (.lst xs)) l2 (.lst []) = H1 at s1 e1 e2
    have hs1 : SqL K H1 a xs ∨ SqT K H1 a xs := hs.imp s1.slA s1.stA
    have hl : LenV K (.ref a) H1 xs.length := hs1.elim (fun z => .inl ⟨_, z, rfl⟩) fun z => .inr ⟨_, z, rfl⟩
    refine ⟨_, rfl, _, _, rfl, hl, _, rfl, by omega, by omega, for_range (n := xs.length) (fun i σ' H' => ∃ (ls fs : List V) (o : Option V), σ' = [some (.ref p), some (.ref a), some (.ref l1), some (.ref l2), o] ∧
      H' l1 = some (.lst ls) ∧ H' l2 = some (.lst fs) ∧ fs.length = i ∧ (fs ++ ls).Perm xs ∧ But p H H' ∧ Pen p c (n + i) H') ⟨xs, [], none, rfl, e1, e2, rfl, .refl _, .of s1, hP.same s1⟩ ?_ ?_⟩
    · rintro i σ' H' hi ⟨ls, fs, o, rfl, f1, f2, fl, pm, b1, P1⟩
      have tot := pm.length_eq
      rw [List.length_append] at tot
      refine ⟨_, rfl, .inl ⟨rfl, _, SqL.of f2⟩, _, rfl, .inl ⟨rfl, _, SqL.of f1⟩, _, rfl, _, rfl, _, _, rfl, .inl ⟨_, SqL.of f1, rfl⟩, p, c, _, n + i, rfl, P1, by omega, by omega, by omega, fun d H2 d0 d1 b2 P2 => ?_⟩
      have g1 : H2 l1 = some (.lst ls) := b2 _ _ (P1.ne f1 (fun _ z => nomatch z)) f1
      have g2 : H2 l2 = some (.lst fs) := b2 _ _ (P1.ne f2 (fun _ z => nomatch z)) f2
      have hd : d.toNat < ls.length := by omega
      refine ⟨_, _, _, _, _, rfl, rfl, g1, by omega, by omega, seq_at d0 (by omega), List.getElem?_eq_getElem hd, ?_⟩
      refine ⟨_, _, _, rfl, rfl, by rw [upd_ne (Ne.symm n12)]; exact g2, by rw [fl]; exact lt5 (by omega), ?_⟩
      refine ⟨ls.eraseIdx d.toNat, fs ++ [ls[d.toNat]], some (.int (0 + (i : Int))), rfl, ?_, upd_same, by rw [List.length_append, fl]; rfl, ?_, ?_, ?_⟩
      · rw [upd_ne n12]; exact upd_same
      · refine List.Perm.trans ?_ pm
        rw [List.append_assoc]
        exact List.Perm.append_left fs (erase_perm _ _ _ (List.getElem?_eq_getElem hd))
      · intro b u nb e
        rw [upd_ne (ne_of_none e hl2'), upd_ne (ne_of_none e hl1)]
        exact b2 _ _ nb (b1 _ _ nb e)
      · exact (P2.upd (hP.ne_p hl1) (hP.ne_c hl1)).upd (hP.ne_p hl2') (hP.ne_c hl2')
    · rintro σ' H' ⟨ls, fs, o, rfl, f1, f2, fl, pm, b1, P1⟩
      have tot := pm.length_eq
      rw [List.length_append] at tot
      have : ls = [] := List.length_eq_zero_iff.mp (by omega)
      subst this
      rw [List.append_nil] at pm
      exact ⟨_, rfl, k _ _ _ pm hl2' f2 b1 P1⟩

theorem ok_name : FnOk P w K mg base CX0 2 T.a_law_name T.d_law_name ["pen", "index"] spName := by
  have G_law_draw := ok_draw (P := P) (base := base) T
  refine T.D_law_name.fn.ok sc_law_name (fun vs H Q E h => ?_) (fun cdv A outer s H vs Q E hr h => ?_)
  · obtain ⟨p, c, i, n, rfl, _⟩ := h; rfl
  · obtain ⟨p, c, ix, n, rfl, hP, hi, n1, k⟩ := h
    refine ⟨_, (pss_cons (ps_set (i := 2) sc_law_name.nd rfl (by first | exact Or.inl rfl | exact Or.inr rfl) pe_str)
      (pss_cons (ps_for PassesOwn.never rfl (pi_range1 (by rfl) T.b_range (pa_cons (pe_op op_add pe_int (pe_call (G_law_draw) (hr.mono (by omega)) (by rfl) T.D_law_draw.mg T.D_law_draw.fn.kp T.D_law_draw.bd .nil pass0 (pa_cons (pv 0) (pa_cons pe_int pa_nil)))) pa_nil)) (pg_name (i := 3) sc_law_name.nd rfl (by first | exact Or.inl rfl | exact Or.inr rfl)) (pss_one (ps_set (i := 2) sc_law_name.nd rfl (by first | exact Or.inl rfl | exact Or.inr rfl) (pe_op op_add_str (pv 2) (pe_ix ix_seq pe_str (pe_call (G_law_draw) (hr.mono (by omega)) (by rfl) T.D_law_draw.mg T.D_law_draw.fn.kp T.D_law_draw.bd .nil pass0 (pa_cons (pv 0) (pa_cons pe_int pa_nil))) (fun _ _ => rfl))))))
      (pss_cons (ps_set (i := 4) sc_law_name.nd rfl (by first | exact Or.inl rfl | exact Or.inr rfl) (pe_op op_add pe_int (pe_call (G_law_draw) (hr.mono (by omega)) (by rfl) T.D_law_draw.mg T.D_law_draw.fn.kp T.D_law_draw.bd .nil pass0 (pa_cons (pv 0) (pa_cons (pe_callB call_len (by rfl) T.b_len bt_len (pa_cons (pv 2) pa_nil)) pa_nil)))))
      (pss_one (ps_ret (pe_op op_add_str (pe_op op_add_str (pe_slice sl_str (pv 2) po_none (po_some (pv 4))) (pe_callTy call_str_int (by rfl) T.b_str bt_str (pa_cons (pv 1) pa_nil))) (pe_slice sl_str (pv 2) (po_some (pv 4)) po_none))))))), ?_⟩
    refine ⟨_, rfl, p, c, 8, n, rfl, hP, by decide, by decide, by omega, fun d H1 d0 d1 b1 P1 => ?_⟩
    refine ⟨_, _, rfl, rfl, _, rfl, by omega, by omega, for_range (n := (1 + d).toNat) (fun i σ' H' => ∃ (cs : List Nat) (o : Option V), σ' = [some (.ref p), some (.int (ix : Int)), some (.str (S cs)), o, none] ∧
      cs.length = i ∧ (∀ x ∈ cs, 97 ≤ x ∧ x ≤ 122) ∧ But p H H' ∧ Pen p c (n + 1 + i) H') ⟨[], none, rfl, rfl, (fun x hx => by cases hx), b1, P1⟩ ?_ ?_⟩
    · rintro i σ' H' hi ⟨cs, o, rfl, hc, hx, b2, P2⟩
      refine ⟨_, rfl, _, rfl, p, c, 26, _, rfl, P2, by decide, by decide, by omega, fun d2 H2 e0 e1 b3 P3 => ?_⟩
      have ed : ((d2.toNat : Nat) : Int) = d2 := by omega
      refine .inr (.inr ⟨_, _, _, rfl, rfl, letters_short, atI_int e0 (letters_at d2.toNat (by omega)), ?_⟩)
      refine ⟨_, _, rfl, rfl, ?_, ?_⟩
      · rw [SX.S_len]; refine small5 ?_
        show cs.length + 1 ≤ _
        omega
      · refine ⟨cs ++ [97 + d2.toNat], some (.int (0 + (i : Int))), ?_, by rw [List.length_append, hc]; rfl, fun x hx' => ?_, b2.trans b3, P3⟩
        · rw [S_one, SX.S_cat]; rfl
        · rcases List.mem_append.mp hx' with h | h
          · exact hx x h
          · rw [List.mem_singleton.mp h]; omega
    · rintro σ' H' ⟨cs, o, rfl, hc, hx, b2, P2⟩
      refine ⟨_, rfl, _, rfl, _, _, rfl, ⟨by rw [SX.S_len]; exact small5 (by omega), rfl⟩, p, c, _, _, rfl, P2, by rw [SX.S_len]; omega, by rw [SX.S_len]; omega, by omega, fun d2 H2 e0 e1 b3 P3 => ?_⟩
      rw [SX.S_len] at e1
      have lc : cs.length = (1 + d).toNat := hc
      have ct := cut_takeI cs (1 + d2) (by omega) (by omega)
      have cd := cut_dropI cs (1 + d2) (by omega) (by omega)
      have lg : (ix : Int).natAbs.log2 < 1920 := by
        have : (ix : Int).natAbs < 2 ^ 1920 := Nat.lt_of_lt_of_le (by omega : (ix : Int).natAbs < 32) (by decide)
        by_cases z : (ix : Int).natAbs = 0
        · rw [z]; decide
        · exact (Nat.log2_lt z).mpr this
      have eS : cutS (S cs) none (some (1 + d2)) ++ Str.ofString (toString (ix : Int)) ++ cutS (S cs) (some (1 + d2)) none = S (cs.take (1 + d2).toNat ++ Digs ix ++ cs.drop (1 + d2).toNat) := by
        rw [ct, cd, ← SX.S_tl (Str.ofString (toString (ix : Int))), SX.S_cat, SX.S_cat]; rfl
      have l1 : (cutS (S cs) none (some (1 + d2))).length + (Str.ofString (toString (ix : Int))).length ≤ 100000 := by
        rw [ct, SX.S_len, List.length_take, ← SX.S_tl (Str.ofString (toString (ix : Int))), SX.S_len]
        have := (digs_ok ix hi).2.1
        show _ + (Digs ix).length ≤ _
        omega
      have l2 : (cutS (S cs) none (some (1 + d2)) ++ Str.ofString (toString (ix : Int))).length + (cutS (S cs) (some (1 + d2)) none).length ≤ 100000 := by
        rw [ct, cd, ← SX.S_tl (Str.ofString (toString (ix : Int))), SX.S_cat, SX.S_len, SX.S_len, List.length_append, List.length_take, List.length_drop]
        have := (digs_ok ix hi).2.1
        show _ + (Digs ix).length + _ ≤ _
        omega
      refine ⟨_, _, rfl, rfl, _, rfl, _, rfl, _, rfl, _, rfl, by rw [SX.S_len]; exact small5 (by omega), _, rfl, _, rfl, lg, _, _, rfl, rfl, small5 l1, ?_⟩
      refine ⟨_, rfl, _, rfl, _, rfl, _, rfl, by rw [SX.S_len]; exact small5 (by omega), _, _, rfl, rfl, small5 l2, ?_⟩
      refine k _ _ ⟨cs.take (1 + d2).toNat, cs.drop (1 + d2).toNat, eS, ?_, ?_, fun x h => hx x ?_⟩ (b2.trans b3) (P3.more (by omega))
      · rw [List.length_take]; omega
      · rw [List.length_take, List.length_drop]; omega
      · rw [List.take_append_drop] at h; exact h
end
end Ag

set_option Elab.async false
set_option linter.all false
set_option maxRecDepth 100000
set_option maxHeartbeats 1000000
namespace Ag
open PySem PySem.Spec PyProof.Rows L2
theorem vstr_perm {ys : List V} {ms : List Str} (h : ys.Perm (ms.map V.str)) : ∃ ns : List Str, ns.Perm ms ∧ ys = ns.map V.str := by
  have hm : ∀ y ∈ ys, ∃ s, y = V.str s := fun y hy => by
    obtain ⟨s, _, e⟩ := List.mem_map.mp (h.mem_iff.mp hy); exact ⟨s, e.symm⟩
  let f : V → Str := fun v => match v with | .str s => s | _ => Str.empty
  refine ⟨ys.map f, ?_, ?_⟩
  · have := h.map f
    rw [List.map_map] at this
    have e : ms.map (f ∘ V.str) = ms := by
      have q : ms.map (f ∘ V.str) = ms.map id := List.map_congr_left fun s _ => rfl
      rw [q, List.map_id]
    rw [e] at this; exact this
  · rw [List.map_map]
    have e : ys.map (V.str ∘ f) = ys.map id := List.map_congr_left fun y hy => by
      obtain ⟨s, rfl⟩ := hm y hy; rfl
    rw [e, List.map_id]
section
variable {P : Program} {w : World} {K : PySem.W.Frag} {mg : Str → Option Value} {base : Heap} (T : Txt w K mg)
theorem ok_names : FnOk P w K mg base CX0 3 T.a_law_names T.d_law_names ["pen", "many"] (spNames K) := by
  have G_law_name := ok_name (P := P) (base := base) T
  have G_law_shuffled := ok_shuf (P := P) (base := base) T
  refine T.D_law_names.fn.ok sc_law_names (fun vs H Q E h => ?_) (fun cdv A outer s H vs Q E hr h => ?_)
  · obtain ⟨p, c, m, n, rfl, _⟩ := h; rfl
  · obtain ⟨p, c, m, n, rfl, hP, m31, n1, k⟩ := h
    refine ⟨_, (pss_one (ps_ret (pe_call (G_law_shuffled) (hr.mono (by omega)) (by rfl) T.D_law_shuffled.mg T.D_law_shuffled.fn.kp T.D_law_shuffled.bd .nil pass0 (pa_cons (pv 0) (pa_cons (pe_lc (own := [("index", 2)]) rfl sc_law_names.nd (pi_range1 (by rfl) T.b_range (pa_cons (pv 1) pa_nil)) (blkOk_by (own := [("index", 2)]) (N := ["pen", "many", "index"]) (sc := defScope s_law_names) (by decide +kernel)) (fun _ _ _ _ _ => (pg_name (i := 2) sc_law_names.nd rfl (by first | exact Or.inl rfl | exact Or.inr rfl))) (fun _ _ _ _ _ => pts_nil) (fun _ _ _ _ _ => (pe_call (G_law_name) (hr.mono (by omega)) (by rfl) T.D_law_name.mg T.D_law_name.fn.kp T.D_law_name.bd .nil pass0 (pa_cons (pv 0) (pa_cons (pv 2) pa_nil))))) pa_nil))))), ?_⟩
    refine ⟨_, rfl, _, rfl, _, rfl, by omega, by omega, fun D hD => lc_range (lo := 0) (n := m) (fun i H' => ∃ ms : List Str, H' D = some (.lst (ms.map V.str)) ∧ ms.length = i ∧ (∀ j s, ms[j]? = some s → Nm j s) ∧ But p H H' ∧ Pen p c (n + 10 * i) H')
      ⟨[], upd_same, rfl, fun j s e => by simp at e, .of (Same.newA hD), hP.upd (hP.ne_p hD) (hP.ne_c hD)⟩ ?_ ?_⟩
    · rintro i H' hi ⟨ms, e1, ml, hm, b1, P1⟩
      refine ⟨rfl, ?_⟩
      refine ⟨_, rfl, _, rfl, p, c, i, n + 10 * i, ?_, P1, by omega, by omega, fun s H2 hs b2 P2 => ?_⟩
      · show [V.ref p, V.int (0 + (i : Int))] ++ [] = _
        rw [Int.zero_add]; rfl
      have e2 : H2 D = some (.lst (ms.map V.str)) := b2 _ _ (hP.ne_p hD) e1
      refine ⟨_, e2, lt5 (by rw [List.length_map]; omega), ms ++ [s], ?_, by rw [List.length_append, ml]; rfl, fun j t e => ?_, ?_, ?_⟩
      · rw [List.map_append]; exact upd_same
      · rw [List.getElem?_append] at e
        split at e
        · exact hm j t e
        · have : j - ms.length = 0 := by
            cases z : j - ms.length with
            | zero => rfl
            | succ q => rw [z] at e; simp at e
          rw [this] at e
          have ej : j = i := by omega
          simp at e
          rw [← e, ej]; exact hs
      · intro b u nb e
        rw [upd_ne (ne_of_none e hD)]
        exact b2 _ _ nb (b1 _ _ nb e)
      · exact (P2.more (by omega)).upd (hP.ne_p hD) (hP.ne_c hD)
    · rintro H' ⟨ms, e1, ml, hm, b1, P1⟩
      refine ⟨p, c, D, ms.map V.str, _, rfl, P1, .inl (SqL.of e1), by rw [List.length_map]; omega, by omega, fun l ys H2 pm hl e2 b2 P2 => ?_⟩
      obtain ⟨ns, pn, rfl⟩ := vstr_perm pm
      exact k l ns H2 ⟨ms, ml, hm, pn⟩ (b1.free hl (P1.ne_p hl)) e2 (b1.trans b2) (P2.more (by rw [List.length_map, ml]; omega))
end
end Ag

set_option Elab.async false
set_option linter.all false
set_option maxRecDepth 100000
set_option maxHeartbeats 1000000
namespace Ag
open PySem PySem.Spec PyProof.Rows L2

/-! ### good data -/
mutual
def gd : PyData → Bool
  | .none | .bool _ | .int _ => true
  | .str x => x.cps.all (· < 0x110000) && decide (x.length ≤ 1000)
  | .list xs => gds xs && decide (xs.length ≤ 1000)
  | .tuple xs => gds xs && decide (xs.length ≤ 1000)
  | .dict _ => false
def gds : List PyData → Bool
  | [] => true
  | x :: xs => gd x && gds xs
end
theorem gds_all : ∀ {xs : List PyData}, gds xs = true → ∀ x ∈ xs, gd x = true
  | [], _, _, h => by cases h
  | x :: xs, h, y, hy => by
    simp only [gds, Bool.and_eq_true] at h
    rcases List.mem_cons.mp hy with rfl | hy
    · exact h.1
    · exact gds_all h.2 y hy
theorem gds_of : ∀ {xs : List PyData}, (∀ x ∈ xs, gd x = true) → gds xs = true
  | [], _ => by simp [gds]
  | x :: xs, h => by
    simp only [gds, Bool.and_eq_true]
    exact ⟨h x List.mem_cons_self, gds_of fun y hy => h y (List.mem_cons_of_mem _ hy)⟩
mutual
theorem gd_lay : ∀ {d : PyData}, gd d = true → d.canLay0 = true
  | .none, _ => by simp [PyData.canLay0]
  | .bool _, _ => by simp [PyData.canLay0]
  | .int _, _ => by simp [PyData.canLay0]
  | .str x, h => by
    simp only [gd, Bool.and_eq_true] at h
    simp only [PyData.canLay0]; exact h.1
  | .list xs, h => by
    simp only [gd, Bool.and_eq_true] at h
    simp only [PyData.canLay0]; exact gds_lay h.1
  | .tuple xs, h => by
    simp only [gd, Bool.and_eq_true] at h
    simp only [PyData.canLay0]; exact gds_lay h.1
  | .dict _, h => by simp [gd] at h
theorem gds_lay : ∀ {ds : List PyData}, gds ds = true → PyData.canLayAll0 ds = true
  | [], _ => by simp [PyData.canLayAll0]
  | x :: xs, h => by
    simp only [gds, Bool.and_eq_true] at h
    simp only [PyData.canLayAll0, Bool.and_eq_true]
    exact ⟨gd_lay h.1, gds_lay h.2⟩
end

/-! ### names -/
def letter (c : Nat) : Bool := decide (97 ≤ c ∧ c ≤ 122)
def figure (c : Nat) : Bool := decide (48 ≤ c ∧ c ≤ 57)
theorem letters_list : ("abcdefghijklmnopqrstuvwxyz" : Str).cps.toList = List.range' 97 26 := by decide +kernel
theorem figures_list : ("0123456789" : Str).cps.toList = List.range' 48 10 := by decide +kernel
theorem both_list : ("abcdefghijklmnopqrstuvwxyz0123456789" : Str).cps.toList = List.range' 97 26 ++ List.range' 48 10 := by decide +kernel
theorem mem_letters (c : Nat) : decide (c ∈ ("abcdefghijklmnopqrstuvwxyz" : Str).cps.toList) = letter c := by
  rw [letters_list]; unfold letter; congr 1; rw [List.mem_range'_1]; apply propext; omega
theorem mem_figures (c : Nat) : decide (c ∈ ("0123456789" : Str).cps.toList) = figure c := by
  rw [figures_list]; unfold figure; congr 1; rw [List.mem_range'_1]; apply propext; omega
theorem mem_both (c : Nat) : decide (c ∈ ("abcdefghijklmnopqrstuvwxyz0123456789" : Str).cps.toList) = (letter c || figure c) := by
  rw [both_list, ← mem_letters, ← mem_figures, letters_list, figures_list]
  by_cases h1 : c ∈ List.range' 97 26 <;> by_cases h2 : c ∈ List.range' 48 10 <;> simp [h1, h2]
def nameB (s : Str) : Bool := decide (1 ≤ (s.length : Int)) && decide ((s.length : Int) ≤ 12) && (match s.cps.toList with | [] => false | c :: _ => letter c) && s.cps.toList.all fun c => letter c || figure c
def isName : PyData → Bool | .str s => nameB s | _ => false
theorem nm_name {i : Nat} {s : Str} (hi : i < 32) (h : Nm i s) : nameB s = true := by
  obtain ⟨a, b, rfl, h1, h2, h3⟩ := h
  obtain ⟨d1, d2, d3⟩ := digs_ok i hi
  have hl : (S (a ++ Digs i ++ b)).length = a.length + (Digs i).length + b.length := by rw [SX.S_len, List.length_append, List.length_append]
  have hc : (S (a ++ Digs i ++ b)).cps.toList = a ++ Digs i ++ b := rfl
  unfold nameB
  rw [hl, hc]
  simp only [Bool.and_eq_true, decide_eq_true_eq, List.all_eq_true, Bool.or_eq_true]
  refine ⟨⟨⟨by omega, by omega⟩, ?_⟩, fun c hc => ?_⟩
  · cases a with
    | nil => simp at h1
    | cons x r =>
      have := h3 x (by simp)
      show letter x = true
      unfold letter; simp; omega
  · rcases List.mem_append.mp hc with hc | hc
    · rcases List.mem_append.mp hc with hc | hc
      · have := h3 c (List.mem_append_left _ hc); left; unfold letter; simp; omega
      · have := d3 c hc; right; unfold figure; simp; omega
    · have := h3 c (List.mem_append_right _ hc); left; unfold letter; simp; omega

/-- a def that answers a Bool of one datum -/
def spB (K : PySem.W.Frag) (pre : PyData → Prop) (f : PyData → Bool) : Sp := fun vs H Q _ => ∃ v d, vs = [v] ∧ Dp K H v d ∧ pre d ∧ ∀ H', Same H H' → Q (.bl (f d)) H'
theorem rdc_spB {K : PySem.W.Frag} {E : XK} {pre : PyData → Prop} {f : PyData → Bool} {d : PyData} (hp : pre d) : RDC K (fun vs H Q => spB K pre f vs H Q E) [d] (.bool (f d)) := fun F vs H1 hv Q q => by
  cases hv with
  | cons a r => cases r; exact ⟨_, d, rfl, df_dp a, hp, fun H' s => q _ H' s (.bl _)⟩
theorem all_signs {p : Nat → Bool} (g : PyData → Bool) (hg : ∀ c, g (.str ⟨#[c]⟩) = p c) (x : Str) : ((signs x).map g).all id = x.cps.toList.all p := by
  unfold signs
  rw [List.map_map, List.all_map]
  congr 1; funext c; exact hg c
section
variable {P : Program} {w : World} {K : PySem.W.Frag} {mg : Str → Option Value} {base : Heap} (T : Txt w K mg)
def sgn : PyData → Nat | .str x => x.cps.toList.headD 0 | _ => 0
theorem ok_is_name : FnOk P w K mg base CX0 1 T.a_is_name T.d_is_name ["value"] (spB K (fun d => gd d = true) isName) := by
  refine T.D_is_name.fn.ok sc_is_name (fun vs H Q E h => ?_) (fun cdv A outer s H vs Q E hr h => ?_)
  · obtain ⟨v, d, rfl, _⟩ := h; rfl
  · obtain ⟨v, d, rfl, hv, hd, k⟩ := h
    refine ⟨_, (pss_cons (ps_if (PW.pt (pw_or (pt_not (pt_val (pe_callB call_isi (by rfl) T.b_isinstance bt_isinstance (pa_cons (pv 0) (pa_cons (pe_bltn (v := .ty "str") (by rfl) T.b_str bt_str rfl) pa_nil))))) (pw_or (pt_not (pt_chain op_le op_le pe_int (pe_callB call_len (by rfl) T.b_len bt_len (pa_cons (pv 0) pa_nil)) pe_int)) (pw_or1 (pt_cmpR op_notIn_sign (pe_ix ix_seq (pv 0) pe_int (fun _ _ => rfl)) (pe_glob (v := .str "abcdefghijklmnopqrstuvwxyz") (by rfl) T.g_LETTERS ⟨_, rfl⟩) rfl))))) (pss_one (ps_ret pe_bl)) pss_nil)
      (pss_one (ps_ret (pe_callB (cr_all rfl) (by rfl) T.b_all bt_all (pa_cons (pe_lc (own := [("sign", 1)]) rfl sc_is_name.nd (pi_str (pv 0)) (blkOk_by (own := [("sign", 1)]) (N := ["value", "sign"]) (sc := defScope s_is_name) (by decide +kernel)) (fun _ _ _ _ _ => (pg_name (i := 1) sc_is_name.nd rfl (by first | exact Or.inl rfl | exact Or.inr rfl))) (fun _ _ _ _ _ => pts_nil) (fun _ _ _ _ _ => (pe_or (pe_cmpR op_in_sign (pv 1) (pe_glob (v := .str "abcdefghijklmnopqrstuvwxyz") (by rfl) T.g_LETTERS ⟨_, rfl⟩) rfl) (pe_one (pe_cmpR op_in_sign (pv 1) (pe_glob (v := .str "0123456789") (by rfl) T.g_FIGURES ⟨_, rfl⟩) rfl))))) pa_nil))))), ?_⟩
    have hvar : ∀ H1, Same H H1 → ED K (tVar 0) (start ["value", "sign"] [v]) (nn H) H1 d := fun H1 s1 => ed_var rfl (df_mono s1 (fun _ z => z) (dp_df hv))
    have isi := et_B (ed_isi (T := "str") (hvar H (Same.refl _)) (.inl rfl))
    cases d with
    | str x =>
      have hx : x.length ≤ 1000 := by simp only [gd, Bool.and_eq_true, decide_eq_true_eq] at hd; exact hd.2
      have h12 : ET _ _ H _ := et_not (et_test (ed_chain (r := rI0 fun i j => .bl (decide (i ≤ j))) (r' := rI0 fun i j => .bl (decide (i ≤ j))) (ed_int (i := 1)) (ed_len (hvar H (Same.refl _)) (decide_eq_true (by omega))) (ed_int (i := 12)) rd_cmp fun _ => rd_cmp))
      by_cases hb : decide (1 ≤ (x.length : Int)) && decide ((x.length : Int) ≤ 12)
      · obtain ⟨c, cs, hc⟩ : ∃ c cs, x.cps.toList = c :: cs := by
          cases hc : x.cps.toList with
          | nil => 
            have : x.length = 0 := by show x.cps.size = 0; rw [← Array.length_toList, hc]; rfl
            simp [this] at hb
          | cons c cs => exact ⟨c, cs, rfl⟩
        have hch := et_B (ed_notInS (ed_ixS (j := 0) (hvar H (Same.refl _)) ed_int (by omega) (c := c) (by rw [hc]; rfl)) (ed_str (x := "abcdefghijklmnopqrstuvwxyz")))
        refine s_if (b := !letter c) (et_is (et_or (et_not isi) fun _ => et_or h12 fun _ => hch) ?_) (fun h H1 s1 => ?_) (fun h H1 s1 => ?_)
        · rw [mem_letters]; show (!true || (!(decide (1 ≤ (x.length : Int)) && decide ((x.length : Int) ≤ 12)) || !letter c)) = _; rw [hb]; rfl
        · have := k H1 s1
          have e : isName (.str x) = false := by
            show nameB x = false
            unfold nameB; rw [hc]; simp at h; simp [h]
          rw [e] at this; exact this
        · refine s_ret (F := nn H) (ed_all (bs := (signs x).map fun s => letter (sgn s) || figure (sgn s)) (ed_is (ed_lc (f := fun _ => true) (m := fun s => .bool (letter (sgn s) || figure (sgn s))) (ei_str (hvar H1 s1)) ?_ fun F2 H2 e2 v2 d2 hm hd2 => ?_) ?_)) fun v H2 s2 hv2 => ?_
          · unfold signs; rw [List.length_map, Array.length_toList]; show x.length ≤ _; omega
          · obtain ⟨c2, hc2, rfl⟩ := List.mem_map.mp hm
            refine ⟨_, fun Q q => q, rfl, et_yes, fun _ => ed_is (ed_orV (ed_inS (ed_var rfl hd2) (ed_str (x := "abcdefghijklmnopqrstuvwxyz"))) fun _ => ed_inS (ed_var rfl hd2) (ed_str (x := "0123456789"))) ?_⟩
            rw [mem_letters, mem_figures]; rfl
          · rw [filt_tt, List.map_map]; rfl
          · cases hv2
            have := k H2 (s1.trans s2)
            have e : isName (.str x) = ((signs x).map fun s => letter (sgn s) || figure (sgn s)).all id := by
              rw [all_signs (p := fun c => letter c || figure c) _ (fun c => rfl)]
              show nameB x = _
              unfold nameB; rw [hb, hc]; simp at h; simp [h]
            rw [e] at this; exact this
      · rw [Bool.not_eq_true] at hb
        refine s_if (b := true) (et_is (et_or (b := true) (et_not isi) fun _ => et_is (et_or (b := false) h12 fun h => ?_) ?_) ?_) (fun h H1 s1 => ?_) (fun h H1 s1 => nomatch h)
        · have h := (show (!(decide (1 ≤ (x.length : Int)) && decide ((x.length : Int) ≤ 12))) = false from h)
          rw [hb] at h; cases h
        · show (!(decide (1 ≤ (x.length : Int)) && decide ((x.length : Int) ≤ 12)) || false) = true
          rw [hb]; rfl
        · rfl
        · have := k H1 s1
          have e : isName (.str x) = false := by
            show nameB x = false
            unfold nameB; rw [hb]; rfl
          rw [e] at this; exact this
    | _ =>
      refine s_if (b := true) (et_or (b := true) (et_not isi) fun h => nomatch h) (fun h H1 s1 => ?_) (fun h H1 s1 => nomatch h)
      exact k H1 s1
end
end Ag

set_option Elab.async false
set_option linter.all false
set_option maxRecDepth 100000
set_option maxHeartbeats 1000000
namespace Ag
open PySem PySem.Spec PyProof.Rows L2
section
variable {P : Program} {w : World} {K : PySem.W.Frag} {mg : Str → Option Value} {base : Heap}
def spNo : Sp := fun _ _ _ _ => False
theorem no_ok (k : Nat) {x : Str} {N : List Str} {st : Stmt} {ps : List Str} {a : Addr} {fd : FuncData} (D : DefAt K mg x st ps a fd) (S : FnScope N ps (defScope st)) : FnOk P w K mg base CX0 (k + 1) a fd ps spNo :=
  D.fn.ok S (fun vs H Q E h => h.elim) (fun cdv A outer s H vs Q E hr h => h.elim)
end
theorem merge_pen {c : Addr} {a d n f : Int} : mergeK [] [(ck "cells", V.ref c), (ck "at", .int a), (ck "digits", .int d), (ck "count", .int n), (ck "fold", .int f)] = penKV c a d n f := by
  unfold mergeK
  simp [putK, penKV, ck, sn_cells_at, sn_cells_digits, sn_cells_count, sn_cells_fold, sn_at_digits, sn_at_count, sn_at_fold, sn_digits_count, sn_digits_fold, sn_count_fold]
def spLPen (K : PySem.W.Frag) : Sp := fun vs H Q _ => ∃ (a : Addr) (ns : List Int), vs = [.ref a] ∧ SqL K H a (ns.map V.int) ∧ ns.length ≤ 63 ∧ ∀ p c H', Same H H' → Pen p c 0 H' → Q (.ref p) H'
section
variable {P : Program} {w : World} {K : PySem.W.Frag} {mg : Str → Option Value} {base : Heap} (T : Txt w K mg)
theorem ok_law_pen : FnOk P w K mg base CX0 1 T.a_law_pen T.d_law_pen ["script"] (spLPen K) := by
  refine T.D_law_pen.fn.ok sc_law_pen (fun vs H Q E h => ?_) (fun cdv A outer s H vs Q E hr h => ?_)
  · obtain ⟨a, ns, rfl, _⟩ := h; rfl
  · obtain ⟨a, ns, rfl, hs, hl, k⟩ := h
    refine ⟨_, (pss_cons (ps_set (i := 1) sc_law_pen.nd rfl (by first | exact Or.inl rfl | exact Or.inr rfl) pe_int)
      (pss_cons (ps_for PassesOwn.never rfl (pi_list (pv 0)) (pg_name (i := 2) sc_law_pen.nd rfl (by first | exact Or.inl rfl | exact Or.inr rfl)) (pss_one (ps_set (i := 1) sc_law_pen.nd rfl (by first | exact Or.inl rfl | exact Or.inr rfl) (pe_op op_mod (pe_callTy call_int1 (by rfl) T.b_int bt_int (pa_cons (pe_op op_add (pe_op op_mul (pv 1) pe_int) (pv 2)) pa_nil)) pe_int))))
      (pss_one (ps_ret (pe_disp (pps_cons pe_str (pe_callTy call_list_of (by rfl) T.b_list bt_list (pa_cons (pv 0) pa_nil)) (pps_cons pe_str pe_int (pps_cons pe_str pe_int (pps_cons pe_str pe_int (pps_cons pe_str (pv 1) pps_nil))))) (by rfl) (by rfl) (fun z => by cases z) (by decide)))))), ?_⟩
    refine ⟨_, rfl, a, rfl, ⟨_, hs⟩, for_list (K := K) (a := a) (xs := ns.map V.int) (fun i σ' H' => H' = H ∧ ∃ (f : Int) (o : Option V), σ' = [some (.ref a), some (.int f), o] ∧ 0 ≤ f ∧ f < 1000000411) ⟨rfl, 29, none, rfl, by decide, by decide⟩ (fun i σ' H' _ h => by rw [h.1]; exact hs) ?_ ?_⟩
    · rintro i y σ' H' hi ⟨rfl, f, o, rfl, f0, f1⟩
      obtain ⟨u, rfl⟩ : ∃ u, y = V.int u := by
        rw [List.getElem?_map] at hi
        cases e : ns[i]? with
        | none => rw [e] at hi; cases hi
        | some u => rw [e] at hi; exact ⟨u, (Option.some.inj hi).symm⟩
      refine ⟨_, rfl, _, _, rfl, rfl, .inl ⟨by omega, by omega⟩, _, rfl, _, _, rfl, rfl, .inl ⟨_, rfl, _, _, rfl, rfl, (by show (0 : Int) < 1000000411; decide), ?_⟩⟩
      exact ⟨rfl, _, _, rfl, Int.emod_nonneg _ (by decide), Int.emod_lt_of_pos _ (by decide)⟩
    · rintro σ' H' ⟨rfl, f, o, rfl, f0, f1⟩
      intro p hp
      refine ⟨_, rfl, _, _, rfl, .inl ((Same.newA hp).slA hs), fun c hc => ⟨_, rfl, ?_⟩⟩
      have npc : p ≠ c := ne_of_none upd_same hc
      have s2 : Same H' (upd (upd H' p (.dK [])) c (.lst (ns.map V.int))) := (Same.newA hp).trans (Same.newA hc)
      refine ⟨by rw [upd_ne npc]; exact upd_same, [(ck "cells", V.ref c), (ck "at", .int 0), (ck "digits", .int 0), (ck "count", .int 0), (ck "fold", .int f)], rfl, (by decide : 5 ≤ 15), ?_⟩
      rw [merge_pen]
      refine k p c _ (fun b o e => ?_) ⟨ns, 0, 0, 0, f, upd_same, .inl (by rw [upd_ne (Ne.symm npc)]; exact upd_same), by decide, by decide, by decide, by decide, f0, by omega⟩
      rw [upd_ne (ne_of_none e hp)]; exact s2 _ _ e
end
end Ag

set_option Elab.async false
set_option linter.all false
set_option maxRecDepth 100000
set_option maxHeartbeats 1000000
set_option pp.maxSteps 300
namespace Ag
open PySem PySem.Spec PyProof.Rows L2
section
variable {K : PySem.W.Frag} {σ : L2.St} {F : Addr → Prop} {H : Hp} {te : TE} {D : Ends}
theorem s_retB {b c : Bool} (h : ED K te σ F H (.bool b)) (e : b = c) (k : ∀ H1, Same H H1 → D.rt (.bl c) H1) : tRet te D σ H := s_ret h fun v H1 s1 hv => by
  cases hv; subst e; exact k H1 s1
end
theorem kitAny_dict {K : PySem.W.Frag} : PySem.W.kitAny K (.type "dict") [.type "tuple", .type "list"] = some false := by
  unfold PySem.W.kitAny
  rw [kit_dict (T := "tuple") (.inr (.inl rfl))]
  unfold PySem.W.kitAny
  rw [kit_dict (T := "list") (.inr (.inr (.inl rfl)))]; rfl
def wholeB (d : PyData) (a b : Int) : Bool := match d with | .int i => decide (a ≤ i) && decide (i ≤ b) | _ => false
def spWhole (K : PySem.W.Frag) : Sp := fun vs H Q _ => ∃ v d a b, vs = [v, .int a, .int b] ∧ Dp K H v d ∧ ∀ H', Same H H' → Q (.bl (wholeB d a b)) H'
theorem rdc_whole {K : PySem.W.Frag} {E : XK} {d : PyData} {a b : Int} : RDC K (fun vs H Q => spWhole K vs H Q E) [d, .int a, .int b] (.bool (wholeB d a b)) := fun F vs H1 hv Q q => by
  cases hv with
  | cons x r =>
    cases r with
    | cons y r =>
      cases r with
      | cons z r => cases r; cases y; cases z; exact ⟨_, d, a, b, rfl, df_dp x, fun H' s => q _ H' s (.bl _)⟩
section
variable {P : Program} {w : World} {K : PySem.W.Frag} {mg : Str → Option Value} {base : Heap} (T : Txt w K mg)
theorem ok_is_whole : FnOk P w K mg base CX0 1 T.a_is_whole T.d_is_whole ["value", "least", "most"] (spWhole K) := by
  refine T.D_is_whole.fn.ok sc_is_whole (fun vs H Q E h => ?_) (fun cdv A outer s H vs Q E hr h => ?_)
  · obtain ⟨v, d, a, b, rfl, _⟩ := h; rfl
  · obtain ⟨v, d, a, b, rfl, hv, k⟩ := h
    refine ⟨_, PSs.nox (pss_cons (ps_if (PW.pt (pw_or (pt_not (pt_val (pe_callB call_isi (by rfl) T.b_isinstance bt_isinstance (pa_cons (pv 0) (pa_cons (pe_bltn (v := .ty "int") (by rfl) T.b_int bt_int rfl) pa_nil))))) (pw_or (pt_val (pe_callB call_isi (by rfl) T.b_isinstance bt_isinstance (pa_cons (pv 0) (pa_cons (pe_bltn (v := .ty "bool") (by rfl) T.b_bool bt_bool rfl) pa_nil)))) (pw_or1 (pt_cmpR op_lt (pv 0) (pv 1) (nomark _)))))) (pss_one (ps_ret pe_bl)) pss_nil)
      (pss_one (ps_ret (pe_or (pe_cmpR op_isN (pv 2) pe_non (nomark _)) (pe_one (pe_cmpR op_le (pv 0) (pv 2) (nomark _))))))), ?_⟩
    have hvar : ∀ H1, Same H H1 → ED K (tVar 0) (start ["value", "least", "most"] [v, .int a, .int b]) (nn H) H1 d := fun H1 s1 => ed_var rfl (df_mono s1 (fun _ z => z) (dp_df hv))
    have isi := et_B (ed_isi (T := "int") (hvar H (Same.refl _)) (.inr (.inr (.inr (.inl rfl)))))
    have isb := et_B (ed_isi (T := "bool") (hvar H (Same.refl _)) (.inr (.inr (.inr (.inr rfl)))))
    have out : wholeB d a b = false → ∀ H1, Same H H1 → Q (.bl false) H1 := fun e H1 s1 => by
      have := k H1 s1; rw [e] at this; exact this
    cases d with
    | int i =>
      refine s_if (b := decide (i < a)) (et_is (et_or (et_not isi) fun _ => et_or isb fun _ => et_test (ed_lt (hvar H (Same.refl _)) (ed_var (i := 1) rfl (.int a)))) rfl) (fun hb H1 s1 => ?_) (fun hb H1 s1 => ?_)
      · have hb := of_decide_eq_true hb
        refine out ?_ H1 s1
        show (decide (a ≤ i) && decide (i ≤ b)) = false
        rw [decide_eq_false (by omega)]; rfl
      · have hb := of_decide_eq_false hb
        refine s_retB (ed_orV (ed_isN (ed_var (F := nn H) (i := 2) rfl (.int b))) fun _ => ed_le (hvar H1 s1) (ed_var (i := 2) rfl (.int b))) ?_ fun H2 s2 => k H2 (s1.trans s2)
        show (false || decide (i ≤ b)) = (decide (a ≤ i) && decide (i ≤ b))
        rw [decide_eq_true (show a ≤ i by omega)]; rfl
    | bool c =>
      refine s_if (b := true) (et_is (et_or (et_not isi) fun _ => et_or (b := true) isb fun h => nomatch h) rfl) (fun hb H1 s1 => out rfl H1 s1) (fun h => nomatch h)
    | _ => exact s_if (b := true) (et_or (b := true) (et_not isi) fun h => nomatch h) (fun hb H1 s1 => out rfl H1 s1) (fun h => nomatch h)

theorem ok_law_is_whole : FnOk P w K mg base CX0 1 T.a_law_is_whole T.d_law_is_whole ["value", "least", "most"] (spWhole K) := by
  refine T.D_law_is_whole.fn.ok sc_law_is_whole (fun vs H Q E h => ?_) (fun cdv A outer s H vs Q E hr h => ?_)
  · obtain ⟨v, d, a, b, rfl, _⟩ := h; rfl
  · obtain ⟨v, d, a, b, rfl, hv, k⟩ := h
    refine ⟨_, (pss_one (ps_ret (pe_and (pe_callB call_isi (by rfl) T.b_isinstance bt_isinstance (pa_cons (pv 0) (pa_cons (pe_bltn (v := .ty "int") (by rfl) T.b_int bt_int rfl) pa_nil))) (pe_and (pe_not (pe_callB call_isi (by rfl) T.b_isinstance bt_isinstance (pa_cons (pv 0) (pa_cons (pe_bltn (v := .ty "bool") (by rfl) T.b_bool bt_bool rfl) pa_nil)))) (pe_one (pe_chain op_le op_le (pv 1) (pv 0) (pv 2))))))), ?_⟩
    have hvar : ED K (tVar 0) (start ["value", "least", "most"] [v, .int a, .int b]) (nn H) H d := ed_var rfl (dp_df hv)
    have isi := ed_isi (T := "int") hvar (.inr (.inr (.inr (.inl rfl))))
    have isb := ed_isi (T := "bool") hvar (.inr (.inr (.inr (.inr rfl))))
    cases d with
    | int i => exact s_retB (F := nn H) (ed_andV isi fun _ => ed_andV (ed_notV isb) fun _ => ed_chain (r := rI0 fun i j => .bl (decide (i ≤ j))) (r' := rI0 fun i j => .bl (decide (i ≤ j))) (ed_var (i := 1) rfl (.int a)) hvar (ed_var (i := 2) rfl (.int b)) rd_cmp fun _ => rd_cmp) rfl k
    | bool c => exact s_retB (F := nn H) (b := false) (ed_andV isi fun _ => ed_andV (a := false) (b := true) (ed_notV isb) fun h => nomatch h) rfl k
    | _ => exact s_retB (F := nn H) (b := false) (ed_andV (a := false) (b := true) isi fun h => nomatch h) rfl k
theorem ok_law_is_name : FnOk P w K mg base CX0 1 T.a_law_is_name T.d_law_is_name ["value"] (spB K (fun d => gd d = true) isName) := by
  refine T.D_law_is_name.fn.ok sc_law_is_name (fun vs H Q E h => ?_) (fun cdv A outer s H vs Q E hr h => ?_)
  · obtain ⟨v, d, rfl, _⟩ := h; rfl
  · obtain ⟨v, d, rfl, hv, hd, k⟩ := h
    refine ⟨_, (pss_cons (ps_if (PW.pt (pw_or (pt_not (pt_val (pe_callB call_isi (by rfl) T.b_isinstance bt_isinstance (pa_cons (pv 0) (pa_cons (pe_bltn (v := .ty "str") (by rfl) T.b_str bt_str rfl) pa_nil))))) (pw_or (pt_not (pt_chain op_le op_le pe_int (pe_callB call_len (by rfl) T.b_len bt_len (pa_cons (pv 0) pa_nil)) pe_int)) (pw_or1 (pt_cmpR op_notIn_sign (pe_ix ix_seq (pv 0) pe_int (fun _ _ => rfl)) pe_str rfl))))) (pss_one (ps_ret pe_bl)) pss_nil)
      (pss_one (ps_ret (pe_callB (cr_all rfl) (by rfl) T.b_all bt_all (pa_cons (pe_lc (own := [("sign", 1)]) rfl sc_law_is_name.nd (pi_str (pv 0)) (blkOk_by (own := [("sign", 1)]) (N := ["value", "sign"]) (sc := defScope s_law_is_name) (by decide +kernel)) (fun _ _ _ _ _ => (pg_name (i := 1) sc_law_is_name.nd rfl (by first | exact Or.inl rfl | exact Or.inr rfl))) (fun _ _ _ _ _ => pts_nil) (fun _ _ _ _ _ => (pe_cmpR op_in_sign (pv 1) pe_str rfl))) pa_nil))))), ?_⟩
    have hvar : ∀ H1, Same H H1 → ED K (tVar 0) (start ["value", "sign"] [v]) (nn H) H1 d := fun H1 s1 => ed_var rfl (df_mono s1 (fun _ z => z) (dp_df hv))
    have isi := et_B (ed_isi (T := "str") (hvar H (Same.refl _)) (.inl rfl))
    cases d with
    | str x =>
      have hx : x.length ≤ 1000 := by simp only [gd, Bool.and_eq_true, decide_eq_true_eq] at hd; exact hd.2
      have h12 : ET _ _ H _ := et_not (et_test (ed_chain (r := rI0 fun i j => .bl (decide (i ≤ j))) (r' := rI0 fun i j => .bl (decide (i ≤ j))) (ed_int (i := 1)) (ed_len (hvar H (Same.refl _)) (decide_eq_true (by omega))) (ed_int (i := 12)) rd_cmp fun _ => rd_cmp))
      by_cases hb : decide (1 ≤ (x.length : Int)) && decide ((x.length : Int) ≤ 12)
      · obtain ⟨c, cs, hc⟩ : ∃ c cs, x.cps.toList = c :: cs := by
          cases hc : x.cps.toList with
          | nil => 
            have : x.length = 0 := by show x.cps.size = 0; rw [← Array.length_toList, hc]; rfl
            simp [this] at hb
          | cons c cs => exact ⟨c, cs, rfl⟩
        have hch := et_B (ed_notInS (ed_ixS (j := 0) (hvar H (Same.refl _)) ed_int (by omega) (c := c) (by rw [hc]; rfl)) (ed_str (x := "abcdefghijklmnopqrstuvwxyz")))
        refine s_if (b := !letter c) (et_is (et_or (et_not isi) fun _ => et_or h12 fun _ => hch) ?_) (fun h H1 s1 => ?_) (fun h H1 s1 => ?_)
        · rw [mem_letters]; show (!true || (!(decide (1 ≤ (x.length : Int)) && decide ((x.length : Int) ≤ 12)) || !letter c)) = _; rw [hb]; rfl
        · have := k H1 s1
          have e : isName (.str x) = false := by
            show nameB x = false
            unfold nameB; rw [hc]; simp at h; simp [h]
          rw [e] at this; exact this
        · refine s_ret (F := nn H) (ed_all (bs := (signs x).map fun s => letter (sgn s) || figure (sgn s)) (ed_is (ed_lc (f := fun _ => true) (m := fun s => .bool (letter (sgn s) || figure (sgn s))) (ei_str (hvar H1 s1)) ?_ fun F2 H2 e2 v2 d2 hm hd2 => ?_) ?_)) fun v H2 s2 hv2 => ?_
          · unfold signs; rw [List.length_map, Array.length_toList]; show x.length ≤ _; omega
          · obtain ⟨c2, hc2, rfl⟩ := List.mem_map.mp hm
            refine ⟨_, fun Q q => q, rfl, et_yes, fun _ => ed_is (ed_inS (ed_var rfl hd2) (ed_str (x := "abcdefghijklmnopqrstuvwxyz0123456789"))) ?_⟩
            rw [mem_both]; rfl
          · rw [filt_tt, List.map_map]; rfl
          · cases hv2
            have := k H2 (s1.trans s2)
            have e : isName (.str x) = ((signs x).map fun s => letter (sgn s) || figure (sgn s)).all id := by
              rw [all_signs (p := fun c => letter c || figure c) _ (fun c => rfl)]
              show nameB x = _
              unfold nameB; rw [hb, hc]; simp at h; simp [h]
            rw [e] at this; exact this
      · rw [Bool.not_eq_true] at hb
        refine s_if (b := true) (et_is (et_or (b := true) (et_not isi) fun _ => et_is (et_or (b := false) h12 fun h => ?_) ?_) ?_) (fun h H1 s1 => ?_) (fun h H1 s1 => nomatch h)
        · have h := (show (!(decide (1 ≤ (x.length : Int)) && decide ((x.length : Int) ≤ 12))) = false from h)
          rw [hb] at h; cases h
        · show (!(decide (1 ≤ (x.length : Int)) && decide ((x.length : Int) ≤ 12)) || false) = true
          rw [hb]; rfl
        · rfl
        · have := k H1 s1
          have e : isName (.str x) = false := by
            show nameB x = false
            unfold nameB; rw [hb]; rfl
          rw [e] at this; exact this
    | _ =>
      refine s_if (b := true) (et_or (b := true) (et_not isi) fun h => nomatch h) (fun h H1 s1 => ?_) (fun h H1 s1 => nomatch h)
      exact k H1 s1
/-- whether a value is a list or a tuple -/
def listB (d : PyData) : Bool := isiB "tuple" d || isiB "list" d
end
end Ag

set_option Elab.async false
set_option linter.all false
set_option maxRecDepth 100000
set_option maxHeartbeats 1000000
set_option pp.maxSteps 300
namespace Ag
open PySem PySem.Spec PyProof.Rows L2
theorem eqv_int (a b : Int) : PyData.eqv (.int a) (.int b) = decide (a = b) := by
  simp only [PyData.eqv]; by_cases e : a = b <;> simp [e]
theorem eqv_str (a b : Str) : PyData.eqv (.str a) (.str b) = decide (a = b) := by
  simp only [PyData.eqv]; by_cases e : a = b
  · subst e; simp
  · rw [decide_eq_false e]; exact beq_eq_false_iff_ne.mpr e
def leafD : PyData → Bool | .bool _ => true | .int _ => true | _ => false
def spSame (K : PySem.W.Frag) : Sp := fun vs H Q _ => ∃ x y d, vs = [x, y] ∧ Dp K H x d ∧ Dp K H y d ∧ leafD d = true ∧ SeqAt.shaped d = true ∧ ∀ H', Same H H' → Q (.bl true) H'
section
variable {P : Program} {w : World} {K : PySem.W.Frag} {mg : Str → Option Value} {base : Heap} (T : Txt w K mg)
theorem step_same (m : Nat) {spR : Sp} (G_law_same : FnOk P w K mg base CX0 m T.a_law_same T.d_law_same ["told", "due"] spR) : FnOk P w K mg base CX0 (m + 1) T.a_law_same T.d_law_same ["told", "due"] (spSame K) := by
  refine T.D_law_same.fn.ok sc_law_same (fun vs H Q E h => ?_) (fun cdv A outer s H vs Q E hr h => ?_)
  · obtain ⟨x, y, d, rfl, _⟩ := h; rfl
  · obtain ⟨x, y, d, rfl, hx, hy, hd, sd, k⟩ := h
    refine ⟨_, (pss_cons (ps_if (pt_val (pe_callB call_isi (by rfl) T.b_isinstance bt_isinstance (pa_cons (pv 1) (pa_cons (pe_bltn (v := .ty "tuple") (by rfl) T.b_tuple bt_tuple rfl) pa_nil)))) (pss_one (ps_ret (pe_and (pe_callB call_isi (by rfl) T.b_isinstance bt_isinstance (pa_cons (pv 0) (pa_cons (pe_bltn (v := .ty "tuple") (by rfl) T.b_tuple bt_tuple rfl) pa_nil))) (pe_and (pe_cmpR op_eq (pe_callB call_len (by rfl) T.b_len bt_len (pa_cons (pv 0) pa_nil)) (pe_callB call_len (by rfl) T.b_len bt_len (pa_cons (pv 1) pa_nil)) (nomark _)) (pe_one (pe_callB (cr_all rfl) (by rfl) T.b_all bt_all (pa_cons (pe_lc (own := [("one", 2), ("two", 3)]) (g := (gTup K 2 (gCons (gName 2) (gCons (gName 3) gNil)))) rfl sc_law_same.nd (RZ.pi_zipA (by rfl) T.b_zip (pa_cons (pv 0) (pa_cons (pv 1) pa_nil))) (blkOk_by (own := [("one", 2), ("two", 3)]) (N := ["told", "due", "one", "two"]) (sc := defScope s_law_same) (by decide +kernel)) (fun _ _ _ _ _ => (pg_tup rfl (pgs_cons (pg_name (i := 2) sc_law_same.nd rfl (by first | exact Or.inl rfl | exact Or.inr rfl)) (pgs_cons (pg_name (i := 3) sc_law_same.nd rfl (by first | exact Or.inl rfl | exact Or.inr rfl)) pgs_nil)))) (fun _ _ _ _ _ => pts_nil) (fun _ _ _ _ _ => (pe_call (G_law_same) (hr.mono (by omega)) (by rfl) T.D_law_same.mg T.D_law_same.fn.kp T.D_law_same.bd .nil pass0 (pa_cons (pv 2) (pa_cons (pv 3) pa_nil))))) pa_nil))))))) pss_nil)
      (pss_cons (ps_if (pt_cmpR op_isN (pv 1) pe_non (nomark _)) (pss_one (ps_ret (pe_cmpR op_isN (pv 0) pe_non (nomark _)))) pss_nil)
      (pss_cons (ps_if (pt_cmpR op_isB (pv 1) pe_bl (nomark _)) (pss_one (ps_ret (pe_cmpR op_isB (pv 0) pe_bl (nomark _)))) pss_nil)
      (pss_cons (ps_if (pt_cmpR op_isB (pv 1) pe_bl (nomark _)) (pss_one (ps_ret (pe_cmpR op_isB (pv 0) pe_bl (nomark _)))) pss_nil)
      (pss_cons (ps_if (pt_val (pe_callB call_isi (by rfl) T.b_isinstance bt_isinstance (pa_cons (pv 1) (pa_cons (pe_bltn (v := .ty "int") (by rfl) T.b_int bt_int rfl) pa_nil)))) (pss_one (ps_ret (pe_and (pe_callB call_isi (by rfl) T.b_isinstance bt_isinstance (pa_cons (pv 0) (pa_cons (pe_bltn (v := .ty "int") (by rfl) T.b_int bt_int rfl) pa_nil))) (pe_and (pe_not (pe_callB call_isi (by rfl) T.b_isinstance bt_isinstance (pa_cons (pv 0) (pa_cons (pe_bltn (v := .ty "bool") (by rfl) T.b_bool bt_bool rfl) pa_nil)))) (pe_one (pe_cmpR (op_eqD hr.units) (pv 0) (pv 1) (nomark _))))))) pss_nil)
      (pss_one (ps_ret (pe_and (pe_callB call_isi (by rfl) T.b_isinstance bt_isinstance (pa_cons (pv 0) (pa_cons (pe_bltn (v := .ty "str") (by rfl) T.b_str bt_str rfl) pa_nil))) (pe_one (pe_cmpR (op_eqD hr.units) (pv 0) (pv 1) (nomark _))))))))))), ?_⟩
    have h0 : ∀ H1, Same H H1 → ED K (tVar 0) (start ["told", "due", "one", "two"] [x, y]) (nn H) H1 d := fun H1 s1 => ed_var rfl (df_mono s1 (fun _ z => z) (dp_df hx))
    have h1 : ∀ H1, Same H H1 → ED K (tVar 1) (start ["told", "due", "one", "two"] [x, y]) (nn H) H1 d := fun H1 s1 => ed_var rfl (df_mono s1 (fun _ z => z) (dp_df hy))
    cases d with
    | bool b =>
      refine s_if (b := false) (et_B (ed_isi (T := "tuple") (h1 H (Same.refl _)) (.inr (.inl rfl)))) (fun h => nomatch h) fun _ H1 s1 => ?_
      refine s_if (b := false) (et_test (ed_isN (h1 H1 s1))) (fun h => nomatch h) fun _ H2 s2 => ?_
      have s12 := s1.trans s2
      refine s_if (et_test (ed_isB (h1 H2 s12))) (fun h H3 s3 => ?_) fun h H3 s3 => ?_
      · have s13 := s12.trans s3
        exact s_retB (ed_isB (h0 H3 s13)) h fun H4 s4 => k H4 (s13.trans s4)
      · have s13 := s12.trans s3
        refine s_if (et_test (ed_isB (h1 H3 s13))) (fun h2 H4 s4 => ?_) fun h2 H4 s4 => ?_
        · exact s_retB (ed_isB (h0 H4 (s13.trans s4))) h2 fun H5 s5 => k H5 ((s13.trans s4).trans s5)
        · cases b
          · cases h2
          · cases h
    | int z =>
      refine s_if (b := false) (et_B (ed_isi (T := "tuple") (h1 H (Same.refl _)) (.inr (.inl rfl)))) (fun h => nomatch h) fun _ H1 s1 => ?_
      refine s_if (b := false) (et_test (ed_isN (h1 H1 s1))) (fun h => nomatch h) fun _ H2 s2 => ?_
      have s12 := s1.trans s2
      refine s_if (b := false) (et_test (ed_isB (h1 H2 s12))) (fun h => nomatch h) fun h H3 s3 => ?_
      have s13 := s12.trans s3
      refine s_if (b := false) (et_test (ed_isB (h1 H3 s13))) (fun h => nomatch h) fun h H4 s4 => ?_
      have s14 := s13.trans s4
      refine s_if (b := true) (et_B (ed_isi (T := "int") (h1 H4 s14) (.inr (.inr (.inr (.inl rfl)))))) (fun h H5 s5 => ?_) fun h => nomatch h
      have s15 := s14.trans s5
      exact s_retB (ed_andV (ed_isi (T := "int") (h0 H5 s15) (.inr (.inr (.inr (.inl rfl))))) fun _ => ed_andV (ed_notV (ed_isi (T := "bool") (h0 H5 s15) (.inr (.inr (.inr (.inr rfl)))))) fun _ => ed_eqD (h0 H5 s15) (h1 H5 s15) sd sd) (by rw [eqv_int, decide_eq_true rfl]; rfl) fun H6 s6 => k H6 (s15.trans s6)
    | _ => cases hd
theorem ok_law_same : FnOk P w K mg base CX0 2 T.a_law_same T.d_law_same ["told", "due"] (spSame K) := step_same T 1 (no_ok 0 T.D_law_same sc_law_same)
end
end Ag

set_option Elab.async false
set_option linter.all false
set_option maxRecDepth 100000
set_option maxHeartbeats 1000000
set_option pp.maxSteps 300
namespace Ag
open PySem PySem.Spec PyProof.Rows L2
def partsD : PyData → List PyData | .list ds => ds | .tuple ds => ds | _ => []
theorem listed_of {d : PyData} (h : listB d = true) : ∃ ds, (d = .list ds ∨ d = .tuple ds) ∧ partsD d = ds := by
  cases d with
  | list ds => exact ⟨ds, .inl rfl, rfl⟩
  | tuple ds => exact ⟨ds, .inr rfl, rfl⟩
  | _ => cases h
theorem gd_parts {d : PyData} {ds : List PyData} (h : d = .list ds ∨ d = .tuple ds) (g : gd d = true) : (∀ x ∈ ds, gd x = true) ∧ ds.length ≤ 1000 := by
  rcases h with rfl | rfl <;>
  · simp only [gd, Bool.and_eq_true, decide_eq_true_eq] at g
    exact ⟨gds_all g.1, g.2⟩
/-! ### as_tuples -/
mutual
def asT : PyData → PyData
  | .list ds => .tuple (asTs ds)
  | .tuple ds => .tuple (asTs ds)
  | .none => .none
  | .bool b => .bool b
  | .int i => .int i
  | .str x => .str x
  | .dict d => .dict d
def asTs : List PyData → List PyData
  | [] => []
  | d :: ds => asT d :: asTs ds
end
theorem asTs_map : ∀ ds : List PyData, asTs ds = ds.map asT
  | [] => by rw [asTs]; rfl
  | d :: ds => by rw [asTs, asTs_map ds]; rfl
theorem asT_seq {d : PyData} {ds : List PyData} (h : d = .list ds ∨ d = .tuple ds) : asT d = .tuple (ds.map asT) := by
  rcases h with rfl | rfl
  · rw [asT, asTs_map]
  · rw [asT, asTs_map]
theorem asT_flat {d : PyData} (h : listB d = false) : asT d = d := by
  cases d with
  | list ds => cases h
  | tuple ds => cases h
  | _ => rw [asT]
theorem depth_parts {ds : List PyData} {n : Nat} (h : PyData.depthAll ds ≤ n) : ∀ x ∈ ds, x.depth ≤ n := by
  induction ds with
  | nil => exact fun x hx => nomatch hx
  | cons d ds ih =>
    intro x hx
    simp only [PyData.depthAll] at h
    rcases List.mem_cons.mp hx with rfl | hx
    · omega
    · exact ih (by omega) x hx
/-- a def of one piece of data that gives data -/
def spAs (K : PySem.W.Frag) (pre : PyData → Prop) (f : PyData → PyData) : Sp := fun vs H Q _ => ∃ (F : Addr → Prop) (v : V) (d : PyData), vs = [v] ∧ Df K F H v d ∧ pre d ∧ ∀ r H', Same H H' → Df K (Fr F H) H' r (f d) → Q r H'
theorem rdc_as {K : PySem.W.Frag} {E : XK} {pre : PyData → Prop} {f : PyData → PyData} {d : PyData} (hp : pre d) : RDC K (fun vs H Q => spAs K pre f vs H Q E) [d] (f d) := fun F vs H1 hv Q q => by
  cases hv with
  | cons a r => cases r; exact ⟨F, _, d, rfl, a, hp, fun r H' s h => q _ H' s h⟩
def preT (n : Nat) (d : PyData) : Prop := gd d = true ∧ d.depth ≤ n
section
variable {P : Program} {w : World} {K : PySem.W.Frag} {mg : Str → Option Value} {base : Heap} (T : Txt w K mg)
theorem step_as (m n : Nat) (G_as_tuples : FnOk P w K mg base CX0 m T.a_as_tuples T.d_as_tuples ["value"] (spAs K (preT n) asT)) : FnOk P w K mg base CX0 (m + 1) T.a_as_tuples T.d_as_tuples ["value"] (spAs K (preT (n + 1)) asT) := by
  refine T.D_as_tuples.fn.ok sc_as_tuples (fun vs H Q E h => ?_) (fun cdv A outer s H vs Q E hr h => ?_)
  · obtain ⟨F, v, d, rfl, _⟩ := h; rfl
  · obtain ⟨F, v, d, rfl, hv, ⟨hd, hp⟩, k⟩ := h
    refine ⟨_, (pss_cons (ps_if (pt_val (pe_callB call_isiT (by rfl) T.b_isinstance bt_isinstance (pa_cons (pv 0) (pa_cons (pe_tup (pa_cons (pe_bltn (v := .ty "tuple") (by rfl) T.b_tuple bt_tuple rfl) (pa_cons (pe_bltn (v := .ty "list") (by rfl) T.b_list bt_list rfl) pa_nil))) pa_nil)))) (pss_one (ps_ret (pe_callTy call_tuple_of (by rfl) T.b_tuple bt_tuple (pa_cons (pe_lc (own := [("part", 1)]) rfl sc_as_tuples.nd (pi_ve (pv 0)) (blkOk_by (own := [("part", 1)]) (N := ["value", "part"]) (sc := defScope s_as_tuples) (by decide +kernel)) (fun _ _ _ _ _ => (pg_name (i := 1) sc_as_tuples.nd rfl (by first | exact Or.inl rfl | exact Or.inr rfl))) (fun _ _ _ _ _ => pts_nil) (fun _ _ _ _ _ => (pe_call (G_as_tuples) (hr.mono (by omega)) (by rfl) T.D_as_tuples.mg T.D_as_tuples.fn.kp T.D_as_tuples.bd .nil pass0 (pa_cons (pv 1) pa_nil)))) pa_nil)))) pss_nil)
      (pss_one (ps_ret (pv 0)))), ?_⟩
    have hv0 : ∀ H1, Same H H1 → Df K F H1 v d := fun H1 s1 => df_mono s1 (fun _ z => z) hv
    refine s_if (b := listB d) (et_B (ed_isiTL (ed_var (i := 0) rfl hv))) (fun hl H1 s1 => ?_) fun hl H1 s1 => ?_
    · obtain ⟨ds, hds, e⟩ := listed_of hl
      obtain ⟨g1, g2⟩ := gd_parts hds hd
      have hp2 : ∀ x ∈ ds, preT n x := fun x hx => ⟨g1 x hx, depth_parts (by rcases hds with rfl | rfl <;> simp only [PyData.depth] at hp <;> omega) x hx⟩
      rw [asT_seq hds] at k
      refine s_ret (F := F) (ed_is (ed_tupleOf (ed_lc (f := fun _ => true) (m := asT) (ei_ve (i := 0) rfl (hv0 H1 s1) hds) (by omega) fun F2 H5 e2 v2 d2 hm hd2 => ⟨(start ["value", "part"] [v]).set 1 (some v2), fun Q q => q, rfl, et_yes, fun _ => ed_call (ea_cons (ed_var (i := 1) rfl hd2) ea_nil) (rdc_as (hp2 _ hm))⟩) rfl) (by rw [filt_tt]; rfl)) fun r H2 s2 hr2 => k r H2 (s1.trans s2) (df_mono (Same.refl _) (fun a z => z.imp id s1.free) hr2)
    · rw [asT_flat hl] at k
      exact s_ret (F := F) (ed_var (i := 0) rfl (df_mono s1 (fun _ z => z) hv)) fun r H2 s2 hr2 => k r H2 (s1.trans s2) (df_mono (Same.refl _) (fun a z => z.imp id s1.free) hr2)
theorem step_as0 (m : Nat) {spR : Sp} (G_as_tuples : FnOk P w K mg base CX0 m T.a_as_tuples T.d_as_tuples ["value"] spR) : FnOk P w K mg base CX0 (m + 1) T.a_as_tuples T.d_as_tuples ["value"] (spAs K (preT 0) asT) := by
  refine T.D_as_tuples.fn.ok sc_as_tuples (fun vs H Q E h => ?_) (fun cdv A outer s H vs Q E hr h => ?_)
  · obtain ⟨F, v, d, rfl, _⟩ := h; rfl
  · obtain ⟨F, v, d, rfl, hv, ⟨hd, hp⟩, k⟩ := h
    refine ⟨_, (pss_cons (ps_if (pt_val (pe_callB call_isiT (by rfl) T.b_isinstance bt_isinstance (pa_cons (pv 0) (pa_cons (pe_tup (pa_cons (pe_bltn (v := .ty "tuple") (by rfl) T.b_tuple bt_tuple rfl) (pa_cons (pe_bltn (v := .ty "list") (by rfl) T.b_list bt_list rfl) pa_nil))) pa_nil)))) (pss_one (ps_ret (pe_callTy call_tuple_of (by rfl) T.b_tuple bt_tuple (pa_cons (pe_lc (own := [("part", 1)]) rfl sc_as_tuples.nd (pi_ve (pv 0)) (blkOk_by (own := [("part", 1)]) (N := ["value", "part"]) (sc := defScope s_as_tuples) (by decide +kernel)) (fun _ _ _ _ _ => (pg_name (i := 1) sc_as_tuples.nd rfl (by first | exact Or.inl rfl | exact Or.inr rfl))) (fun _ _ _ _ _ => pts_nil) (fun _ _ _ _ _ => (pe_call (G_as_tuples) (hr.mono (by omega)) (by rfl) T.D_as_tuples.mg T.D_as_tuples.fn.kp T.D_as_tuples.bd .nil pass0 (pa_cons (pv 1) pa_nil)))) pa_nil)))) pss_nil)
      (pss_one (ps_ret (pv 0)))), ?_⟩
    have hl : listB d = false := by
      cases d with
      | list ds => simp only [PyData.depth] at hp; omega
      | tuple ds => simp only [PyData.depth] at hp; omega
      | _ => rfl
    rw [asT_flat hl] at k
    refine s_if (b := false) (et_is (et_B (ed_isiTL (ed_var (i := 0) rfl hv))) hl) (fun h => nomatch h) fun _ H1 s1 => ?_
    exact s_ret (F := F) (ed_var (i := 0) rfl (df_mono s1 (fun _ z => z) hv)) fun r H2 s2 hr2 => k r H2 (s1.trans s2) (df_mono (Same.refl _) (fun a z => z.imp id s1.free) hr2)
theorem ok_as : FnOk P w K mg base CX0 5 T.a_as_tuples T.d_as_tuples ["value"] (spAs K (preT 3) asT) :=
  step_as T 4 2 (step_as T 3 1 (step_as T 2 0 (step_as0 (K := K) T 1 (no_ok 0 T.D_as_tuples sc_as_tuples))))
end
end Ag

set_option Elab.async false
set_option linter.all false
set_option maxRecDepth 100000
set_option maxHeartbeats 2000000
set_option pp.maxSteps 300
namespace Ag
open PySem PySem.Spec PyProof.Rows L2
/-! ### rows: hall, call, other -/
abbrev Rw := Str × Str × Str
def rowK (r : Rw) : List Key := [.inr r.1, .inr r.2.1, .inr r.2.2]
def rowD (r : Rw) : PyData := .tuple [.str r.1, .str r.2.1, .str r.2.2]
def rowV (r : Rw) : List V := [.str r.1, .str r.2.1, .str r.2.2]
def hcK (h c : Str) : List Key := [.inr h, .inr c]
theorem rowK_inj {r s : Rw} (h : rowK r = rowK s) : r = s := by
  obtain ⟨a, b, c⟩ := r
  obtain ⟨d, e, f⟩ := s
  unfold rowK at h
  injection h with h1 h
  injection h with h2 h
  injection h with h3 h
  injection h1 with h1
  injection h2 with h2
  injection h3 with h3
  subst h1 h2 h3; rfl
theorem hcK_inj {h c h' c' : Str} (e : hcK h c = hcK h' c') : h = h' ∧ c = c' := by
  unfold hcK at e
  injection e with h1 e
  injection e with h2 e
  injection h1 with h1
  injection h2 with h2
  exact ⟨h1, h2⟩
def goodR (r : Rw) : Prop := nameB r.1 = true ∧ nameB r.2.1 = true ∧ nameB r.2.2 = true
/-- answers by hall and call: what stands in a dict, A telling how the values stand -/
structure Ans (A : Hp → Addr → List V → Prop) (H : Hp) (kvs : List (List Key × V)) (R : List Rw) : Prop where
  len : kvs.length ≤ R.length
  non : ∀ h c, valV kvs (hcK h c) = none → ∀ o, (h, c, o) ∉ R
  som : ∀ h c v, valV kvs (hcK h c) = some v → ∃ (a : Addr) (os : List Str), v = .ref a ∧ A H a (os.map V.str) ∧ os.length ≤ R.length ∧ 1 ≤ os.length ∧ ∀ o, o ∈ os ↔ (h, c, o) ∈ R
  key : ∀ k ∈ kvs.map (·.1), ∃ h c o, k = hcK h c ∧ (h, c, o) ∈ R
section
variable {A : Hp → Addr → List V → Prop} {H H' : Hp} {kvs : List (List Key × V)} {R : List Rw}
theorem Ans.nil : Ans A H [] [] := ⟨Nat.le_refl _, fun _ _ _ _ h => (nomatch h), fun _ _ _ h => (nomatch h), fun _ h => nomatch h⟩
theorem Ans.kept (h : Ans A H kvs R) (k : ∀ a xs, A H a xs → A H' a xs) : Ans A H' kvs R := ⟨h.len, h.non, fun x c v e => let ⟨a, os, e1, e2, e3, e4⟩ := h.som x c v e; ⟨a, os, e1, k _ _ e2, e3, e4⟩, h.key⟩
/-- what stands there now -/
theorem Ans.now (hA : Ans A H kvs R) (h c : Str) : (valV kvs (hcK h c) = none ∧ ∀ o, (h, c, o) ∉ R) ∨ ∃ (a : Addr) (os : List Str), valV kvs (hcK h c) = some (.ref a) ∧ A H a (os.map V.str) ∧ os.length ≤ R.length ∧ ∀ o, o ∈ os ↔ (h, c, o) ∈ R := by
  cases e : valV kvs (hcK h c) with
  | none => exact .inl ⟨rfl, hA.non h c e⟩
  | some v =>
    obtain ⟨a, os, rfl, e2, e3, _, e4⟩ := hA.som h c v e
    exact .inr ⟨a, os, rfl, e2, e3, e4⟩
theorem put_le {κ : Type} [DecidableEq κ] (kvs : List (κ × V)) (k : κ) (v : V) : (putK kvs k v).length ≤ kvs.length + 1 := by
  unfold putK
  split
  · rw [List.length_map]; omega
  · rw [List.length_append]; exact Nat.le_refl _
theorem keys_put {κ : Type} [DecidableEq κ] {kvs : List (κ × V)} {k j : κ} {v : V} (h : j ∈ (putK kvs k v).map (·.1)) : j = k ∨ j ∈ kvs.map (·.1) := by
  by_cases e : j = k
  · exact .inl e
  · refine .inr ?_
    cases q : valV kvs j with
    | none =>
      have z : valV (putK kvs k v) j = none := by rw [valV_put, if_neg e]; exact q
      exact absurd h (valV_not z)
    | some u => exact valV_in q
theorem Ans.put (hA : Ans A H kvs R) (kp : ∀ a xs, A H a xs → A H' a xs) {h c x : Str} {os : List Str} {a : Addr} (hos : ∀ o, o ∈ os ↔ (h, c, o) ∈ R) (hl : os.length ≤ R.length) (ha : A H' a ((os ++ [x]).map V.str)) : Ans A H' (putK kvs (hcK h c) (.ref a)) (R ++ [(h, c, x)]) where
  len := by
    have := put_le kvs (hcK h c) (V.ref a)
    have := hA.len
    rw [List.length_append]; show _ ≤ R.length + 1; omega
  non := fun h' c' e o hm => by
    rw [valV_put] at e
    by_cases q : hcK h' c' = hcK h c
    · rw [if_pos q] at e; cases e
    · rw [if_neg q] at e
      rcases List.mem_append.mp hm with hm | hm
      · exact hA.non h' c' e o hm
      · have z := List.mem_singleton.mp hm
        cases z; exact q rfl
  som := fun h' c' v e => by
    rw [valV_put] at e
    by_cases q : hcK h' c' = hcK h c
    · rw [if_pos q] at e
      cases e
      obtain ⟨rfl, rfl⟩ := hcK_inj q
      refine ⟨a, os ++ [x], rfl, ha, by rw [List.length_append, List.length_append]; show os.length + 1 ≤ R.length + 1; omega, by rw [List.length_append]; show 1 ≤ os.length + 1; omega, fun o => ?_⟩
      rw [List.mem_append, List.mem_append, hos o, List.mem_singleton, List.mem_singleton]
      constructor
      · rintro (z | rfl)
        · exact .inl z
        · exact .inr rfl
      · rintro (z | z)
        · exact .inl z
        · cases z; exact .inr rfl
    · rw [if_neg q] at e
      obtain ⟨b, os', e1, e2, e3, e4, e5⟩ := hA.som h' c' v e
      refine ⟨b, os', e1, kp _ _ e2, by rw [List.length_append]; show _ ≤ R.length + 1; omega, e4, fun o => ?_⟩
      rw [List.mem_append, e5 o, List.mem_singleton]
      constructor
      · exact .inl
      · rintro (z | z)
        · exact z
        · cases z; exact absurd rfl q
  key := fun k hk => by
    rcases keys_put hk with rfl | hk
    · exact ⟨h, c, x, rfl, List.mem_append_right _ List.mem_cons_self⟩
    · obtain ⟨h', c', o, e, m⟩ := hA.key k hk
      exact ⟨h', c', o, e, List.mem_append_left _ m⟩
theorem Ans.same {R' : List Rw} (hA : Ans A H kvs R) (e : ∀ r, r ∈ R ↔ r ∈ R') (l : R.length ≤ R'.length) : Ans A H kvs R' := ⟨Nat.le_trans hA.len l, fun h c z o m => hA.non h c z o ((e _).mpr m), fun h c v z => let ⟨a, os, e1, e2, e3, e4, e5⟩ := hA.som h c v z; ⟨a, os, e1, e2, Nat.le_trans e3 l, e4, fun o => (e5 o).trans (e _)⟩, fun k hk => let ⟨h, c, o, e1, e2⟩ := hA.key k hk; ⟨h, c, o, e1, (e _).mp e2⟩⟩
end
/-! ### is_row, need_rows -/
section
variable {P : Program} {w : World} {K : PySem.W.Frag} {mg : Str → Option Value} {base : Heap} (T : Txt w K mg)
theorem nameB_as {x : Str} (h : nameB x = true) : As 12 x := by
  unfold nameB at h
  simp only [Bool.and_eq_true, decide_eq_true_eq] at h
  refine ⟨fun c hc => ?_, by omega⟩
  have := List.all_eq_true.mp h.2 c hc
  rcases Bool.or_eq_true_iff.mp this with k | k
  · have := of_decide_eq_true k; omega
  · have := of_decide_eq_true k; omega
theorem name_gd {x : Str} (h : nameB x = true) : gd (.str x) = true := by
  have a := nameB_as h
  simp only [gd, Bool.and_eq_true, decide_eq_true_eq]
  refine ⟨Array.all_eq_true_iff_forall_mem.mpr fun c hc => decide_eq_true ?_, Nat.le_trans a.2 (by decide)⟩
  have := a.1 c (Array.mem_toList_iff.mpr hc); omega
theorem ok_is_row : FnOk P w K mg base CX0 3 T.a_is_row T.d_is_row ["value"] (spB K (fun d => ∃ r, d = rowD r ∧ goodR r) fun _ => true) := by
  have G_is_name := ok_is_name (P := P) (base := base) T
  refine T.D_is_row.fn.ok sc_is_row (fun vs H Q E h => ?_) (fun cdv A outer s H vs Q E hr h => ?_)
  · obtain ⟨v, d, rfl, _⟩ := h; rfl
  · obtain ⟨v, d, rfl, hv, ⟨r, rfl, g1, g2, g3⟩, k⟩ := h
    refine ⟨_, (pss_one (ps_ret (pe_and (pe_callB call_isi (by rfl) T.b_isinstance bt_isinstance (pa_cons (pv 0) (pa_cons (pe_bltn (v := .ty "tuple") (by rfl) T.b_tuple bt_tuple rfl) pa_nil))) (pe_and (pe_cmpR op_eq (pe_callB call_len (by rfl) T.b_len bt_len (pa_cons (pv 0) pa_nil)) pe_int (nomark _)) (pe_one (pe_callB (cr_all rfl) (by rfl) T.b_all bt_all (pa_cons (pe_lc (own := [("part", 1)]) rfl sc_is_row.nd (pi_tup (pv 0)) (blkOk_by (own := [("part", 1)]) (N := ["value", "part"]) (sc := defScope s_is_row) (by decide +kernel)) (fun _ _ _ _ _ => (pg_name (i := 1) sc_is_row.nd rfl (by first | exact Or.inl rfl | exact Or.inr rfl))) (fun _ _ _ _ _ => pts_nil) (fun _ _ _ _ _ => (pe_call (G_is_name) (hr.mono (by omega)) (by rfl) T.D_is_name.mg T.D_is_name.fn.kp T.D_is_name.bd .nil pass0 (pa_cons (pv 1) pa_nil)))) pa_nil))))))), ?_⟩
    have hvar : ED K (tVar 0) (start ["value", "part"] [v]) (nn H) H (rowD r) := ed_var rfl (dp_df hv)
    refine s_retB (F := nn H) (ed_andV (ed_isi (T := "tuple") hvar (.inr (.inl rfl))) fun _ => ed_andV (ed_eqI (ed_len hvar rfl) (ed_int (i := 3))) fun _ => ed_all (bs := [isName (.str r.1), isName (.str r.2.1), isName (.str r.2.2)]) (ed_is (ed_lc (f := fun _ => true) (m := fun s => .bool (isName s)) (ei_tup hvar) (by show 3 ≤ 50000; decide) fun F2 H2 e2 v2 d2 hm hd2 => ⟨_, fun Q q => q, rfl, et_yes, fun _ => ed_call (ea_cons (ed_var (i := 1) rfl hd2) ea_nil) (rdc_spB (?_ : gd d2 = true))⟩) rfl)) ?_ k
    · simp only [List.mem_cons, List.not_mem_nil, or_false] at hm
      rcases hm with rfl | rfl | rfl
      · exact name_gd g1
      · exact name_gd g2
      · exact name_gd g3
    · show (true && (decide ((3 : Int) = 3) && [nameB r.1, nameB r.2.1, nameB r.2.2].all id)) = true
      rw [g1, g2, g3]; rfl
def RowsAt (K : PySem.W.Frag) (H : Hp) (zs : List (Addr × Rw)) : Prop := ∀ z ∈ zs, SqT K H z.1 (rowV z.2) ∧ goodR z.2
theorem RowsAt.same {H H' : Hp} {zs : List (Addr × Rw)} (s : Same H H') (h : RowsAt K H zs) : RowsAt K H' zs := fun z hz => ⟨s.stA (h z hz).1, (h z hz).2⟩
theorem row_dp {H : Hp} {a : Addr} {r : Rw} (h : SqT K H a (rowV r)) : Dp K H (.ref a) (rowD r) := .tup h (.cons (.str _) (.cons (.str _) (.cons (.str _) .nil)))
def spNeedR (K : PySem.W.Frag) : Sp := fun vs H Q _ => ∃ (ra : Addr) (zs : List (Addr × Rw)), vs = [.ref ra] ∧ SqT K H ra (zs.map fun z => V.ref z.1) ∧ RowsAt K H zs ∧ ∀ H', Same H H' → Q .non H'
theorem no_okM (k : Nat) {x q : Str} {N : List Str} {st : Stmt} {ps : List Str} {a : Addr} {fd : FuncData} (D : MethAt K x q st ps a fd) (S : FnScope N ps (defScope st)) : FnOk P w K mg base CX0 (k + 1) a fd ps spNo :=
  D.fn.ok S (fun vs H Q E h => h.elim) (fun cdv A outer s H vs Q E hr h => h.elim)
theorem ok_need_rows : FnOk P w K mg base (L2.CX P w) 5 T.a_need_rows T.d_need_rows ["rows"] (spNeedR K) := by
  have G_is_row := ok_is_row (P := P) (base := base) T
  have G_BadRow___init__ := no_okM (P := P) (base := base) (w := w) (mg := mg) 0 T.D_BadRow___init__ sc_BadRow___init__
  refine T.D_need_rows.fn.okX sc_need_rows (fun vs H Q E h => ?_) (fun cdv A outer s H vs Q E hr h => ?_)
  · obtain ⟨ra, zs, rfl, _⟩ := h; rfl
  · obtain ⟨ra, zs, rfl, hra, hz, k⟩ := h
    refine ⟨_, (pss_one (ps_for (passes_of rfl) rfl (pi_tup (pv 0)) (pg_name (i := 1) sc_need_rows.nd rfl (by first | exact Or.inl rfl | exact Or.inr rfl)) (pss_one (ps_if (pt_not (pt_val (pe_call (G_is_row) (hr.mono (by omega)) (by rfl) T.D_is_row.mg T.D_is_row.fn.kp T.D_is_row.bd .nil pass0 (pa_cons (pv 1) pa_nil)))) (pss_one (ps_raise rfl (takes_of rfl rfl rfl rfl) (pmk_oex T.ox_BadRow T.ic_BadRow T.ti_BadRow (G_BadRow___init__) (hr.mono (by omega)) T.D_BadRow___init__.bd .nil pass0 (by rfl) T.g_BadRow (pa_cons pe_str (pa_cons (pv 1) pa_nil))))) pss_nil)))), ?_⟩
    refine ⟨_, rfl, ra, rfl, ⟨_, hra⟩, for_tup (K := K) (a := ra) (xs := zs.map fun z => V.ref z.1) (fun i σ' H' => ∃ o, σ' = [some (.ref ra), o] ∧ Same H H') ⟨none, rfl, Same.refl _⟩ (fun i σ' H' _ ⟨_, _, s⟩ => s.stA hra) ?_ ?_⟩
    · rintro i v σ' H1 hv ⟨o, rfl, s1⟩
      rw [List.getElem?_map] at hv
      cases e : zs[i]? with
      | none => rw [e] at hv; cases hv
      | some z =>
        rw [e] at hv
        cases hv
        obtain ⟨h1, h2⟩ := hz z (List.mem_of_getElem? e)
        dsimp only [gName]
        refine s_if (b := false) (et_is (et_not (et_B (ed_call (ea_cons (ed_var (F := nn H1) (i := 1) rfl (dp_df (row_dp (s1.stA h1)))) ea_nil) (rdc_spB ⟨z.2, rfl, h2⟩)))) rfl) (fun h => nomatch h) fun _ H2 s2 => ?_
        exact ⟨_, rfl, s1.trans s2⟩
    · rintro σ' H1 ⟨o, rfl, s1⟩
      exact k H1 s1
end
end Ag

set_option Elab.async false
set_option linter.all false
set_option maxRecDepth 100000
set_option maxHeartbeats 2000000
set_option pp.maxSteps 400
namespace Ag
open PySem PySem.Spec PyProof.Rows L2
/-! ### what stands at an address is no data -/
def NoDat (H : Hp) (a : Addr) : Prop := ∀ o, H a = some o → (∀ xs, o ≠ .lst xs) ∧ (∀ xs, o ≠ .tup xs) ∧ ∀ x u, o ≠ .frz x u
theorem nodat_ins {H : Hp} {b C dx : Addr} {fs : List (Str × V)} (h : H b = some (.ins C dx fs)) : NoDat H b := fun o e => by
  rw [h] at e; cases e; exact ⟨fun _ z => (nomatch z), fun _ z => (nomatch z), fun _ _ z => nomatch z⟩
theorem nodat_dT {H : Hp} {b : Addr} {kvs : List (List Key × V)} (h : H b = some (.dT kvs)) : NoDat H b := fun o e => by
  rw [h] at e; cases e; exact ⟨fun _ z => (nomatch z), fun _ z => (nomatch z), fun _ _ z => nomatch z⟩
theorem nodat_dK {H : Hp} {b : Addr} {kvs : List (Key × V)} (h : H b = some (.dK kvs)) : NoDat H b := fun o e => by
  rw [h] at e; cases e; exact ⟨fun _ z => (nomatch z), fun _ z => (nomatch z), fun _ _ z => nomatch z⟩
section
variable {K : PySem.W.Frag} {H H' : Hp} {b : Addr}
theorem NoDat.st {a : Addr} {xs : List V} (n : NoDat H b) (t : But b H H') (h : SqT K H a xs) : SqT K H' a xs := h.imp (fun z => by
  rcases z with z | ⟨o, z⟩
  · refine .inl (t _ _ (fun e => ?_) z)
    subst e; exact (n _ z).2.1 _ rfl
  · refine .inr ⟨o, t _ _ (fun e => ?_) z⟩
    subst e; exact (n _ z).2.2 _ _ rfl) id
theorem But.updb {o : HO} : But b H (L2.upd H b o) := fun a u n e => by rw [upd_ne n]; exact e
theorem st_free {a D : Addr} {xs : List V} (hD : H D = none) (t : But D H H') (h : SqT K H a xs) : SqT K H' a xs := h.imp (fun z => by
  rcases z with z | ⟨o, z⟩
  · exact .inl (t _ _ (ne_of_none z hD) z)
  · exact .inr ⟨o, t _ _ (ne_of_none z hD) z⟩) id
/-- what was kept under a lock is kept behind it -/
theorem unlock_but {d : Addr} {od : Obj} {u : HO} (e : H d = some u) (t : But b (L2.upd H d (.frz od u)) H') : But b H (L2.upd H' d u) := fun a o n h => by
  by_cases q : a = d
  · subst q; rw [e] at h; cases h; exact upd_same
  · rw [upd_ne q]; exact t a o n (by rw [upd_ne q]; exact h)
theorem unlock_st {d a : Addr} {od : Obj} {kvs : List (List Key × V)} {xs : List V} (e : H' d = some (.frz od (.dT kvs))) (h : SqT K H' a xs) : SqT K (L2.upd H' d (.dT kvs)) a xs := h.imp (fun z => by
  rcases z with z | ⟨o, z⟩
  · exact .inl (by rw [upd_ne (fun q => by rw [q, e] at z; cases z)]; exact z)
  · exact .inr ⟨o, by rw [upd_ne (fun q => by rw [q, e] at z; cases z)]; exact z⟩) id
theorem unlock_stK {d a : Addr} {od : Obj} {kvs : List (Key × V)} {xs : List V} (e : H' d = some (.frz od (.dK kvs))) (h : SqT K H' a xs) : SqT K (L2.upd H' d (.dK kvs)) a xs := h.imp (fun z => by
  rcases z with z | ⟨o, z⟩
  · exact .inl (by rw [upd_ne (fun q => by rw [q, e] at z; cases z)]; exact z)
  · exact .inr ⟨o, by rw [upd_ne (fun q => by rw [q, e] at z; cases z)]; exact z⟩) id
end
theorem But.trans' {b : Addr} {H1 H2 H3 : Hp} (x : But b H1 H2) (y : But b H2 H3) : But b H1 H3 := fun a o n e => y a o n (x a o n e)
theorem But.same {b : Addr} {H1 H2 : Hp} (x : Same H1 H2) : But b H1 H2 := fun a o _ e => x a o e
/-- calls by hall -/
def KnA (K : PySem.W.Frag) (H : Hp) (kn : List (Key × V)) (n : Nat) : Prop := kn.length ≤ n ∧ ∀ k v, valV kn k = some v → ∃ (a : Addr) (cs : List Str), v = .ref a ∧ SqT K H a (cs.map V.str) ∧ cs.length ≤ n
theorem KnA.kept {K : PySem.W.Frag} {H H' : Hp} {kn : List (Key × V)} {n : Nat} (h : KnA K H kn n) (k : ∀ a xs, SqT K H a xs → SqT K H' a xs) : KnA K H' kn n := ⟨h.1, fun x v e => let ⟨a, cs, e1, e2, e3⟩ := h.2 x v e; ⟨a, cs, e1, k _ _ e2, e3⟩⟩
theorem KnA.put {K : PySem.W.Frag} {H H' : Hp} {kn : List (Key × V)} {n : Nat} (h : KnA K H kn n) (k : ∀ a xs, SqT K H a xs → SqT K H' a xs) {j : Key} {a : Addr} {cs : List Str} (ha : SqT K H' a (cs.map V.str)) (l : cs.length ≤ n + 1) : KnA K H' (putK kn j (.ref a)) (n + 1) :=
  ⟨Nat.le_trans (put_le _ _ _) (Nat.succ_le_succ h.1), fun x v e => by
    rw [valV_put] at e
    by_cases q : x = j
    · rw [if_pos q] at e; cases e; exact ⟨a, cs, rfl, ha, l⟩
    · rw [if_neg q] at e
      obtain ⟨b, ds, e1, e2, e3⟩ := h.2 x v e
      exact ⟨b, ds, e1, k _ _ e2, by omega⟩⟩
theorem kvs_at {kvs : List (List Key × V)} {i : Nat} {k : List Key} {v : V} (h : kvs[i]? = some (k, v)) : k ∈ kvs.map (·.1) := List.mem_map.mpr ⟨(k, v), List.mem_of_getElem? h, rfl⟩
theorem alike_rows (r s : Rw) : PySem.W.alike (rowD r) (rowD s) = true := by simp [rowD, PySem.W.alike, PySem.W.alikeAll]
/-- rows as keys, sorted -/
theorem rows_sorted {zs : List (Addr × Rw)} {L ws : List (Addr × List Key)} (g : Has (zs.map fun z => (z.1, rowK z.2)) (zs.map fun z => (z.1, rowK z.2)).length L) (pm : ws.Perm L) :
    ∃ ys : List (Addr × Rw), ws = ys.map (fun z => (z.1, rowK z.2)) ∧ (∀ y ∈ ys, y ∈ zs) ∧ (∀ z ∈ zs, z.2 ∈ ys.map Prod.snd) ∧ ys.length ≤ zs.length := by
  have mem : ∀ y ∈ ws, ∃ z ∈ zs, y = (z.1, rowK z.2) := fun y hy => by
    have := List.mem_of_mem_take (g.of y (pm.mem_iff.mp hy))
    obtain ⟨z, hz, e⟩ := List.mem_map.mp this
    exact ⟨z, hz, e.symm⟩
  have all : ∀ l : List (Addr × List Key), (∀ y ∈ l, ∃ z ∈ zs, y = (z.1, rowK z.2)) → ∃ ys : List (Addr × Rw), l = ys.map (fun z => (z.1, rowK z.2)) ∧ ∀ y ∈ ys, y ∈ zs := by
    intro l
    induction l with
    | nil => exact fun _ => ⟨[], rfl, fun y hy => nomatch hy⟩
    | cons a l ih =>
      intro h
      obtain ⟨ys, e, m⟩ := ih fun y hy => h y (List.mem_cons_of_mem _ hy)
      obtain ⟨z, hz, ez⟩ := h a List.mem_cons_self
      exact ⟨z :: ys, by rw [List.map_cons, ← e, ez], fun y hy => (List.mem_cons.mp hy).elim (fun q => q ▸ hz) (m y)⟩
  obtain ⟨ys, e, m⟩ := all ws mem
  refine ⟨ys, e, m, fun z hz => ?_, ?_⟩
  · have h1 : ((z.1, rowK z.2) : Addr × List Key) ∈ (zs.map fun z => (z.1, rowK z.2)).take (zs.map fun z => (z.1, rowK z.2)).length := by
      rw [List.take_length]; exact List.mem_map.mpr ⟨z, hz, rfl⟩
    have h2 := g.all _ h1
    have h3 : rowK z.2 ∈ ws.map Prod.snd := (pm.map Prod.snd).mem_iff.mpr h2
    rw [e, List.map_map] at h3
    obtain ⟨y, hy, ey⟩ := List.mem_map.mp h3
    exact List.mem_map.mpr ⟨y, hy, rowK_inj ey⟩
  · have := g.len
    have l1 := pm.length_eq
    rw [e, List.length_map] at l1
    rw [List.length_map] at this; omega
theorem run_sortset {P : Program} {w : World} {K : PySem.W.Frag} {σ : L2.St} {H : Hp} {i : Nat} {ra : Addr} {zs : List (Addr × Rw)} {Q : VK} (h : σ[i]? = some (some (.ref ra))) (hra : SqL K H ra (zs.map fun z => V.ref z.1) ∨ SqT K H ra (zs.map fun z => V.ref z.1)) (hz : RowsAt K H zs) (zl : zs.length < 64)
    (k : ∀ q ys H', Same H H' → H' q = some (.lst (ys.map fun z : Addr × Rw => V.ref z.1)) → RowsAt K H' ys → (∀ y ∈ ys, y ∈ zs) → (∀ z ∈ zs, z.2 ∈ ys.map Prod.snd) → ys.length ≤ zs.length → Q (.ref q) H') :
    tCB (rSortQ K P w) (tCons (tCB (rSetQ K P w) (tCons (tVar i) tNil)) tNil) σ H Q := by
  have em : (zs.map fun z => V.ref z.1) = (zs.map fun z => ((z.1, rowK z.2) : Addr × List Key)).map fun z => V.ref z.1 := by rw [List.map_map]; rfl
  have rd : ∀ d ∈ (zs.map fun z => ((z.1, rowK z.2) : Addr × List Key)).map fun z => keyD z.2, ∃ r, d = rowD r := fun d hd => by
    rw [List.map_map] at hd
    obtain ⟨z, _, rfl⟩ := List.mem_map.mp hd
    exact ⟨z.2, rfl⟩
  refine ⟨_, h, ra, zs.map fun z => (z.1, rowK z.2), rfl, by rw [← em]; exact hra, fun z hz' => ?_, by rw [List.length_map]; exact zl, fun p hp => ?_⟩
  · obtain ⟨y, hy, rfl⟩ := List.mem_map.mp hz'
    exact (hz y hy).1
  have s2 := Same.newA (o := KeySet P w p (zs.map fun z => (z.1, rowK z.2))) hp
  refine ⟨p, zs.map fun z => (z.1, rowK z.2), rfl, upd_same, fun z hz' => ?_, fun d hd e he => ?_, .inl fun d hd => ?_, fun L ws q hL _ pm _ hq => ?_⟩
  · obtain ⟨y, hy, rfl⟩ := List.mem_map.mp hz'
    exact s2.stA (hz y hy).1
  · obtain ⟨r, rfl⟩ := rd d hd
    obtain ⟨r2, rfl⟩ := rd e he
    exact alike_rows r r2
  · obtain ⟨r, rfl⟩ := rd d hd
    exact ⟨_, _, rfl⟩
  obtain ⟨ys, rfl, my, cov, yl⟩ := rows_sorted hL pm
  have s3 := Same.newA (o := .lst ((ys.map fun z => ((z.1, rowK z.2) : Addr × List Key)).map fun z => V.ref z.1)) hq
  refine k q ys _ (s2.trans s3) (by rw [upd_same, List.map_map]; rfl) (fun y hy => ⟨(s2.trans s3).stA (hz y (my y hy)).1, (hz y (my y hy)).2⟩) my cov yl
/-! ### d[h, c] = d.get((h, c), ..) + .. -/
theorem cat_one {K : PySem.W.Frag} {H : Hp} {a u : Addr} {os : List Str} {x : Str} {Q : VK} (ha : SqT K H a (os.map V.str)) (hu : H u = some (.tup [.str x])) (l : os.length ≤ 10000) (k : ∀ z H1, Same H H1 → SqT K H1 z ((os ++ [x]).map V.str) → Q (.ref z) H1) : rCatA K (.ref a) (.ref u) H Q :=
  run_catT (F := nn H) (xs := os.map .str) (ys := [.str x]) (.tup ha (dfs_strs os)) (.tup (SqT.of hu) (.cons (.str _) .nil)) (by rw [List.length_map]; show os.length + 1 ≤ 100000; omega) fun z H1 s1 hz => by
    rw [show (os.map PyData.str ++ [.str x]) = (os ++ [x]).map PyData.str by rw [List.map_append]; rfl] at hz
    cases hz with
    | tup h r =>
      have e := strs_dps (dfs_dps r)
      subst e
      exact k _ _ s1 h
section
variable {K : PySem.W.Frag} {σ : L2.St} {H : Hp} {D : Ends} {i j l m : Nat} {td : Addr} {h c x : Str} {R : List Rw}
theorem put_tup {kvs : List (List Key × V)} (h2 : σ[i]? = some (some (.ref td))) (h3 : σ[j]? = some (some (.str h))) (h4 : σ[l]? = some (some (.str c))) (h5 : σ[m]? = some (some (.str x))) (e : H td = some (.dT kvs)) (hA : Ans (SqT K) H kvs R) (sz : R.length < 10000)
    (k : ∀ kvs' H', But td H H' → H' td = some (.dT kvs') → Ans (SqT K) H' kvs' (R ++ [(h, c, x)]) → D.nx σ H') :
    sDPut (tVar i) (tTup (tCons (tVar j) (tCons (tVar l) tNil))) (tOp (rCatA K) (tDGet2 (tVar i) (tTup (tCons (tVar j) (tCons (tVar l) tNil))) (tTup tNil)) (tTup (tCons (tVar m) tNil))) D σ H := by
  refine ⟨_, h2, td, rfl, .inr ⟨kvs, .inl e⟩, _, h3, _, h4, (by show 2 ≤ sizeLine; decide), fun t ht => ⟨(by show 0 ≤ sizeLine; decide), fun n hn => ?_⟩⟩
  have s1 := Same.newA (o := .tup [.str h, .str c]) ht
  have s2 := Same.newA (o := .tup []) hn
  have gt := s2 _ _ (upd_same (H := H) (a := t) (o := .tup [.str h, .str c]))
  have gn := upd_same (H := upd H t (.tup [.str h, .str c])) (a := n) (o := .tup [])
  have s12 := s1.trans s2
  revert gt gn s12
  generalize upd (upd H t (.tup [.str h, .str c])) n (.tup []) = G
  intro gt gn s12
  have eG := s12 _ _ e
  have fin : ∀ (a : Addr) (os : List Str), SqT K G a (os.map V.str) → os.length ≤ R.length → (∀ o, o ∈ os ↔ (h, c, o) ∈ R) → tTup (tCons (tVar m) tNil) σ G fun y H1 => rCatA K (.ref a) y H1 fun z H2 => tVar i σ H2 fun d H3 => tTup (tCons (tVar j) (tCons (tVar l) tNil)) σ H3 fun y H4 => ∃ a H5, d = .ref a ∧ DPut H4 a y z H5 ∧ D.nx σ H5 := fun a os ha hl hos => by
    refine ⟨_, h5, (by show 1 ≤ sizeLine; decide), fun u hu => ?_⟩
    have s3 := Same.newA (o := .tup [.str x]) hu
    refine cat_one (s3.stA ha) upd_same (by omega) fun z H1 s4 hz => ⟨_, h2, _, h3, _, h4, (by show 2 ≤ sizeLine; decide), fun t2 ht2 => ?_⟩
    have s5 := Same.newA (o := .tup [.str h, .str c]) ht2
    have sA := s3.trans (s4.trans s5)
    have e6 := sA _ _ eG
    refine ⟨td, _, rfl, DPut.t (k := hcK h c) e6 upd_same (lt5 (by have := hA.len; omega)), ?_⟩
    have sK : ∀ a xs, SqT K H a xs → SqT K (upd (upd H1 t2 (.tup [.str h, .str c])) td (.dT (putK kvs (hcK h c) (.ref z)))) a xs := fun a xs ha => (nodat_dT e6).st .updb ((s12.trans sA).stA ha)
    exact k _ _ ((But.same (s12.trans sA)).trans' .updb) upd_same (hA.put sK hos hl ((nodat_dT e6).st .updb (s5.stA hz)))
  rcases hA.now h c with ⟨e1, e2⟩ | ⟨a, os, e1, e2, e3, e4⟩
  · refine ⟨none, by rw [← e1]; exact DGet.t eG gt, ?_⟩
    exact fin n [] (SqT.of gn) (Nat.zero_le _) fun o => ⟨fun z => (nomatch z), fun z => absurd z (e2 o)⟩
  · refine ⟨some (.ref a), by rw [← e1]; exact DGet.t eG gt, ?_⟩
    exact fin a os (s12.stA e2) e3 e4
abbrev lstA : Hp → Addr → List V → Prop := fun H a xs => H a = some (.lst xs)
theorem put_lst {kvs : List (List Key × V)} (h2 : σ[i]? = some (some (.ref td))) (h3 : σ[j]? = some (some (.str h))) (h4 : σ[l]? = some (some (.str c))) (h5 : σ[m]? = some (some (.str x))) (e : H td = some (.dT kvs)) (hA : Ans lstA H kvs R) (sz : R.length < 10000)
    (k : ∀ kvs' H', But td H H' → H' td = some (.dT kvs') → Ans lstA H' kvs' (R ++ [(h, c, x)]) → D.nx σ H') :
    sDPut (tVar i) (tTup (tCons (tVar j) (tCons (tVar l) tNil))) (tOp rCat (tDGet2 (tVar i) (tTup (tCons (tVar j) (tCons (tVar l) tNil))) (tLst tNil)) (tLst (tCons (tVar m) tNil))) D σ H := by
  refine ⟨_, h2, td, rfl, .inr ⟨kvs, .inl e⟩, _, h3, _, h4, (by show 2 ≤ sizeLine; decide), fun t ht => ⟨(by show 0 ≤ sizeLine; decide), fun n hn => ?_⟩⟩
  have s1 := Same.newA (o := .tup [.str h, .str c]) ht
  have s2 := Same.newA (o := .lst []) hn
  have gt := s2 _ _ (upd_same (H := H) (a := t) (o := .tup [.str h, .str c]))
  have gn := upd_same (H := upd H t (.tup [.str h, .str c])) (a := n) (o := .lst [])
  have s12 := s1.trans s2
  revert gt gn s12
  generalize upd (upd H t (.tup [.str h, .str c])) n (.lst []) = G
  intro gt gn s12
  have eG := s12 _ _ e
  have fin : ∀ (a : Addr) (os : List Str), G a = some (.lst (os.map V.str)) → os.length ≤ R.length → (∀ o, o ∈ os ↔ (h, c, o) ∈ R) → tLst (tCons (tVar m) tNil) σ G fun y H1 => rCat (.ref a) y H1 fun z H2 => tVar i σ H2 fun d H3 => tTup (tCons (tVar j) (tCons (tVar l) tNil)) σ H3 fun y H4 => ∃ a H5, d = .ref a ∧ DPut H4 a y z H5 ∧ D.nx σ H5 := fun a os ha hl hos => by
    refine ⟨_, h5, (by show 1 ≤ sizeLine; decide), fun u hu => ?_⟩
    have s3 := Same.newA (o := .lst [.str x]) hu
    refine ⟨a, u, _, _, rfl, rfl, s3 _ _ ha, upd_same, small5 (by rw [List.length_map]; show _ + 1 ≤ 100000; omega), fun z hz => ⟨_, h2, _, h3, _, h4, (by show 2 ≤ sizeLine; decide), fun t2 ht2 => ?_⟩⟩
    have s4 := Same.newA (o := .lst (os.map V.str ++ [V.str x])) hz
    have s5 := Same.newA (o := .tup [.str h, .str c]) ht2
    have sA := s3.trans (s4.trans s5)
    have e6 := sA _ _ eG
    refine ⟨td, _, rfl, DPut.t (k := hcK h c) e6 upd_same (lt5 (by have := hA.len; omega)), ?_⟩
    have gz := s5 _ _ (upd_same (H := upd G u (.lst [.str x])) (a := z) (o := .lst (os.map V.str ++ [V.str x])))
    have sK : ∀ a xs, lstA H a xs → lstA (upd (upd (upd (upd G u (.lst [.str x])) z (.lst (os.map V.str ++ [V.str x]))) t2 (.tup [.str h, .str c])) td (.dT (putK kvs (hcK h c) (.ref z)))) a xs := fun a xs ha => by
      show _ = _
      rw [upd_ne (ne_of ha e (fun q => nomatch q))]
      exact (s12.trans sA) _ _ ha
    refine k _ _ ((But.same (s12.trans sA)).trans' .updb) upd_same (hA.put sK hos hl ?_)
    show _ = _
    rw [upd_ne (ne_of gz e6 (fun q => nomatch q)), List.map_append]; exact gz
  rcases hA.now h c with ⟨e1, e2⟩ | ⟨a, os, e1, e2, e3, e4⟩
  · refine ⟨none, by rw [← e1]; exact DGet.t eG gt, ?_⟩
    exact fin n [] gn (Nat.zero_le _) fun o => ⟨fun z => (nomatch z), fun z => absurd z (e2 o)⟩
  · refine ⟨some (.ref a), by rw [← e1]; exact DGet.t eG gt, ?_⟩
    exact fin a os (s12 _ _ e2) e3 e4
theorem put_kn {kn : List (Key × V)} {n : Nat} (h2 : σ[i]? = some (some (.ref td))) (h3 : σ[j]? = some (some (.str h))) (h5 : σ[m]? = some (some (.str x))) (e : H td = some (.dK kn)) (hK : KnA K H kn n) (sz : n < 10000)
    (k : ∀ kn' H', But td H H' → H' td = some (.dK kn') → KnA K H' kn' (n + 1) → D.nx σ H') :
    sDPut (tVar i) (tVar j) (tOp (rCatA K) (tDGet2 (tVar i) (tVar j) (tTup tNil)) (tTup (tCons (tVar m) tNil))) D σ H := by
  refine ⟨_, h2, td, rfl, .inl ⟨kn, .inl e⟩, _, h3, (by show 0 ≤ sizeLine; decide), fun t ht => ?_⟩
  have s1 := Same.newA (o := .tup []) ht
  have eG := s1 _ _ e
  have fin : ∀ (a : Addr) (os : List Str), SqT K (upd H t (.tup [])) a (os.map V.str) → os.length ≤ n → tTup (tCons (tVar m) tNil) σ (upd H t (.tup [])) fun y H1 => rCatA K (.ref a) y H1 fun z H2 => tVar i σ H2 fun d H3 => tVar j σ H3 fun y H4 => ∃ a H5, d = .ref a ∧ DPut H4 a y z H5 ∧ D.nx σ H5 := fun a os ha hl => by
    refine ⟨_, h5, (by show 1 ≤ sizeLine; decide), fun u hu => ?_⟩
    have s3 := Same.newA (o := .tup [.str x]) hu
    refine cat_one (s3.stA ha) upd_same (by omega) fun z H1 s4 hz => ⟨_, h2, _, h3, td, _, rfl, DPut.k (k := .inr h) (s4 _ _ (s3 _ _ eG)) (lt5 (by have := hK.1; omega)), ?_⟩
    have e6 := s4 _ _ (s3 _ _ eG)
    exact k _ _ ((But.same (s1.trans (s3.trans s4))).trans' .updb) upd_same (hK.put (fun a xs ha => (nodat_dK e6).st .updb ((s1.trans (s3.trans s4)).stA ha)) ((nodat_dK e6).st .updb hz) (by rw [List.length_append]; show os.length + 1 ≤ n + 1; omega))
  refine ⟨_, DGet.k (k := .inr h) eG, ?_⟩
  cases q : valV kn (.inr h) with
  | none => exact fin t [] (SqT.of upd_same) (Nat.zero_le _)
  | some v =>
    obtain ⟨a, cs, rfl, h1, h2'⟩ := hK.2 _ v q
    exact fin a cs (s1.stA h1) h2'
end
def srvFs (rt td kd : Addr) : List (Str × V) := [("rows", .ref rt), ("_answers", .ref td), ("_known", .ref kd)]
/-- a Server of the rows R -/
def ServerAt (K : PySem.W.Frag) (C b : Addr) (R : List Rw) (H : Hp) : Prop := ∃ (dx rt td kd : Addr) (kvs : List (List Key × V)), H b = some (.ins C dx (srvFs rt td kd)) ∧ H td = some (.dT kvs) ∧ Ans (SqT K) H kvs R
def spServer (K : PySem.W.Frag) (C : Addr) : Sp := fun vs H Q _ => ∃ (b dx ra : Addr) (zs : List (Addr × Rw)), vs = [.ref b, .ref ra] ∧ H b = some (.ins C dx []) ∧ SqT K H ra (zs.map fun z => V.ref z.1) ∧ RowsAt K H zs ∧ zs.length < 64 ∧
  ∀ H', But b H H' → ServerAt K C b (zs.map Prod.snd) H' → Q .non H'
section
variable {P : Program} {w : World} {K : PySem.W.Frag} {mg : Str → Option Value} {base : Heap} (T : Txt w K mg)
theorem ok_Server_init : FnOk P w K mg base (L2.CX P w) 6 T.a_Server___init__ T.d_Server___init__ ["self", "rows"] (spServer K T.C_Server) := by
  have G_need_rows := ok_need_rows (P := P) (base := base) T
  refine T.D_Server___init__.fn.okX sc_Server___init__ (fun vs H Q E h => ?_) (fun cdv A outer s H vs Q E hr h => ?_)
  · obtain ⟨b, dx, ra, zs, rfl, _⟩ := h; rfl
  · obtain ⟨b, dx, ra, zs, rfl, hb, hra, hz, zl, k⟩ := h
    refine ⟨_, (pss_cons (ps_expr (pe_call (G_need_rows) (hr.mono (by omega)) (by rfl) T.D_need_rows.mg T.D_need_rows.fn.kp T.D_need_rows.bd .nil (passes_call (takes_of rfl rfl rfl rfl) fun _ _ _ _ z => z) (pa_cons (pv 1) pa_nil)))
      (pss_cons (ps_fld (pv 0) (pe_callTy call_tuple_of (by rfl) T.b_tuple bt_tuple (pa_cons (pe_callB (cr_sortQ rfl hr.units) (by rfl) T.b_sorted bt_sorted (pa_cons (pe_callTy (cr_setQ rfl (Nat.lt_of_le_of_lt (Nat.add_le_add_left (show 3 ≤ 64 by decide) _) hr.units)) (by rfl) T.b_set bt_set (pa_cons (pv 1) pa_nil)) pa_nil)) pa_nil)) rfl)
      (pss_cons (ps_set (i := 2) sc_Server___init__.nd rfl (by first | exact Or.inl rfl | exact Or.inr rfl) pe_dnewT)
      (pss_cons (ps_for (passes_of rfl) rfl (pi_tup (pe_fld (pv 0) rfl)) (pg_tup rfl (pgs_cons (pg_name (i := 3) sc_Server___init__.nd rfl (by first | exact Or.inl rfl | exact Or.inr rfl)) (pgs_cons (pg_name (i := 4) sc_Server___init__.nd rfl (by first | exact Or.inl rfl | exact Or.inr rfl)) (pgs_cons (pg_name (i := 5) sc_Server___init__.nd rfl (by first | exact Or.inl rfl | exact Or.inr rfl)) pgs_nil)))) (pss_one (ps_dput (hu_of hr) (pv 2) (pe_tup (pa_cons (pv 3) (pa_cons (pv 4) pa_nil))) (pe_op op_catA (pe_dget2 (hu_of hr) (pv 2) (pe_tup (pa_cons (pv 3) (pa_cons (pv 4) pa_nil))) (pe_tup pa_nil) ⟨rfl, rfl, rfl, rfl⟩) (pe_tup (pa_cons (pv 5) pa_nil))) rfl)))
      (pss_cons (ps_fld (pv 0) (pv 2) rfl)
      (pss_cons (ps_set (i := 6) sc_Server___init__.nd rfl (by first | exact Or.inl rfl | exact Or.inr rfl) pe_dnewK)
      (pss_cons (ps_lock (ps_for (passes_of rfl) rfl (pi_keys (pv 2)) (pg_tup rfl (pgs_cons (pg_name (i := 3) sc_Server___init__.nd rfl (by first | exact Or.inl rfl | exact Or.inr rfl)) (pgs_cons (pg_name (i := 4) sc_Server___init__.nd rfl (by first | exact Or.inl rfl | exact Or.inr rfl)) pgs_nil))) (pss_one (ps_dput (hu_of hr) (pv 6) (pv 3) (pe_op op_catA (pe_dget2 (hu_of hr) (pv 6) (pv 3) (pe_tup pa_nil) ⟨rfl, rfl, rfl, rfl⟩) (pe_tup (pa_cons (pv 4) pa_nil))) rfl))))
      (pss_one (ps_fld (pv 0) (pe_lock (pe_dc (own := [("hall", 3)]) rfl sc_Server___init__.nd (pi_keys (pv 6)) (blkOk_by (own := [("hall", 3)]) (N := ["self", "rows", "told", "hall", "call", "other", "known"]) (sc := defScope s_Server___init__) (by decide +kernel)) (fun _ _ _ _ _ => (pg_name (i := 3) sc_Server___init__.nd rfl (by first | exact Or.inl rfl | exact Or.inr rfl))) (fun _ _ _ _ _ => pts_nil) (fun _ _ _ _ _ => (pv 3)) (fun _ _ _ _ _ => (pe_callTy (r := tupR K) call_tuple_of (by rfl) T.b_tuple bt_tuple (pa_cons (pe_callB (r := rSortTS K) cr_sortTS (by rfl) T.b_sorted bt_sorted (pa_cons (pe_dget (hu_of hr) (pv 6) (pv 3) (fun _ _ => rfl)) pa_nil)) pa_nil))))) rfl))))))))), ?_⟩
    refine ⟨_, rfl, ra, zs, rfl, hra, hz, fun H1 s1 => ?_⟩
    have hb1 := s1 _ _ hb
    have hra1 := s1.stA hra
    have hz1 := hz.same s1
    -- self.rows
    refine run_sortset (K := K) (P := P) (w := w) (i := 1) rfl (.inr hra1) hz1 zl fun q ys G sG eq hyG my cov yl => ⟨q, _, rfl, .inl ⟨SqL.of eq, fun rt hrt => ?_⟩⟩
    have s4 := Same.newA (o := .tup (ys.map fun z => V.ref z.1)) hrt
    have grt := upd_same (H := G) (a := rt) (o := .tup (ys.map fun z => V.ref z.1))
    have s02 := s1.trans (sG.trans s4)
    have hb2 := s4 _ _ (sG _ _ hb1)
    have hy2 := hyG.same s4
    revert grt s02 hb2 hy2
    generalize upd G rt (.tup (ys.map fun z => V.ref z.1)) = H2
    intro grt s02 hb2 hy2
    clear s4 hrt eq hyG sG hb1 hra1 hz1 s1 hra
    refine ⟨_, rfl, b, _, dx, _, rfl, hb2, T.cl_Server, T.na_Server_rows, (by show 0 < 1000; decide), ?_⟩
    have ef1 : putF ("rows" : Str) (V.ref rt) [] = [(("rows" : Str), V.ref rt)] := rfl
    rw [ef1]
    have nrt : rt ≠ b := fun e => by rw [e, hb2] at grt; cases grt
    have b3 : But b H (upd H2 b (.ins T.C_Server dx [("rows", .ref rt)])) := (But.same s02).trans' .updb
    have hb3 : (upd H2 b (.ins T.C_Server dx [("rows", .ref rt)])) b = some (.ins T.C_Server dx [("rows", .ref rt)]) := upd_same
    have grt3 : (upd H2 b (.ins T.C_Server dx [("rows", .ref rt)])) rt = some (.tup (ys.map fun z => V.ref z.1)) := by
      rw [upd_ne nrt]; exact grt
    have hy3 : RowsAt K (upd H2 b (.ins T.C_Server dx [("rows", .ref rt)])) ys := fun y hy => ⟨(nodat_ins hb2).st .updb (hy2 y hy).1, (hy2 y hy).2⟩
    revert b3 hb3 grt3 hy3
    generalize upd H2 b (.ins T.C_Server dx [("rows", .ref rt)]) = H3
    intro b3 hb3 grt3 hy3
    clear hb2 hy2 s02 grt nrt ef1
    -- told
    intro td htd
    have ntd : td ≠ b := fun e => by rw [e, hb3] at htd; cases htd
    have fH : H td = none := by
      cases e : H td with
      | none => rfl
      | some o => have := b3 _ _ ntd e; rw [htd] at this; cases this
    have s4 := Same.newA (o := .dT []) htd
    have b4 := b3.trans' (But.same s4)
    have hb4 := s4 _ _ hb3
    have grt4 := s4 _ _ grt3
    have hy4 := hy3.same s4
    have e4 : (upd H3 td (.dT [])) td = some (.dT []) := upd_same
    revert b4 hb4 grt4 hy4 e4
    generalize upd H3 td (.dT []) = H4
    intro b4 hb4 grt4 hy4 e4
    clear s4 b3 hb3 grt3 hy3
    have N4 := nodat_dT e4
    dsimp only [gName]
    have hrt4 : SqT K H4 rt (ys.map fun z => V.ref z.1) := SqT.of grt4
    refine ⟨_, rfl, b, _, dx, _, _, rfl, hb4, T.cl_Server, T.na_Server_rows, rfl, rt, rfl, ⟨_, hrt4⟩, for_tup (K := K) (a := rt) (xs := ys.map fun z => V.ref z.1) (fun i σ' H' => ∃ o3 o4 o5 kvs, σ' = [some (.ref b), some (.ref ra), some (.ref td), o3, o4, o5, none] ∧ But td H4 H' ∧ H' td = some (.dT kvs) ∧ Ans (SqT K) H' kvs ((ys.map Prod.snd).take i)) ⟨none, none, none, [], rfl, But.of (Same.refl _), e4, Ans.nil⟩ (fun i σ' H' _ ⟨_, _, _, _, _, t, _⟩ => N4.st t hrt4) ?_ ?_⟩
    · rintro i v σ' H5 hv ⟨o3, o4, o5, kvs, rfl, t5, e5, a5⟩
      rw [List.getElem?_map] at hv
      cases e : ys[i]? with
      | none => rw [e] at hv; cases hv
      | some y =>
        rw [e] at hv
        cases hv
        have hy5 := N4.st t5 (hy4 y (List.mem_of_getElem? e)).1
        obtain ⟨q, h, c, x⟩ := y
        refine ⟨q, _, rfl, hy5, rfl, _, _, rfl, _, _, rfl, _, _, rfl, rfl, ?_⟩
        refine put_tup (K := K) (i := 2) (j := 3) (l := 4) (m := 5) rfl rfl rfl rfl e5 a5 (by rw [List.length_take, List.length_map]; omega) fun kvs' H6 t6 e6 a6 => ?_
        have ek : (ys.map Prod.snd).take (i + 1) = (ys.map Prod.snd).take i ++ [(h, c, x)] := by rw [List.take_succ, List.getElem?_map, e]; rfl
        exact ⟨_, _, _, kvs', rfl, t5.trans' t6, e6, by rw [ek]; exact a6⟩
    · rintro σ' H5 ⟨o3, o4, o5, kvs, rfl, t5, e5, a5⟩
      rw [List.length_map, ← List.length_map (f := Prod.snd), List.take_length] at a5
      have hb5 := t5 _ _ (Ne.symm ntd) hb4
      have b5 : But b H H5 := fun a o n e => t5 a o (ne_of_none e fH) (b4 a o n e)
      clear hrt4 b4 hb4 grt4 e4 N4 t5 hy4
      refine ⟨_, rfl, _, rfl, b, _, dx, _, rfl, hb5, T.cl_Server, T.na_Server__answers, (by show 1 < 1000; decide), ?_⟩
      have ef2 : putF ("_answers" : Str) (V.ref td) [(("rows" : Str), V.ref rt)] = [(("rows" : Str), V.ref rt), ("_answers", .ref td)] := rfl
      rw [ef2]
      have b6 := b5.trans' (But.updb (H := H5) (b := b) (o := .ins T.C_Server dx [(("rows" : Str), V.ref rt), ("_answers", .ref td)]))
      have hb6 : (upd H5 b (.ins T.C_Server dx [(("rows" : Str), V.ref rt), ("_answers", .ref td)])) b = some (.ins T.C_Server dx [(("rows" : Str), V.ref rt), ("_answers", .ref td)]) := upd_same
      have e6 : (upd H5 b (.ins T.C_Server dx [(("rows" : Str), V.ref rt), ("_answers", .ref td)])) td = some (.dT kvs) := by rw [upd_ne ntd]; exact e5
      have a6 := a5.kept fun a xs ha => (nodat_ins hb5).st (.updb (o := .ins T.C_Server dx [(("rows" : Str), V.ref rt), ("_answers", .ref td)])) ha
      revert b6 hb6 e6 a6
      generalize upd H5 b (.ins T.C_Server dx [(("rows" : Str), V.ref rt), ("_answers", .ref td)]) = H6
      intro b6 hb6 e6 a6
      clear b5 hb5 e5 a5 ef2
      -- known
      intro kd hkd
      dsimp only [gName]
      have nkb : kd ≠ b := fun e => by rw [e, hb6] at hkd; cases hkd
      have nkt : kd ≠ td := fun e => by rw [e, e6] at hkd; cases hkd
      have s7 := Same.newA (o := .dK []) hkd
      have gH : H kd = none := by
        cases e : H kd with
        | none => rfl
        | some o => have := b6 _ _ nkb e; rw [hkd] at this; cases this
      have b7 := b6.trans' (But.same s7)
      have hb7 := s7 _ _ hb6
      have e7 := s7 _ _ e6
      have a7 := a6.kept fun a xs ha => s7.stA ha
      have f7 : (upd H6 kd (.dK [])) kd = some (.dK []) := upd_same
      revert b7 hb7 e7 a7 f7
      generalize upd H6 kd (.dK []) = H7
      intro b7 hb7 e7 a7 f7
      clear b6 hb6 e6 a6 s7 hkd
      refine ⟨td, .dT kvs, e7, trivial, fun od => ⟨_, rfl, td, od, rfl, .inr ⟨kvs, upd_same, for_it walk_keysT (fun i σ' H' => ∃ o3 o4 o5 kn, σ' = [some (.ref b), some (.ref ra), some (.ref td), o3, o4, o5, some (.ref kd)] ∧ But kd (upd H7 td (.frz od (.dT kvs))) H' ∧ H' kd = some (.dK kn) ∧ KnA K H' kn i)
        ⟨o3, o4, o5, [], rfl, But.of (Same.refl _), by rw [upd_ne nkt]; exact f7, Nat.le_refl _, fun k v e => nomatch e⟩ (fun i σ' H' _ ⟨_, _, _, _, _, t, _⟩ => t _ _ (Ne.symm nkt) upd_same) ?_ ?_⟩⟩⟩
      · rintro i x σ' H8 H8' hi ⟨o3, o4, o5, kn, rfl, t8, f8, k8⟩ ⟨rfl, ky, v, q, hk, rfl, hq⟩
        obtain ⟨h, c, o, rfl, _⟩ := a7.key ky (kvs_at hk)
        refine ⟨q, _, rfl, .of hq, rfl, _, _, rfl, _, _, rfl, rfl, ?_⟩
        have kl := a7.len
        rw [List.length_map] at kl
        refine put_kn (K := K) (i := 6) (j := 3) (m := 4) rfl rfl rfl f8 k8 (by omega) fun kn' H9 t9 f9 k9 => ?_
        exact ⟨_, _, _, kn', rfl, t8.trans' t9, f9, k9⟩
      · rintro σ' H8 ⟨o3, o4, o5, kn, rfl, t8, f8, k8⟩
        have et8 := t8 _ _ (Ne.symm nkt) upd_same
        refine ⟨et8, ?_⟩
        have t9 := unlock_but e7 t8
        have a9 := a7.kept fun a xs ha => (nodat_dK f7).st t9 ha
        have hb9 := t9 _ _ (Ne.symm nkb) hb7
        have e9 := t9 _ _ (Ne.symm nkt) e7
        have f9 : (upd H8 td (.dT kvs)) kd = some (.dK kn) := by rw [upd_ne nkt]; exact f8
        have k9 := k8.kept fun a xs ha => unlock_st et8 ha
        have b9 : But b H (upd H8 td (.dT kvs)) := fun a o n e => t9 a o (ne_of_none e gH) (b7 a o n e)
        revert a9 hb9 e9 f9 k9 b9
        generalize upd H8 td (.dT kvs) = H9
        intro a9 hb9 e9 f9 k9 b9
        clear t8 f8 k8 et8 t9 b7 hb7 e7 a7 f7
        -- known, each sorted
        have kl := k9.1
        have kz := a9.len
        rw [List.length_map] at kz
        refine ⟨kd, .dK kn, f9, trivial, fun od2 => ⟨_, rfl, kd, od2, rfl, .inl ⟨kn, upd_same, fun D hD => ?_⟩⟩⟩
        have nDk : D ≠ kd := fun e => by rw [e, upd_same] at hD; cases hD
        have k10 : KnA K (upd H9 kd (.frz od2 (.dK kn))) kn kvs.length := k9.kept fun a xs ha => (nodat_dK f9).st .updb ha
        have s10 := Same.newA (o := .dK []) hD
        refine dc_it walk_keys (fun i H' => ∃ kd2, H' D = some (.dK kd2) ∧ kd2.length ≤ i ∧ But D (upd H9 kd (.frz od2 (.dK kn))) H') ⟨[], upd_same, Nat.le_refl _, But.same s10⟩ (fun i H' _ ⟨_, _, _, t⟩ => t _ _ (Ne.symm nDk) upd_same) ?_ ?_
        · rintro i x H10 H10' hi ⟨kd2, g1, g2, t⟩ ⟨rfl, ky, v, hk, rfl⟩
          refine ⟨rfl, ?_⟩
          cases q : valV kn ky with
          | none => exact absurd (List.mem_map.mpr ⟨(ky, v), List.mem_of_getElem? hk, rfl⟩) (valV_not q)
          | some v2 =>
            obtain ⟨a, cs, rfl, h1, h2⟩ := k10.2 ky v2 q
            have ek : H10' kd = some (.frz od2 (.dK kn)) := t _ _ (Ne.symm nDk) upd_same
            refine ⟨_, rfl, _, rfl, _, rfl, kd, _, rfl, .inl ⟨kn, ky, .inr ⟨od2, ek⟩, rfl, q.symm⟩, a, cs, rfl, st_free hD t h1, fun ws p pm _ hp => ⟨p, _, rfl, .inl ⟨SqL.of upd_same, fun l hl => ?_⟩⟩⟩
            have s11 := Same.newA (o := .lst (ws.map V.str)) hp
            have s12 := Same.newA (o := .tup (ws.map V.str)) hl
            have sA := s11.trans s12
            refine ⟨kd2, ky, rfl, sA _ _ g1, lt5 (by omega), _, upd_same, Nat.le_trans (put_le _ _ _) (by omega), (t.trans' (But.same sA)).trans' .updb⟩
        · rintro H10 ⟨kd2, g1, g2, t⟩
          have ek : H10 kd = some (.frz od2 (.dK kn)) := t _ _ (Ne.symm nDk) upd_same
          refine ⟨ek, ?_⟩
          have nDb : D ≠ b := fun e => by rw [e, upd_ne (Ne.symm nkb), hb9] at hD; cases hD
          have nDt : D ≠ td := fun e => by rw [e, upd_ne (Ne.symm nkt), e9] at hD; cases hD
          have fD : H9 D = none := by rw [upd_ne nDk] at hD; exact hD
          have t11 := unlock_but f9 t
          have hb11 := t11 _ _ (Ne.symm nDb) hb9
          have e11 := t11 _ _ (Ne.symm nDt) e9
          have a11 := a9.kept fun a xs ha => st_free fD t11 ha
          have b11 : But b H (upd H10 kd (.dK kn)) := fun a o n e => t11 a o (ne_of_none (b9 a o n e) fD) (b9 a o n e)
          revert hb11 e11 a11 b11
          generalize upd H10 kd (.dK kn) = H11
          intro hb11 e11 a11 b11
          refine ⟨_, rfl, b, _, dx, _, rfl, hb11, T.cl_Server, T.na_Server__known, (by show 2 < 1000; decide), ?_⟩
          have ef3 : putF ("_known" : Str) (V.ref D) [(("rows" : Str), V.ref rt), ("_answers", .ref td)] = srvFs rt td D := rfl
          rw [ef3]
          refine k _ (b11.trans' .updb) ⟨dx, rt, td, D, kvs, upd_same, by rw [upd_ne ntd]; exact e11, ?_⟩
          refine (a11.kept fun a xs ha => (nodat_ins hb11).st .updb ha).same (fun r => ⟨fun hr => ?_, fun hr => ?_⟩) (by rw [List.length_map, List.length_map]; exact yl)
          · obtain ⟨y, hy, rfl⟩ := List.mem_map.mp hr
            exact List.mem_map.mpr ⟨y, my y hy, rfl⟩
          · obtain ⟨z, hz', rfl⟩ := List.mem_map.mp hr
            exact cov z hz'
end
end Ag

set_option Elab.async false
set_option linter.all false
set_option maxRecDepth 100000
set_option maxHeartbeats 2000000
set_option pp.maxSteps 400
namespace Ag
open PySem PySem.Spec PyProof.Rows L2
theorem lookF_ne' {f g : Str} {v : V} {r : List (Str × V)} (h : (f == g) = false) : ((g, v) :: r).lookup f = r.lookup f := by rw [List.lookup_cons, h]
theorem no_answers : (("answers" : Str) == "rows") = false ∧ (("answers" : Str) == "_answers") = false ∧ (("answers" : Str) == "_known") = false := by decide +kernel
theorem sf_no {rt td kd : Addr} : (srvFs rt td kd).lookup ("answers" : Str) = none := by
  unfold srvFs
  rw [lookF_ne' no_answers.1, lookF_ne' no_answers.2.1, lookF_ne' no_answers.2.2]; rfl
theorem sn_ans : (("_answers" : Str) == "rows") = false := by decide +kernel
theorem sf_ans {rt td kd : Addr} : (srvFs rt td kd).lookup ("_answers" : Str) = some (.ref td) := by
  unfold srvFs
  rw [lookF_ne' sn_ans]; rfl
section
variable {K : PySem.W.Frag} {H H' : Hp} {C b : Addr} {R : List Rw}
theorem ServerAt.same (s : Same H H') (h : ServerAt K C b R H) : ServerAt K C b R H' := by
  obtain ⟨dx, rt, td, kd, kvs, h1, h2, h3⟩ := h
  exact ⟨dx, rt, td, kd, kvs, s _ _ h1, s _ _ h2, h3.kept fun a xs ha => s.stA ha⟩
theorem ServerAt.but {p c : Addr} {n : Nat} (P : Pen p c n H) (t : But p H H') (h : ServerAt K C b R H) : ServerAt K C b R H' := by
  obtain ⟨dx, rt, td, kd, kvs, h1, h2, h3⟩ := h
  exact ⟨dx, rt, td, kd, kvs, t _ _ (P.ne h1 (fun _ e => nomatch e)) h1, t _ _ (P.ne h2 (fun _ e => nomatch e)) h2, h3.kept fun a xs ha => P.st t ha⟩
end
def spAnswers (K : PySem.W.Frag) (C : Addr) : Sp := fun vs H Q _ => ∃ (b : Addr) (h c : Str) (R : List Rw), vs = [.ref b, .str h, .str c] ∧ ServerAt K C b R H ∧ ∀ (a : Addr) (os : List Str) H', Same H H' → SqT K H' a (os.map V.str) → (∀ o, o ∈ os ↔ (h, c, o) ∈ R) → Q (.ref a) H'
section
variable {P : Program} {w : World} {K : PySem.W.Frag} {mg : Str → Option Value} {base : Heap} (T : Txt w K mg)
theorem ok_answers : FnOk P w K mg base CX0 1 T.a_Server_answers T.d_Server_answers ["self", "hall", "call"] (spAnswers K T.C_Server) := by
  refine T.D_Server_answers.fn.ok sc_Server_answers (fun vs H Q E h => ?_) (fun cdv A outer s H vs Q E hr h => ?_)
  · obtain ⟨b, x, c, R, rfl, _⟩ := h; rfl
  · obtain ⟨b, x, c, R, rfl, hs, k⟩ := h
    refine ⟨_, (pss_cons (ps_if (PW.pt (pw_or (pt_not (pt_val (pe_callB call_isi (by rfl) T.b_isinstance bt_isinstance (pa_cons (pv 1) (pa_cons (pe_bltn (v := .ty "str") (by rfl) T.b_str bt_str rfl) pa_nil))))) (pw_or1 (pt_not (pt_val (pe_callB call_isi (by rfl) T.b_isinstance bt_isinstance (pa_cons (pv 2) (pa_cons (pe_bltn (v := .ty "str") (by rfl) T.b_str bt_str rfl) pa_nil)))))))) (pss_one (ps_ret (pe_tup pa_nil))) pss_nil)
      (pss_one (ps_ret (pe_dget2 (hu_of hr) (pe_fld (pv 0) rfl) (pe_tup (pa_cons (pv 1) (pa_cons (pv 2) pa_nil))) (pe_tup pa_nil) ⟨rfl, rfl, rfl, rfl⟩)))), ?_⟩
    refine s_if (b := false) (et_or (et_not (et_B (ed_isi (T := "str") (ed_var (F := nn H) (i := 1) rfl (.str x)) (.inl rfl)))) fun _ => et_not (et_B (ed_isi (T := "str") (ed_var (F := nn H) (i := 2) rfl (.str c)) (.inl rfl)))) (fun h => nomatch h) fun _ H1 s1 => ?_
    obtain ⟨dx, rt, td, kd, kvs, h1, h2, h3⟩ := hs.same s1
    refine ⟨_, rfl, b, _, dx, _, _, rfl, h1, T.cl_Server, T.na_Server__answers, sf_ans, td, rfl, .inr ⟨kvs, .inl h2⟩, _, rfl, _, rfl, (by show 2 ≤ sizeLine; decide), fun t ht => ⟨(by show 0 ≤ sizeLine; decide), fun n hn => ?_⟩⟩
    have s2 := Same.newA (o := .tup [.str x, .str c]) ht
    have s3 := Same.newA (o := .tup []) hn
    have gt := s3 _ _ (upd_same (H := H1) (a := t) (o := .tup [.str x, .str c]))
    have e := (s2.trans s3) _ _ h2
    rcases h3.now x c with ⟨e1, e2⟩ | ⟨a, os, e1, e2, _, e4⟩
    · refine ⟨none, by rw [← e1]; exact DGet.t e gt, ?_⟩
      exact k n [] _ (s1.trans (s2.trans s3)) (.of upd_same) fun o => ⟨fun z => (nomatch z), fun z => absurd z (e2 o)⟩
    · refine ⟨some (.ref a), by rw [← e1]; exact DGet.t e gt, ?_⟩
      exact k a os _ (s1.trans (s2.trans s3)) ((s2.trans s3).stA e2) e4
end
theorem ed_notAns {K : PySem.W.Frag} {σ : L2.St} {F : Addr → Prop} {H : Hp} {C b : Addr} {R : List Rw} {i : Nat} {ta t1 t2 : TE} {h c x : Str} {E : XK} (hs : σ[i]? = some (some (.ref b))) (sv : ServerAt K C b R H) (ha : ED K ta σ F H (.str x)) (h1 : ED K t1 σ F H (.str h)) (h2 : ED K t2 σ F H (.str c)) :
    ED K (tOp (rIn K true) ta (tMeth C "answers" (spAnswers K C) [] E (tVar i) (tCons t1 (tCons t2 tNil)))) σ F H (.bool (!decide ((h, c, x) ∈ R))) := fun H1 s Q q =>
  ha H1 s _ fun v H2 s2 hv => by
    cases hv
    obtain ⟨dx, rt, td, kd, kvs, hb, _⟩ := id (sv.same (s.trans s2))
    refine ⟨_, hs, b, dx, _, rfl, hb, sf_no, ?_⟩
    refine h1 H2 (s.trans s2) _ fun v H3 s3 hv => ?_
    cases hv
    refine h2 H3 ((s.trans s2).trans s3) _ fun v H4 s4 hv => ?_
    cases hv
    refine ⟨b, h, c, R, rfl, sv.same (((s.trans s2).trans s3).trans s4), fun a os H5 s5 ho hm => ?_⟩
    refine (ed_notInSeq (σ := σ) (F := nn H5) (x := x) (xs := os) (ed_val (v := .str x) (.str _)) (ed_val (v := .ref a) (.tup ho (dfs_strs os))) (.inl rfl)) H5 (Same.refl _) _ fun v H6 s6 hv => ?_
    cases hv
    rw [decide_eq_decide.mpr (hm x)]
    exact q _ H6 ((((s2.trans s3).trans s4).trans s5).trans s6) (.bl _)
/-! ### Course -/
def crsFs (v1 v2 v3 : V) : List (Str × V) := [("calls", v1), ("halls", v2), ("ring", v3)]
def CourseAt (K : PySem.W.Frag) (C a : Addr) (d1 d2 d3 : PyData) (H : Hp) : Prop := ∃ dx v1 v2 v3, H a = some (.ins C dx (crsFs v1 v2 v3)) ∧ Dp K H v1 d1 ∧ Dp K H v2 d2 ∧ Dp K H v3 d3
section
variable {K : PySem.W.Frag} {H H' : Hp} {C a : Addr} {d1 d2 d3 : PyData}
theorem CourseAt.same (s : Same H H') (h : CourseAt K C a d1 d2 d3 H) : CourseAt K C a d1 d2 d3 H' := by
  obtain ⟨dx, v1, v2, v3, h1, h2, h3, h4⟩ := h
  exact ⟨dx, v1, v2, v3, s _ _ h1, dp_mono s h2, dp_mono s h3, dp_mono s h4⟩
theorem CourseAt.but {p c : Addr} {n : Nat} (P : Pen p c n H) (t : But p H H') (h : CourseAt K C a d1 d2 d3 H) : CourseAt K C a d1 d2 d3 H' := by
  obtain ⟨dx, v1, v2, v3, h1, h2, h3, h4⟩ := h
  exact ⟨dx, v1, v2, v3, t _ _ (P.ne h1 (fun _ e => nomatch e)) h1, P.dp t h2, P.dp t h3, P.dp t h4⟩
end
theorem cn_halls : (("halls" : Str) == "calls") = false := by decide +kernel
theorem cn_ring : (("ring" : Str) == "calls") = false ∧ (("ring" : Str) == "halls") = false := by decide +kernel
theorem cf_calls {v1 v2 v3 : V} : (crsFs v1 v2 v3).lookup ("calls" : Str) = some v1 := rfl
theorem cf_halls {v1 v2 v3 : V} : (crsFs v1 v2 v3).lookup ("halls" : Str) = some v2 := by
  unfold crsFs
  rw [lookF_ne' cn_halls]; rfl
theorem cf_ring {v1 v2 v3 : V} : (crsFs v1 v2 v3).lookup ("ring" : Str) = some v3 := by
  unfold crsFs
  rw [lookF_ne' cn_ring.1, lookF_ne' cn_ring.2]; rfl
theorem ed_fldI {K : PySem.W.Frag} {σ : L2.St} {F : Addr → Prop} {H : Hp} {i : Nat} {b C dx : Addr} {fs : List (Str × V)} {f : Str} {v : V} {d : PyData} (h : σ[i]? = some (some (.ref b))) (hb : H b = some (.ins C dx fs)) (c : Cls K C) (n : NoAttr K C f) (l : fs.lookup f = some v) (hd : Df K F H v d) : ED K (tFld K (tVar i) f) σ F H d :=
  fun H1 s Q q => ⟨_, h, b, C, dx, fs, v, rfl, s _ _ hb, c, n, l, q v H1 (Same.refl _) (df_mono s Fr.base hd)⟩
def spCourse (K : PySem.W.Frag) (C : Addr) : Sp := fun vs H Q _ => ∃ (b dx : Addr) (v1 v2 v3 : V) (d1 d2 d3 : PyData), vs = [.ref b, v1, v2, v3] ∧ H b = some (.ins C dx []) ∧ Dp K H v1 d1 ∧ Dp K H v2 d2 ∧ Dp K H v3 d3 ∧ preT 3 d1 ∧ preT 3 d2 ∧ preT 3 d3 ∧
  ∀ H', But b H H' → CourseAt K C b (asT d1) (asT d2) (asT d3) H' → Q .non H'
theorem NoDat.sl {K : PySem.W.Frag} {H H' : Hp} {b a : Addr} {xs : List V} (n : NoDat H b) (t : But b H H') (h : SqL K H a xs) : SqL K H' a xs := h.imp (fun z => by
  rcases z with z | ⟨o, z⟩
  · refine .inl (t _ _ (fun e => ?_) z)
    subst e; exact (n _ z).1 _ rfl
  · refine .inr ⟨o, t _ _ (fun e => ?_) z⟩
    subst e; exact (n _ z).2.2 _ _ rfl) id
mutual
theorem NoDat.dp {K : PySem.W.Frag} {H H' : Hp} {b : Addr} (n : NoDat H b) (t : But b H H') : ∀ {v : V} {d : PyData}, Dp K H v d → Dp K H' v d
  | _, _, .non => .non
  | _, _, .bl c => .bl c
  | _, _, .int i => .int i
  | _, _, .str x => .str x
  | _, _, .lst q r => .lst (n.sl t q) (NoDat.dps n t r)
  | _, _, .tup q r => .tup (n.st t q) (NoDat.dps n t r)
theorem NoDat.dps {K : PySem.W.Frag} {H H' : Hp} {b : Addr} (n : NoDat H b) (t : But b H H') : ∀ {vs : List V} {ds : List PyData}, DpAll K H vs ds → DpAll K H' vs ds
  | _, _, .nil => .nil
  | _, _, .cons q r => .cons (NoDat.dp n t q) (NoDat.dps n t r)
end
section
variable {P : Program} {w : World} {K : PySem.W.Frag} {mg : Str → Option Value} {base : Heap} (T : Txt w K mg)
theorem ok_Course_init : FnOk P w K mg base CX0 6 T.a_Course___init__ T.d_Course___init__ ["self", "calls", "halls", "ring"] (spCourse K T.C_Course) := by
  have G_as_tuples := ok_as (P := P) (base := base) T
  refine T.D_Course___init__.fn.ok sc_Course___init__ (fun vs H Q E h => ?_) (fun cdv A outer s H vs Q E hr h => ?_)
  · obtain ⟨b, dx, v1, v2, v3, d1, d2, d3, rfl, _⟩ := h; rfl
  · obtain ⟨b, dx, v1, v2, v3, d1, d2, d3, rfl, hb, h1, h2, h3, p1, p2, p3, k⟩ := h
    refine ⟨_, (pss_cons (ps_fld (pv 0) (pe_call (G_as_tuples) (hr.mono (by omega)) (by rfl) T.D_as_tuples.mg T.D_as_tuples.fn.kp T.D_as_tuples.bd .nil pass0 (pa_cons (pv 1) pa_nil)) rfl)
      (pss_cons (ps_fld (pv 0) (pe_call (G_as_tuples) (hr.mono (by omega)) (by rfl) T.D_as_tuples.mg T.D_as_tuples.fn.kp T.D_as_tuples.bd .nil pass0 (pa_cons (pv 2) pa_nil)) rfl)
      (pss_one (ps_fld (pv 0) (pe_call (G_as_tuples) (hr.mono (by omega)) (by rfl) T.D_as_tuples.mg T.D_as_tuples.fn.kp T.D_as_tuples.bd .nil pass0 (pa_cons (pv 3) pa_nil)) rfl)))), ?_⟩
    refine ⟨_, rfl, nn H, v1, d1, rfl, dp_df h1, p1, fun r1 H1 s1 g1 => ⟨_, rfl, b, _, dx, _, rfl, s1 _ _ hb, T.cl_Course, T.na_Course_calls, (by show 0 < 1000; decide), ?_⟩⟩
    have ef1 : putF ("calls" : Str) r1 [] = [(("calls" : Str), r1)] := rfl
    rw [ef1]
    have n1 := nodat_ins (s1 _ _ hb)
    have q1 := n1.dp (.updb (o := .ins T.C_Course dx [(("calls" : Str), r1)])) (df_dp g1)
    have q2 := n1.dp (.updb (o := .ins T.C_Course dx [(("calls" : Str), r1)])) (dp_mono s1 h2)
    have q3 := n1.dp (.updb (o := .ins T.C_Course dx [(("calls" : Str), r1)])) (dp_mono s1 h3)
    have t1 := (But.same (b := b) s1).trans' (.updb (o := .ins T.C_Course dx [(("calls" : Str), r1)]))
    have e1 : (upd H1 b (.ins T.C_Course dx [(("calls" : Str), r1)])) b = some (.ins T.C_Course dx [(("calls" : Str), r1)]) := upd_same
    revert q1 q2 q3 t1 e1
    generalize upd H1 b (.ins T.C_Course dx [(("calls" : Str), r1)]) = H2
    intro q1 q2 q3 t1 e1
    clear n1 g1 s1 ef1
    refine ⟨_, rfl, nn H2, v2, d2, rfl, dp_df q2, p2, fun r2 H3 s3 g2 => ⟨_, rfl, b, _, dx, _, rfl, s3 _ _ e1, T.cl_Course, T.na_Course_halls, (by show 1 < 1000; decide), ?_⟩⟩
    have ef2 : putF ("halls" : Str) r2 [(("calls" : Str), r1)] = [(("calls" : Str), r1), ("halls", r2)] := rfl
    rw [ef2]
    have n1 := nodat_ins (s3 _ _ e1)
    have w1 := n1.dp (.updb (o := .ins T.C_Course dx [(("calls" : Str), r1), ("halls", r2)])) (dp_mono s3 q1)
    have w2 := n1.dp (.updb (o := .ins T.C_Course dx [(("calls" : Str), r1), ("halls", r2)])) (df_dp g2)
    have w3 := n1.dp (.updb (o := .ins T.C_Course dx [(("calls" : Str), r1), ("halls", r2)])) (dp_mono s3 q3)
    have t2 := (t1.trans' (But.same s3)).trans' (.updb (o := .ins T.C_Course dx [(("calls" : Str), r1), ("halls", r2)]))
    have e2 : (upd H3 b (.ins T.C_Course dx [(("calls" : Str), r1), ("halls", r2)])) b = some (.ins T.C_Course dx [(("calls" : Str), r1), ("halls", r2)]) := upd_same
    revert w1 w2 w3 t2 e2
    generalize upd H3 b (.ins T.C_Course dx [(("calls" : Str), r1), ("halls", r2)]) = H4
    intro w1 w2 w3 t2 e2
    clear n1 q1 q2 q3 t1 e1 g2 s3 ef2
    refine ⟨_, rfl, nn H4, v3, d3, rfl, dp_df w3, p3, fun r3 H5 s5 g3 => ⟨_, rfl, b, _, dx, _, rfl, s5 _ _ e2, T.cl_Course, T.na_Course_ring, (by show 2 < 1000; decide), ?_⟩⟩
    have ef3 : putF ("ring" : Str) r3 [(("calls" : Str), r1), ("halls", r2)] = crsFs r1 r2 r3 := rfl
    rw [ef3]
    have n1 := nodat_ins (s5 _ _ e2)
    exact k _ ((t2.trans' (But.same s5)).trans' .updb) ⟨dx, r1, r2, r3, upd_same, n1.dp .updb (dp_mono s5 w1), n1.dp .updb (dp_mono s5 w2), n1.dp .updb (df_dp g3)⟩
end
end Ag

set_option Elab.async false
set_option linter.all false
set_option maxRecDepth 100000
set_option maxHeartbeats 4000000
set_option pp.maxSteps 400
namespace Ag
open PySem PySem.Spec PyProof.Rows L2
theorem tyx_tup {K : PySem.W.Frag} {H : Hp} {a : Addr} {xs : List V} (h : SqT K H a xs) : TyX K H (.ref a) (.type "tuple") := by
  rcases h with (h | ⟨o, h⟩) | ⟨o, its, n, hk, hc, _⟩
  · exact .base (.tup h)
  · exact .fTuple h
  · exact .kTuple hk hc
/-- isinstance(x, C), C a class of the text -/
theorem ed_isiO {K : PySem.W.Frag} {σ : L2.St} {F : Addr → Prop} {H : Hp} {i : Nat} {x : V} {t : Value} {C : Addr} {b : Bool} (h : σ[i]? = some (some x)) (ty : ∀ H1, Same H H1 → TyX K H1 x t) (kt : PySem.W.kitOne K t (.ref C) = some b) : ED K (tCB (rIsi K) (tCons (tVar i) (tCons (tC (.ref C)) tNil))) σ F H (.bool b) :=
  fun H1 s1 Q1 q1 => ⟨x, h, x, .ref C, t, _, b, rfl, .own _, ty H1 s1, kt, q1 _ _ (Same.refl _) (.bl _)⟩
/-! ### words -/
def txt : PyData → Str | .str x => x | _ => Str.empty
def wordsB : PyData → Bool | .tuple ds => ds.all isName | _ => false
def txts (d : PyData) : List Str := (partsD d).map txt
theorem words_of : ∀ {ds : List PyData}, ds.all isName = true → ∃ cs : List Str, ds = cs.map .str ∧ ∀ x ∈ cs, nameB x = true
  | [], _ => ⟨[], rfl, fun x hx => nomatch hx⟩
  | d :: ds, h => by
    rw [List.all_cons, Bool.and_eq_true] at h
    obtain ⟨cs, e, n⟩ := words_of h.2
    cases d with
    | str x => exact ⟨x :: cs, by rw [List.map_cons, ← e], fun y hy => (List.mem_cons.mp hy).elim (fun q => q ▸ h.1) (n y)⟩
    | _ => exact absurd h.1 (by simp [isName])
theorem wordsB_of {d : PyData} (h : wordsB d = true) : ∃ cs : List Str, d = .tuple (cs.map .str) ∧ ∀ x ∈ cs, nameB x = true := by
  cases d with
  | tuple ds => obtain ⟨cs, e, n⟩ := words_of (ds := ds) h; exact ⟨cs, by rw [e], n⟩
  | _ => cases h
theorem txts_words (cs : List Str) : txts (.tuple (cs.map .str)) = cs := by
  show (cs.map PyData.str).map txt = cs
  rw [List.map_map]
  have : (txt ∘ PyData.str) = id := rfl
  rw [this, List.map_id]
theorem words_all {cs : List Str} (h : ∀ x ∈ cs, nameB x = true) : (cs.map PyData.str).all isName = true := List.all_eq_true.mpr fun y hy => by
  obtain ⟨x, hx, rfl⟩ := List.mem_map.mp hy
  exact h x hx
def stp (cs hs : List Str) (i : Nat) : Rw := (hs.getD i Str.empty, cs.getD i Str.empty, hs.getD (i + 1) Str.empty)
def stepsB (R : List Rw) (cs hs : List Str) : Bool := (List.range cs.length).all fun i => decide (stp cs hs i ∈ R)
def lastB (hs : List Str) (n : Nat) : PyData → Bool | .int r => decide (hs.getD n Str.empty = hs.getD (n - r.toNat) Str.empty) | _ => false
def courseB (R : List Rw) (d1 d2 d3 : PyData) : Bool := (wordsB d1 && wordsB d2) && ((decide (lenP d2 = lenP d1 + 1) && wholeB d3 0 (lenP d1)) && (stepsB R (txts d1) (txts d2) && lastB (txts d2) (lenP d1) d3))
theorem lenP_words (cs : List Str) : lenP (.tuple (cs.map .str)) = cs.length := by show (cs.map PyData.str).length = _; rw [List.length_map]
theorem courseB_words {R : List Rw} {cs hs : List Str} {d3 : PyData} (h1 : ∀ x ∈ cs, nameB x = true) (h2 : ∀ x ∈ hs, nameB x = true) : courseB R (.tuple (cs.map .str)) (.tuple (hs.map .str)) d3 = ((decide (hs.length = cs.length + 1) && wholeB d3 0 cs.length) && (stepsB R cs hs && lastB hs cs.length d3)) := by
  unfold courseB
  rw [lenP_words, lenP_words, txts_words, txts_words, show wordsB (.tuple (cs.map .str)) = true from words_all h1, show wordsB (.tuple (hs.map .str)) = true from words_all h2]; rfl
theorem getD_at {hs : List Str} {i : Nat} (h : i < hs.length) : (hs.map PyData.str)[i]? = some (.str (hs.getD i Str.empty)) := by
  rw [List.getElem?_map, List.getD_eq_getElem?_getD, List.getElem?_eq_getElem h]; rfl
theorem whole_int {d : PyData} {a b : Int} (h : wholeB d a b = true) : ∃ i, d = .int i ∧ a ≤ i ∧ i ≤ b := by
  cases d with
  | int i =>
    have h : (decide (a ≤ i) && decide (i ≤ b)) = true := h
    rw [Bool.and_eq_true, decide_eq_true_eq, decide_eq_true_eq] at h
    exact ⟨i, rfl, h.1, h.2⟩
  | _ => cases h
theorem shaped_gd {d : PyData} (h : gd d = true) (l : d.depth ≤ 64) : SeqAt.shaped d = true := by
  unfold SeqAt.shaped
  rw [gd_lay h, Bool.true_and]; exact decide_eq_true l
theorem shaped_name {x : Str} (h : nameB x = true) : SeqAt.shaped (.str x) = true := shaped_gd (name_gd h) (by simp [PyData.depth])
theorem atI_neg {α : Type} {xs : List α} {v : α} {k : Nat} (h1 : 1 ≤ k) (h2 : k ≤ xs.length) (h : xs[xs.length - k]? = some v) : atI xs (-(k : Int)) = some v := by
  have e : ixN xs.length (-(k : Int)) = some (xs.length - k) := by
    unfold ixN
    rw [if_neg (by omega), if_pos (by omega)]
    congr 1; omega
  unfold atI; rw [e]; exact h
theorem ed_ixN {K : PySem.W.Frag} {σ : L2.St} {F : Addr → Prop} {H : Hp} {ta tb : TE} {ds : List PyData} {d : PyData} {z : Int} {k : Nat} (ha : ED K ta σ F H (.tuple ds)) (hb : ED K tb σ F H (.int z)) (hz : z = -(k : Int)) (h1 : 1 ≤ k) (h2 : k ≤ ds.length) (h : ds[ds.length - k]? = some d) : ED K (tOp (rIx K) ta tb) σ F H d :=
  ed_op ha hb fun F a b H1 hx hy Q q => by
    cases hy
    cases hx with
    | tup hs r =>
      have le := dfs_len r
      obtain ⟨v, e, hv⟩ := dfs_get r h
      exact .inr (.inl ⟨_, _, _, v, rfl, rfl, hs, by rw [hz]; exact atI_neg h1 (by omega) (by rw [le]; exact e), q _ _ (Same.refl _) (df_mono (Same.refl _) (fun _ z => .inl z) hv)⟩)
theorem ed_un1 {K : PySem.W.Frag} {σ : L2.St} {F : Addr → Prop} {H : Hp} {i : Int} : ED K (tUn (rU fun i => .int (-i)) (tC (.int i))) σ F H (.int (-i)) := fun H1 s Q q => ⟨i, rfl, q _ H1 (Same.refl _) (.int _)⟩
theorem mem_getD {hs : List Str} {i : Nat} (h : i < hs.length) : hs.getD i Str.empty ∈ hs := by
  rw [List.getD_eq_getElem?_getD, List.getElem?_eq_getElem h]; exact List.getElem_mem h
theorem walk_enumT {K : PySem.W.Frag} {a : Addr} {xs : List V} : Walk (IteT K a) xs.length (fun H => SqT K H a xs) (YPair (fun i => some (.int (i : Nat))) (fun i => xs[i]?)) :=
  ⟨fun i H hi h => ⟨xs, xs[i], h, List.getElem?_eq_getElem hi⟩, fun H h => ⟨xs, h, rfl⟩, fun i H x H' hi h ⟨T, y, e1, e2, e3, e4⟩ => ⟨T, _, y, e1, e2, e3, rfl, e4 xs h⟩⟩
/-- what may be asked about -/
def notC : PyData → Bool | .tuple _ => true | .none => true | .int _ => true | _ => false
def VAt (K : PySem.W.Frag) (C : Addr) (R : List Rw) (H : Hp) (v : V) (res : Bool) : Prop := (∃ a d1 d2 d3, v = .ref a ∧ CourseAt K C a d1 d2 d3 H ∧ gd d1 = true ∧ gd d2 = true ∧ res = courseB R d1 d2 d3) ∨ ∃ d, Dp K H v d ∧ notC d = true ∧ res = false
def spIsC (K : PySem.W.Frag) (S C : Addr) : Sp := fun vs H Q _ => ∃ b v R res, vs = [.ref b, v] ∧ ServerAt K S b R H ∧ VAt K C R H v res ∧ ∀ H', Same H H' → Q (.bl res) H'
theorem VAt.same {K : PySem.W.Frag} {C : Addr} {R : List Rw} {H H' : Hp} {v : V} {res : Bool} (s : Same H H') (h : VAt K C R H v res) : VAt K C R H' v res := by
  rcases h with ⟨a, d1, d2, d3, e, h1, h2⟩ | ⟨d, h1, h2⟩
  · exact .inl ⟨a, d1, d2, d3, e, h1.same s, h2⟩
  · exact .inr ⟨d, dp_mono s h1, h2⟩
section
variable {P : Program} {w : World} {K : PySem.W.Frag} {mg : Str → Option Value} {base : Heap} (T : Txt w K mg)
theorem not_isi {H : Hp} {v : V} {d : PyData} {σ : L2.St} {F : Addr → Prop} {i : Nat} (h : σ[i]? = some (some v)) (hd : Dp K H v d) (hn : notC d = true) : ED K (tCB (rIsi K) (tCons (tVar i) (tCons (tC (.ref T.C_Course)) tNil))) σ F H (.bool false) := by
  cases d with
  | tuple ds => exact ed_isiO h (fun H1 s1 => tyx_of (dp_mono s1 hd)) T.kt_Course
  | none => exact ed_isiO h (fun H1 s1 => tyx_of (dp_mono s1 hd)) T.kn_Course
  | int i => exact ed_isiO h (fun H1 s1 => tyx_of (dp_mono s1 hd)) T.kint_Course
  | _ => cases hn
theorem ok_are_words : FnOk P w K mg base CX0 3 T.a_are_words T.d_are_words ["value"] (spB K (fun d => gd d = true) wordsB) := by
  have G_is_name := ok_is_name (P := P) (base := base) T
  refine T.D_are_words.fn.ok sc_are_words (fun vs H Q E h => ?_) (fun cdv A outer s H vs Q E hr h => ?_)
  · obtain ⟨v, d, rfl, _⟩ := h; rfl
  · obtain ⟨v, d, rfl, hv, hd, k⟩ := h
    refine ⟨_, (pss_one (ps_ret (pe_and (pe_callB call_isi (by rfl) T.b_isinstance bt_isinstance (pa_cons (pv 0) (pa_cons (pe_bltn (v := .ty "tuple") (by rfl) T.b_tuple bt_tuple rfl) pa_nil))) (pe_one (pe_callB (cr_all rfl) (by rfl) T.b_all bt_all (pa_cons (pe_lc (own := [("one", 1)]) rfl sc_are_words.nd (pi_tup (pv 0)) (blkOk_by (own := [("one", 1)]) (N := ["value", "one"]) (sc := defScope s_are_words) (by decide +kernel)) (fun _ _ _ _ _ => (pg_name (i := 1) sc_are_words.nd rfl (by first | exact Or.inl rfl | exact Or.inr rfl))) (fun _ _ _ _ _ => pts_nil) (fun _ _ _ _ _ => (pe_call (G_is_name) (hr.mono (by omega)) (by rfl) T.D_is_name.mg T.D_is_name.fn.kp T.D_is_name.bd .nil pass0 (pa_cons (pv 1) pa_nil)))) pa_nil)))))), ?_⟩
    have hvar : ED K (tVar 0) (start ["value", "one"] [v]) (nn H) H d := ed_var rfl (dp_df hv)
    have isi := ed_isi (T := "tuple") hvar (.inr (.inl rfl))
    cases d with
    | tuple ds =>
      obtain ⟨g1, g2⟩ := gd_parts (.inr rfl) hd
      refine s_retB (F := nn H) (ed_andV isi fun _ => ed_all (bs := ds.map isName) (ed_is (ed_lc (f := fun _ => true) (m := fun s => .bool (isName s)) (ei_tup hvar) (by omega) fun F2 H2 e2 v2 d2 hm hd2 => ⟨_, fun Q q => q, rfl, et_yes, fun _ => ed_call (ea_cons (ed_var (i := 1) rfl hd2) ea_nil) (rdc_spB (g1 _ hm))⟩) (by rw [filt_tt, List.map_map]; rfl))) ?_ k
      show (true && (ds.map isName).all id) = ds.all isName
      rw [List.all_map]; rfl
    | _ => exact s_retB (F := nn H) (b := false) (ed_andV (a := false) (b := true) isi fun h => nomatch h) rfl k
theorem ok_is_course : FnOk P w K mg base CX0 4 T.a_is_course T.d_is_course ["server", "value"] (spIsC K T.C_Server T.C_Course) := by
  have G_are_words := ok_are_words (P := P) (base := base) T
  have G_is_whole := ok_is_whole (P := P) (base := base) T
  have G_Server_answers := ok_answers (P := P) (base := base) T
  refine T.D_is_course.fn.ok sc_is_course (fun vs H Q E h => ?_) (fun cdv A outer s H vs Q E hr h => ?_)
  · obtain ⟨b, v, R, res, rfl, _⟩ := h; rfl
  · obtain ⟨b, v, R, res, rfl, sv, hv, k⟩ := h
    refine ⟨_, (pss_cons (ps_if (PW.pt (pw_or (pt_not (pt_val (pe_callB call_isi (by rfl) T.b_isinstance bt_isinstance (pa_cons (pv 1) (pa_cons (pe_glob (v := .ref T.C_Course) (by rfl) T.g_Course rfl) pa_nil))))) (pw_or (pt_not (pt_val (pe_call (G_are_words) (hr.mono (by omega)) (by rfl) T.D_are_words.mg T.D_are_words.fn.kp T.D_are_words.bd .nil pass0 (pa_cons (pe_fld (pv 1) rfl) pa_nil)))) (pw_or1 (pt_not (pt_val (pe_call (G_are_words) (hr.mono (by omega)) (by rfl) T.D_are_words.mg T.D_are_words.fn.kp T.D_are_words.bd .nil pass0 (pa_cons (pe_fld (pv 1) rfl) pa_nil)))))))) (pss_one (ps_ret pe_bl)) pss_nil)
      (pss_cons (ps_if (PW.pt (pw_or (pt_cmpR op_ne (pe_callB call_len (by rfl) T.b_len bt_len (pa_cons (pe_fld (pv 1) rfl) pa_nil)) (pe_op op_add (pe_callB call_len (by rfl) T.b_len bt_len (pa_cons (pe_fld (pv 1) rfl) pa_nil)) pe_int) (nomark _)) (pw_or1 (pt_not (pt_val (pe_call (G_is_whole) (hr.mono (by omega)) (by rfl) T.D_is_whole.mg T.D_is_whole.fn.kp T.D_is_whole.bd .nil pass0 (pa_cons (pe_fld (pv 1) rfl) (pa_cons pe_int (pa_cons (pe_callB call_len (by rfl) T.b_len bt_len (pa_cons (pe_fld (pv 1) rfl) pa_nil)) pa_nil))))))))) (pss_one (ps_ret pe_bl)) pss_nil)
      (pss_cons (ps_for PassesOwn.never rfl (pi_enumT (by rfl) T.b_enumerate (pa_cons (pe_fld (pv 1) rfl) pa_nil)) (pg_tup rfl (pgs_cons (pg_name (i := 2) sc_is_course.nd rfl (by first | exact Or.inl rfl | exact Or.inr rfl)) (pgs_cons (pg_name (i := 3) sc_is_course.nd rfl (by first | exact Or.inl rfl | exact Or.inr rfl)) pgs_nil))) (pss_one (ps_if (pt_cmpR op_notIn_seq (pe_ix ix_seq (pe_fld (pv 1) rfl) (pe_op op_add (pv 2) pe_int) (fun _ _ => rfl)) (pe_meth (pv 0) T.cl_Server T.mt_Server_answers (G_Server_answers) (hr.mono (by omega)) T.D_Server_answers.bd .nil pass0 (pa_cons (pe_ix ix_seq (pe_fld (pv 1) rfl) (pv 2) (fun _ _ => rfl)) (pa_cons (pv 3) pa_nil))) (by rfl)) (pss_one (ps_ret pe_bl)) pss_nil)))
      (pss_one (ps_ret (pe_cmpR (op_eqD hr.units) (pe_ix ix_seq (pe_fld (pv 1) rfl) (pe_un un_neg pe_int) (fun _ _ => rfl)) (pe_ix ix_seq (pe_fld (pv 1) rfl) (pe_op op_sub (pe_un un_neg pe_int) (pe_fld (pv 1) rfl)) (fun _ _ => rfl)) (nomark _))))))), ?_⟩
    rcases hv with ⟨a, d1, d2, d3, rfl, ⟨dx, v1, v2, v3, ha, h1, h2, h3⟩, g1, g2, rfl⟩ | ⟨d, hd, hn, rfl⟩
    · have f1 : ∀ (σ : L2.St) H1, σ[1]? = some (some (.ref a)) → Same H H1 → ED K (tFld K (tVar 1) "calls") σ (nn H) H1 d1 := fun σ H1 e s1 => ed_fldI e (s1 _ _ ha) T.cl_Course T.na_Course_calls cf_calls (df_mono s1 (fun _ z => z) (dp_df h1))
      have f2 : ∀ (σ : L2.St) H1, σ[1]? = some (some (.ref a)) → Same H H1 → ED K (tFld K (tVar 1) "halls") σ (nn H) H1 d2 := fun σ H1 e s1 => ed_fldI e (s1 _ _ ha) T.cl_Course T.na_Course_halls cf_halls (df_mono s1 (fun _ z => z) (dp_df h2))
      have f3 : ∀ (σ : L2.St) H1, σ[1]? = some (some (.ref a)) → Same H H1 → ED K (tFld K (tVar 1) "ring") σ (nn H) H1 d3 := fun σ H1 e s1 => ed_fldI e (s1 _ _ ha) T.cl_Course T.na_Course_ring cf_ring (df_mono s1 (fun _ z => z) (dp_df h3))
      refine s_if (b := !(wordsB d1 && wordsB d2)) (et_is (et_or (et_not (et_B (ed_isiO (F := nn H) (i := 1) rfl (fun H1 s1 => .base (T.ty_Course _ _ _ _ (s1 _ _ ha))) T.ki_Course_Course))) fun _ => et_or (et_not (et_B (ed_call (ea_cons (f1 _ H rfl (Same.refl _)) ea_nil) (rdc_spB g1)))) fun _ => et_not (et_B (ed_call (ea_cons (f2 _ H rfl (Same.refl _)) ea_nil) (rdc_spB g2)))) (by cases wordsB d1 <;> cases wordsB d2 <;> rfl)) (fun hb H1 s1 => ?_) (fun hb H1 s1 => ?_)
      · have e : courseB R d1 d2 d3 = false := by
          rw [Bool.not_eq_true'] at hb
          unfold courseB; rw [hb]; rfl
        rw [e] at k
        exact k H1 s1
      · rw [Bool.not_eq_false', Bool.and_eq_true] at hb
        obtain ⟨cs, rfl, nc⟩ := wordsB_of hb.1
        obtain ⟨hs, rfl, nh⟩ := wordsB_of hb.2
        clear hb
        rw [courseB_words nc nh] at k
        have gc := (gd_parts (.inr rfl) g1).2
        have gh := (gd_parts (.inr rfl) g2).2
        rw [List.length_map] at gc gh
        dsimp only [tNext]
        refine s_if (b := !(decide (hs.length = cs.length + 1) && wholeB d3 0 cs.length)) (et_is (et_or (et_test (ed_neI (ed_len (f2 _ H1 rfl s1) rfl) (ed_add (ed_len (f1 _ H1 rfl s1) rfl) ed_int))) fun _ => et_not (et_B (ed_call (ea_cons (f3 _ H1 rfl s1) (ea_cons ed_int (ea_cons (ed_len (f1 _ H1 rfl s1) rfl) ea_nil))) rdc_whole))) ?_) (fun hb H2 s2 => ?_) (fun hb H2 s2 => ?_)
        · rw [lenP_words, lenP_words]
          have : decide (((hs.length : Nat) : Int) = ((cs.length : Nat) : Int) + 1) = decide (hs.length = cs.length + 1) := decide_eq_decide.mpr (by omega)
          rw [this]
          cases decide (hs.length = cs.length + 1) <;> cases wholeB d3 0 cs.length <;> rfl
        · rw [Bool.not_eq_true'] at hb
          rw [hb] at k
          exact k H2 (s1.trans s2)
        · rw [Bool.not_eq_false', Bool.and_eq_true, decide_eq_true_eq] at hb
          obtain ⟨hl, hw⟩ := hb
          rw [decide_eq_true hl, hw] at k
          obtain ⟨r, rfl, r0, r1⟩ := whole_int hw
          obtain ⟨n, rfl⟩ : ∃ n : Nat, r = n := ⟨r.toNat, by omega⟩
          have s12 := s1.trans s2
          dsimp only [tNext]
          obtain ⟨va, rfl, hva⟩ : ∃ va, v1 = .ref va ∧ SqT K H va (cs.map V.str) := by
            cases h1 with
            | tup x y => exact ⟨_, rfl, by rw [← strs_dps y]; exact x⟩
          refine ⟨_, rfl, a, _, dx, _, _, rfl, s12 _ _ ha, T.cl_Course, T.na_Course_calls, cf_calls, va, _, rfl, s12.stA hva, for_it walk_enumT (fun i σ' H' => ∃ o2 o3, σ' = [some (.ref b), some (.ref a), o2, o3] ∧ Same H2 H' ∧ ∀ j, j < i → stp cs hs j ∈ R) ⟨none, none, rfl, Same.refl _, fun j hj => absurd hj (Nat.not_lt_zero _)⟩ (fun i σ' H' _ ⟨_, _, _, s, _⟩ => s.stA (s12.stA hva)) ?_ ?_⟩
          · rintro i x σ' H3 H3' hi ⟨o2, o3, rfl, s3, hR⟩ ⟨t, x1, x2, rfl, ht, rfl, e1, e2⟩
            cases e1
            obtain ⟨z, hz, rfl⟩ := str_at e2
            have li : i < cs.length := (List.getElem?_eq_some_iff.mp hz).1
            have ez : cs.getD i Str.empty = z := by rw [List.getD_eq_getElem?_getD, hz]; rfl
            have s4 := Same.newA (o := .tup [.int (i : Nat), .str z]) ht
            have s14 := s12.trans (s3.trans s4)
            refine ⟨t, _, rfl, .of upd_same, rfl, _, _, rfl, _, _, rfl, rfl, ?_⟩
            have es : stp cs hs i = (hs.getD i Str.empty, z, hs.getD (i + 1) Str.empty) := by unfold stp; rw [ez]
            refine s_if (b := !decide (stp cs hs i ∈ R)) (et_is (et_test (ed_notAns (F := nn H) (i := 0) rfl (sv.same s14) (ed_ixT (f2 _ _ rfl s14) (ed_is (ed_add (ed_var (i := 2) rfl (.int _)) ed_int) (by rw [show ((i : Int) + 1) = ((i + 1 : Nat) : Int) by omega])) (getD_at (by omega))) (ed_ixT (f2 _ _ rfl s14) (ed_var (i := 2) rfl (.int _)) (getD_at (by omega))) (ed_var (i := 3) rfl (.str z)))) (by rw [es])) (fun hb H5 s5 => ?_) (fun hb H5 s5 => ?_)
            · have e : stepsB R cs hs = false := by
                rw [Bool.not_eq_true', decide_eq_false_iff_not] at hb
                rw [Bool.eq_false_iff]
                intro q
                exact hb (of_decide_eq_true (List.all_eq_true.mp q i (List.mem_range.mpr li)))
              rw [e] at k
              exact k H5 (s14.trans s5)
            · rw [Bool.not_eq_false', decide_eq_true_eq] at hb
              refine ⟨_, _, rfl, s3.trans (s4.trans s5), fun j hj => ?_⟩
              by_cases q : j = i
              · rw [q]; exact hb
              · exact hR j (by omega)
          · rintro σ' H3 ⟨o2, o3, rfl, s3, hR⟩
            rw [List.length_map] at hR
            have e : stepsB R cs hs = true := List.all_eq_true.mpr fun i hi => decide_eq_true (hR i (List.mem_range.mp hi))
            rw [e] at k
            have s13 := s12.trans s3
            have lm : (hs.map PyData.str).length = cs.length + 1 := by rw [List.length_map]; exact hl
            refine s_retB (F := nn H) (ed_eqD (ed_ixN (k := 1) (f2 _ _ rfl s13) (ed_un1) rfl (by decide) (by omega) (by rw [lm]; exact getD_at (by omega))) (ed_ixN (k := 1 + n) (f2 _ _ rfl s13) (ed_sub ed_un1 (f3 _ _ rfl s13)) (by omega) (by omega) (by omega) (by rw [lm]; exact getD_at (by omega))) (shaped_name (nh _ (mem_getD (by omega)))) (shaped_name (nh _ (mem_getD (by omega))))) ?_ fun H4 s4 => k H4 (s13.trans s4)
            rw [eqv_str]
            show _ = (true && lastB hs cs.length (.int n))
            rw [Bool.true_and]
            show _ = decide (hs.getD cs.length Str.empty = hs.getD (cs.length - ((n : Nat) : Int).toNat) Str.empty)
            rw [show cs.length + 1 - 1 = cs.length by omega, show cs.length + 1 - (1 + n) = cs.length - ((n : Nat) : Int).toNat by omega]
    · refine s_if (b := true) (et_or (b := true) (et_not (et_B (not_isi (F := nn H) T (i := 1) rfl hd hn))) fun h => nomatch h) (fun hb H1 s1 => ?_) (fun h => nomatch h)
      exact k H1 s1
end
end Ag

set_option Elab.async false
set_option linter.all false
set_option maxRecDepth 100000
set_option maxHeartbeats 4000000
set_option pp.maxSteps 400
namespace Ag
open PySem PySem.Spec PyProof.Rows L2
/-! ### _law_some, _law_mixed -/
def spSome (K : PySem.W.Frag) : Sp := fun vs H Q _ => ∃ (p c a : Addr) (xs : List V) (n : Nat), vs = [.ref p, .ref a, .int 3] ∧ Pen p c n H ∧ SqL K H a xs ∧ xs.length < 1000 ∧ n + 200000 < 1000000000000 ∧
  ∀ (l : Addr) (ys : List V) H', (∀ y ∈ ys, y ∈ xs) → ys.length ≤ 3 → H' l = some (.lst ys) → But p H H' → Pen p c (n + xs.length + 1) H' → Q (.ref l) H'
def spMixed (K : PySem.W.Frag) : Sp := fun vs H Q _ => ∃ (p c a : Addr) (xs : List V) (n : Nat), vs = [.ref p, .ref a] ∧ Pen p c n H ∧ SqL K H a xs ∧ xs.length < 1000 ∧ n + 500000 < 1000000000000 ∧
  ∀ (l : Addr) (ys more : List V) H', ys.Perm (xs ++ more) → (∀ y ∈ more, y ∈ xs) → more.length ≤ 3 → H' l = some (.lst ys) → But p H H' → Pen p c (n + 2 * xs.length + 4) H' → Q (.ref l) H'
theorem cutV_to {xs : List V} {k : Nat} : cutV xs none (some (k : Int)) = xs.take (min k xs.length) := by
  unfold cutV
  rw [HT.sIx_none, HT.sIx_nat, List.drop_zero, Nat.sub_zero]
section
variable {P : Program} {w : World} {K : PySem.W.Frag} {mg : Str → Option Value} {base : Heap} (T : Txt w K mg)
theorem ok_some : FnOk P w K mg base CX0 3 T.a_law_some T.d_law_some ["pen", "some", "most"] (spSome K) := by
  have G_law_draw := ok_draw (P := P) (base := base) T
  have G_law_shuffled := ok_shuf (P := P) (base := base) T
  refine T.D_law_some.fn.ok sc_law_some (fun vs H Q E h => ?_) (fun cdv A outer s H vs Q E hr h => ?_)
  · obtain ⟨p, c, a, xs, n, rfl, _⟩ := h; rfl
  · obtain ⟨p, c, a, xs, n, rfl, P0, hs, hx, hn, k⟩ := h
    refine ⟨_, (pss_one (ps_ret (pe_slice sl_list (pe_call (G_law_shuffled) (hr.mono (by omega)) (by rfl) T.D_law_shuffled.mg T.D_law_shuffled.fn.kp T.D_law_shuffled.bd .nil pass0 (pa_cons (pv 0) (pa_cons (pv 1) pa_nil))) po_none (po_some (pe_call (G_law_draw) (hr.mono (by omega)) (by rfl) T.D_law_draw.mg T.D_law_draw.fn.kp T.D_law_draw.bd .nil pass0 (pa_cons (pv 0) (pa_cons (pe_op op_add (pe_callB (call_min2 rfl) (by rfl) T.b_min bt_min (pa_cons (pv 2) (pa_cons (pe_callB call_len (by rfl) T.b_len bt_len (pa_cons (pv 1) pa_nil)) pa_nil))) pe_int) pa_nil))))))), ?_⟩
    refine ⟨_, rfl, _, rfl, p, c, a, xs, n, rfl, P0, .inl hs, by omega, by omega, fun l ys H1 pm hl e1 b1 P1 => ?_⟩
    have hs1 := P0.sl b1 hs
    refine ⟨_, rfl, _, rfl, _, rfl, _, _, rfl, .inl ⟨_, hs1, rfl⟩, 3, xs.length, rfl, _, _, rfl, rfl, p, c, _, _, rfl, P1, by omega, by omega, by omega, fun d H2 d0 d1 b2 P2 => ⟨_, rfl, ?_⟩⟩
    obtain ⟨m, rfl⟩ : ∃ m : Nat, d = m := ⟨d.toNat, by omega⟩
    refine ⟨l, ys, rfl, SqL.of (b2 _ _ (P1.ne e1 (fun _ z => nomatch z)) e1), fun q hq => ?_⟩
    rw [cutV_to]
    have s3 := Same.newA (o := .lst (ys.take (min m ys.length))) hq
    exact k q _ _ (fun y hy => pm.mem_iff.mp (List.mem_of_mem_take hy)) (by rw [List.length_take]; omega) upd_same (b1.trans (b2.trans (But.of s3))) (P2.same s3)
theorem ok_mixed : FnOk P w K mg base CX0 4 T.a_law_mixed T.d_law_mixed ["pen", "some"] (spMixed K) := by
  have G_law_some := ok_some (P := P) (base := base) T
  have G_law_shuffled := ok_shuf (P := P) (base := base) T
  refine T.D_law_mixed.fn.ok sc_law_mixed (fun vs H Q E h => ?_) (fun cdv A outer s H vs Q E hr h => ?_)
  · obtain ⟨p, c, a, xs, n, rfl, _⟩ := h; rfl
  · obtain ⟨p, c, a, xs, n, rfl, P0, hs, hx, hn, k⟩ := h
    refine ⟨_, (pss_one (ps_ret (pe_call (G_law_shuffled) (hr.mono (by omega)) (by rfl) T.D_law_shuffled.mg T.D_law_shuffled.fn.kp T.D_law_shuffled.bd .nil pass0 (pa_cons (pv 0) (pa_cons (pe_op op_cat (pe_callTy call_list_of (by rfl) T.b_list bt_list (pa_cons (pv 1) pa_nil)) (pe_call (G_law_some) (hr.mono (by omega)) (by rfl) T.D_law_some.mg T.D_law_some.fn.kp T.D_law_some.bd .nil pass0 (pa_cons (pv 0) (pa_cons (pv 1) (pa_cons pe_int pa_nil))))) pa_nil))))), ?_⟩
    refine ⟨_, rfl, _, rfl, a, xs, rfl, .inl hs, fun q hq => ?_⟩
    have s1 := Same.newA (o := .lst xs) hq
    have P1 := P0.same s1
    have eq : (upd H q (.lst xs)) q = some (.lst xs) := upd_same
    refine ⟨_, rfl, _, rfl, p, c, a, xs, n, rfl, P1, s1.slA hs, hx, by omega, fun l ys H2 ym yl e2 b2 P2 => ?_⟩
    have eq2 := b2 _ _ (P1.ne eq (fun _ z => nomatch z)) eq
    refine ⟨q, l, _, _, rfl, rfl, eq2, e2, small5 (by omega), fun r hr => ?_⟩
    have s3 := Same.newA (o := .lst (xs ++ ys)) hr
    have P3 := P2.same s3
    refine ⟨p, c, r, xs ++ ys, _, rfl, P3, .inl (.of upd_same), by rw [List.length_append]; omega, by omega, fun l2 zs H4 pm hl2 e4 b4 P4 => ?_⟩
    exact k l2 zs ys H4 pm ym yl e4 ((But.of s1).trans (b2.trans ((But.of s3).trans b4))) (P4.more (by rw [List.length_append]; omega))
end
/-! ### the law's server -/
def lsKV (rl ad pl : Addr) : List (Key × V) := [(ck "rows", .ref rl), (ck "answers", .ref ad), (ck "places", .ref pl)]
theorem lk1 : ¬ ck "rows" = ck "answers" := by decide +kernel
theorem lk2 : ¬ ck "rows" = ck "places" := by decide +kernel
theorem lk3 : ¬ ck "answers" = ck "places" := by decide +kernel
theorem lt1 : ¬ Str.ofString "rows" = Str.ofString "answers" := by decide +kernel
theorem lt2 : ¬ Str.ofString "rows" = Str.ofString "places" := by decide +kernel
theorem lt3 : ¬ Str.ofString "answers" = Str.ofString "places" := by decide +kernel
theorem merge_ls {rl ad pl : Addr} : mergeK [] [(ck "rows", V.ref rl), (ck "answers", .ref ad), (ck "places", .ref pl)] = lsKV rl ad pl := by
  unfold mergeK
  simp [putK, lsKV, ck, lt1, lt2, lt3]
section
variable {rl ad pl : Addr} {H : Hp} {m : Addr}
theorem ls_rows (h : H m = some (.dK (lsKV rl ad pl))) : DGet H m (.str "rows") (some (.ref rl)) := by
  have q := DGet.k (k := ck "rows") h
  rw [show valV (lsKV rl ad pl) (ck "rows") = some (.ref rl) from valV_pos rfl] at q; exact q
theorem ls_answers (h : H m = some (.dK (lsKV rl ad pl))) : DGet H m (.str "answers") (some (.ref ad)) := by
  have q := DGet.k (k := ck "answers") h
  rw [show valV (lsKV rl ad pl) (ck "answers") = some (.ref ad) by unfold lsKV; rw [valV_neg lk1]; exact valV_pos rfl] at q; exact q
theorem ls_places (h : H m = some (.dK (lsKV rl ad pl))) : DGet H m (.str "places") (some (.ref pl)) := by
  have q := DGet.k (k := ck "places") h
  rw [show valV (lsKV rl ad pl) (ck "places") = some (.ref pl) by unfold lsKV; rw [valV_neg lk2, valV_neg lk3]; exact valV_pos rfl] at q; exact q
end
structure LsParts (K : PySem.W.Frag) (m rl ad pl : Addr) (ys : List (Addr × Rw)) (kvs : List (List Key × V)) (ps : List Str) (R : List Rw) (H : Hp) : Prop where
  dict : H m = some (.dK (lsKV rl ad pl))
  rows : H rl = some (.lst (ys.map fun z => V.ref z.1))
  good : RowsAt K H ys
  mem : ∀ r, r ∈ ys.map Prod.snd ↔ r ∈ R
  len : ys.length ≤ R.length
  ansd : H ad = some (.dT kvs)
  ans : Ans lstA H kvs R
  plc : H pl = some (.lst (ps.map V.str))
  nam : ∀ x ∈ ps, nameB x = true
  all : ∀ r ∈ R, r.1 ∈ ps ∧ r.2.2 ∈ ps
  pln : ps.length < 200
  rln : R.length < 64
def LsAt (K : PySem.W.Frag) (m : Addr) (R : List Rw) (H : Hp) : Prop := ∃ rl ad pl ys kvs ps, LsParts K m rl ad pl ys kvs ps R H
theorem LsAt.same {K : PySem.W.Frag} {m : Addr} {R : List Rw} {H H' : Hp} (s : Same H H') (h : LsAt K m R H) : LsAt K m R H' := by
  obtain ⟨rl, ad, pl, ys, kvs, ps, h⟩ := h
  exact ⟨rl, ad, pl, ys, kvs, ps, ⟨s _ _ h.dict, s _ _ h.rows, h.good.same s, h.mem, h.len, s _ _ h.ansd, h.ans.kept fun a xs e => s _ _ e, s _ _ h.plc, h.nam, h.all, h.pln, h.rln⟩⟩
theorem LsAt.but {K : PySem.W.Frag} {m p c : Addr} {n : Nat} {R : List Rw} {H H' : Hp} (P : Pen p c n H) (b : But p H H') (h : LsAt K m R H) : LsAt K m R H' := by
  obtain ⟨rl, ad, pl, ys, kvs, ps, h⟩ := h
  have nm : m ≠ p := fun z => by
    subst z
    obtain ⟨ce, a', dd, k, f, hp, _⟩ := P
    have z := HO.dK.inj (Option.some.inj (h.dict.symm.trans hp))
    have := congrArg List.length z
    unfold lsKV penKV at this
    cases this
  exact ⟨rl, ad, pl, ys, kvs, ps, ⟨b _ _ nm h.dict, b _ _ (P.ne h.rows (fun _ z => nomatch z)) h.rows, fun y hy => ⟨P.st b (h.good y hy).1, (h.good y hy).2⟩, h.mem, h.len, b _ _ (P.ne h.ansd (fun _ z => nomatch z)) h.ansd, h.ans.kept fun a xs e => b _ _ (P.ne e (fun _ z => nomatch z)) e, b _ _ (P.ne h.plc (fun _ z => nomatch z)) h.plc, h.nam, h.all, h.pln, h.rln⟩⟩
end Ag

set_option Elab.async false
set_option linter.all false
set_option maxRecDepth 100000
set_option maxHeartbeats 4000000
set_option pp.maxSteps 400
namespace Ag
open PySem PySem.Spec PyProof.Rows L2
theorem nodup_len {α : Type} [DecidableEq α] : ∀ (ys xs : List α), ys.Nodup → (∀ y ∈ ys, y ∈ xs) → ys.length ≤ xs.length
  | [], _, _, _ => Nat.zero_le _
  | y :: ys, xs, nd, h => by
    obtain ⟨n1, n2⟩ := List.nodup_cons.mp nd
    have hy := h y List.mem_cons_self
    have ih := nodup_len ys (xs.erase y) n2 fun z hz => (List.mem_erase_of_ne (fun e => n1 (by rw [← e]; exact hz))).mpr (h z (List.mem_cons_of_mem _ hz))
    have l := List.length_erase_of_mem hy
    have p : 0 < xs.length := List.length_pos_of_mem hy
    rw [List.length_cons]; omega
def spServerOf (K : PySem.W.Frag) : Sp := fun vs H Q _ => ∃ (ra : Addr) (zs : List (Addr × Rw)), vs = [.ref ra] ∧ SqL K H ra (zs.map fun z => V.ref z.1) ∧ RowsAt K H zs ∧ zs.length < 64 ∧
  ∀ m H', Same H H' → LsAt K m (zs.map Prod.snd) H' → Q (.ref m) H'
section
variable {P : Program} {w : World} {K : PySem.W.Frag} {mg : Str → Option Value} {base : Heap} (T : Txt w K mg)
theorem ok_server_of : FnOk P w K mg base CX0 1 T.a_law_server_of T.d_law_server_of ["rows"] (spServerOf K) := by
  refine T.D_law_server_of.fn.ok sc_law_server_of (fun vs H Q E h => ?_) (fun cdv A outer s H vs Q E hr h => ?_)
  · obtain ⟨ra, zs, rfl, _⟩ := h; rfl
  · obtain ⟨ra, zs, rfl, hra, hz, zl, k⟩ := h
    refine ⟨_, (pss_cons (ps_asg (pe_tup (pa_cons pe_dnewT (pa_cons (pe_lst pa_nil) pa_nil))) (pg_tup rfl (pgs_cons (pg_name (i := 1) sc_law_server_of.nd rfl (by first | exact Or.inl rfl | exact Or.inr rfl)) (pgs_cons (pg_name (i := 2) sc_law_server_of.nd rfl (by first | exact Or.inl rfl | exact Or.inr rfl)) pgs_nil))))
      (pss_cons (ps_for PassesOwn.never rfl (pi_list (pe_callB (cr_sortQ rfl hr.units) (by rfl) T.b_sorted bt_sorted (pa_cons (pe_callTy (cr_setQ rfl (Nat.lt_of_le_of_lt (Nat.add_le_add_left (show 3 ≤ 64 by decide) _) hr.units)) (by rfl) T.b_set bt_set (pa_cons (pv 0) pa_nil)) pa_nil))) (pg_tup rfl (pgs_cons (pg_name (i := 3) sc_law_server_of.nd rfl (by first | exact Or.inl rfl | exact Or.inr rfl)) (pgs_cons (pg_name (i := 4) sc_law_server_of.nd rfl (by first | exact Or.inl rfl | exact Or.inr rfl)) (pgs_cons (pg_name (i := 5) sc_law_server_of.nd rfl (by first | exact Or.inl rfl | exact Or.inr rfl)) pgs_nil)))) (pss_cons (ps_dput (hu_of hr) (pv 1) (pe_tup (pa_cons (pv 3) (pa_cons (pv 4) pa_nil))) (pe_op op_cat (pe_dget2 (hu_of hr) (pv 1) (pe_tup (pa_cons (pv 3) (pa_cons (pv 4) pa_nil))) (pe_lst pa_nil) ⟨rfl, rfl, rfl, rfl⟩) (pe_lst (pa_cons (pv 5) pa_nil))) rfl)
      (pss_one (ps_set (i := 2) sc_law_server_of.nd rfl (by first | exact Or.inl rfl | exact Or.inr rfl) (pe_op op_cat (pv 2) (pe_lc (own := [("one", 6)]) rfl sc_law_server_of.nd (pi_list (pe_lst (pa_cons (pv 3) (pa_cons (pv 5) pa_nil)))) (blkOk_by (own := [("one", 6)]) (N := ["rows", "answers", "places", "place", "call", "other", "one"]) (sc := defScope s_law_server_of) (by decide +kernel)) (fun _ _ _ _ _ => (pg_name (i := 6) sc_law_server_of.nd rfl (by first | exact Or.inl rfl | exact Or.inr rfl))) (fun _ _ _ _ _ => (pts_one (pt_cmpR (r := rIn K true) op_notIn_seq (pv 6) (pv 2) (by rfl)))) (fun _ _ _ _ _ => (pv 6))))))))
      (pss_one (ps_ret (pe_disp (pps_cons pe_str (pe_callB (cr_sortQ rfl hr.units) (by rfl) T.b_sorted bt_sorted (pa_cons (pe_callTy (cr_setQ rfl (Nat.lt_of_le_of_lt (Nat.add_le_add_left (show 3 ≤ 64 by decide) _) hr.units)) (by rfl) T.b_set bt_set (pa_cons (pv 0) pa_nil)) pa_nil)) (pps_cons pe_str (pv 1) (pps_cons pe_str (pe_callB (cr_sortSetS rfl) (by rfl) T.b_sorted bt_sorted (pa_cons (pe_callTy (cr_setS rfl) (by rfl) T.b_set bt_set (pa_cons (pv 2) pa_nil)) pa_nil)) pps_nil))) (by rfl) (by rfl) (fun z => by cases z) (by decide)))))), ?_⟩
    intro td htd
    refine ⟨(by show 0 ≤ sizeLine; decide), fun pl hpl => ⟨(by show 2 ≤ sizeLine; decide), fun t0 ht0 => ⟨t0, _, rfl, .of upd_same, rfl, _, _, rfl, _, _, rfl, rfl, ?_⟩⟩⟩
    have s1 := Same.newA (o := .dT []) htd
    have s2 := Same.newA (o := .lst []) hpl
    have s3 := Same.newA (o := .tup [.ref td, .ref pl]) ht0
    have etd := (s2.trans s3) _ _ (upd_same (H := H) (a := td) (o := .dT []))
    have epl := s3 _ _ (upd_same (H := upd H td (.dT [])) (a := pl) (o := .lst []))
    have s12 := s1.trans (s2.trans s3)
    revert etd epl s12
    generalize upd (upd (upd H td (.dT [])) pl (.lst [])) t0 (.tup [.ref td, .ref pl]) = H1
    intro etd epl s12
    clear s1 s2 s3 hpl ht0
    have hz1 := hz.same s12
    refine run_sortset (K := K) (P := P) (w := w) (i := 0) rfl (.inl (s12.slA hra)) hz1 zl fun q ys G sG eq hy my cov yl => ⟨q, rfl, ⟨_, SqL.of eq⟩, for_list (K := K) (a := q) (xs := ys.map fun z => V.ref z.1) (fun i σ' H' => ∃ (o3 o4 o5 : Option V) (pl' : Addr) (kvs : List (List Key × V)) (ps : List Str), σ' = [some (.ref ra), some (.ref td), some (.ref pl'), o3, o4, o5, none] ∧ But td G H' ∧ H' td = some (.dT kvs) ∧ Ans lstA H' kvs ((ys.map Prod.snd).take i) ∧ H' pl' = some (.lst (ps.map V.str)) ∧ (∀ x ∈ ps, nameB x = true) ∧ (∀ r ∈ (ys.map Prod.snd).take i, r.1 ∈ ps ∧ r.2.2 ∈ ps) ∧ ps.length ≤ 2 * i)
      ⟨none, none, none, pl, [], [], rfl, But.of (Same.refl _), sG _ _ etd, Ans.nil, sG _ _ epl, (fun x hx => nomatch hx), (fun r hr => nomatch hr), Nat.le_refl _⟩ (fun i σ' H' _ ⟨_, _, _, _, _, _, _, t, _⟩ => SqL.of (t _ _ (ne_of eq (sG _ _ etd) (fun z => nomatch z)) eq)) ?_ ?_⟩
    · rintro i v σ' H2 hv ⟨o3, o4, o5, pl', kvs, ps, rfl, t2, e2, a2, ep, nam, al, pn⟩
      rw [List.getElem?_map] at hv
      cases e : ys[i]? with
      | none => rw [e] at hv; cases hv
      | some y =>
        rw [e] at hv
        cases hv
        have li : i < ys.length := (List.getElem?_eq_some_iff.mp e).1
        obtain ⟨hy1, gy⟩ := hy y (List.mem_of_getElem? e)
        have hy2 := (nodat_dT (sG _ _ etd)).st t2 hy1
        obtain ⟨u, h, c, x⟩ := y
        refine ⟨u, _, rfl, hy2, rfl, _, _, rfl, _, _, rfl, _, _, rfl, rfl, ?_⟩
        refine put_lst (i := 1) (j := 3) (l := 4) (m := 5) rfl rfl rfl rfl e2 a2 (by rw [List.length_take, List.length_map]; omega) fun kvs' H3 t3 e3 a3 => ?_
        have ep3 : H3 pl' = some (.lst (ps.map V.str)) := t3 _ _ (ne_of ep e2 (fun z => nomatch z)) ep
        dsimp only [tNext]
        refine ⟨_, rfl, _, rfl, _, rfl, (by show 2 ≤ sizeLine; decide), fun l hl => ⟨l, rfl, ⟨_, SqL.of upd_same⟩, fun D hD => lc_list (K := K) (a := l) (xs := [V.str h, V.str x]) (fun j H' => ∃ acc : List Str, H' D = some (.lst (acc.map V.str)) ∧ acc = ([h, x].take j).filter (fun z => !decide (z ∈ ps)) ∧ But D (upd H3 l (.lst [V.str h, V.str x])) H') ⟨[], upd_same, rfl, But.same (Same.newA hD)⟩ (fun j H' _ ⟨_, _, _, t⟩ => SqL.of (t _ _ (fun z => by rw [← z, upd_same] at hD; cases hD) upd_same)) ?_ ?_⟩⟩
        · rintro j v H4 hj ⟨acc, g1, g2, t4⟩
          obtain ⟨z, hz2, rfl⟩ : ∃ z, [h, x][j]? = some z ∧ v = V.str z := by
            match j, hj with
            | 0, hj => cases hj; exact ⟨h, rfl, rfl⟩
            | 1, hj => cases hj; exact ⟨x, rfl, rfl⟩
          have tk : [h, x].take (j + 1) = [h, x].take j ++ [z] := by rw [List.take_succ, hz2]; rfl
          have npl : pl' ≠ D := fun q => by rw [← q, upd_ne (fun q2 => by rw [q2] at ep3; rw [hl] at ep3; cases ep3), ep3] at hD; cases hD
          have ep4 : H4 pl' = some (.lst (ps.map V.str)) := t4 _ _ npl (by rw [upd_ne (fun q2 => by rw [q2] at ep3; rw [hl] at ep3; cases ep3)]; exact ep3)
          refine ⟨rfl, ?_⟩
          refine (et_test (ed_notInSeq (F := nn H4) (x := z) (xs := ps) (ed_var (i := 6) rfl (.str _)) (ed_var (i := 2) rfl (dp_df (.lst (SqL.of ep4) (dps_strs ps)))) (.inr rfl))) H4 (Same.refl _) _ fun H5 s5 => ?_
          have g5 := s5 _ _ g1
          have t5 := t4.trans' (But.same s5)
          refine ite2 (fun hb => ?_) fun hb => ?_
          · refine ⟨_, rfl, _, g5, lt5 (by rw [List.length_map, g2]; exact Nat.lt_of_le_of_lt (List.length_filter_le _ _) (by rw [List.length_take]; exact Nat.lt_of_le_of_lt (Nat.min_le_right _ _) (by show 2 < 100000; decide))), acc ++ [z], by rw [upd_same, List.map_append]; rfl, ?_, t5.trans' .updb⟩
            rw [tk, List.filter_append, ← g2, show List.filter (fun z => !decide (z ∈ ps)) [z] = [z] from (List.filter_cons).trans (if_pos hb)]
          · refine ⟨acc, g5, ?_, t5⟩
            rw [tk, List.filter_append, ← g2, show List.filter (fun z => !decide (z ∈ ps)) [z] = [] from (List.filter_cons).trans (if_neg hb), List.append_nil]
        · rintro H4 ⟨acc, g1, g2, t4⟩
          have npl0 : pl' ≠ l := fun q2 => by rw [q2, hl] at ep3; cases ep3
          have npl : pl' ≠ D := fun q => by rw [← q, upd_ne npl0, ep3] at hD; cases hD
          have ep4 : H4 pl' = some (.lst (ps.map V.str)) := t4 _ _ npl (by rw [upd_ne npl0]; exact ep3)
          have sl := Same.newA (o := .lst [V.str h, V.str x]) hl
          have sK : ∀ a o, H3 a = some o → H4 a = some o := fun a o z => t4 a o (ne_of_none (sl _ _ z) hD) (sl _ _ z)
          have al2 : acc.length ≤ 2 := by rw [g2]; exact Nat.le_trans (List.length_filter_le _ _) (by rw [List.length_take]; exact Nat.min_le_right _ _)
          refine ⟨pl', D, _, _, rfl, rfl, ep4, g1, small5 (by rw [List.length_map, List.length_map]; omega), fun q2 hq2 => ?_⟩
          have s5 := Same.newA (o := .lst (ps.map V.str ++ acc.map V.str)) hq2
          have ek : (ys.map Prod.snd).take (i + 1) = (ys.map Prod.snd).take i ++ [(h, c, x)] := by rw [List.take_succ, List.getElem?_map, e]; rfl
          have mem : ∀ z, z ∈ acc ↔ (z = h ∨ z = x) ∧ z ∉ ps := fun z => by
            rw [g2, List.mem_filter]
            show z ∈ [h, x] ∧ _ ↔ _
            rw [List.mem_cons, List.mem_singleton, Bool.not_eq_true', decide_eq_false_iff_not]
          have cov2 : ∀ z, z = h ∨ z = x → z ∈ ps ++ acc := fun z hz => by
            by_cases q : z ∈ ps
            · exact List.mem_append_left _ q
            · exact List.mem_append_right _ ((mem z).mpr ⟨hz, q⟩)
          refine ⟨_, _, _, q2, kvs', ps ++ acc, rfl, (t2.trans' t3).trans' (fun a o n z => s5 _ _ (sK a o z)), s5 _ _ (sK _ _ e3), by rw [ek]; exact a3.kept fun a xs z => s5 _ _ (sK _ _ z), by rw [upd_same, List.map_append], fun z hz => ?_, fun r hr => ?_, by rw [List.length_append]; omega⟩
          · rcases List.mem_append.mp hz with hz | hz
            · exact nam z hz
            · rcases ((mem z).mp hz).1 with rfl | rfl
              · exact gy.1
              · exact gy.2.2
          · rw [ek] at hr
            rcases List.mem_append.mp hr with hr | hr
            · exact ⟨List.mem_append_left _ (al r hr).1, List.mem_append_left _ (al r hr).2⟩
            · rw [List.mem_singleton.mp hr]; exact ⟨cov2 h (.inl rfl), cov2 x (.inr rfl)⟩
    · rintro σ' H2 ⟨o3, o4, o5, pl', kvs, ps, rfl, t2, e2, a2, ep, nam, al, pn⟩
      rw [List.length_map] at a2 al pn
      rw [← List.length_map (f := Prod.snd), List.take_length] at a2 al
      have fH : H td = none := htd
      have s02 : Same H H2 := fun a o z => t2 a o (ne_of_none z fH) (sG _ _ (s12 _ _ z))
      -- what is given
      intro m hm
      have sm := Same.newA (o := .dK []) hm
      have em : (upd H2 m (.dK [])) m = some (.dK []) := upd_same
      have s03 := s02.trans sm
      refine run_sortset (K := K) (P := P) (w := w) (i := 0) rfl (.inl (s03.slA hra)) (hz.same s03) zl fun q2 ws G2 sG2 eq2 hw mw covw wl => ?_
      have ep3 := sG2 _ _ (sm _ _ ep)
      refine ⟨_, rfl, _, rfl, pl', ps, rfl, SqL.of ep3, by omega, fun st hst => ?_⟩
      have s4 := Same.newA (o := StrSet P w st ps) hst
      refine ⟨st, ps, rfl, upd_same, fun us ul _ und umem hul => ?_⟩
      have s5 := Same.newA (o := .lst (us.map V.str)) hul
      have sA := s4.trans s5
      have sB := sG2.trans sA
      have ulen : us.length ≤ ps.length := nodup_len us ps und fun z hz => (umem z).mp hz
      have gul := upd_same (H := upd G2 st (StrSet P w st ps)) (a := ul) (o := .lst (us.map V.str))
      refine ⟨sB _ _ em, [(ck "rows", V.ref q2), (ck "answers", .ref td), (ck "places", .ref ul)], rfl, (by decide : 3 ≤ 15), ?_⟩
      rw [merge_ls]
      have keep : ∀ a o, a ≠ m → (upd H2 m (.dK [])) a = some o → (upd (upd (upd G2 st (StrSet P w st ps)) ul (.lst (us.map V.str))) m (.dK (lsKV q2 td ul))) a = some o := fun a o n z => by rw [upd_ne n]; exact sB _ _ z
      have keep2 : ∀ a o, H2 a = some o → (upd (upd (upd G2 st (StrSet P w st ps)) ul (.lst (us.map V.str))) m (.dK (lsKV q2 td ul))) a = some o := fun a o z => keep a o (ne_of_none z hm) (sm _ _ z)
      have nm : ∀ a xs, (upd (upd G2 st (StrSet P w st ps)) ul (.lst (us.map V.str))) a = some (.lst xs) → a ≠ m := fun a xs z => ne_of z (sB _ _ em) (fun q => nomatch q)
      have gq2 : (upd (upd G2 st (StrSet P w st ps)) ul (.lst (us.map V.str))) q2 = some (.lst (ws.map fun z => V.ref z.1)) := sA _ _ eq2
      refine k m _ (fun a o z => keep2 _ _ (s02 _ _ z)) ⟨q2, td, ul, ws, kvs, us, ⟨upd_same, by rw [upd_ne (nm _ _ gq2)]; exact gq2, fun y hy => ⟨(nodat_dK (sB _ _ em)).st .updb (sA.stA (hw y hy).1), (hw y hy).2⟩, fun r => ⟨fun hr => ?_, fun hr => ?_⟩, by rw [List.length_map]; exact wl, keep2 _ _ e2, (a2.kept fun a xs z => keep2 _ _ z).same (fun r => ⟨fun hr => ?_, fun hr => ?_⟩) (by rw [List.length_map, List.length_map]; exact yl), by rw [upd_ne (nm _ _ gul)]; exact gul, fun x hx => nam x ((umem x).mp hx), fun r hr => ?_, by omega, by rw [List.length_map]; exact zl⟩⟩
      · obtain ⟨y, hy, rfl⟩ := List.mem_map.mp hr
        exact List.mem_map.mpr ⟨y, mw y hy, rfl⟩
      · obtain ⟨z, hz', rfl⟩ := List.mem_map.mp hr
        exact covw z hz'
      · obtain ⟨y, hy, rfl⟩ := List.mem_map.mp hr
        exact List.mem_map.mpr ⟨y, my y hy, rfl⟩
      · obtain ⟨z, hz', rfl⟩ := List.mem_map.mp hr
        exact cov z hz'
      · obtain ⟨z, hz', rfl⟩ := List.mem_map.mp hr
        obtain ⟨h1, h2⟩ := al z.2 (cov z hz')
        exact ⟨(umem _).mpr h1, (umem _).mpr h2⟩
end
end Ag

set_option Elab.async false
set_option linter.all false
set_option maxRecDepth 100000
set_option maxHeartbeats 4000000
set_option pp.maxSteps 400
namespace Ag
open PySem PySem.Spec PyProof.Rows L2
theorem u65 {k : Nat} {A : Around} (r : Room k A) : A.units + 65 < cLine := by have := r.un; omega
theorem pe_fldK {X : Cx} {K : PySem.W.Frag} {e : Expr} {f : Str} {pos : Pos} {ta : TE} (hK : X.K = K) (he : PE X e ta) (hb : attributeBase e f X.env (eval e X.env) = eval e X.env) : PE X (.Attribute e f pos) (tFld K ta f) := by
  subst hK; exact pe_fld he hb
def spMade (K : PySem.W.Frag) (C : Addr) : Sp := fun vs H Q _ => ∃ (p c m n : Nat) (R : List Rw), vs = [.ref p, .ref m] ∧ Pen p c n H ∧ LsAt K m R H ∧ R.length ≤ 50 ∧ n + 1000000 < 1000000000000 ∧
  ∀ b R' H', But p H H' → Pen p c (n + 200) H' → ServerAt K C b R' H' → (∀ r, r ∈ R' ↔ r ∈ R) → Q (.ref b) H'
def spCallsAt (K : PySem.W.Frag) : Sp := fun vs H Q _ => ∃ (m : Addr) (h : Str) (R : List Rw), vs = [.ref m, .str h] ∧ LsAt K m R H ∧
  ∀ (l : Addr) (cs : List Str) H', Same H H' → H' l = some (.lst (cs.map V.str)) → (∀ c ∈ cs, ∃ o, (h, c, o) ∈ R) → cs.length < 64 → Q (.ref l) H'
def spSomeS (K : PySem.W.Frag) : Sp := fun vs H Q _ => ∃ (p c cl hl n : Nat) (cs hs : List Str), vs = [.ref p, .ref cl, .ref hl, .int 6] ∧ Pen p c n H ∧ H cl = some (.lst (cs.map V.str)) ∧ H hl = some (.lst (hs.map V.str)) ∧ (∀ x ∈ cs, nameB x = true) ∧ (∀ x ∈ hs, nameB x = true) ∧ 1 ≤ cs.length ∧ cs.length ≤ 3 ∧ 1 ≤ hs.length ∧ hs.length ≤ 5 ∧ n + 1000000 < 1000000000000 ∧
  ∀ m R H', But p H H' → Pen p c (n + 100) H' → LsAt K m R H' → R ≠ [] → R.length ≤ 45 → (∀ r ∈ R, r.1 ∈ hs ∧ r.2.1 ∈ cs ∧ r.2.2 ∈ hs) → Q (.ref m) H'
theorem Pen.keepB {p c b : Addr} {n : Nat} {H H' : Hp} (P : Pen p c n H) (t : But b H H') (hp : p ≠ b) (hc : c ≠ b) : Pen p c n H' := by
  obtain ⟨cells, a, d, cn, f, h1, h2, h3⟩ := P
  refine ⟨cells, a, d, cn, f, t _ _ hp h1, ?_, h3⟩
  rcases h2 with h2 | ⟨o, h2⟩
  · exact .inl (t _ _ hc h2)
  · exact .inr ⟨o, t _ _ hc h2⟩
theorem st_upd {K : PySem.W.Frag} {H : Hp} {l a : Addr} {xs ys : List V} {o : HO} (h : H l = some (.lst ys)) (s : SqT K H a xs) : SqT K (upd H l o) a xs := s.imp (fun z => by
  rcases z with z | ⟨u, z⟩
  · exact .inl (by rw [upd_ne (ne_of z h (fun q => nomatch q))]; exact z)
  · exact .inr ⟨u, by rw [upd_ne (ne_of z h (fun q => nomatch q))]; exact z⟩) id
theorem refs_of {ys : List (Addr × Rw)} : ∀ {vs : List V}, (∀ v ∈ vs, v ∈ ys.map fun z => V.ref z.1) → ∃ ms : List (Addr × Rw), vs = ms.map (fun z => V.ref z.1) ∧ ∀ z ∈ ms, z ∈ ys
  | [], _ => ⟨[], rfl, fun z hz => nomatch hz⟩
  | v :: vs, h => by
    obtain ⟨ms, e, m⟩ := refs_of (vs := vs) fun u hu => h u (List.mem_cons_of_mem _ hu)
    obtain ⟨z, hz, ez⟩ := List.mem_map.mp (h v List.mem_cons_self)
    exact ⟨z :: ms, by rw [List.map_cons, ← e, ez], fun y hy => (List.mem_cons.mp hy).elim (fun q => q ▸ hz) (m y)⟩
section
variable {P : Program} {w : World} {K : PySem.W.Frag} {mg : Str → Option Value} {base : Heap} (T : Txt w K mg)
theorem ok_made : FnOk P w K mg base CX0 8 T.a_law_made_server T.d_law_made_server ["pen", "server"] (spMade K T.C_Server) := by
  have G_law_mixed := ok_mixed (P := P) (base := base) T
  have G_Server___init__ := ok_Server_init (P := P) (base := base) T
  refine T.D_law_made_server.fn.ok sc_law_made_server (fun vs H Q E h => ?_) (fun cdv A outer s H vs Q E hr h => ?_)
  · obtain ⟨p, c, m, n, R, rfl, _⟩ := h; rfl
  · obtain ⟨p, c, m, n, R, rfl, P0, ⟨rl, ad, pl, ys, kvs, ps, ls⟩, Rl, hn, k⟩ := h
    refine ⟨_, (pss_one (ps_ret (pe_make T.mk_Server (G_Server___init__) (hr.mono (by omega)) (by rfl) T.g_Server T.D_Server___init__.bd .nil (passes_call LamX.takes0 fun _ _ _ _ z => z) (pa_cons (pe_callTy call_tuple_of (by rfl) T.b_tuple bt_tuple (pa_cons (pe_call (G_law_mixed) (hr.mono (by omega)) (by rfl) T.D_law_mixed.mg T.D_law_mixed.fn.kp T.D_law_mixed.bd .nil pass0 (pa_cons (pv 0) (pa_cons (pe_dget (hu_of hr) (pv 1) pe_str (fun _ _ => rfl)) pa_nil))) pa_nil)) pa_nil)))), ?_⟩
    have yl := ls.len
    refine ⟨_, rfl, _, rfl, m, _, rfl, ls_rows ls.dict, p, c, rl, ys.map fun z => V.ref z.1, n, rfl, P0, SqL.of ls.rows, by rw [List.length_map]; omega, by omega, fun l us more H1 pm hm ml e1 b1 P1 => ⟨l, _, rfl, .inl ⟨SqL.of e1, fun t ht => ?_⟩⟩⟩
    obtain ⟨ms, rfl, hms⟩ := refs_of hm
    obtain ⟨M, pM, rfl⟩ := map_of_perm (fun z : Addr × Rw => V.ref z.1) pm (ys ++ ms) (by rw [List.map_append])
    have s2 := Same.newA (o := .tup (M.map fun z => V.ref z.1)) ht
    have hM : RowsAt K (upd H1 t (.tup (M.map fun z => V.ref z.1))) M := fun z hz => by
      have : z ∈ ys := (List.mem_append.mp (pM.mem_iff.mp hz)).elim id (hms z)
      exact ⟨s2.stA (P0.st b1 (ls.good z this).1), (ls.good z this).2⟩
    have et := upd_same (H := H1) (a := t) (o := .tup (M.map fun z => V.ref z.1))
    have P2 := P1.same s2
    have b2 := b1.trans (But.of s2)
    revert hM et P2 b2
    generalize upd H1 t (.tup (M.map fun z => V.ref z.1)) = H2
    intro hM et P2 b2
    intro b dx hb hdx nb
    have s3 : Same H2 (upd (upd H2 dx (.own b)) b (.ins T.C_Server dx [])) := (Same.newA hdx).trans (Same.newA (by rw [upd_ne (Ne.symm nb)]; exact hb))
    have npb := P2.ne_p hb
    have ml2 := pM.length_eq
    rw [List.length_append] at ml2
    rw [List.length_map] at ml
    have P3 := P2.same s3
    refine ⟨b, dx, t, M, rfl, upd_same, s3.stA (SqT.of et), hM.same s3, by omega, fun H4 b4 sv => ⟨rfl, ?_⟩⟩
    refine k b (M.map Prod.snd) H4 (fun a o na e => b4 a o (ne_of_none (b2 a o na e) hb) (s3 _ _ (b2 a o na e))) ((P3.keepB b4 (Ne.symm npb) (Ne.symm (P2.ne_c hb))).more (by rw [List.length_map]; omega)) sv fun r => ?_
    rw [(pM.map Prod.snd).mem_iff, List.map_append, List.mem_append]
    refine Iff.trans ⟨fun h => h.elim id fun h => ?_, .inl⟩ (ls.mem r)
    obtain ⟨z, hz, rfl⟩ := List.mem_map.mp h
    exact List.mem_map.mpr ⟨z, hms z hz, rfl⟩
theorem ok_calls_at : FnOk P w K mg base CX0 1 T.a_law_calls_at T.d_law_calls_at ["server", "place"] (spCallsAt K) := by
  refine T.D_law_calls_at.fn.ok sc_law_calls_at (fun vs H Q E h => ?_) (fun cdv A outer s H vs Q E hr h => ?_)
  · obtain ⟨m, h, R, rfl, _⟩ := h; rfl
  · obtain ⟨m, h, R, rfl, ⟨rl, ad, pl, ys, kvs, ps, ls⟩, k⟩ := h
    refine ⟨_, (pss_one (ps_ret (pe_callB cr_sortedS (by rfl) T.b_sorted bt_sorted (pa_cons (pe_lock (pe_lc (own := [("key", 2)]) rfl sc_law_calls_at.nd (pi_keys (pe_dget (hu_of hr) (pv 0) pe_str (fun _ _ => rfl))) (blkOk_by (own := [("key", 2)]) (N := ["server", "place", "key"]) (sc := defScope s_law_calls_at) (by decide +kernel)) (fun _ _ _ _ _ => (pg_name (i := 2) sc_law_calls_at.nd rfl (by first | exact Or.inl rfl | exact Or.inr rfl))) (fun _ _ _ _ _ => (pts_one (pt_cmpR op_eq (pe_ix (r := rIx K) ix_seq (pv 2) pe_int (fun _ _ => rfl)) (pv 1) (nomark _)))) (fun _ _ _ _ _ => (pe_ix (r := rIx K) ix_seq (pv 2) pe_int (fun _ _ => rfl))))) pa_nil)))), ?_⟩
    have nma : m ≠ ad := ne_of ls.dict ls.ansd (fun z => nomatch z)
    have kl := ls.ans.len
    have rl2 := ls.rln
    refine ⟨ad, .dT kvs, ls.ansd, trivial, fun od => ⟨_, rfl, m, _, rfl, ls_answers (by rw [upd_ne nma]; exact ls.dict), ad, od, rfl, .inr ⟨kvs, upd_same, fun D hD => ?_⟩⟩⟩
    have nDa : D ≠ ad := fun e => by rw [e, upd_same] at hD; cases hD
    refine lc_it walk_keysT (fun i H' => ∃ cs : List Str, H' D = some (.lst (cs.map V.str)) ∧ cs.length ≤ i ∧ (∀ c ∈ cs, ∃ o, (h, c, o) ∈ R) ∧ But D (upd H ad (.frz od (.dT kvs))) H') ⟨[], upd_same, Nat.le_refl _, (fun c hc => nomatch hc), But.same (Same.newA hD)⟩ (fun i H' _ ⟨_, _, _, _, t⟩ => t _ _ (Ne.symm nDa) upd_same) ?_ ?_
    · rintro i x H1 H1' hi ⟨cs, g1, g2, g3, t⟩ ⟨rfl, ky, v, q, hk, rfl, hq⟩
      obtain ⟨h', c, o, rfl, hm⟩ := ls.ans.key ky (kvs_at hk)
      have sq : ∀ H2, Same H1' H2 → SqT K H2 q [.str h', .str c] := fun H2 s2 => .of (s2 _ _ hq)
      refine ⟨rfl, ?_⟩
      refine (et_test (ed_eqS (F := nn H1') (ed_ixT (j := 0) (ds := [.str h', .str c]) (ed_var (i := 2) rfl (.tup (sq _ (Same.refl _)) (.cons (.str _) (.cons (.str _) .nil)))) ed_int rfl) (ed_var (i := 1) rfl (.str h)))) H1' (Same.refl _) _ fun H2 s2 => ?_
      have g1 := s2 _ _ g1
      have t2 := t.trans' (But.same s2)
      refine ite2 (fun hb => ?_) fun hb => ?_
      · have e := of_decide_eq_true hb
        subst e
        refine ⟨_, rfl, .inr (.inl ⟨q, _, 1, .str c, rfl, rfl, sq _ s2, rfl, _, g1, lt5 (by rw [List.length_map]; omega), cs ++ [c], by rw [upd_same, List.map_append]; rfl, by rw [List.length_append]; exact Nat.succ_le_succ g2, fun z hz => ?_, t2.trans' .updb⟩)⟩
        rcases List.mem_append.mp hz with hz | hz
        · exact g3 z hz
        · rw [List.mem_singleton.mp hz]; exact ⟨o, hm⟩
      · exact ⟨cs, g1, Nat.le_succ_of_le g2, g3, t2⟩
    · rintro H1 ⟨cs, g1, g2, g3, t⟩
      refine ⟨t _ _ (Ne.symm nDa) upd_same, ?_⟩
      have fD : H D = none := by rw [upd_ne nDa] at hD; exact hD
      have t2 := unlock_but ls.ansd t
      have sH : Same H (upd H1 ad (.dT kvs)) := fun a o e => t2 a o (ne_of_none e fD) e
      refine ⟨D, cs, rfl, SqL.of (by rw [upd_ne nDa]; exact g1), by omega, fun us p pm _ hp => ?_⟩
      have s3 := Same.newA (o := .lst (us.map V.str)) hp
      exact k p us _ (sH.trans s3) upd_same (fun c hc => g3 c (pm.mem_iff.mp hc)) (by rw [pm.length_eq]; omega)
theorem rows_data {H : Hp} {K : PySem.W.Frag} : ∀ {zs : List (Addr × Rw)}, RowsAt K H zs → DpAll K H (zs.map fun z => V.ref z.1) (zs.map fun z => rowD z.2)
  | [], _ => .nil
  | z :: zs, h => .cons (row_dp (h z List.mem_cons_self).1) (rows_data fun y hy => h y (List.mem_cons_of_mem _ hy))
theorem row_gd {r : Rw} (h : goodR r) : gd (rowD r) = true := by
  have h1 := name_gd h.1
  have h2 := name_gd h.2.1
  have h3 := name_gd h.2.2
  show (gds [.str r.1, .str r.2.1, .str r.2.2] && decide (3 ≤ 1000)) = true
  rw [gds_of fun y hy => ?_]
  · rfl
  · simp only [List.mem_cons, List.not_mem_nil, or_false] at hy
    rcases hy with rfl | rfl | rfl
    · exact h1
    · exact h2
    · exact h3
theorem ok_some_server : FnOk P w K mg base CX0 3 T.a_law_some_server T.d_law_some_server ["pen", "calls", "places", "share"] (spSomeS K) := by
  have G_law_draw := ok_draw (P := P) (base := base) T
  have G_law_pick := ok_pick (P := P) (base := base) T
  have G_law_server_of := ok_server_of (P := P) (base := base) T
  refine T.D_law_some_server.fn.ok sc_law_some_server (fun vs H Q E h => ?_) (fun cdv A outer s H vs Q E hr h => ?_)
  · obtain ⟨p, c, cl, hl, n, cs, hs, rfl, _⟩ := h; rfl
  · obtain ⟨p, c, cl, hl, n, cs, hs, rfl, P0, ecl, ehl, nc, nh, c1, c3, h1, h5, hn, k⟩ := h
    refine ⟨_, (pss_cons (ps_set (i := 4) sc_law_some_server.nd rfl (by first | exact Or.inl rfl | exact Or.inr rfl) (pe_lst pa_nil))
      (pss_cons (ps_for PassesOwn.never rfl (pi_list (pv 2)) (pg_name (i := 5) sc_law_some_server.nd rfl (by first | exact Or.inl rfl | exact Or.inr rfl)) (pss_one (ps_for PassesOwn.never rfl (pi_list (pv 1)) (pg_name (i := 6) sc_law_some_server.nd rfl (by first | exact Or.inl rfl | exact Or.inr rfl)) (pss_one (ps_if (pt_cmpR op_lt (pe_call (G_law_draw) (hr.mono (by omega)) (by rfl) T.D_law_draw.mg T.D_law_draw.fn.kp T.D_law_draw.bd .nil pass0 (pa_cons (pv 0) (pa_cons pe_int pa_nil))) (pv 3) (nomark _)) (pss_one (ps_for PassesOwn.never rfl (pi_range1 (by rfl) T.b_range (pa_cons (pe_call (G_law_pick) (hr.mono (by omega)) (by rfl) T.D_law_pick.mg T.D_law_pick.fn.kp T.D_law_pick.bd .nil pass0 (pa_cons (pv 0) (pa_cons (pe_lst (pa_cons pe_int (pa_cons pe_int (pa_cons pe_int (pa_cons pe_int (pa_cons pe_int (pa_cons pe_int pa_nil))))))) pa_nil))) pa_nil)) (pg_name (i := 7) sc_law_some_server.nd rfl (by first | exact Or.inl rfl | exact Or.inr rfl)) (pss_one (ps_expr (pe_bm PySem.F.plainAttrs_list PySem.F.slot_list_append PySem.F.type_list_append mt_append (pv 4) (pa_cons (pe_tup (pa_cons (pv 5) (pa_cons (pv 6) (pa_cons (pe_call (G_law_pick) (hr.mono (by omega)) (by rfl) T.D_law_pick.mg T.D_law_pick.fn.kp T.D_law_pick.bd .nil pass0 (pa_cons (pv 0) (pa_cons (pv 2) pa_nil))) pa_nil)))) pa_nil)))))) pss_nil)))))
      (C8.pss_cut (ps_if (pt_cmpR (op_eqE hr.units) (pv 4) (pe_lst pa_nil) (nomark _)) (pss_one (ps_set (i := 4) sc_law_some_server.nd rfl (by first | exact Or.inl rfl | exact Or.inr rfl) (pe_lst (pa_cons (pe_tup (pa_cons (pe_ix (r := rIx K) ix_seq (pv 2) pe_int (fun _ _ => rfl)) (pa_cons (pe_ix (r := rIx K) ix_seq (pv 1) pe_int (fun _ _ => rfl)) (pa_cons (pe_ix (r := rIx K) ix_seq (pv 2) (pe_un un_neg pe_int) (fun _ _ => rfl)) pa_nil)))) pa_nil)))) pss_nil)
      (pss_one (ps_ret (pe_call (G_law_server_of) (hr.mono (by omega)) (by rfl) T.D_law_server_of.mg T.D_law_server_of.fn.kp T.D_law_server_of.bd .nil pass0 (pa_cons (pv 4) pa_nil))))))), ?_⟩
    refine ⟨(by show 0 ≤ sizeLine; decide), fun rl hrl => ?_⟩
    dsimp only [gName]
    have np := P0.ne_p hrl
    have nq := P0.ne_c hrl
    have nrl : ∀ a o, H a = some o → a ≠ rl := fun a o e => ne_of_none e hrl
    have keepL : ∀ {H' : Hp} {a : Addr} {xs : List V}, But p H H' → H a = some (.lst xs) → H' a = some (.lst xs) := fun b e => b _ _ (P0.ne e (fun _ z => nomatch z)) e
    refine ⟨_, rfl, hl, rfl, ⟨_, SqL.of (by rw [upd_ne (nrl _ _ ehl)]; exact ehl)⟩, for_list (K := K) (a := hl) (xs := hs.map V.str) (fun i σ' H' => ∃ (o5 o6 o7 : Option V) (zs : List (Addr × Rw)), σ' = [some (.ref p), some (.ref cl), some (.ref hl), some (.int 6), some (.ref rl), o5, o6, o7] ∧ But p H H' ∧ Pen p c (n + 15 * i) H' ∧ H' rl = some (.lst (zs.map fun z : Addr × Rw => V.ref z.1)) ∧ RowsAt K H' zs ∧ zs.length ≤ 9 * i ∧ ∀ z ∈ zs, z.2.1 ∈ hs ∧ z.2.2.1 ∈ cs ∧ z.2.2.2 ∈ hs)
      ⟨none, none, none, [], rfl, fun a o _ e => by rw [upd_ne (nrl _ _ e)]; exact e, P0.upd np nq, upd_same, (fun z hz => nomatch hz), Nat.zero_le _, fun z hz => nomatch hz⟩ (fun i σ' H' _ ⟨_, _, _, _, _, b, _⟩ => SqL.of (keepL b ehl)) ?_ ?_⟩
    · rintro i v σ' H1 hv ⟨o5, o6, o7, zs, rfl, b1, P1, e1, r1, l1, m1⟩
      obtain ⟨hh, hx, rfl⟩ := str_at hv
      have ihs : i < hs.length := (List.getElem?_eq_some_iff.mp hx).1
      have mh := List.mem_of_getElem? hx
      dsimp only [gName]
      refine ⟨_, rfl, cl, rfl, ⟨_, SqL.of (keepL b1 ecl)⟩, for_list (K := K) (a := cl) (xs := cs.map V.str) (fun j σ' H' => ∃ (o6 o7 : Option V) (zs : List (Addr × Rw)), σ' = [some (.ref p), some (.ref cl), some (.ref hl), some (.int 6), some (.ref rl), some (.str hh), o6, o7] ∧ But p H H' ∧ Pen p c (n + 15 * i + 5 * j) H' ∧ H' rl = some (.lst (zs.map fun z : Addr × Rw => V.ref z.1)) ∧ RowsAt K H' zs ∧ zs.length ≤ 9 * i + 3 * j ∧ ∀ z ∈ zs, z.2.1 ∈ hs ∧ z.2.2.1 ∈ cs ∧ z.2.2.2 ∈ hs)
        ⟨o6, o7, zs, rfl, b1, P1, e1, r1, l1, m1⟩ (fun j σ' H' _ ⟨_, _, _, _, b, _⟩ => SqL.of (keepL b ecl)) ?_ ?_⟩
      · rintro j v σ' H2 hv ⟨o6, o7, zs, rfl, b2, P2, e2, r2, l2, m2⟩
        obtain ⟨cc, hx2, rfl⟩ := str_at hv
        have jcs : j < cs.length := (List.getElem?_eq_some_iff.mp hx2).1
        have mc := List.mem_of_getElem? hx2
        dsimp only [gName]
        refine ⟨_, rfl, p, c, 10, _, rfl, P2, by decide, by decide, by omega, fun d H3 _ _ b3 P3 => ⟨_, rfl, _, _, rfl, rfl, _, rfl, ite2 (fun _ => ?_) fun _ => ?_⟩⟩
        · have e3 := b3 _ _ (P2.ne e2 (fun _ z => nomatch z)) e2
          have r3 : RowsAt K H3 zs := fun z hz => ⟨P2.st b3 (r2 z hz).1, (r2 z hz).2⟩
          refine ⟨_, rfl, (by show 6 ≤ sizeLine; decide), fun l hl2 => ⟨p, c, l, [.int 1, .int 1, .int 1, .int 2, .int 2, .int 3], _, rfl, P3.upd (P3.ne_p hl2) (P3.ne_c hl2), .inl (.of upd_same), by show 0 < 6; decide, by show 6 < 100000; decide, by omega, fun y v H4 hv b4 P4 => ?_⟩⟩
          obtain ⟨t, rfl, t3⟩ : ∃ t : Nat, v = .int (t : Int) ∧ t ≤ 3 := by
            match y, hv with
            | 0, hv => cases hv; exact ⟨1, rfl, by decide⟩
            | 1, hv => cases hv; exact ⟨1, rfl, by decide⟩
            | 2, hv => cases hv; exact ⟨1, rfl, by decide⟩
            | 3, hv => cases hv; exact ⟨2, rfl, by decide⟩
            | 4, hv => cases hv; exact ⟨2, rfl, by decide⟩
            | 5, hv => cases hv; exact ⟨3, rfl, by decide⟩
          have sl := Same.newA (o := .lst [.int 1, .int 1, .int 1, .int 2, .int 2, .int 3]) hl2
          have PL := P3.same sl
          have e4 := b4 _ _ (PL.ne (sl _ _ e3) (fun _ z => nomatch z)) (sl _ _ e3)
          have r4 : RowsAt K H4 zs := fun z hz => ⟨PL.st b4 (sl.stA (r3 z hz).1), (r3 z hz).2⟩
          have bb := b2.trans (b3.trans ((But.of sl).trans b4))
          refine ⟨_, rfl, by omega, by omega, for_range (n := ((t : Nat) : Int).toNat) (fun u σ' H' => ∃ (o7 : Option V) (zs : List (Addr × Rw)), σ' = [some (.ref p), some (.ref cl), some (.ref hl), some (.int 6), some (.ref rl), some (.str hh), some (.str cc), o7] ∧ But p H H' ∧ Pen p c (n + 15 * i + 5 * j + 2 + u) H' ∧ H' rl = some (.lst (zs.map fun z : Addr × Rw => V.ref z.1)) ∧ RowsAt K H' zs ∧ zs.length ≤ 9 * i + 3 * j + u ∧ ∀ z ∈ zs, z.2.1 ∈ hs ∧ z.2.2.1 ∈ cs ∧ z.2.2.2 ∈ hs)
            ⟨o7, zs, rfl, bb, P4, e4, r4, l2, m2⟩ ?_ ?_⟩
          · rintro u σ' H5 hu ⟨o7, zs, rfl, b5, P5, e5, r5, l5, m5⟩
            dsimp only [gName]
            refine ⟨_, rfl, .inl ⟨rfl, _, SqL.of e5⟩, _, rfl, _, rfl, _, rfl, _, rfl, p, c, hl, _, _, rfl, P5, .inl (SqL.of (keepL b5 ehl)), by rw [List.length_map]; omega, by rw [List.length_map]; omega, by omega, fun y v H6 hv b6 P6 => ⟨(by show 3 ≤ sizeLine; decide), fun q hq => ?_⟩⟩
            obtain ⟨ox, hox, rfl⟩ := str_at hv
            have mo := List.mem_of_getElem? hox
            have sq := Same.newA (o := .tup [.str hh, .str cc, .str ox]) hq
            have e6 := sq _ _ (b6 _ _ (P5.ne e5 (fun _ z => nomatch z)) e5)
            have P7 := P6.same sq
            have r7 : RowsAt K (upd H6 q (.tup [.str hh, .str cc, .str ox])) (zs ++ [(q, (hh, cc, ox))]) := fun z hz => by
              rcases List.mem_append.mp hz with hz | hz
              · exact ⟨sq.stA (P5.st b6 (r5 z hz).1), (r5 z hz).2⟩
              · rw [List.mem_singleton.mp hz]; exact ⟨.of upd_same, nh _ mh, nc _ mc, nh _ mo⟩
            refine ⟨rl, _, _, rfl, rfl, e6, lt5 (by rw [List.length_map]; omega), ?_⟩
            have e8 : (upd (upd H6 q (.tup [.str hh, .str cc, .str ox])) rl (.lst (zs.map (fun z : Addr × Rw => V.ref z.1) ++ [V.ref q]))) rl = some (.lst ((zs ++ [(q, (hh, cc, ox))]).map fun z : Addr × Rw => V.ref z.1)) := by rw [upd_same, List.map_append]; rfl
            refine ⟨_, zs ++ [(q, (hh, cc, ox))], rfl, fun a o na e => ?_, P7.upd np nq, e8, fun z hz => ⟨st_upd e6 (r7 z hz).1, (r7 z hz).2⟩, by rw [List.length_append]; show zs.length + 1 ≤ _; omega, fun z hz => ?_⟩
            · rw [upd_ne (nrl _ _ e)]
              exact sq _ _ (b6 _ _ na (b5 _ _ na e))
            · rcases List.mem_append.mp hz with hz | hz
              · exact m5 z hz
              · rw [List.mem_singleton.mp hz]; exact ⟨mh, mc, mo⟩
          · rintro σ' H5 ⟨o7, zs, rfl, b5, P5, e5, r5, l5, m5⟩
            exact ⟨_, _, zs, rfl, b5, P5.more (by omega), e5, r5, by omega, m5⟩
        · refine ⟨_, _, zs, rfl, b2.trans b3, P3.more (by omega), b3 _ _ (P2.ne e2 (fun _ z => nomatch z)) e2, fun z hz => ⟨P2.st b3 (r2 z hz).1, (r2 z hz).2⟩, by omega, m2⟩
      · rintro σ' H2 ⟨o6, o7, zs, rfl, b2, P2, e2, r2, l2, m2⟩
        rw [List.length_map] at P2 l2
        exact ⟨_, _, _, zs, rfl, b2, P2.more (by omega), e2, r2, by omega, m2⟩
    · rintro σ' H1 ⟨o5, o6, o7, zs, rfl, b1, P1, e1, r1, l1, m1⟩
      rw [List.length_map] at P1 l1
      refine ⟨fun σ' H' => ∃ (o5 o6 o7 : Option V) (r2 : Addr) (zs : List (Addr × Rw)), σ' = [some (.ref p), some (.ref cl), some (.ref hl), some (.int 6), some (.ref r2), o5, o6, o7] ∧ But p H H' ∧ Pen p c (n + 75) H' ∧ H' r2 = some (.lst (zs.map fun z : Addr × Rw => V.ref z.1)) ∧ RowsAt K H' zs ∧ zs.length ≤ 45 ∧ zs ≠ [] ∧ ∀ z ∈ zs, z.2.1 ∈ hs ∧ z.2.2.1 ∈ cs ∧ z.2.2.2 ∈ hs, ?_, ?_⟩
      · refine s_if (b := (zs.map fun z : Addr × Rw => rowD z.2).isEmpty) (et_test (ed_eqE (K := K) (F := nn H1) (ds := zs.map fun z : Addr × Rw => rowD z.2) (ed_var (i := 4) rfl (dp_df (.lst (SqL.of e1) (rows_data r1)))) (ed_lst ea_nil (by show 0 ≤ 100000; decide)) (gds_lay (gds_of fun y hy => ?_)))) (fun hb H2 s2 => ?_) (fun hb H2 s2 => ?_)
        · obtain ⟨z, hz, rfl⟩ := List.mem_map.mp hy
          exact row_gd (r1 z hz).2
        · obtain ⟨x0, hx0⟩ : ∃ x, hs[0]? = some x := ⟨_, List.getElem?_eq_getElem h1⟩
          obtain ⟨y0, hy0⟩ : ∃ x, cs[0]? = some x := ⟨_, List.getElem?_eq_getElem c1⟩
          obtain ⟨z0, hz0⟩ : ∃ x, hs[hs.length - 1]? = some x := ⟨_, List.getElem?_eq_getElem (by omega)⟩
          have b2 := b1.trans (But.of s2)
          have eh2 := keepL b2 ehl
          have ec2 := keepL b2 ecl
          refine ⟨_, rfl, .inl ⟨hl, _, 0, .str x0, rfl, rfl, SqL.of eh2, atI_nat (j := 0) (by rw [List.getElem?_map, hx0]; rfl), _, rfl, .inl ⟨cl, _, 0, .str y0, rfl, rfl, SqL.of ec2, atI_nat (j := 0) (by rw [List.getElem?_map, hy0]; rfl), _, rfl, 1, rfl, .inl ⟨hl, _, -1, .str z0, rfl, rfl, SqL.of eh2, atI_neg (k := 1) (by decide) (by rw [List.length_map]; exact h1) (by rw [List.length_map, List.getElem?_map, hz0]; rfl), (by show 3 ≤ sizeLine; decide), fun q hq => ⟨(by show 1 ≤ sizeLine; decide), fun r2 hr2 => ?_⟩⟩⟩⟩⟩
          have s3 := Same.newA (o := .tup [.str x0, .str y0, .str z0]) hq
          have s4 := Same.newA (o := .lst [.ref q]) hr2
          have m0 := List.mem_of_getElem? hx0
          have m1 := List.mem_of_getElem? hy0
          have m2 := List.mem_of_getElem? hz0
          refine ⟨_, _, _, r2, [(q, (x0, y0, z0))], rfl, b2.trans (But.of (s3.trans s4)), (P1.same (s2.trans (s3.trans s4))).more (by omega), upd_same, fun z hz => ?_, by show 1 ≤ 45; decide, (fun z => nomatch z), fun z hz => ?_⟩
          · rw [List.mem_singleton.mp hz]; exact ⟨s4.stA (.of upd_same), nh _ m0, nc _ m1, nh _ m2⟩
          · rw [List.mem_singleton.mp hz]; exact ⟨m0, m1, m2⟩
        · refine ⟨_, _, _, rl, zs, rfl, b1.trans (But.of s2), (P1.same s2).more (by omega), s2 _ _ e1, r1.same s2, by omega, fun z => ?_, m1⟩
          subst z; cases hb
      · rintro σ' H2 ⟨o5, o6, o7, r2, zs, rfl, b2, P2, e2, g2, l2, ne2, m2⟩
        refine ⟨_, rfl, r2, zs, rfl, SqL.of e2, g2, by omega, fun m H3 s3 ls => ?_⟩
        refine k m _ H3 (b2.trans (But.of s3)) ((P2.same s3).more (by omega)) ls (fun z => ne2 (List.map_eq_nil_iff.mp z)) (by rw [List.length_map]; exact l2) fun r hr => ?_
        obtain ⟨z, hz, rfl⟩ := List.mem_map.mp hr
        exact m2 z hz
end
end Ag

set_option Elab.async false
set_option linter.all false
set_option maxRecDepth 100000
set_option maxHeartbeats 4000000
set_option pp.maxSteps 400
namespace Ag
open PySem PySem.Spec PyProof.Rows L2
theorem ed_notInD {K : PySem.W.Frag} {σ : L2.St} {F : Addr → Prop} {H : Hp} {ta tb : TE} {d : PyData} {ds : List PyData} (ha : ED K ta σ F H d) (hb : ED K tb σ F H (.list ds)) (h1 : SeqAt.shaped d = true) (h2 : SeqAt.shaped (.list ds) = true) : ED K (tOp (rNotInD K) ta tb) σ F H (.bool (!ds.any fun z => PyData.eqv z d)) :=
  ed_op ha hb fun F a b H1 hx hy Q q => ⟨d, ds, df_dp hx, df_dp hy, h1, h2, q _ _ (Same.refl _) (.bl _)⟩
theorem eqv_row (r s : Rw) : PyData.eqv (rowD r) (rowD s) = decide (r = s) := by
  obtain ⟨a, b, c⟩ := r
  obtain ⟨d, e, f⟩ := s
  unfold rowD
  simp only [PyData.eqv, PyData.eqvAll, Bool.and_true]
  have h : ∀ x y : Str, (x == y) = decide (x = y) := fun x y => by
    by_cases q : x = y
    · subst q; simp
    · rw [decide_eq_false q]; exact beq_eq_false_iff_ne.mpr q
  rw [h, h, h]
  by_cases h1 : a = d
  · by_cases h2 : b = e
    · by_cases h3 : c = f
      · simp [h1, h2, h3]
      · simp [h1, h2, h3]
    · simp [h1, h2]
  · simp [h1]
theorem any_rows (ys : List (Addr × Rw)) (r : Rw) : ((ys.map fun z => rowD z.2).any fun z => PyData.eqv z (rowD r)) = decide (r ∈ ys.map Prod.snd) := by
  rw [Bool.eq_iff_iff, List.any_eq_true, decide_eq_true_eq]
  constructor
  · rintro ⟨z, hz, e⟩
    obtain ⟨y, hy, rfl⟩ := List.mem_map.mp hz
    rw [eqv_row, decide_eq_true_eq] at e
    exact List.mem_map.mpr ⟨y, hy, e⟩
  · intro h
    obtain ⟨y, hy, rfl⟩ := List.mem_map.mp h
    exact ⟨_, List.mem_map.mpr ⟨y, hy, rfl⟩, by rw [eqv_row, decide_eq_true rfl]⟩
theorem row_depth (r : Rw) : (rowD r).depth ≤ 1 := by simp [rowD, PyData.depth, PyData.depthAll]
theorem rows_depth : ∀ ys : List (Addr × Rw), PyData.depthAll (ys.map fun z => rowD z.2) ≤ 1
  | [] => by simp [PyData.depthAll]
  | y :: ys => by
    have h1 := row_depth y.2
    have h2 := rows_depth ys
    simp only [List.map_cons, PyData.depthAll]; omega
theorem shaped_rows {H : Hp} {K : PySem.W.Frag} {ys : List (Addr × Rw)} (h : RowsAt K H ys) : SeqAt.shaped (.list (ys.map fun z => rowD z.2)) = true := by
  have d := rows_depth ys
  have e : (PyData.list (ys.map fun z => rowD z.2)).depth ≤ 64 := by simp only [PyData.depth]; omega
  have l : (PyData.list (ys.map fun z => rowD z.2)).canLay0 = true := by
    simp only [PyData.canLay0]
    exact gds_lay (gds_of fun y hy => by
      obtain ⟨z, hz, rfl⟩ := List.mem_map.mp hy
      exact row_gd (h z hz).2)
  unfold SeqAt.shaped
  rw [l, Bool.true_and]; exact decide_eq_true e
theorem dfs_rows {H : Hp} {K : PySem.W.Frag} {F : Addr → Prop} : ∀ {zs : List (Addr × Rw)}, RowsAt K H zs → DfAll K F H (zs.map fun z => V.ref z.1) (zs.map fun z => rowD z.2)
  | [], _ => .nil
  | z :: zs, h => .cons (.tup (h z List.mem_cons_self).1 (.cons (.str _) (.cons (.str _) (.cons (.str _) .nil)))) (dfs_rows fun y hy => h y (List.mem_cons_of_mem _ hy))
theorem ed_lrows {K : PySem.W.Frag} {σ : L2.St} {F : Addr → Prop} {H : Hp} {i : Nat} {m rl ad pl : Addr} {ys : List (Addr × Rw)} {kvs : List (List Key × V)} {ps : List Str} {R : List Rw} (h : σ[i]? = some (some (.ref m))) (ls : LsParts K m rl ad pl ys kvs ps R H) (f : F rl) : ED K (tDGet (tVar i) (tC (.str "rows"))) σ F H (.list (ys.map fun z => rowD z.2)) := fun H1 s Q q =>
  ⟨_, h, m, _, rfl, ls_rows (s _ _ ls.dict), q _ H1 (Same.refl _) (.lst (.inl ⟨.inl (s _ _ ls.rows), .inl f⟩) (dfs_rows (ls.good.same s)))⟩
def ixD : PyData → Nat | .int i => i.toNat | _ => 0
def spLIsC (K : PySem.W.Frag) (C : Addr) : Sp := fun vs H Q _ => ∃ m v R res, vs = [.ref m, v] ∧ LsAt K m R H ∧ VAt K C R H v res ∧ ∀ H', Same H H' → Q (.bl res) H'
theorem isT_of {d : PyData} (h : isiB "tuple" d = true) : ∃ ds, d = .tuple ds := by
  cases d with
  | tuple ds => exact ⟨ds, rfl⟩
  | _ => cases h
theorem wordsB_not {d : PyData} (h : isiB "tuple" d = false) : wordsB d = false := by
  cases d with
  | tuple ds => cases h
  | _ => rfl
section
variable {P : Program} {w : World} {K : PySem.W.Frag} {mg : Str → Option Value} {base : Heap} (T : Txt w K mg)
theorem ok_law_is_course : FnOk P w K mg base CX0 3 T.a_law_is_course T.d_law_is_course ["server", "value"] (spLIsC K T.C_Course) := by
  have G_law_is_name := ok_law_is_name (P := P) (base := base) T
  have G_law_is_whole := ok_law_is_whole (P := P) (base := base) T
  refine T.D_law_is_course.fn.ok sc_law_is_course (fun vs H Q E h => ?_) (fun cdv A outer s H vs Q E hr h => ?_)
  · obtain ⟨m, v, R, res, rfl, _⟩ := h; rfl
  · obtain ⟨m, v, R, res, rfl, ⟨rl, ad, pl, ys, kvs, ps, ls⟩, hv, k⟩ := h
    refine ⟨_, (pss_cons (ps_if (PW.pt (pw_or (pt_not (pt_val (pe_callB call_isi (by rfl) T.b_isinstance bt_isinstance (pa_cons (pv 1) (pa_cons (pe_glob (v := .ref T.C_Course) (by rfl) T.g_Course rfl) pa_nil))))) (pw_or (pt_not (pt_val (pe_callB call_isi (by rfl) T.b_isinstance bt_isinstance (pa_cons (pe_fldK (K := K) rfl (pv 1) rfl) (pa_cons (pe_bltn (v := .ty "tuple") (by rfl) T.b_tuple bt_tuple rfl) pa_nil))))) (pw_or (pt_not (pt_val (pe_callB call_isi (by rfl) T.b_isinstance bt_isinstance (pa_cons (pe_fldK (K := K) rfl (pv 1) rfl) (pa_cons (pe_bltn (v := .ty "tuple") (by rfl) T.b_tuple bt_tuple rfl) pa_nil))))) (pw_or1 (pt_cmpR op_ne (pe_callB call_len (by rfl) T.b_len bt_len (pa_cons (pe_fldK (K := K) rfl (pv 1) rfl) pa_nil)) (pe_op op_add (pe_callB call_len (by rfl) T.b_len bt_len (pa_cons (pe_fldK (K := K) rfl (pv 1) rfl) pa_nil)) pe_int) (nomark _))))))) (pss_one (ps_ret pe_bl)) pss_nil)
      (pss_cons (ps_if (PW.pt (pw_or (pt_not (pt_val (pe_callB (cr_all rfl) (by rfl) T.b_all bt_all (pa_cons (pe_lc (own := [("one", 2)]) rfl sc_law_is_course.nd (pi_tup (pe_op op_catA (pe_fldK (K := K) rfl (pv 1) rfl) (pe_fldK (K := K) rfl (pv 1) rfl))) (blkOk_by (own := [("one", 2)]) (N := ["server", "value", "one", "rows", "at", "row"]) (sc := defScope s_law_is_course) (by decide +kernel)) (fun _ _ _ _ _ => (pg_name (i := 2) sc_law_is_course.nd rfl (by first | exact Or.inl rfl | exact Or.inr rfl))) (fun _ _ _ _ _ => pts_nil) (fun _ _ _ _ _ => (pe_call (G_law_is_name) (hr.mono (by omega)) (by rfl) T.D_law_is_name.mg T.D_law_is_name.fn.kp T.D_law_is_name.bd .nil pass0 (pa_cons (pv 2) pa_nil)))) pa_nil)))) (pw_or1 (pt_not (pt_val (pe_call (G_law_is_whole) (hr.mono (by omega)) (by rfl) T.D_law_is_whole.mg T.D_law_is_whole.fn.kp T.D_law_is_whole.bd .nil pass0 (pa_cons (pe_fldK (K := K) rfl (pv 1) rfl) (pa_cons pe_int (pa_cons (pe_callB call_len (by rfl) T.b_len bt_len (pa_cons (pe_fldK (K := K) rfl (pv 1) rfl) pa_nil)) pa_nil))))))))) (pss_one (ps_ret pe_bl)) pss_nil)
      (pss_cons (ps_setLc (i := 3) (own := [("at", 4)]) rfl sc_law_is_course.nd rfl rfl (sw_true rfl rfl rfl (by decide +kernel)) (pi_range1 (by rfl) T.b_range (pa_cons (pe_callB call_len (by rfl) T.b_len bt_len (pa_cons (pe_fldK (K := K) rfl (pv 1) rfl) pa_nil)) pa_nil)) (blkOk_by (own := [("at", 4)]) (N := ["server", "value", "one", "rows", "at", "row"]) (sc := defScope s_law_is_course) (by decide +kernel)) (fun _ _ _ _ _ => (pg_name (i := 4) sc_law_is_course.nd rfl (by first | exact Or.inl rfl | exact Or.inr rfl))) (fun _ _ _ _ _ => pts_nil) (fun _ _ _ _ _ => (pe_tup (pa_cons (pe_ix (r := rIx K) ix_seq (pe_fldK (K := K) rfl (pv 1) rfl) (pv 4) (fun _ _ => rfl)) (pa_cons (pe_ix (r := rIx K) ix_seq (pe_fldK (K := K) rfl (pv 1) rfl) (pv 4) (fun _ _ => rfl)) (pa_cons (pe_ix (r := rIx K) ix_seq (pe_fldK (K := K) rfl (pv 1) rfl) (pe_op op_add (pv 4) pe_int) (fun _ _ => rfl)) pa_nil))))))
      (pss_one (ps_ret (pe_and (pe_cmpR (op_eqE hr.units) (pe_lc (own := [("row", 5)]) rfl sc_law_is_course.nd (pi_list (pv 3)) (blkOk_by (own := [("row", 5)]) (N := ["server", "value", "one", "rows", "at", "row"]) (sc := defScope s_law_is_course) (by decide +kernel)) (fun _ _ _ _ _ => (pg_name (i := 5) sc_law_is_course.nd rfl (by first | exact Or.inl rfl | exact Or.inr rfl))) (fun _ _ _ _ _ => (pts_one (pt_cmpR (r := rNotInD K) (op_notInD (u65 hr)) (pv 5) (pe_dget (hu_of hr) (pv 0) pe_str (fun _ _ => rfl)) (by rfl)))) (fun _ _ _ _ _ => (pv 5))) (pe_lst pa_nil) (nomark _)) (pe_one (pe_cmpR (op_eqD hr.units) (pe_ix (r := rIx K) ix_seq (pe_fldK (K := K) rfl (pv 1) rfl) (pe_un un_neg pe_int) (fun _ _ => rfl)) (pe_ix (r := rIx K) ix_seq (pe_fldK (K := K) rfl (pv 1) rfl) (pe_op op_sub (pe_callB call_len (by rfl) T.b_len bt_len (pa_cons (pe_fldK (K := K) rfl (pv 1) rfl) pa_nil)) (pe_fldK (K := K) rfl (pv 1) rfl)) (fun _ _ => rfl)) (nomark _))))))))), ?_⟩
    rcases hv with ⟨a, d1, d2, d3, rfl, ⟨dx, v1, v2, v3, ha, h1, h2, h3⟩, g1, g2, rfl⟩ | ⟨d, hd, hn, rfl⟩
    · have f1 : ∀ (σ : L2.St) H1, σ[1]? = some (some (.ref a)) → Same H H1 → ED K (tFld K (tVar 1) "calls") σ (nn H) H1 d1 := fun σ H1 e s1 => ed_fldI e (s1 _ _ ha) T.cl_Course T.na_Course_calls cf_calls (df_mono s1 (fun _ z => z) (dp_df h1))
      have f2 : ∀ (σ : L2.St) H1, σ[1]? = some (some (.ref a)) → Same H H1 → ED K (tFld K (tVar 1) "halls") σ (nn H) H1 d2 := fun σ H1 e s1 => ed_fldI e (s1 _ _ ha) T.cl_Course T.na_Course_halls cf_halls (df_mono s1 (fun _ z => z) (dp_df h2))
      have f3 : ∀ (σ : L2.St) H1, σ[1]? = some (some (.ref a)) → Same H H1 → ED K (tFld K (tVar 1) "ring") σ (nn H) H1 d3 := fun σ H1 e s1 => ed_fldI e (s1 _ _ ha) T.cl_Course T.na_Course_ring cf_ring (df_mono s1 (fun _ z => z) (dp_df h3))
      have isi := et_not (et_B (ed_isiO (F := nn H) (σ := start ["server", "value", "one", "rows", "at", "row"] [V.ref m, V.ref a]) (i := 1) rfl (fun H1 s1 => .base (T.ty_Course _ _ _ _ (s1 _ _ ha))) T.ki_Course_Course))
      have t1 := et_not (et_B (ed_isi (T := "tuple") (f1 (start ["server", "value", "one", "rows", "at", "row"] [V.ref m, V.ref a]) H rfl (Same.refl _)) (.inr (.inl rfl))))
      have t2 := et_not (et_B (ed_isi (T := "tuple") (f2 (start ["server", "value", "one", "rows", "at", "row"] [V.ref m, V.ref a]) H rfl (Same.refl _)) (.inr (.inl rfl))))
      have no : courseB R d1 d2 d3 = false → ∀ H1, Same H H1 → Q (.bl false) H1 := fun e H1 s1 => by
        have := k H1 s1; rw [e] at this; exact this
      cases i1 : isiB "tuple" d1 with
      | false =>
        rw [i1] at t1
        exact s_if (b := true) (et_is (et_or isi fun _ => et_or (b := true) t1 fun h => nomatch h) rfl) (fun _ H1 s1 => no (by unfold courseB; rw [wordsB_not i1]; rfl) H1 s1) (fun h => nomatch h)
      | true =>
        rw [i1] at t1
        cases i2 : isiB "tuple" d2 with
        | false =>
          rw [i2] at t2
          exact s_if (b := true) (et_is (et_or isi fun _ => et_or t1 fun _ => et_or (b := true) t2 fun h => nomatch h) rfl) (fun _ H1 s1 => no (by unfold courseB; rw [wordsB_not i2, Bool.and_false]; rfl) H1 s1) (fun h => nomatch h)
        | true =>
          rw [i2] at t2
          obtain ⟨ds1, rfl⟩ := isT_of i1
          obtain ⟨ds2, rfl⟩ := isT_of i2
          obtain ⟨gd1, gl1⟩ := gd_parts (.inr rfl) g1
          obtain ⟨gd2, gl2⟩ := gd_parts (.inr rfl) g2
          refine s_if (b := !decide (ds2.length = ds1.length + 1)) (et_is (et_or isi fun _ => et_or t1 fun _ => et_or t2 fun _ => et_test (ed_neI (ed_len (f2 _ H rfl (Same.refl _)) rfl) (ed_add (ed_len (f1 _ H rfl (Same.refl _)) rfl) ed_int))) ?_) (fun hb H1 s1 => ?_) (fun hb H1 s1 => ?_)
          · show (false || (false || (false || !decide (((ds2.length : Nat) : Int) = ((ds1.length : Nat) : Int) + 1)))) = _
            rw [show decide (((ds2.length : Nat) : Int) = ((ds1.length : Nat) : Int) + 1) = decide (ds2.length = ds1.length + 1) from decide_eq_decide.mpr (by omega)]; rfl
          · rw [Bool.not_eq_true'] at hb
            refine no ?_ H1 s1
            unfold courseB
            rw [show decide (lenP (.tuple ds2) = lenP (.tuple ds1) + 1) = false from hb]
            simp
          · rw [Bool.not_eq_false', decide_eq_true_eq] at hb
            dsimp only [tNext]
            have hall : (ds1 ++ ds2).all isName = (ds1.all isName && ds2.all isName) := List.all_append
            refine s_if (b := !((ds1 ++ ds2).all isName && wholeB d3 0 ds1.length)) (et_is (et_or (et_not (et_B (ed_all (bs := (ds1 ++ ds2).map isName) (ed_is (ed_lc (f := fun _ => true) (m := fun s => .bool (isName s)) (ei_tup (ed_catT (f1 _ H1 rfl s1) (f2 _ H1 rfl s1) (by omega))) (by rw [List.length_append]; omega) fun F2 H2 e2 v2 dd hm hd2 => ⟨_, fun Q q => q, rfl, et_yes, fun _ => ed_call (ea_cons (ed_var (i := 2) rfl hd2) ea_nil) (rdc_spB ((List.mem_append.mp hm).elim (gd1 _) (gd2 _)))⟩) (by rw [filt_tt, List.map_map]; rfl))))) fun _ => et_not (et_B (ed_call (ea_cons (f3 _ H1 rfl s1) (ea_cons ed_int (ea_cons (ed_len (f1 _ H1 rfl s1) rfl) ea_nil))) rdc_whole))) ?_) (fun hb2 H2 s2 => ?_) (fun hb2 H2 s2 => ?_)
            · rw [List.all_map]
              show (!(ds1 ++ ds2).all (id ∘ isName) || !wholeB d3 0 ds1.length) = _
              rw [show (id ∘ isName) = isName from rfl]
              cases (ds1 ++ ds2).all isName <;> cases wholeB d3 0 ds1.length <;> rfl
            · rw [Bool.not_eq_true', hall] at hb2
              refine no ?_ H2 (s1.trans s2)
              unfold courseB
              show ((ds1.all isName && ds2.all isName) && ((_ && wholeB d3 0 ((ds1.length : Nat) : Int)) && _)) = false
              cases q1 : (ds1.all isName && ds2.all isName) with
              | false => rfl
              | true =>
                rw [q1, Bool.true_and] at hb2
                rw [hb2]; simp
            · rw [Bool.not_eq_false', hall, Bool.and_eq_true, Bool.and_eq_true] at hb2
              obtain ⟨cs, rfl, nc⟩ := words_of hb2.1.1
              obtain ⟨hs, rfl, nh⟩ := words_of hb2.1.2
              rw [List.length_map] at hb hb2 gl1 gl2
              rw [List.length_map] at hb
              have hw := hb2.2
              rw [courseB_words nc nh, decide_eq_true hb, hw] at k
              obtain ⟨r, rfl, r0, r1⟩ := whole_int hw
              obtain ⟨n, rfl⟩ : ∃ n : Nat, r = n := ⟨r.toNat, by omega⟩
              have s12 := s1.trans s2
              clear hb2 hall no
              dsimp only [tNext]
              refine s_set (K := K) (F := nn H) (ed_lc (f := fun _ => true) (m := fun d => rowD (stp cs hs (ixD d))) (ei_range (n := cs.length) (ed_is (ed_len (f1 _ H2 rfl s12) rfl) (by rw [lenP_words])) (by omega)) (by show (nums cs.length).length ≤ 50000; unfold nums; rw [List.length_map, List.length_range]; omega) fun F2 H3 e2 vv dd hm hd2 => ?_) fun rv H3 s3 hrv => ?_
              · obtain ⟨j, hj, rfl⟩ := List.mem_map.mp hm
                have hj := List.mem_range.mp hj
                have q1 : Df K F2 H3 v1 (.tuple (cs.map .str)) := df_ext e2 (df_mono s12 (fun _ z => z) (dp_df h1))
                have q2 : Df K F2 H3 v2 (.tuple (hs.map .str)) := df_ext e2 (df_mono s12 (fun _ z => z) (dp_df h2))
                have ha3 := e2.same _ _ (s12 _ _ ha) (.inr rfl)
                refine ⟨_, fun Q q => q, rfl, et_yes, fun _ => ed_is (ed_tup (ea_cons (ed_ixT (j := j) (ed_fldI rfl ha3 T.cl_Course T.na_Course_halls cf_halls q2) (ed_var (i := 4) rfl hd2) (getD_at (by omega))) (ea_cons (ed_ixT (j := j) (ed_fldI rfl ha3 T.cl_Course T.na_Course_calls cf_calls q1) (ed_var (i := 4) rfl hd2) (getD_at hj)) (ea_cons (ed_ixT (j := j + 1) (ed_fldI rfl ha3 T.cl_Course T.na_Course_halls cf_halls q2) (ed_is (ed_add (ed_var (i := 4) rfl hd2) ed_int) (by rw [show ((j : Int) + 1) = ((j + 1 : Nat) : Int) by omega])) (getD_at (by omega))) ea_nil))) (by show 3 ≤ 100000; decide)) rfl⟩
              · rw [filt_tt] at hrv
                have s13 := s12.trans s3
                have hrv := dp_df (df_dp hrv)
                have hyl := ls.len
                have hrl := ls.rln
                have gys := ls.good.same s13
                have qR : Df K (nn H3) H3 (.ref rl) (.list (ys.map fun z => rowD z.2)) := .lst (.inl ⟨.inl (s13 _ _ ls.rows), fun z => by rw [s13 _ _ ls.rows] at z; cases z⟩) (dfs_rows gys)
                have gst : ∀ i, i < cs.length → goodR (stp cs hs i) := fun i hi => ⟨nh _ (mem_getD (by omega)), nc _ (mem_getD hi), nh _ (mem_getD (by omega))⟩
                have lm : (hs.map PyData.str).length = cs.length + 1 := by rw [List.length_map]; exact hb
                have k1 : ∀ σ : L2.St, σ[1]? = some (some (.ref a)) → ED K (tFld K (tVar 1) "calls") σ (nn H3) H3 (.tuple (cs.map .str)) := fun σ e => ed_fldI e (s13 _ _ ha) T.cl_Course T.na_Course_calls cf_calls (dp_df (dp_mono s13 h1))
                have k2 : ∀ σ : L2.St, σ[1]? = some (some (.ref a)) → ED K (tFld K (tVar 1) "halls") σ (nn H3) H3 (.tuple (hs.map .str)) := fun σ e => ed_fldI e (s13 _ _ ha) T.cl_Course T.na_Course_halls cf_halls (dp_df (dp_mono s13 h2))
                have k3 : ∀ σ : L2.St, σ[1]? = some (some (.ref a)) → ED K (tFld K (tVar 1) "ring") σ (nn H3) H3 (.int (n : Nat)) := fun σ e => ed_fldI e (s13 _ _ ha) T.cl_Course T.na_Course_ring cf_ring (dp_df (dp_mono s13 h3))
                refine s_retB (F := nn H3) (ed_andV (ed_eqE (ed_lc (f := fun d => !(ys.map fun z => rowD z.2).any fun z => PyData.eqv z d) (m := fun d => d) (ei_list (ed_var (i := 3) rfl hrv)) (by rw [List.length_map]; unfold nums; rw [List.length_map, List.length_range]; omega) fun F2 H4 e2 v2 dd hm hd2 => ?_) (ed_lst ea_nil (by show 0 ≤ 100000; decide)) ?_) fun _ => ed_eqD (ed_ixN (k := 1) (k2 _ rfl) ed_un1 rfl (by decide) (by omega) (by rw [lm]; exact getD_at (by omega))) (ed_ixT (j := cs.length - n) (k2 _ rfl) (ed_is (ed_sub (ed_len (k1 _ rfl) rfl) (k3 _ rfl)) (by rw [lenP_words]; congr 1; omega)) (getD_at (by omega))) (shaped_name (nh _ (mem_getD (by omega)))) (shaped_name (nh _ (mem_getD (by omega))))) ?_ fun H4 s4 => k H4 (s13.trans s4)
                · obtain ⟨y, hy, rfl⟩ := List.mem_map.mp hm
                  obtain ⟨j, hj, rfl⟩ := List.mem_map.mp hy
                  have hj := List.mem_range.mp hj
                  refine ⟨_, fun Q q => q, rfl, et_test (ed_notInD (ed_var (i := 5) rfl hd2) (fun H5 s5 Q q => ⟨_, rfl, m, _, rfl, ls_rows (s5 _ _ (e2.same _ _ (s13 _ _ ls.dict) (.inr rfl))), q _ H5 (Same.refl _) (df_mono s5 Fr.base (df_ext e2 qR))⟩) (shaped_gd (row_gd (gst j hj)) (Nat.le_trans (row_depth _) (by decide))) (shaped_rows gys)), fun _ => ed_var (i := 5) rfl hd2⟩
                · rw [List.map_id']
                  refine gds_lay (gds_of fun y hy => ?_)
                  obtain ⟨z, hz, rfl⟩ := List.mem_map.mp (List.mem_filter.mp hy).1
                  obtain ⟨j, hj, rfl⟩ := List.mem_map.mp hz
                  exact row_gd (gst j (List.mem_range.mp hj))
                · rw [eqv_str, List.map_id']
                  have e1 : (((nums cs.length).map fun d => rowD (stp cs hs (ixD d))).filter fun d => !(ys.map fun z => rowD z.2).any fun z => PyData.eqv z d).isEmpty = stepsB R cs hs := by
                    rw [Bool.eq_iff_iff, List.isEmpty_iff, List.filter_eq_nil_iff]
                    unfold stepsB
                    rw [List.all_eq_true]
                    constructor
                    · intro h i hi
                      have q := h (rowD (stp cs hs i)) (List.mem_map.mpr ⟨.int (i : Nat), List.mem_map.mpr ⟨i, hi, rfl⟩, rfl⟩)
                      rw [any_rows, Bool.not_eq_true', decide_eq_false_iff_not, Classical.not_not] at q
                      exact decide_eq_true ((ls.mem _).mp q)
                    · intro h d hd
                      obtain ⟨z, hz, rfl⟩ := List.mem_map.mp hd
                      obtain ⟨i, hi, rfl⟩ := List.mem_map.mp hz
                      rw [show ixD (.int (i : Nat)) = i from rfl, any_rows, Bool.not_eq_true', decide_eq_false_iff_not, Classical.not_not]
                      exact (ls.mem _).mpr (of_decide_eq_true (h i hi))
                  rw [e1, show cs.length + 1 - 1 = cs.length by omega]
                  show _ = (true && (stepsB R cs hs && decide (hs.getD cs.length Str.empty = hs.getD (cs.length - ((n : Nat) : Int).toNat) Str.empty)))
                  rw [show ((n : Nat) : Int).toNat = n by omega]; rfl
    · refine s_if (b := true) (et_or (b := true) (et_not (et_B (not_isi (F := nn H) T (i := 1) rfl hd hn))) fun h => nomatch h) (fun hb H1 s1 => ?_) (fun h => nomatch h)
      exact k H1 s1
end
end Ag

set_option Elab.async false
set_option linter.all false
set_option maxRecDepth 100000
set_option maxHeartbeats 4000000
set_option pp.maxSteps 400
namespace Ag
open PySem PySem.Spec PyProof.Rows L2
theorem asT_words (cs : List Str) : asT (.list (cs.map .str)) = .tuple (cs.map .str) := by
  rw [asT_seq (.inl rfl), List.map_map]
  exact congrArg PyData.tuple (List.map_congr_left fun x _ => by show asT (.str x) = _; rw [asT])
theorem names_gd {cs : List Str} (h : ∀ x ∈ cs, nameB x = true) : gds (cs.map .str) = true := gds_of fun y hy => by
  obtain ⟨x, hx, rfl⟩ := List.mem_map.mp hy
  exact name_gd (h x hx)
theorem depth_strs : ∀ cs : List Str, PyData.depthAll (cs.map .str) = 0
  | [] => by simp [PyData.depthAll]
  | x :: cs => by simp [PyData.depthAll, PyData.depth, depth_strs cs]
theorem pre_words {cs : List Str} (h : ∀ x ∈ cs, nameB x = true) (l : cs.length ≤ 1000) : preT 3 (.list (cs.map .str)) := by
  refine ⟨?_, ?_⟩
  · simp only [gd, Bool.and_eq_true]; exact ⟨names_gd h, decide_eq_true (by rw [List.length_map]; exact l)⟩
  · simp only [PyData.depth, depth_strs]; omega
theorem pre_int (i : Int) : preT 3 (.int i) := ⟨by simp [gd], by simp [PyData.depth]⟩
def spSC (K : PySem.W.Frag) (C : Addr) : Sp := fun vs H Q _ => ∃ (p c m n : Nat) (R : List Rw), vs = [.ref p, .ref m] ∧ Pen p c n H ∧ LsAt K m R H ∧ R ≠ [] ∧ n + 1000000 < 1000000000000 ∧
  ∀ (a : Addr) (cs hs : List Str) (r : Nat) H', But p H H' → Pen p c (n + 50) H' → CourseAt K C a (.tuple (cs.map .str)) (.tuple (hs.map .str)) (.int r) H' → (∀ x ∈ cs, nameB x = true) → (∀ x ∈ hs, nameB x = true) → hs.length = cs.length + 1 → cs.length ≤ 9 → r ≤ cs.length → stepsB R cs hs = true → lastB hs cs.length (.int r) = true → Q (.ref a) H'
theorem run_ea {K : PySem.W.Frag} {σ : L2.St} {F : Addr → Prop} {H : Hp} {ta : TA} {ds : List PyData} {Q : List V → Hp → Prop} (h : EA K ta σ F H ds) (k : ∀ vs H1, Same H H1 → DfAll K (Fr F H) H1 vs ds → Q vs H1) : ta σ H Q := h H (Same.refl _) _ k
theorem ed_ixLn {K : PySem.W.Frag} {σ : L2.St} {F : Addr → Prop} {H : Hp} {ta tb : TE} {ds : List PyData} {d : PyData} {z : Int} {k : Nat} (ha : ED K ta σ F H (.list ds)) (hb : ED K tb σ F H (.int z)) (hz : z = -(k : Int)) (h1 : 1 ≤ k) (h2 : k ≤ ds.length) (h : ds[ds.length - k]? = some d) : ED K (tOp (rIx K) ta tb) σ F H d :=
  ed_op ha hb fun F a b H1 hx hy Q q => by
    cases hy
    cases hx with
    | lst hs r =>
      have le := dfs_len r
      obtain ⟨v, e, hv⟩ := dfs_get r h
      exact .inl ⟨_, _, _, v, rfl, rfl, hs.imp (fun z => z.1) id, by rw [hz]; exact atI_neg h1 (by omega) (by rw [le]; exact e), q _ _ (Same.refl _) (df_mono (Same.refl _) (fun _ z => .inl z) hv)⟩
/-- a walk of rows -/
structure Lane (R : List Rw) (cs hs : List Str) : Prop where
  nc : ∀ x ∈ cs, nameB x = true
  nh : ∀ x ∈ hs, nameB x = true
  len : hs.length = cs.length + 1
  st : ∀ j, j < cs.length → stp cs hs j ∈ R
theorem getD_app {α : Type} {xs ys : List α} {d : α} {i : Nat} (h : i < xs.length) : (xs ++ ys).getD i d = xs.getD i d := by
  rw [List.getD_eq_getElem?_getD, List.getD_eq_getElem?_getD, List.getElem?_append_left h]
theorem getD_end {α : Type} {xs : List α} {y d : α} : (xs ++ [y]).getD xs.length d = y := by
  rw [List.getD_eq_getElem?_getD, List.getElem?_append_right (Nat.le_refl _), Nat.sub_self]; rfl
theorem Lane.step {R : List Rw} {cs hs : List Str} {c o : Str} (w : Lane R cs hs) (m : (hs.getD cs.length Str.empty, c, o) ∈ R) (g : ∀ r ∈ R, goodR r) : Lane R (cs ++ [c]) (hs ++ [o]) where
  nc := fun x hx => (List.mem_append.mp hx).elim (w.nc x) fun h => by rw [List.mem_singleton.mp h]; exact (g _ m).2.1
  nh := fun x hx => (List.mem_append.mp hx).elim (w.nh x) fun h => by rw [List.mem_singleton.mp h]; exact (g _ m).2.2
  len := by rw [List.length_append, List.length_append, w.len]; rfl
  st := fun j hj => by
    rw [List.length_append] at hj
    have hj : j < cs.length + 1 := hj
    have l := w.len
    by_cases q : j < cs.length
    · have e : stp (cs ++ [c]) (hs ++ [o]) j = stp cs hs j := by
        unfold stp
        rw [getD_app q, getD_app (by omega), getD_app (by omega)]
      rw [e]; exact w.st j q
    · have e : j = cs.length := by omega
      subst e
      have e : stp (cs ++ [c]) (hs ++ [o]) cs.length = (hs.getD cs.length Str.empty, c, o) := by
        unfold stp
        rw [getD_end, getD_app (by omega), show cs.length + 1 = hs.length from l.symm, getD_end]
      rw [e]; exact m
section
variable {P : Program} {w : World} {K : PySem.W.Frag} {mg : Str → Option Value} {base : Heap} (T : Txt w K mg)
theorem ok_some_course : FnOk P w K mg base CX0 8 T.a_law_some_course T.d_law_some_course ["pen", "server"] (spSC K T.C_Course) := by
  have G_law_draw := ok_draw (P := P) (base := base) T
  have G_law_pick := ok_pick (P := P) (base := base) T
  have G_law_calls_at := ok_calls_at (P := P) (base := base) T
  have G_Course___init__ := ok_Course_init (P := P) (base := base) T
  refine T.D_law_some_course.fn.ok sc_law_some_course (fun vs H Q E h => ?_) (fun cdv A outer s H vs Q E hr h => ?_)
  · obtain ⟨p, c, m, n, R, rfl, _⟩ := h; rfl
  · obtain ⟨p, c, m, n, R, rfl, P0, hls, Rn, hn, k⟩ := h
    refine ⟨_, (pss_cons (ps_par (i := 2) (j := 3) (by rfl) sc_law_some_course.nd rfl rfl (by decide) rfl rfl (pa_cons (pe_call (G_law_pick) (hr.mono (by omega)) (by rfl) T.D_law_pick.mg T.D_law_pick.fn.kp T.D_law_pick.bd .nil pass0 (pa_cons (pv 0) (pa_cons (pe_dget (hu_of hr) (pv 1) pe_str (fun _ _ => rfl)) pa_nil))) (pa_cons (pe_lst pa_nil) pa_nil)) (by rfl))
      (pss_cons (ps_set (i := 4) sc_law_some_course.nd rfl (by first | exact Or.inl rfl | exact Or.inr rfl) (pe_lst (pa_cons (pv 2) pa_nil)))
      (C8.pss_cut (ps_for PassesOwn.never rfl (pi_range1 (by rfl) T.b_range (pa_cons (pe_call (G_law_draw) (hr.mono (by omega)) (by rfl) T.D_law_draw.mg T.D_law_draw.fn.kp T.D_law_draw.bd .nil pass0 (pa_cons (pv 0) (pa_cons pe_int pa_nil))) pa_nil)) (pg_name (i := 5) sc_law_some_course.nd rfl (by first | exact Or.inl rfl | exact Or.inr rfl)) (pss_cons (ps_set (i := 6) sc_law_some_course.nd rfl (by first | exact Or.inl rfl | exact Or.inr rfl) (pe_call (G_law_calls_at) (hr.mono (by omega)) (by rfl) T.D_law_calls_at.mg T.D_law_calls_at.fn.kp T.D_law_calls_at.bd .nil pass0 (pa_cons (pv 1) (pa_cons (pe_ix (r := rIx K) ix_seq (pv 4) (pe_un un_neg pe_int) (fun _ _ => rfl)) pa_nil))))
      (pss_cons (ps_if (pt_cmpR (op_eqE hr.units) (pv 6) (pe_lst pa_nil) (nomark _)) (pss_one ps_break) pss_nil)
      (pss_cons (ps_set (i := 7) sc_law_some_course.nd rfl (by first | exact Or.inl rfl | exact Or.inr rfl) (pe_call (G_law_pick) (hr.mono (by omega)) (by rfl) T.D_law_pick.mg T.D_law_pick.fn.kp T.D_law_pick.bd .nil pass0 (pa_cons (pv 0) (pa_cons (pv 6) pa_nil))))
      (pss_cons (ps_expr (pe_bm PySem.F.plainAttrs_list PySem.F.slot_list_append PySem.F.type_list_append mt_append (pv 3) (pa_cons (pv 7) pa_nil)))
      (pss_one (ps_expr (pe_bm PySem.F.plainAttrs_list PySem.F.slot_list_append PySem.F.type_list_append mt_append (pv 4) (pa_cons (pe_call (G_law_pick) (hr.mono (by omega)) (by rfl) T.D_law_pick.mg T.D_law_pick.fn.kp T.D_law_pick.bd .nil pass0 (pa_cons (pv 0) (pa_cons (pe_dget (hu_of hr) (pe_dget (hu_of hr) (pv 1) pe_str (fun _ _ => rfl)) (pe_tup (pa_cons (pe_ix (r := rIx K) ix_seq (pv 4) (pe_un un_neg pe_int) (fun _ _ => rfl)) (pa_cons (pv 7) pa_nil))) (fun _ _ => rfl)) pa_nil))) pa_nil)))))))))
      (pss_cons (ps_setLc (i := 8) (own := [("at", 9)]) rfl sc_law_some_course.nd rfl rfl (sw_true rfl rfl rfl (by decide +kernel)) (pi_range2 (by rfl) T.b_range (pa_cons pe_int (pa_cons (pe_op op_add (pe_callB call_len (by rfl) T.b_len bt_len (pa_cons (pv 3) pa_nil)) pe_int) pa_nil))) (blkOk_by (own := [("at", 9)]) (N := ["pen", "server", "hall", "calls", "halls", "lap", "known", "call", "rings", "at"]) (sc := defScope s_law_some_course) (by decide +kernel)) (fun _ _ _ _ _ => (pg_name (i := 9) sc_law_some_course.nd rfl (by first | exact Or.inl rfl | exact Or.inr rfl))) (fun _ _ _ _ _ => (pts_one (pt_cmpR (r := rEqD K) (op_eqD hr.units) (pe_ix (r := rIx K) ix_seq (pv 4) (pe_un un_neg pe_int) (fun _ _ => rfl)) (pe_ix (r := rIx K) ix_seq (pv 4) (pe_op op_sub (pe_un un_neg pe_int) (pv 9)) (fun _ _ => rfl)) (nomark _)))) (fun _ _ _ _ _ => (pv 9)))
      (pss_one (ps_ret (pe_make T.mk_Course (G_Course___init__) (hr.mono (by omega)) (by rfl) T.g_Course T.D_Course___init__.bd .nil pass0 (pa_cons (pv 3) (pa_cons (pv 4) (pa_cons (pe_call (G_law_pick) (hr.mono (by omega)) (by rfl) T.D_law_pick.mg T.D_law_pick.fn.kp T.D_law_pick.bd .nil pass0 (pa_cons (pv 0) (pa_cons (pe_op op_cat (pv 8) (pe_lst (pa_cons pe_int (pa_cons pe_int pa_nil)))) pa_nil))) pa_nil)))))))))), ?_⟩
    obtain ⟨rl, ad, pl, ys, kvs, ps, ls⟩ := id hls
    have gR : ∀ r ∈ R, goodR r := fun r hr => by
      obtain ⟨y, hy, rfl⟩ := List.mem_map.mp ((ls.mem r).mpr hr)
      exact (ls.good y hy).2
    have psn : 0 < ps.length := by
      cases R with
      | nil => exact absurd rfl Rn
      | cons r R => exact List.length_pos_of_mem (ls.all r List.mem_cons_self).1
    have pln := ls.pln
    have rln := ls.rln
    refine ⟨_, rfl, _, rfl, m, _, rfl, ls_places ls.dict, p, c, pl, ps.map V.str, n, rfl, P0, .inl (SqL.of ls.plc), by rw [List.length_map]; exact psn, by rw [List.length_map]; omega, by omega, fun y v H1 hv b1 P1 => ⟨(by show 0 ≤ sizeLine; decide), fun cl hcl => ⟨_, _, rfl, ?_⟩⟩⟩
    obtain ⟨h0, hh0, rfl⟩ := str_at hv
    have n0 := ls.nam _ (List.mem_of_getElem? hh0)
    refine ⟨_, rfl, (by show 1 ≤ sizeLine; decide), fun hl hhl => ?_⟩
    dsimp only [gName]
    have s2 := Same.newA (o := .lst []) hcl
    have s3 := Same.newA (o := .lst [.str h0]) hhl
    have ecl := s3 _ _ (upd_same (H := H1) (a := cl) (o := .lst []))
    have ehl := upd_same (H := upd H1 cl (.lst [])) (a := hl) (o := .lst [.str h0])
    have npc := P1.ne_p hcl
    have nqc := P1.ne_c hcl
    have fcl : H cl = none := by
      cases e : H cl with
      | none => rfl
      | some o => have := b1 _ _ npc e; rw [hcl] at this; cases this
    have nch : cl ≠ hl := fun e => by rw [← e, upd_same] at hhl; cases hhl
    have hhl1 : H1 hl = none := by rw [upd_ne (Ne.symm nch)] at hhl; exact hhl
    have nph := P1.ne_p hhl1
    have nqh := P1.ne_c hhl1
    have fhl : H hl = none := by
      cases e : H hl with
      | none => rfl
      | some o => have := b1 _ _ nph e; rw [hhl1] at this; cases this
    have b3 := b1.trans (But.of (s2.trans s3))
    have P3 := P1.same (s2.trans s3)
    revert ecl ehl b3 P3
    generalize upd (upd H1 cl (.lst [])) hl (.lst [.str h0]) = H3
    intro ecl ehl b3 P3
    clear s2 s3 hcl hhl hhl1 b1 P1
    refine ⟨fun σ' H' => ∃ (o5 o6 o7 : Option V) (cs hs : List Str), σ' = [some (.ref p), some (.ref m), some (.str h0), some (.ref cl), some (.ref hl), o5, o6, o7, none, none] ∧ But p H H' ∧ Pen p c (n + 40) H' ∧ H' cl = some (.lst (cs.map V.str)) ∧ H' hl = some (.lst (hs.map V.str)) ∧ Lane R cs hs ∧ cs.length ≤ 9, ?_, ?_⟩
    · refine ⟨_, rfl, p, c, 10, _, rfl, P3, by decide, by decide, by omega, fun d H4 d0 d9 b4 P4 => ⟨_, rfl, by omega, by omega, for_range (n := d.toNat) (fun i σ' H' => ∃ (o5 o6 o7 : Option V) (cs hs : List Str), σ' = [some (.ref p), some (.ref m), some (.str h0), some (.ref cl), some (.ref hl), o5, o6, o7, none, none] ∧ But p H H' ∧ Pen p c (n + 2 + 2 * i) H' ∧ H' cl = some (.lst (cs.map V.str)) ∧ H' hl = some (.lst (hs.map V.str)) ∧ Lane R cs hs ∧ cs.length ≤ i)
        ⟨none, none, none, [], [h0], rfl, b3.trans b4, P4, b4 _ _ npc ecl, b4 _ _ nph ehl, ⟨fun x hx => (nomatch hx), (fun x hx => by rw [List.mem_singleton.mp hx]; exact n0), rfl, fun j hj => absurd hj (Nat.not_lt_zero _)⟩, Nat.le_refl _⟩ ?_ ?_⟩⟩
      · rintro i σ' H5 hi ⟨o5, o6, o7, cs, hs, rfl, b5, P5, e5, f5, wk, cl5⟩
        have wl := wk.len
        have ls5 := hls.but P0 b5
        dsimp only [gName]
        have lm : (hs.map V.str).length = cs.length + 1 := by rw [List.length_map]; exact wl
        have lastV : atI (hs.map V.str) (-1) = some (.str (hs.getD cs.length Str.empty)) := atI_neg (k := 1) (by decide) (by omega) (by rw [lm, List.getElem?_map, List.getD_eq_getElem?_getD, show cs.length + 1 - 1 = cs.length by omega, List.getElem?_eq_getElem (by omega)]; rfl)
        refine ⟨_, rfl, _, rfl, 1, rfl, .inl ⟨hl, _, -1, _, rfl, rfl, SqL.of f5, lastV, m, _, R, rfl, ls5, fun l ks H6 s6 e6 mem kl => ?_⟩⟩
        dsimp only [gName]
        refine s_if (b := (ks.map PyData.str).isEmpty) (et_test (ed_eqE (K := K) (F := nn H6) (ds := ks.map .str) (ed_var (i := 6) rfl (dp_df (.lst (SqL.of e6) (dps_strs ks)))) (ed_lst ea_nil (by show 0 ≤ 100000; decide)) (gds_lay (names_gd fun x hx => by obtain ⟨o, ho⟩ := mem x hx; exact (gR _ ho).2.1)))) (fun hb H7 s7 => ?_) (fun hb H7 s7 => ?_)
        · exact ⟨_, _, _, cs, hs, rfl, b5.trans (But.of (s6.trans s7)), (P5.same (s6.trans s7)).more (by omega), (s6.trans s7) _ _ e5, (s6.trans s7) _ _ f5, wk, by omega⟩
        · have kp : 0 < ks.length := by
            cases ks with
            | nil => cases hb
            | cons x ks => exact Nat.succ_pos _
          have s67 := s6.trans s7
          have P7 := P5.same s67
          have b7 := b5.trans (But.of s67)
          dsimp only [tNext]
          refine ⟨_, rfl, _, rfl, p, c, l, ks.map V.str, _, rfl, P7, .inl (SqL.of (s7 _ _ e6)), by rw [List.length_map]; exact kp, by rw [List.length_map]; omega, by omega, fun y v H8 hv b8 P8 => ?_⟩
          obtain ⟨cc, hcc, rfl⟩ := str_at hv
          obtain ⟨o, ho⟩ := mem cc (List.mem_of_getElem? hcc)
          have b8' := b7.trans b8
          have e8 := b8 _ _ npc (s67 _ _ e5)
          have f8 := b8 _ _ nph (s67 _ _ f5)
          dsimp only [gName]
          refine ⟨_, rfl, .inl ⟨rfl, _, SqL.of e8⟩, _, rfl, cl, _, _, rfl, rfl, e8, lt5 (by rw [List.length_map]; omega), ?_⟩
          have e9 : (upd H8 cl (.lst (cs.map V.str ++ [V.str cc]))) cl = some (.lst ((cs ++ [cc]).map V.str)) := by rw [upd_same, List.map_append]; rfl
          have f9 : (upd H8 cl (.lst (cs.map V.str ++ [V.str cc]))) hl = some (.lst (hs.map V.str)) := by rw [upd_ne (Ne.symm nch)]; exact f8
          have P9 : Pen p c (n + 2 + 2 * i + 1) (upd H8 cl (.lst (cs.map V.str ++ [V.str cc]))) := P8.upd npc nqc
          have b9 : But p H (upd H8 cl (.lst (cs.map V.str ++ [V.str cc]))) := fun a o na e => by rw [upd_ne (ne_of_none e fcl)]; exact b8' a o na e
          revert e9 f9 P9 b9
          generalize upd H8 cl (.lst (cs.map V.str ++ [V.str cc])) = H9
          intro e9 f9 P9 b9
          obtain ⟨rl9, ad9, pl9, ys9, kvs9, ps9, ls9⟩ := hls.but P0 b9
          obtain ⟨va, os, ev, eos, osl, os1, om⟩ : ∃ (va : Addr) (os : List Str), valV kvs9 (hcK (hs.getD cs.length Str.empty) cc) = some (.ref va) ∧ H9 va = some (.lst (os.map V.str)) ∧ os.length ≤ R.length ∧ 1 ≤ os.length ∧ ∀ o, o ∈ os ↔ (hs.getD cs.length Str.empty, cc, o) ∈ R := by
            cases q : valV kvs9 (hcK (hs.getD cs.length Str.empty) cc) with
            | none => exact absurd ho (ls9.ans.non _ _ q o)
            | some v =>
              obtain ⟨a, os, rfl, h1, h2, h3, h4⟩ := ls9.ans.som _ _ v q
              exact ⟨a, os, rfl, h1, h2, h3, h4⟩
          refine ⟨_, rfl, .inl ⟨rfl, _, SqL.of f9⟩, _, rfl, _, rfl, m, _, rfl, ls_answers ls9.dict, _, rfl, 1, rfl, .inl ⟨hl, _, -1, _, rfl, rfl, SqL.of f9, lastV, _, rfl, (by show 2 ≤ sizeLine; decide), fun t ht => ?_⟩⟩
          have st := Same.newA (o := .tup [.str (hs.getD cs.length Str.empty), .str cc]) ht
          refine ⟨ad9, .ref va, rfl, by rw [← ev]; exact DGet.t (st _ _ ls9.ansd) upd_same, p, c, va, os.map V.str, _, rfl, P9.same st, .inl (SqL.of (st _ _ eos)), by rw [List.length_map]; omega, by rw [List.length_map]; omega, by omega, fun y2 v2 H10 hv2 b10 P10 => ?_⟩
          obtain ⟨oo, hoo, rfl⟩ := str_at hv2
          have mo := (om oo).mp (List.mem_of_getElem? hoo)
          have bb := b9.trans ((But.of st).trans b10)
          have e10 := b10 _ _ npc (st _ _ e9)
          have f10 := b10 _ _ nph (st _ _ f9)
          refine ⟨hl, _, _, rfl, rfl, f10, lt5 (by rw [List.length_map]; omega), ?_⟩
          refine ⟨_, _, _, cs ++ [cc], hs ++ [oo], rfl, fun a o na e => by rw [upd_ne (ne_of_none e fhl)]; exact bb a o na e, (P10.upd nph nqh).more (by omega), by rw [upd_ne nch]; exact e10, by rw [upd_same, List.map_append]; rfl, wk.step mo gR, by rw [List.length_append]; exact Nat.succ_le_succ cl5⟩
      · rintro σ' H5 ⟨o5, o6, o7, cs, hs, rfl, b5, P5, e5, f5, wk, cl5⟩
        exact ⟨_, _, _, cs, hs, rfl, b5, P5.more (by omega), e5, f5, wk, by omega⟩
    · rintro σ' H4 ⟨o5, o6, o7, cs, hs, rfl, b4, P4, e4, f4, wk, cl4⟩
      have wl := wk.len
      have lm : (hs.map PyData.str).length = cs.length + 1 := by rw [List.length_map]; exact wl
      have lc4 : (cs.map V.str).length = cs.length := List.length_map _
      have s5 : Same H4 H4 := Same.refl _
      have e5 := e4
      have f5 := f4
      refine ⟨_, rfl, _, _, rfl, .inl ⟨_, SqL.of e4, rfl⟩, _, _, rfl, rfl, 1, _, rfl, ⟨by decide, by decide, by omega, by omega⟩, fun D hD => lc_range (lo := 1) (n := ((((cs.map V.str).length : Nat) : Int) + 1 - 1).toNat) (fun i H' => ∃ ats : List Nat, H' D = some (.lst (ats.map fun r : Nat => V.int (r : Int))) ∧ ats.length ≤ i ∧ (∀ r ∈ ats, r ≤ cs.length ∧ lastB hs cs.length (.int (r : Nat)) = true) ∧ But D H4 H') ⟨[], upd_same, Nat.le_refl _, (fun r hr => nomatch hr), But.same (Same.newA hD)⟩ ?_ ?_⟩
      · rintro i H6 hi ⟨ats, g1, g2, g3, t⟩
        have f6 := t _ _ (fun z => by rw [← z, f5] at hD; cases hD) f5
        have qh : ∀ σ : L2.St, σ[4]? = some (some (.ref hl)) → ED K (tVar 4) σ (nn H6) H6 (.list (hs.map .str)) := fun σ e => ed_var e (dp_df (.lst (SqL.of f6) (dps_strs hs)))
        refine ⟨rfl, ?_⟩
        refine (et_test (ed_eqD (F := nn H6) (ed_ixLn (k := 1) (qh _ rfl) ed_un1 rfl (by decide) (by omega) (by rw [lm]; exact getD_at (by omega))) (ed_ixLn (k := i + 2) (qh _ rfl) (ed_sub ed_un1 (ed_var (i := 9) rfl (.int _))) (by omega) (by omega) (by omega) (by rw [lm]; exact getD_at (by omega))) (shaped_name (wk.nh _ (mem_getD (by omega)))) (shaped_name (wk.nh _ (mem_getD (by omega)))))) H6 (Same.refl _) _ fun H7 s7 => ?_
        have g7 := s7 _ _ g1
        have t7 := t.trans' (But.same s7)
        refine ite2 (fun hb => ?_) fun hb => ?_
        · refine ⟨_, rfl, _, g7, lt5 (by rw [List.length_map]; omega), ats ++ [i + 1], by rw [upd_same, List.map_append]; show _ = some (HO.lst (_ ++ [V.int (((i + 1 : Nat)) : Int)])); rw [show (((i + 1 : Nat)) : Int) = 1 + (i : Int) by omega], by rw [List.length_append]; exact Nat.succ_le_succ g2, fun r hr => ?_, t7.trans' .updb⟩
          rcases List.mem_append.mp hr with hr | hr
          · exact g3 r hr
          · rw [List.mem_singleton.mp hr]
            refine ⟨by omega, ?_⟩
            rw [eqv_str] at hb
            show decide (hs.getD cs.length Str.empty = hs.getD (cs.length - (((i + 1 : Nat)) : Int).toNat) Str.empty) = true
            rw [show cs.length + 1 - 1 = cs.length by omega, show cs.length + 1 - (i + 2) = cs.length - (((i + 1 : Nat)) : Int).toNat by omega] at hb
            exact hb
        · exact ⟨ats, g7, Nat.le_succ_of_le g2, g3, t7⟩
      · rintro H6 ⟨ats, g1, g2, g3, t⟩
        have s46 : Same H4 H6 := fun a o e => t a o (ne_of_none (s5 _ _ e) hD) (s5 _ _ e)
        have e6 := s46 _ _ e4
        have f6 := s46 _ _ f4
        have P6 := P4.same s46
        refine ⟨_, rfl, _, rfl, _, rfl, _, rfl, (by show 2 ≤ sizeLine; decide), fun l0 hl0 => ?_⟩
        have s7 := Same.newA (o := .lst [.int 0, .int 0]) hl0
        refine ⟨D, l0, _, _, rfl, rfl, s7 _ _ g1, upd_same, small5 (by rw [List.length_map]; show _ + 2 ≤ 100000; omega), fun l1 hl1 => ?_⟩
        have s8 := Same.newA (o := .lst ((ats.map fun r : Nat => V.int (r : Int)) ++ [.int 0, .int 0])) hl1
        have P8 := (P6.same s7).same s8
        refine ⟨p, c, l1, _, _, rfl, P8, .inl (.of upd_same), by rw [List.length_append]; show 0 < _ + 2; omega, by rw [List.length_append, List.length_map]; show _ + 2 < 100000; omega, by omega, fun y v H9 hv b9 P9 => ?_⟩
        obtain ⟨r, rfl, r1, r2⟩ : ∃ r : Nat, v = .int (r : Int) ∧ r ≤ cs.length ∧ lastB hs cs.length (.int (r : Nat)) = true := by
          have mv := List.mem_of_getElem? hv
          rcases List.mem_append.mp mv with mv | mv
          · obtain ⟨r, hr, rfl⟩ := List.mem_map.mp mv
            exact ⟨r, rfl, g3 r hr⟩
          · refine ⟨0, ?_, Nat.zero_le _, decide_eq_true rfl⟩
            rcases List.mem_cons.mp mv with rfl | mv
            · rfl
            · rw [List.mem_singleton.mp mv]; rfl
        have s48 := s46.trans (s7.trans s8)
        have e9 := b9 _ _ npc ((s7.trans s8) _ _ e6)
        have f9 := b9 _ _ nph ((s7.trans s8) _ _ f6)
        have bb := b4.trans ((But.of s48).trans b9)
        intro x dx hx hdx nx
        have sx : Same H9 (upd (upd H9 dx (.own x)) x (.ins T.C_Course dx [])) := (Same.newA hdx).trans (Same.newA (by rw [upd_ne (Ne.symm nx)]; exact hx))
        have npx := P9.ne_p hx
        refine ⟨x, dx, _, _, _, .list (cs.map .str), .list (hs.map .str), .int (r : Nat), rfl, upd_same, .lst (SqL.of (sx _ _ e9)) (dps_strs cs), .lst (SqL.of (sx _ _ f9)) (dps_strs hs), .int _, pre_words wk.nc (by omega), pre_words wk.nh (by omega), pre_int _, fun H10 b10 cr => ⟨rfl, ?_⟩⟩
        rw [asT_words, asT_words, show asT (.int (r : Nat)) = .int (r : Nat) by rw [asT]] at cr
        exact k x cs hs r H10 (fun a o na e => b10 a o (ne_of_none (bb a o na e) hx) (sx _ _ (bb a o na e))) (((P9.same sx).keepB b10 (Ne.symm npx) (Ne.symm (P9.ne_c hx))).more (by omega)) cr wk.nc wk.nh wl cl4 r1 (List.all_eq_true.mpr fun j hj => decide_eq_true (wk.st j (List.mem_range.mp hj))) r2
end
end Ag

set_option Elab.async false
set_option linter.all false
set_option maxRecDepth 100000
set_option maxHeartbeats 4000000
set_option pp.maxSteps 400
namespace Ag
open PySem PySem.Spec PyProof.Rows L2
/-! ### data without lists -/
mutual
def noL : PyData → Bool
  | .list _ => false
  | .tuple ds => noLs ds
  | _ => true
def noLs : List PyData → Bool
  | [] => true
  | d :: ds => noL d && noLs ds
end
def F0 : Addr → Prop := fun _ => False
mutual
theorem df_noL {K : PySem.W.Frag} {H : Hp} : ∀ {v : V} {d : PyData}, noL d = true → Dp K H v d → Df K F0 H v d
  | _, _, _, .non => .non
  | _, _, _, .bl b => .bl b
  | _, _, _, .int i => .int i
  | _, _, _, .str x => .str x
  | _, _, n, .lst q r => by rw [noL] at n; cases n
  | _, _, n, .tup q r => .tup q (dfs_noL (by rw [noL] at n; exact n) r)
theorem dfs_noL {K : PySem.W.Frag} {H : Hp} : ∀ {vs : List V} {ds : List PyData}, noLs ds = true → DpAll K H vs ds → DfAll K F0 H vs ds
  | _, _, _, .nil => .nil
  | _, _, n, .cons q r => by
    rw [noLs, Bool.and_eq_true] at n
    exact .cons (df_noL n.1 q) (dfs_noL n.2 r)
end
mutual
theorem df0_kept {K : PySem.W.Frag} {H H' : Hp} (f : ∀ a xs, SqT K H a xs → SqT K H' a xs) : ∀ {v : V} {d : PyData}, Df K F0 H v d → Df K F0 H' v d
  | _, _, .non => .non
  | _, _, .bl b => .bl b
  | _, _, .int i => .int i
  | _, _, .str x => .str x
  | _, _, .lst q r => .lst (q.imp (fun z => z.2.elim) id) (dfs0_kept f r)
  | _, _, .tup q r => .tup (f _ _ q) (dfs0_kept f r)
theorem dfs0_kept {K : PySem.W.Frag} {H H' : Hp} (f : ∀ a xs, SqT K H a xs → SqT K H' a xs) : ∀ {vs : List V} {ds : List PyData}, DfAll K F0 H vs ds → DfAll K F0 H' vs ds
  | _, _, .nil => .nil
  | _, _, .cons q r => .cons (df0_kept f q) (dfs0_kept f r)
end
/-- a value that may be asked about -/
def VG (K : PySem.W.Frag) (C : Addr) (H : Hp) (v : V) : Prop := (∃ a dx v1 v2 v3 d1 d2 d3, v = .ref a ∧ H a = some (.ins C dx (crsFs v1 v2 v3)) ∧ Df K F0 H v1 d1 ∧ Df K F0 H v2 d2 ∧ Df K F0 H v3 d3 ∧ gd d1 = true ∧ gd d2 = true) ∨ ∃ d, Df K F0 H v d ∧ notC d = true
section
variable {K : PySem.W.Frag} {C : Addr} {H H' : Hp} {v : V}
theorem VG.at_ (h : VG K C H v) (R : List Rw) : ∃ res, VAt K C R H v res := by
  rcases h with ⟨a, dx, v1, v2, v3, d1, d2, d3, e, h1, h2, h3, h4, g1, g2⟩ | ⟨d, h1, h2⟩
  · exact ⟨_, .inl ⟨a, d1, d2, d3, e, ⟨dx, v1, v2, v3, h1, df_dp h2, df_dp h3, df_dp h4⟩, g1, g2, rfl⟩⟩
  · exact ⟨_, .inr ⟨d, df_dp h1, h2, rfl⟩⟩
theorem VG.kept (h : VG K C H v) (f : ∀ a xs, SqT K H a xs → SqT K H' a xs) (g : ∀ a dx fs, H a = some (.ins C dx fs) → H' a = some (.ins C dx fs)) : VG K C H' v := by
  rcases h with ⟨a, dx, v1, v2, v3, d1, d2, d3, e, h1, h2, h3, h4, g1, g2⟩ | ⟨d, h1, h2⟩
  · exact .inl ⟨a, dx, v1, v2, v3, d1, d2, d3, e, g _ _ _ h1, df0_kept f h2, df0_kept f h3, df0_kept f h4, g1, g2⟩
  · exact .inr ⟨d, df0_kept f h1, h2⟩
theorem VG.same (s : Same H H') (h : VG K C H v) : VG K C H' v := h.kept (fun a xs z => s.stA z) fun a dx fs z => s _ _ z
theorem VG.but {p c : Addr} {n : Nat} (P : Pen p c n H) (t : But p H H') (h : VG K C H v) : VG K C H' v := h.kept (fun a xs z => P.st t z) fun a dx fs z => t _ _ (P.ne z (fun _ e => nomatch e)) z
theorem VG.updL {l : Addr} {xs : List V} {o : HO} (e : H l = some (.lst xs)) (h : VG K C H v) : VG K C (upd H l o) v := h.kept (fun a ys z => st_upd e z) fun a dx fs z => by rw [upd_ne (ne_of z e (fun q => nomatch q))]; exact z
end
/-- data of words, nearly: each item a short text or nothing -/
def atomD (d : PyData) : Prop := (∃ x, d = .str x ∧ gd d = true) ∨ d = .none
theorem atom_asT {d : PyData} (h : atomD d) : asT d = d ∧ gd d = true ∧ d.depth = 0 ∧ noL d = true := by
  rcases h with ⟨x, rfl, g⟩ | rfl
  · exact ⟨by rw [asT], g, by simp [PyData.depth], by simp [noL]⟩
  · exact ⟨by rw [asT], by simp [gd], by simp [PyData.depth], by simp [noL]⟩
theorem noLs_of : ∀ {ds : List PyData}, (∀ d ∈ ds, noL d = true) → noLs ds = true
  | [], _ => by rw [noLs]
  | d :: ds, h => by rw [noLs, h d List.mem_cons_self, noLs_of fun y hy => h y (List.mem_cons_of_mem _ hy)]; rfl
theorem depth_0 : ∀ {ds : List PyData}, (∀ d ∈ ds, d.depth = 0) → PyData.depthAll ds = 0
  | [], _ => by simp [PyData.depthAll]
  | d :: ds, h => by simp [PyData.depthAll, h d List.mem_cons_self, depth_0 fun y hy => h y (List.mem_cons_of_mem _ hy)]
/-- what a Course is made of -/
structure CArg (d : PyData) : Prop where
  pre : preT 3 d
  nl : noL (asT d) = true
  g : gd (asT d) = true
theorem carg_tup {ds : List PyData} (h : ∀ d ∈ ds, atomD d) (l : ds.length ≤ 1000) : CArg (.tuple ds) := by
  have e : asT (.tuple ds) = .tuple ds := by
    rw [asT_seq (.inr rfl)]
    refine congrArg PyData.tuple ?_
    have : ds.map asT = ds.map id := List.map_congr_left fun d hd => (atom_asT (h d hd)).1
    rw [this, List.map_id]
  have g : gd (.tuple ds) = true := by
    simp only [gd, Bool.and_eq_true]; exact ⟨gds_of fun d hd => (atom_asT (h d hd)).2.1, decide_eq_true l⟩
  refine ⟨⟨g, ?_⟩, ?_, by rw [e]; exact g⟩
  · simp only [PyData.depth, depth_0 fun d hd => (atom_asT (h d hd)).2.2.1]; omega
  · rw [e, noL]; exact noLs_of fun d hd => (atom_asT (h d hd)).2.2.2
theorem carg_none : CArg .none := ⟨⟨by simp [gd], by simp [PyData.depth]⟩, by rw [asT]; simp [noL], by rw [asT]; simp [gd]⟩
theorem carg_int (i : Int) : CArg (.int i) := ⟨pre_int i, by rw [asT]; simp [noL], by rw [asT]; simp [gd]⟩
theorem carg_bool (b : Bool) : CArg (.bool b) := ⟨⟨by simp [gd], by simp [PyData.depth]⟩, by rw [asT]; simp [noL], by rw [asT]; simp [gd]⟩
/-- a reading that gives such a value -/
def EG (K : PySem.W.Frag) (C : Addr) (te : TE) (σ : L2.St) (H : Hp) : Prop := ∀ H1, Same H H1 → ∀ Q : VK, (∀ v H2, Same H1 H2 → VG K C H2 v → Q v H2) → te σ H1 Q
def EGs (K : PySem.W.Frag) (C : Addr) (ta : TA) (σ : L2.St) (H : Hp) (n : Nat) : Prop := ∀ H1, Same H H1 → ∀ Q : List V → Hp → Prop, (∀ vs H2, Same H1 H2 → vs.length = n → (∀ v ∈ vs, VG K C H2 v) → Q vs H2) → ta σ H1 Q
section
variable {K : PySem.W.Frag} {C : Addr} {σ : L2.St} {F : Addr → Prop} {H : Hp} {t1 t2 t3 te : TE} {tr : TA} {d1 d2 d3 d : PyData} {E : XK}
theorem egs_nil : EGs K C tNil σ H 0 := fun H1 _ Q q => q [] H1 (Same.refl _) rfl fun v hv => nomatch hv
theorem egs_cons {n : Nat} (h : EG K C te σ H) (r : EGs K C tr σ H n) : EGs K C (tCons te tr) σ H (n + 1) := fun H1 s Q q =>
  h H1 s _ fun v H2 s2 hv => r H2 (s.trans s2) _ fun vs H3 s3 l hvs => q (v :: vs) H3 (s2.trans s3) (by rw [List.length_cons, l]) fun u hu => (List.mem_cons.mp hu).elim (fun e => by rw [e]; exact hv.same s3) (hvs u)
theorem made_good {x dx : Addr} {v1 v2 v3 : V} {Q : VK} {H : Hp} (h1 : Dp K H v1 d1) (h2 : Dp K H v2 d2) (h3 : Dp K H v3 d3) (c1 : CArg d1) (c2 : CArg d2) (c3 : CArg d3) (hx : H x = none) (hdx : H dx = none) (nx : dx ≠ x) (k : ∀ H', Same H H' → VG K C H' (.ref x) → Q .non H') : spCourse K C [.ref x, v1, v2, v3] (upd (upd H dx (.own x)) x (.ins C dx [])) Q E := by
  have s : Same H (upd (upd H dx (.own x)) x (.ins C dx [])) := (Same.newA hdx).trans (Same.newA (by rw [upd_ne (Ne.symm nx)]; exact hx))
  refine ⟨x, dx, v1, v2, v3, d1, d2, d3, rfl, upd_same, dp_mono s h1, dp_mono s h2, dp_mono s h3, c1.pre, c2.pre, c3.pre, fun H' b cr => ?_⟩
  obtain ⟨dx', u1, u2, u3, e, q1, q2, q3⟩ := cr
  exact k H' (fun a o z => b a o (ne_of_none z hx) (s _ _ z)) (.inl ⟨x, dx', u1, u2, u3, _, _, _, rfl, e, df_noL c1.nl q1, df_noL c2.nl q2, df_noL c3.nl q3, c1.g, c2.g⟩)
theorem eg_make (h1 : ED K t1 σ F H d1) (h2 : ED K t2 σ F H d2) (h3 : ED K t3 σ F H d3) (c1 : CArg d1) (c2 : CArg d2) (c3 : CArg d3) : EG K C (tMake C (spCourse K C) [] E (tCons t1 (tCons t2 (tCons t3 tNil)))) σ H := fun H1 s Q q =>
  h1 H1 s _ fun v1 H2 s2 g1 => h2 H2 (s.trans s2) _ fun v2 H3 s3 g2 => h3 H3 ((s.trans s2).trans s3) _ fun v3 H4 s4 g3 => fun x dx hx hdx nx =>
    made_good (dp_mono (s3.trans s4) (df_dp g1)) (dp_mono s4 (df_dp g2)) (df_dp g3) c1 c2 c3 hx hdx nx fun H' s' hv => ⟨rfl, q (.ref x) H' ((s2.trans (s3.trans s4)).trans s') hv⟩
theorem eg_tup (h : ED K te σ F H d) (n : noL d = true) (c : notC d = true) : EG K C te σ H := fun H1 s Q q => h H1 s _ fun v H2 s2 hv => q v H2 s2 (.inr ⟨d, df_noL n (df_dp hv), c⟩)
theorem ed_unv {i : Int} (h : ED K te σ F H (.int i)) : ED K (tUn (rU fun i => .int (-i)) te) σ F H (.int (-i)) := fun H1 s Q q => h H1 s _ fun v H2 s2 hv => by
  cases hv; exact ⟨i, rfl, q _ H2 s2 (.int _)⟩
end
theorem cut_mem {ds : List PyData} {lo hi : Option Int} {y : PyData} (h : y ∈ cutD ds lo hi) : y ∈ ds := List.mem_of_mem_drop (List.mem_of_mem_take h)
theorem cut_len {ds : List PyData} {lo hi : Option Int} : (cutD ds lo hi).length ≤ ds.length := by
  unfold cutD
  rw [List.length_take, List.length_drop]; omega
/-- tuples of words, nearly -/
theorem gd_zz : gd (.str ("zz" : Str)) = true := by decide +kernel
def CT (ds : List PyData) (n : Nat) : Prop := (∀ d ∈ ds, atomD d) ∧ ds.length ≤ n
def WT (K : PySem.W.Frag) (te : TE) (σ : L2.St) (F : Addr → Prop) (H : Hp) (n : Nat) : Prop := ∃ ds, ED K te σ F H (.tuple ds) ∧ CT ds n
section
variable {K : PySem.W.Frag} {C : Addr} {σ : L2.St} {F : Addr → Prop} {H : Hp} {t1 t2 t3 te : TE} {tl th : TO} {lo hi : Option Int} {n m : Nat} {d : PyData} {ds : List PyData} {E : XK}
theorem CT.carg (h : CT ds n) (l : n ≤ 1000) : CArg (.tuple ds) := carg_tup h.1 (Nat.le_trans h.2 l)
theorem wt_var {i : Nat} {v : V} (e : σ[i]? = some (some v)) (h : Dp K H v (.tuple ds)) (c : CT ds n) : WT K (tVar i) σ (nn H) H n := ⟨ds, ed_var e (dp_df h), c⟩
theorem wt_cut (h : WT K te σ F H n) (hl : EO tl σ H lo) (hh : EO th σ H hi) : WT K (tSl (rSlA K) te tl th) σ F H n := by
  obtain ⟨ds, h1, h2, h3⟩ := h
  exact ⟨_, ed_slT h1 hl hh, fun d hd => h2 d (cut_mem hd), Nat.le_trans cut_len h3⟩
theorem wt_app (h : WT K t1 σ F H n) (k : WT K t2 σ F H m) (le : n + m ≤ 900) : WT K (tOp (rCatA K) t1 t2) σ F H (n + m) := by
  obtain ⟨ds, h1, h2, h3⟩ := h
  obtain ⟨es, k1, k2, k3⟩ := k
  exact ⟨_, ed_catT h1 k1 (by omega), fun d hd => (List.mem_append.mp hd).elim (h2 d) (k2 d), by rw [List.length_append]; omega⟩
theorem wt_one (h : ED K te σ F H d) (a : atomD d) : WT K (tTup (tCons te tNil)) σ F H 1 :=
  ⟨_, ed_tup (ea_cons h ea_nil) (by show 1 ≤ 100000; decide), fun x hx => by rw [List.mem_singleton.mp hx]; exact a, Nat.le_refl _⟩
theorem eg_makeT (h1 : WT K t1 σ F H n) (h2 : WT K t2 σ F H m) (h3 : ED K t3 σ F H d) (c : CArg d) (hn : n ≤ 1000) (hm : m ≤ 1000) : EG K C (tMake C (spCourse K C) [] E (tCons t1 (tCons t2 (tCons t3 tNil)))) σ H := by
  obtain ⟨ds, h1, k1⟩ := h1
  obtain ⟨es, h2, k2⟩ := h2
  exact eg_make h1 h2 h3 (k1.carg hn) (k2.carg hm) c
theorem ed_mul2 {i : Int} (h : ED K te σ F H (.int i)) : ED K (tOp (rI CMul fun i j => .int (i * j)) (tC (.int 2)) te) σ F H (.int (2 * i)) := ed_op ed_int h (rd_int (.inl ⟨by decide, by decide⟩))
theorem run_asg {g : TG} {tz : TS} {D : Ends} (h : te σ H fun v H1 => g v σ H1 fun σ2 H2 => tz D σ2 H2) : tSeq (tAsg te g) tz D σ H := h
theorem run_lstG {ta : TA} {Q : VK} (h : EGs K C ta σ H n) (ln : n ≤ 100000) (k : ∀ l vs H2, Same H H2 → H2 l = some (.lst vs) → vs.length = n → (∀ v ∈ vs, VG K C H2 v) → Q (.ref l) H2) : tLst ta σ H Q :=
  h H (Same.refl _) _ fun vs H2 s2 l g => ⟨by rw [l]; exact small5 ln, fun p hp => k p vs _ (s2.trans (Same.newA hp)) upd_same l fun v hv => (g v hv).same (Same.newA hp)⟩
theorem run_egc {tr : TA} {Q : List V → Hp → Prop} (h : EG K C te σ H) (k : ∀ v H1, Same H H1 → VG K C H1 v → tr σ H1 fun vs H2 => Q (v :: vs) H2) : tCons te tr σ H Q := h H (Same.refl _) _ k
theorem run_egsc {ta : TA} {Q : List V → Hp → Prop} (h : EGs K C ta σ H n) (k : ∀ vs H1, Same H H1 → vs.length = n → (∀ v ∈ vs, VG K C H1 v) → Q vs H1) : ta σ H Q := h H (Same.refl _) _ k
theorem run_lstA {ta : TA} {Q : List V → Hp → Prop} (h : EA K ta σ F H ds) (k : ∀ vs H1, Same H H1 → DfAll K (Fr F H) H1 vs ds → vs.length ≤ sizeLine ∧ ∀ l, H1 l = none → Q [.ref l] (upd H1 l (.lst vs))) : tCons (tLst ta) tNil σ H Q := h H (Same.refl _) _ k
theorem ct_words {xs : List Str} {n : Nat} (h : ∀ x ∈ xs, nameB x = true) (l : xs.length ≤ n) : CT (xs.map .str) n :=
  ⟨fun d hd => by obtain ⟨x, hx, rfl⟩ := List.mem_map.mp hd; exact .inl ⟨x, rfl, name_gd (h x hx)⟩, by rw [List.length_map]; exact l⟩
end
def spBentC (K : PySem.W.Frag) (C : Addr) : Sp := fun vs H Q _ => ∃ (p c m a n : Nat) (R : List Rw) (cs hs : List Str) (r : Nat), vs = [.ref p, .ref m, .ref a] ∧ Pen p c n H ∧ LsAt K m R H ∧ CourseAt K C a (.tuple (cs.map .str)) (.tuple (hs.map .str)) (.int r) H ∧ (∀ x ∈ cs, nameB x = true) ∧ (∀ x ∈ hs, nameB x = true) ∧ cs.length ≤ 9 ∧ hs.length ≤ 10 ∧ n + 1000000 < 1000000000000 ∧
  ∀ v H', But p H H' → Pen p c (n + 20) H' → VG K C H' v → Q v H'
structure ApP (K : PySem.W.Frag) (C p c : Addr) (n : Nat) (lm a1 a2 : Addr) (x1 x2 : List V) (H H' : Hp) (vs : List V) : Prop where
  el : H' lm = some (.lst vs)
  vg : ∀ v ∈ vs, VG K C H' v
  bt : But p H H'
  pn : Pen p c n H'
  u1 : SqT K H' a1 x1
  u2 : SqT K H' a2 x2
theorem ApP.step {K : PySem.W.Frag} {C p c : Addr} {n : Nat} {lm a1 a2 : Addr} {x1 x2 : List V} {H H' H2 : Hp} {vs : List V} {v : V} (a : ApP K C p c n lm a1 a2 x1 x2 H H' vs) (s : Same H' H2) (g : VG K C H2 v) (np : lm ≠ p) (nq : lm ≠ c) (fm : H lm = none) : ApP K C p c n lm a1 a2 x1 x2 H (upd H2 lm (.lst (vs ++ [v]))) (vs ++ [v]) := by
  have e := s _ _ a.el
  refine ⟨upd_same, fun u hu => ?_, fun b o nb z => by rw [upd_ne (ne_of_none z fm)]; exact s _ _ (a.bt b o nb z), (a.pn.same s).upd np nq, st_upd e (s.stA a.u1), st_upd e (s.stA a.u2)⟩
  rcases List.mem_append.mp hu with hu | hu
  · exact ((a.vg u hu).same s).updL e
  · rw [List.mem_singleton.mp hu]; exact g.updL e
section
variable {P : Program} {w : World} {K : PySem.W.Frag} {mg : Str → Option Value} {base : Heap} (T : Txt w K mg)
theorem ok_bent : FnOk P w K mg base CX0 8 T.a_law_bent_course T.d_law_bent_course ["pen", "server", "value"] (spBentC K T.C_Course) := by
  have G_law_draw := ok_draw (P := P) (base := base) T
  have G_law_pick := ok_pick (P := P) (base := base) T
  have G_Course___init__ := ok_Course_init (P := P) (base := base) T
  refine T.D_law_bent_course.fn.ok sc_law_bent_course (fun vs H Q E h => ?_) (fun cdv A outer s H vs Q E hr h => ?_)
  · obtain ⟨p, c, m, a, n, R, cs, hs, r, rfl, _⟩ := h; rfl
  · obtain ⟨p, c, m, a, n, R, cs, hs, r, rfl, P0, hls, hc, nc, nh, c9, h10, hn, k⟩ := h
    refine ⟨_, (pss_cons (ps_asg (pe_tup (pa_cons (pe_fldK (K := K) rfl (pv 2) rfl) (pa_cons (pe_fldK (K := K) rfl (pv 2) rfl) (pa_cons (pe_fldK (K := K) rfl (pv 2) rfl) (pa_cons (pe_call (G_law_draw) (hr.mono (by omega)) (by rfl) T.D_law_draw.mg T.D_law_draw.fn.kp T.D_law_draw.bd .nil pass0 (pa_cons (pv 0) (pa_cons (pe_op op_add (pe_callB call_len (by rfl) T.b_len bt_len (pa_cons (pe_fldK (K := K) rfl (pv 2) rfl) pa_nil)) pe_int) pa_nil))) pa_nil))))) (pg_tup rfl (pgs_cons (pg_name (i := 3) sc_law_bent_course.nd rfl (by first | exact Or.inl rfl | exact Or.inr rfl)) (pgs_cons (pg_name (i := 4) sc_law_bent_course.nd rfl (by first | exact Or.inl rfl | exact Or.inr rfl)) (pgs_cons (pg_name (i := 5) sc_law_bent_course.nd rfl (by first | exact Or.inl rfl | exact Or.inr rfl)) (pgs_cons (pg_name (i := 6) sc_law_bent_course.nd rfl (by first | exact Or.inl rfl | exact Or.inr rfl)) pgs_nil))))))
      (pss_cons (ps_set (i := 7) sc_law_bent_course.nd rfl (by first | exact Or.inl rfl | exact Or.inr rfl) (pe_call (G_law_pick) (hr.mono (by omega)) (by rfl) T.D_law_pick.mg T.D_law_pick.fn.kp T.D_law_pick.bd .nil pass0 (pa_cons (pv 0) (pa_cons (pe_op op_cat (pe_dget (hu_of hr) (pv 1) pe_str (fun _ _ => rfl)) (pe_lst (pa_cons pe_str (pa_cons pe_non pa_nil)))) pa_nil))))
      (pss_cons (ps_set (i := 8) sc_law_bent_course.nd rfl (by first | exact Or.inl rfl | exact Or.inr rfl) (pe_call (G_law_pick) (hr.mono (by omega)) (by rfl) T.D_law_pick.mg T.D_law_pick.fn.kp T.D_law_pick.bd .nil pass0 (pa_cons (pv 0) (pa_cons (pe_op op_cat (pe_callB (cr_sortSetS rfl) (by rfl) T.b_sorted bt_sorted (pa_cons (pe_callTy (cr_setS rfl) (by rfl) T.b_set bt_set (pa_cons (pe_lock (pe_lc (own := [("key", 9)]) rfl sc_law_bent_course.nd (pi_keys (pe_dget (hu_of hr) (pv 1) pe_str (fun _ _ => rfl))) (blkOk_by (own := [("key", 9)]) (N := ["pen", "server", "value", "calls", "halls", "ring", "at", "one", "call", "key", "some"]) (sc := defScope s_law_bent_course) (by decide +kernel)) (fun _ _ _ _ _ => (pg_name (i := 9) sc_law_bent_course.nd rfl (by first | exact Or.inl rfl | exact Or.inr rfl))) (fun _ _ _ _ _ => pts_nil) (fun _ _ _ _ _ => (pe_ix (r := rIx K) ix_seq (pv 9) pe_int (fun _ _ => rfl))))) pa_nil)) pa_nil)) (pe_lst (pa_cons pe_str (pa_cons pe_non pa_nil)))) pa_nil))))
      (pss_cons (ps_set (i := 10) sc_law_bent_course.nd rfl (by first | exact Or.inl rfl | exact Or.inr rfl) (pe_lst (pa_cons (pe_make T.mk_Course (G_Course___init__) (hr.mono (by omega)) (by rfl) T.g_Course T.D_Course___init__.bd .nil pass0 (pa_cons (pe_op op_catA (pe_slice sl_tupA (pv 3) po_none (po_some (pv 6))) (pe_slice sl_tupA (pv 3) (po_some (pe_op op_add (pv 6) pe_int)) po_none)) (pa_cons (pe_op op_catA (pe_slice sl_tupA (pv 4) po_none (po_some (pv 6))) (pe_slice sl_tupA (pv 4) (po_some (pe_op op_add (pv 6) pe_int)) po_none)) (pa_cons (pv 5) pa_nil)))) (pa_cons (pe_make T.mk_Course (G_Course___init__) (hr.mono (by omega)) (by rfl) T.g_Course T.D_Course___init__.bd .nil pass0 (pa_cons (pe_slice sl_tupA (pv 3) po_none (po_some (pv 6))) (pa_cons (pe_slice sl_tupA (pv 4) po_none (po_some (pe_op op_add (pv 6) pe_int))) (pa_cons pe_int pa_nil)))) (pa_cons (pe_make T.mk_Course (G_Course___init__) (hr.mono (by omega)) (by rfl) T.g_Course T.D_Course___init__.bd .nil pass0 (pa_cons (pv 3) (pa_cons (pe_op op_catA (pe_slice sl_tupA (pv 4) po_none (po_some (pe_un un_neg pe_int))) (pe_tup (pa_cons (pv 7) pa_nil))) (pa_cons (pv 5) pa_nil)))) pa_nil)))))
      (pss_cons (ps_set (i := 10) sc_law_bent_course.nd rfl (by first | exact Or.inl rfl | exact Or.inr rfl) (pe_op op_cat (pv 10) (pe_lst (pa_cons (pe_make T.mk_Course (G_Course___init__) (hr.mono (by omega)) (by rfl) T.g_Course T.D_Course___init__.bd .nil pass0 (pa_cons (pv 3) (pa_cons (pv 4) (pa_cons (pe_call (G_law_pick) (hr.mono (by omega)) (by rfl) T.D_law_pick.mg T.D_law_pick.fn.kp T.D_law_pick.bd .nil pass0 (pa_cons (pv 0) (pa_cons (pe_lst (pa_cons pe_int (pa_cons pe_int (pa_cons pe_int (pa_cons (pe_callB call_len (by rfl) T.b_len bt_len (pa_cons (pv 3) pa_nil)) (pa_cons (pe_op op_add (pe_callB call_len (by rfl) T.b_len bt_len (pa_cons (pv 3) pa_nil)) pe_int) (pa_cons pe_bl (pa_cons pe_non pa_nil)))))))) pa_nil))) pa_nil)))) (pa_cons (pe_make T.mk_Course (G_Course___init__) (hr.mono (by omega)) (by rfl) T.g_Course T.D_Course___init__.bd .nil pass0 (pa_cons (pe_op op_catA (pe_op op_catA (pe_slice sl_tupA (pv 3) po_none (po_some (pv 6))) (pe_tup (pa_cons (pv 8) pa_nil))) (pe_slice sl_tupA (pv 3) (po_some (pe_op op_add (pv 6) pe_int)) po_none)) (pa_cons (pv 4) (pa_cons (pv 5) pa_nil)))) pa_nil)))))
      (pss_cons (ps_set (i := 10) sc_law_bent_course.nd rfl (by first | exact Or.inl rfl | exact Or.inr rfl) (pe_op op_cat (pv 10) (pe_lst (pa_cons (pe_make T.mk_Course (G_Course___init__) (hr.mono (by omega)) (by rfl) T.g_Course T.D_Course___init__.bd .nil pass0 (pa_cons (pv 3) (pa_cons (pe_op op_catA (pe_tup (pa_cons (pv 7) pa_nil)) (pe_slice sl_tupA (pv 4) (po_some pe_int) po_none)) (pa_cons (pv 5) pa_nil)))) (pa_cons (pe_make T.mk_Course (G_Course___init__) (hr.mono (by omega)) (by rfl) T.g_Course T.D_Course___init__.bd .nil pass0 (pa_cons pe_non (pa_cons (pv 4) (pa_cons pe_int pa_nil)))) (pa_cons (pe_make T.mk_Course (G_Course___init__) (hr.mono (by omega)) (by rfl) T.g_Course T.D_Course___init__.bd .nil pass0 (pa_cons (pv 3) (pa_cons pe_non (pa_cons pe_int pa_nil)))) (pa_cons (pe_tup (pa_cons (pv 3) (pa_cons (pv 4) (pa_cons (pv 5) pa_nil)))) (pa_cons (pe_make T.mk_Course (G_Course___init__) (hr.mono (by omega)) (by rfl) T.g_Course T.D_Course___init__.bd .nil pass0 (pa_cons (pv 3) (pa_cons (pe_slice sl_tupA (pv 4) po_none (po_some (pe_un un_neg pe_int))) (pa_cons pe_int pa_nil)))) pa_nil))))))))
      (C8.pss_cut (ps_if (pt_cmpR op_gt (pv 5) pe_int (nomark _)) (pss_cons (ps_expr (pe_bm PySem.F.plainAttrs_list PySem.F.slot_list_append PySem.F.type_list_append mt_append (pv 10) (pa_cons (pe_make T.mk_Course (G_Course___init__) (hr.mono (by omega)) (by rfl) T.g_Course T.D_Course___init__.bd .nil pass0 (pa_cons (pe_op op_catA (pv 3) (pe_slice sl_tupA (pv 3) (po_some (pe_un un_neg (pv 5))) po_none)) (pa_cons (pe_op op_catA (pv 4) (pe_slice sl_tupA (pv 4) (po_some (pe_un un_neg (pv 5))) po_none)) (pa_cons (pv 5) pa_nil)))) pa_nil)))
      (pss_cons (ps_expr (pe_bm PySem.F.plainAttrs_list PySem.F.slot_list_append PySem.F.type_list_append mt_append (pv 10) (pa_cons (pe_make T.mk_Course (G_Course___init__) (hr.mono (by omega)) (by rfl) T.g_Course T.D_Course___init__.bd .nil pass0 (pa_cons (pe_op op_catA (pv 3) (pe_slice sl_tupA (pv 3) (po_some (pe_un un_neg (pv 5))) po_none)) (pa_cons (pe_op op_catA (pv 4) (pe_slice sl_tupA (pv 4) (po_some (pe_un un_neg (pv 5))) po_none)) (pa_cons (pe_op op_mul pe_int (pv 5)) pa_nil)))) pa_nil)))
      (pss_one (ps_expr (pe_bm PySem.F.plainAttrs_list PySem.F.slot_list_append PySem.F.type_list_append mt_append (pv 10) (pa_cons (pe_make T.mk_Course (G_Course___init__) (hr.mono (by omega)) (by rfl) T.g_Course T.D_Course___init__.bd .nil pass0 (pa_cons (pe_op op_catA (pv 3) (pe_slice sl_tupA (pv 3) (po_some (pe_op op_sub (pe_callB call_len (by rfl) T.b_len bt_len (pa_cons (pv 3) pa_nil)) (pv 5))) (po_some (pe_op op_add (pe_op op_sub (pe_callB call_len (by rfl) T.b_len bt_len (pa_cons (pv 3) pa_nil)) (pv 5)) pe_int)))) (pa_cons (pe_op op_catA (pv 4) (pe_slice sl_tupA (pv 4) (po_some (pe_op op_sub (pe_callB call_len (by rfl) T.b_len bt_len (pa_cons (pv 4) pa_nil)) (pv 5))) (po_some (pe_op op_add (pe_op op_sub (pe_callB call_len (by rfl) T.b_len bt_len (pa_cons (pv 4) pa_nil)) (pv 5)) pe_int)))) (pa_cons (pv 5) pa_nil)))) pa_nil)))))) pss_nil)
      (pss_one (ps_ret (pe_call (G_law_pick) (hr.mono (by omega)) (by rfl) T.D_law_pick.mg T.D_law_pick.fn.kp T.D_law_pick.bd .nil pass0 (pa_cons (pv 0) (pa_cons (pv 10) pa_nil)))))))))))), ?_⟩
    obtain ⟨dx, v1, v2, v3, ha, q1, q2, q3⟩ := hc
    cases q3
    obtain ⟨a1, rfl, t1⟩ : ∃ a1, v1 = .ref a1 ∧ SqT K H a1 (cs.map V.str) := by
      cases q1 with
      | tup x y => exact ⟨_, rfl, by rw [← strs_dps y]; exact x⟩
    obtain ⟨a2, rfl, t2⟩ : ∃ a2, v2 = .ref a2 ∧ SqT K H a2 (hs.map V.str) := by
      cases q2 with
      | tup x y => exact ⟨_, rfl, by rw [← strs_dps y]; exact x⟩
    clear q1 q2
    have lc : (cs.map V.str).length = cs.length := List.length_map _
    refine ⟨_, rfl, a, _, dx, _, _, rfl, ha, T.cl_Course, T.na_Course_calls, cf_calls, _, rfl, a, _, dx, _, _, rfl, ha, T.cl_Course, T.na_Course_halls, cf_halls, _, rfl, a, _, dx, _, _, rfl, ha, T.cl_Course, T.na_Course_ring, cf_ring, _, rfl, _, rfl, a, _, dx, _, _, rfl, ha, T.cl_Course, T.na_Course_calls, cf_calls, _, _, rfl, .inr ⟨_, t1, rfl⟩, _, _, rfl, rfl, p, c, _, _, rfl, P0, by omega, by omega, by omega, fun d H1 d0 d1 b1 P1 => ⟨(by show 4 ≤ sizeLine; decide), fun t ht => ⟨t, _, rfl, .of upd_same, rfl, _, _, rfl, _, _, rfl, _, _, rfl, _, _, rfl, rfl, ?_⟩⟩⟩
    obtain ⟨at0, rfl⟩ : ∃ q : Nat, d = q := ⟨d.toNat, by omega⟩
    have s2 := Same.newA (o := .tup [.ref a1, .ref a2, .int (r : Int), .int (at0 : Int)]) ht
    have P2 := P1.same s2
    have b2 := b1.trans (But.of s2)
    have u1 := s2.stA (P0.st b1 t1)
    have u2 := s2.stA (P0.st b1 t2)
    revert P2 b2 u1 u2
    generalize upd H1 t (.tup [.ref a1, .ref a2, .int (r : Int), .int (at0 : Int)]) = H2
    intro P2 b2 u1 u2
    clear s2 ht b1 P1 t1 t2 ha
    obtain ⟨rl, ad, pl, ys, kvs, ps, ls⟩ := hls.but P0 b2
    have pln := ls.pln
    have kl := ls.ans.len
    have rl2 := ls.rln
    refine ⟨_, rfl, _, rfl, m, _, rfl, ls_places ls.dict, (by show 2 ≤ sizeLine; decide), fun l0 hl0 => ?_⟩
    have s3 := Same.newA (o := .lst [.str ("zz" : Str), .non]) hl0
    refine ⟨pl, l0, _, _, rfl, rfl, s3 _ _ ls.plc, upd_same, small5 (by rw [List.length_map]; show _ + 2 ≤ 100000; omega), fun l1 hl1 => ?_⟩
    have s4 := Same.newA (o := .lst (ps.map V.str ++ [.str ("zz" : Str), .non])) hl1
    refine ⟨p, c, l1, _, _, rfl, (P2.same s3).same s4, .inl (.of upd_same), by rw [List.length_append]; show 0 < _ + 2; omega, by rw [List.length_append, List.length_map]; show _ + 2 < 100000; omega, by omega, fun y v7 H3 hv b3 P3 => ?_⟩
    obtain ⟨one, e7, g7⟩ : ∃ d, Dp K H3 v7 d ∧ atomD d := by
      have mv := List.mem_of_getElem? hv
      rcases List.mem_append.mp mv with mv | mv
      · obtain ⟨x, hx, rfl⟩ := List.mem_map.mp mv
        exact ⟨.str x, .str x, .inl ⟨x, rfl, name_gd (ls.nam x hx)⟩⟩
      · rcases List.mem_cons.mp mv with rfl | mv
        · exact ⟨.str ("zz" : Str), .str _, .inl ⟨_, rfl, gd_zz⟩⟩
        · rw [List.mem_singleton.mp mv]; exact ⟨.none, .non, .inr rfl⟩
    have b23 := (But.of (s3.trans s4)).trans b3
    have bt3 := b2.trans b23
    have u1 := P2.st b23 u1
    have u2 := P2.st b23 u2
    clear b2 P2 s3 s4 hl0 hl1 b3 b23 hv ls rl ad pl ys kvs ps pln kl rl2
    dsimp only [gName]
    obtain ⟨rl, ad, pl, ys, kvs, ps, ls⟩ := hls.but P0 bt3
    have kl := ls.ans.len
    have rl2 := ls.rln
    have nma : m ≠ ad := ne_of ls.dict ls.ansd (fun z => nomatch z)
    refine ⟨_, rfl, ad, .dT kvs, ls.ansd, trivial, fun od => ⟨_, rfl, m, _, rfl, ls_answers (by rw [upd_ne nma]; exact ls.dict), ad, od, rfl, .inr ⟨kvs, upd_same, fun D hD => ?_⟩⟩⟩
    have nDa : D ≠ ad := fun e => by rw [e, upd_same] at hD; cases hD
    refine lc_it walk_keysT (fun i H' => ∃ ks : List Str, H' D = some (.lst (ks.map V.str)) ∧ ks.length ≤ i ∧ (∀ c ∈ ks, nameB c = true) ∧ But D (upd H3 ad (.frz od (.dT kvs))) H') ⟨[], upd_same, Nat.le_refl _, (fun c hc => nomatch hc), But.same (Same.newA hD)⟩ (fun i H' _ ⟨_, _, _, _, t⟩ => t _ _ (Ne.symm nDa) upd_same) ?_ ?_
    · rintro i x H1 H1' hi ⟨ks, g1, g2, g3, t⟩ ⟨rfl, ky, v, q, hk, rfl, hq⟩
      obtain ⟨h', c', o, rfl, hm⟩ := ls.ans.key ky (kvs_at hk)
      have nc' : nameB c' = true := by
        obtain ⟨y, hy, e⟩ := List.mem_map.mp ((ls.mem _).mpr hm)
        have g := (ls.good y hy).2
        rw [e] at g
        exact g.2.1
      refine ⟨rfl, et_yes H1' (Same.refl _) _ fun H2 s2 => ite2 (fun _ => ?_) fun z => absurd rfl z⟩
      refine ⟨_, rfl, .inr (.inl ⟨q, _, 1, .str c', rfl, rfl, .of (s2 _ _ hq), rfl, _, s2 _ _ g1, lt5 (by rw [List.length_map]; omega), ks ++ [c'], by rw [upd_same, List.map_append]; rfl, by rw [List.length_append]; exact Nat.succ_le_succ g2, fun z hz => ?_, (t.trans' (But.same s2)).trans' .updb⟩)⟩
      rcases List.mem_append.mp hz with hz | hz
      · exact g3 z hz
      · rw [List.mem_singleton.mp hz]; exact nc'
    · rintro H4 ⟨ks, g1, g2, g3, t⟩
      refine ⟨t _ _ (Ne.symm nDa) upd_same, ?_⟩
      have fD : H3 D = none := by rw [upd_ne nDa] at hD; exact hD
      have t2 := unlock_but ls.ansd t
      have s4 : Same H3 (upd H4 ad (.dT kvs)) := fun a o e => t2 a o (ne_of_none e fD) e
      refine ⟨D, ks, rfl, SqL.of (by rw [upd_ne nDa]; exact g1), by omega, fun us hus => ⟨us, ks, rfl, upd_same, fun zs zl so nd mem hzl => ⟨(by show 2 ≤ sizeLine; decide), fun l0 hl0 => ?_⟩⟩⟩
      have s5 := Same.newA (o := StrSet P w us ks) hus
      have s6 := Same.newA (o := .lst (zs.map V.str)) hzl
      have s7 := Same.newA (o := .lst [.str ("zz" : Str), .non]) hl0
      have zln : zs.length ≤ ks.length := List.Nodup.length_le_of_subset nd fun x hx => (mem x).mp hx
      refine ⟨zl, l0, _, _, rfl, rfl, s7 _ _ upd_same, upd_same, small5 (by rw [List.length_map]; show _ + 2 ≤ 100000; omega), fun l1 hl1 => ?_⟩
      have s8 := Same.newA (o := .lst (zs.map V.str ++ [.str ("zz" : Str), .non])) hl1
      have s38 := s4.trans (s5.trans (s6.trans (s7.trans s8)))
      refine ⟨p, c, l1, _, _, rfl, P3.same s38, .inl (.of upd_same), by rw [List.length_append]; show 0 < _ + 2; omega, by rw [List.length_append, List.length_map]; show _ + 2 < 100000; omega, by omega, fun y v8 H5 hv b5 P5 => ?_⟩
      obtain ⟨call, e8, g8⟩ : ∃ d, Dp K H5 v8 d ∧ atomD d := by
        have mv := List.mem_of_getElem? hv
        rcases List.mem_append.mp mv with mv | mv
        · obtain ⟨x, hx, rfl⟩ := List.mem_map.mp mv
          exact ⟨.str x, .str x, .inl ⟨x, rfl, name_gd (g3 x ((mem x).mp hx))⟩⟩
        · rcases List.mem_cons.mp mv with rfl | mv
          · exact ⟨.str ("zz" : Str), .str _, .inl ⟨_, rfl, gd_zz⟩⟩
          · rw [List.mem_singleton.mp mv]; exact ⟨.none, .non, .inr rfl⟩
      have b35 := (But.of s38).trans b5
      have bt5 := bt3.trans b35
      have u1 := P3.st b35 u1
      have u2 := P3.st b35 u2
      have e7 := P3.dp b35 e7
      clear s38 s4 s5 s6 s7 s8 hl0 hl1 b5 hus hzl zln mem nd so zs zl us g1 g2 g3 t t2 fD nDa hD hv ls rl ad pl ys kvs ps kl rl2 nma od b35 bt3
      dsimp only [gName]
      have aC := ct_words nc c9
      have aH := ct_words nh h10
      have W3 : ∀ (σ : L2.St) Hx, SqT K Hx a1 (cs.map V.str) → σ[3]? = some (some (.ref a1)) → WT K (tVar 3) σ (nn Hx) Hx 9 := fun σ Hx u e => wt_var e (.tup u (dps_strs cs)) aC
      have W4 : ∀ (σ : L2.St) Hx, SqT K Hx a2 (hs.map V.str) → σ[4]? = some (some (.ref a2)) → WT K (tVar 4) σ (nn Hx) Hx 10 := fun σ Hx u e => wt_var e (.tup u (dps_strs hs)) aH
      have E6 : ∀ (σ : L2.St) Hx, σ[6]? = some (some (.int (at0 : Int))) → ED K (tVar 6) σ (nn Hx) Hx (.int (at0 : Int)) := fun σ Hx e => ed_var e (.int _)
      have E5 : ∀ (σ : L2.St) Hx, σ[5]? = some (some (.int (r : Int))) → ED K (tVar 5) σ (nn Hx) Hx (.int (r : Int)) := fun σ Hx e => ed_var e (.int _)
      refine run_asg (run_lstG (C := T.C_Course) (egs_cons (eg_makeT (wt_app (wt_cut (W3 _ _ u1 rfl) eo_none (eo_some (E6 _ _ rfl))) (wt_cut (W3 _ _ u1 rfl) (eo_some (ed_add (E6 _ _ rfl) ed_int)) eo_none) (by decide)) (wt_app (wt_cut (W4 _ _ u2 rfl) eo_none (eo_some (E6 _ _ rfl))) (wt_cut (W4 _ _ u2 rfl) (eo_some (ed_add (E6 _ _ rfl) ed_int)) eo_none) (by decide)) (E5 _ _ rfl) (carg_int _) (by decide) (by decide))
        (egs_cons (eg_makeT (wt_cut (W3 _ _ u1 rfl) eo_none (eo_some (E6 _ _ rfl))) (wt_cut (W4 _ _ u2 rfl) eo_none (eo_some (ed_add (E6 _ _ rfl) ed_int))) ed_int (carg_int _) (by decide) (by decide))
        (egs_cons (eg_makeT (W3 _ _ u1 rfl) (wt_app (wt_cut (W4 _ _ u2 rfl) eo_none (eo_some (K := K) (F := nn H) (ed_unv ed_int))) (wt_one (ed_var (i := 7) rfl (dp_df e7)) g7) (by decide)) (E5 _ _ rfl) (carg_int _) (by decide) (by decide)) egs_nil))) (by decide) fun l6 vs6 H6 s6 el6 vl6 vg6 => ?_)
      have bt6 := bt5.trans (But.of s6)
      have P6 := P5.same s6
      have u1 := s6.stA u1
      have u2 := s6.stA u2
      have e7 := dp_mono s6 e7
      have e8 := dp_mono s6 e8
      clear s6 bt5 P5
      dsimp only [gName]
      refine run_asg ⟨_, rfl, ?_⟩
      refine ⟨_, rfl, _, rfl, _, rfl, ?_⟩
      refine run_lstA (ea_cons ed_int (ea_cons ed_int (ea_cons ed_int (ea_cons (ed_len (ed_var (i := 3) rfl (dp_df (.tup u1 (dps_strs cs)))) rfl) (ea_cons (ed_add (ed_len (ed_var (i := 3) rfl (dp_df (.tup u1 (dps_strs cs)))) rfl) ed_int) (ea_cons ed_bl (ea_cons ed_non ea_nil))))))) fun vs7 H7 s7 d7 => ⟨by rw [dfs_len d7]; exact small5 (by show 7 ≤ 100000; decide), fun l7 hl7 => ?_⟩
      have s67 := s7.trans (Same.newA (o := .lst vs7) hl7)
      refine ⟨p, c, l7, vs7, _, rfl, P6.same s67, .inl (.of upd_same), by rw [dfs_len d7]; show 0 < 7; decide, by rw [dfs_len d7]; show 7 < 100000; decide, by omega, fun y v H8 hv b8 P8 => ?_⟩
      obtain ⟨dq, hdq, fv⟩ := dfs_get' d7 hv
      have cq : CArg dq := by
        have mq := List.mem_of_getElem? hdq
        simp only [List.mem_cons, List.not_mem_nil, or_false] at mq
        rcases mq with rfl | rfl | rfl | rfl | rfl | rfl | rfl
        · exact carg_int _
        · exact carg_int _
        · exact carg_int _
        · exact carg_int _
        · exact carg_int _
        · exact carg_bool _
        · exact carg_none
      have fv : Dp K H8 v dq := (P6.same s67).dp b8 (dp_mono (K := K) (Same.newA hl7) (df_dp fv))
      have b68 := (But.of s67).trans b8
      have u1 := P6.st b68 u1
      have u2 := P6.st b68 u2
      have e7 := P6.dp b68 e7
      have e8 := P6.dp b68 e8
      have el6 := b8 _ _ (P6.ne el6 fun _ e => nomatch e) (s67 _ _ el6)
      have vg6 := fun v hv => (vg6 v hv).but P6 b68
      have bt8 := bt6.trans b68
      clear s67 s7 d7 hl7 b8 hv hdq b68 P6 bt6
      intro x dx2 hx hdx nx
      refine made_good (.tup u1 (dps_strs cs)) (.tup u2 (dps_strs hs)) fv (aC.carg (by decide)) (aH.carg (by decide)) cq hx hdx nx fun H9 s9 v9 => ⟨rfl, ?_⟩
      have u1 := s9.stA u1
      have u2 := s9.stA u2
      have e7 := dp_mono s9 e7
      have e8 := dp_mono s9 e8
      refine run_egc (C := T.C_Course) (eg_makeT (wt_app (wt_app (wt_cut (W3 _ _ u1 rfl) eo_none (eo_some (E6 _ _ rfl))) (wt_one (ed_var (i := 8) rfl (dp_df e8)) g8) (by decide)) (wt_cut (W3 _ _ u1 rfl) (eo_some (ed_add (E6 _ _ rfl) ed_int)) eo_none) (by decide)) (W4 _ _ u2 rfl) (E5 _ _ rfl) (carg_int _) (by decide) (by decide)) fun v10 H10 s10 g10 => ⟨(by show 2 ≤ sizeLine; decide), fun l2 hl2 => ?_⟩
      have s2 := Same.newA (o := .lst [.ref x, v10]) hl2
      have s82 := s9.trans (s10.trans s2)
      refine ⟨l6, l2, _, _, rfl, rfl, s82 _ _ el6, upd_same, small5 (by rw [vl6]; show 3 + 2 ≤ 100000; decide), fun l3 hl3 => ?_⟩
      have s3 := Same.newA (o := .lst (vs6 ++ [.ref x, v10])) hl3
      have vg3 : ∀ v ∈ vs6 ++ [.ref x, v10], VG K T.C_Course (upd (upd H10 l2 (.lst [.ref x, v10])) l3 (.lst (vs6 ++ [.ref x, v10]))) v := fun v hv => by
        rcases List.mem_append.mp hv with hv | hv
        · exact (vg6 v hv).same (s82.trans s3)
        · rcases List.mem_cons.mp hv with rfl | hv
          · exact v9.same (s10.trans (s2.trans s3))
          · rw [List.mem_singleton.mp hv]; exact g10.same (s2.trans s3)
      have el3 : (upd (upd H10 l2 (.lst [.ref x, v10])) l3 (.lst (vs6 ++ [.ref x, v10]))) l3 = some (.lst (vs6 ++ [.ref x, v10])) := upd_same
      have vl3 : (vs6 ++ [V.ref x, v10]).length = 5 := by rw [List.length_append, vl6]; rfl
      have s93 := s10.trans (s2.trans s3)
      have P11 := P8.same (s82.trans s3)
      have bt11 := bt8.trans (But.of (s82.trans s3))
      have u1 := s93.stA u1
      have u2 := s93.stA u2
      have e7 := dp_mono s93 e7
      clear s3 s2 s82 s93 s9 s10 g10 v9 vg6 el6 e8 hx hdx nx hl3 hl2 fv cq bt8 P8 vl6
      revert vg3 el3 P11 bt11 u1 u2 e7 vl3
      generalize upd (upd H10 l2 (.lst [.ref x, v10])) l3 (.lst (vs6 ++ [.ref x, v10])) = H11
      generalize vs6 ++ [V.ref x, v10] = vs11
      intro vg3 el3 vl3 P11 bt11 u1 u2 e7
      dsimp only [gName]
      refine run_asg ⟨_, rfl, ?_⟩
      refine run_lstG (C := T.C_Course) (egs_cons (eg_makeT (W3 _ _ u1 rfl) (wt_app (wt_one (ed_var (i := 7) rfl (dp_df e7)) g7) (wt_cut (W4 _ _ u2 rfl) (eo_some (K := K) (F := nn H) ed_int) eo_none) (by decide)) (E5 _ _ rfl) (carg_int _) (by decide) (by decide))
        (egs_cons (eg_make (d1 := .none) ed_non (ed_var (i := 4) rfl (dp_df (.tup u2 (dps_strs hs)))) ed_int carg_none (aH.carg (by decide)) (carg_int _))
        (egs_cons (eg_make (d2 := .none) (ed_var (i := 3) rfl (dp_df (.tup u1 (dps_strs cs)))) ed_non ed_int (aC.carg (by decide)) carg_none (carg_int _))
        (egs_cons (eg_tup (ed_tup (ea_cons (ed_var (i := 3) rfl (dp_df (.tup u1 (dps_strs cs)))) (ea_cons (ed_var (i := 4) rfl (dp_df (.tup u2 (dps_strs hs)))) (ea_cons (E5 _ _ rfl) ea_nil))) (by show 3 ≤ 100000; decide)) ?_ ?_)
        (egs_cons (eg_makeT (W3 _ _ u1 rfl) (wt_cut (W4 _ _ u2 rfl) eo_none (eo_some (K := K) (F := nn H) (ed_unv ed_int))) ed_int (carg_int _) (by decide) (by decide)) egs_nil))))) (by decide) fun l5 vs5 H12 s12 el5 vl5 vg5 => ?_
      · simp only [noL, noLs, Bool.and_eq_true, Bool.and_true, and_true]
        exact ⟨noLs_of fun d hd => (atom_asT (aC.1 d hd)).2.2.2, noLs_of fun d hd => (atom_asT (aH.1 d hd)).2.2.2⟩
      · rfl
      refine ⟨l3, l5, _, _, rfl, rfl, s12 _ _ el3, el5, small5 (by rw [vl3, vl5]; decide), fun lm hlm => ?_⟩
      have s13 := Same.newA (o := .lst (vs11 ++ vs5)) hlm
      have vgm : ∀ v ∈ vs11 ++ vs5, VG K T.C_Course (upd H12 lm (.lst (vs11 ++ vs5))) v := fun v hv => by
        rcases List.mem_append.mp hv with hv | hv
        · exact (vg3 v hv).same (s12.trans s13)
        · exact (vg5 v hv).same s13
      have elm : (upd H12 lm (.lst (vs11 ++ vs5))) lm = some (.lst (vs11 ++ vs5)) := upd_same
      have vlm : (vs11 ++ vs5).length = 10 := by rw [List.length_append, vl3, vl5]
      have Pm := P11.same (s12.trans s13)
      have btm := bt11.trans (But.of (s12.trans s13))
      have npm := P11.ne_p (s12.freshA hlm)
      have nqm := P11.ne_c (s12.freshA hlm)
      have fm : H lm = none := by
        cases e : H lm with
        | none => rfl
        | some o => have := (bt11.trans (But.of s12)) _ _ npm e; rw [hlm] at this; cases this
      have u1 := (s12.trans s13).stA u1
      have u2 := (s12.trans s13).stA u2
      clear e7 s12 s13 vg3 vg5 el3 el5 vl3 vl5 P11 bt11 hlm
      revert vgm elm vlm Pm btm u1 u2
      generalize upd H12 lm (.lst (vs11 ++ vs5)) = H13
      generalize vs11 ++ vs5 = vs13
      intro vgm elm vlm Pm btm u1 u2
      dsimp only [gName]
      refine ⟨fun σ' H' => ∃ o9 vs, σ' = [some (.ref p), some (.ref m), some (.ref a), some (.ref a1), some (.ref a2), some (.int (r : Int)), some (.int (at0 : Int)), some v7, some v8, o9, some (.ref lm)] ∧ H' lm = some (.lst vs) ∧ 0 < vs.length ∧ vs.length ≤ 20 ∧ (∀ v ∈ vs, VG K T.C_Course H' v) ∧ But p H H' ∧ Pen p c (n + 10) H', ?_, ?_⟩
      · refine s_if (b := decide ((0 : Int) < (r : Int))) (et_test (ed_gt (K := K) (F := nn H) (ed_var (i := 5) rfl (.int _)) ed_int)) (fun hb H14 s14 => ?_) (fun hb H14 s14 => ?_)
        · have ap : ApP K T.C_Course p c (n + 10) lm a1 a2 (cs.map V.str) (hs.map V.str) H H14 vs13 := ⟨s14 _ _ elm, fun v hv => (vgm v hv).same s14, btm.trans (But.of s14), (Pm.same s14).more (by omega), s14.stA u1, s14.stA u2⟩
          clear s14 elm vgm Pm btm u1 u2
          refine ⟨_, rfl, .inl ⟨rfl, _, SqL.of ap.el⟩, ?_⟩
          refine run_egc (C := T.C_Course) (eg_makeT (wt_app (W3 _ _ ap.u1 rfl) (wt_cut (W3 _ _ ap.u1 rfl) (eo_some (ed_unv (E5 _ _ rfl))) eo_none) (by decide)) (wt_app (W4 _ _ ap.u2 rfl) (wt_cut (W4 _ _ ap.u2 rfl) (eo_some (ed_unv (E5 _ _ rfl))) eo_none) (by decide)) (E5 _ _ rfl) (carg_int _) (by decide) (by decide)) fun v14 H15 s15 g15 => ?_
          refine ⟨lm, _, _, rfl, rfl, s15 _ _ ap.el, lt5 (by rw [vlm]; decide), ?_⟩
          replace ap := ap.step s15 g15 npm nqm fm
          revert ap
          generalize upd H15 lm (.lst (vs13 ++ [v14])) = H15
          intro ap
          refine ⟨_, rfl, .inl ⟨rfl, _, SqL.of ap.el⟩, ?_⟩
          refine run_egc (C := T.C_Course) (eg_makeT (wt_app (W3 _ _ ap.u1 rfl) (wt_cut (W3 _ _ ap.u1 rfl) (eo_some (ed_unv (E5 _ _ rfl))) eo_none) (by decide)) (wt_app (W4 _ _ ap.u2 rfl) (wt_cut (W4 _ _ ap.u2 rfl) (eo_some (ed_unv (E5 _ _ rfl))) eo_none) (by decide)) (ed_mul2 (E5 _ _ rfl)) (carg_int _) (by decide) (by decide)) fun v16 H16 s16 g16 => ?_
          refine ⟨lm, _, _, rfl, rfl, s16 _ _ ap.el, lt5 (by rw [List.length_append, vlm]; show 10 + 1 < 100000; decide), ?_⟩
          replace ap := ap.step s16 g16 npm nqm fm
          revert ap
          generalize upd H16 lm (.lst (vs13 ++ [v14] ++ [v16])) = H16
          intro ap
          refine ⟨_, rfl, .inl ⟨rfl, _, SqL.of ap.el⟩, ?_⟩
          have l3 : ∀ (σ : L2.St), σ[3]? = some (some (.ref a1)) → ED K (tCB (fun xs H Q => ∃ x n, xs = [x] ∧ LenV K x H n ∧ Q (.int n) H) (tCons (tVar 3) tNil)) σ (nn H16) H16 (.int (lenP (.tuple (cs.map PyData.str)) : Int)) := fun σ e => ed_len (ed_var e (dp_df (.tup ap.u1 (dps_strs cs)))) rfl
          have l4 : ∀ (σ : L2.St), σ[4]? = some (some (.ref a2)) → ED K (tCB (fun xs H Q => ∃ x n, xs = [x] ∧ LenV K x H n ∧ Q (.int n) H) (tCons (tVar 4) tNil)) σ (nn H16) H16 (.int (lenP (.tuple (hs.map PyData.str)) : Int)) := fun σ e => ed_len (ed_var e (dp_df (.tup ap.u2 (dps_strs hs)))) rfl
          refine run_egc (C := T.C_Course) (eg_makeT (wt_app (W3 _ _ ap.u1 rfl) (wt_cut (W3 _ _ ap.u1 rfl) (eo_some (ed_sub (l3 _ rfl) (E5 _ _ rfl))) (eo_some (ed_add (ed_sub (l3 _ rfl) (E5 _ _ rfl)) ed_int))) (by decide)) (wt_app (W4 _ _ ap.u2 rfl) (wt_cut (W4 _ _ ap.u2 rfl) (eo_some (ed_sub (l4 _ rfl) (E5 _ _ rfl))) (eo_some (ed_add (ed_sub (l4 _ rfl) (E5 _ _ rfl)) ed_int))) (by decide)) (E5 _ _ rfl) (carg_int _) (by decide) (by decide)) fun v17 H17 s17 g17 => ?_
          refine ⟨lm, _, _, rfl, rfl, s17 _ _ ap.el, lt5 (by rw [List.length_append, List.length_append, vlm]; show 10 + 1 + 1 < 100000; decide), ?_⟩
          replace ap := ap.step s17 g17 npm nqm fm
          have vln : (vs13 ++ [v14] ++ [v16] ++ [v17]).length = 13 := by rw [List.length_append, List.length_append, List.length_append, vlm]; rfl
          exact ⟨_, _, rfl, ap.el, by omega, by omega, ap.vg, ap.bt, ap.pn⟩
        · exact ⟨_, _, rfl, s14 _ _ elm, by omega, by omega, fun v hv => (vgm v hv).same s14, btm.trans (But.of s14), (Pm.same s14).more (by omega)⟩
      · rintro σ' H' ⟨o9, vs, rfl, el, v0, v20, vg, bt, Pn⟩
        refine ⟨_, rfl, _, rfl, p, c, lm, vs, _, rfl, Pn, .inl (SqL.of el), v0, by omega, by omega, fun y v H16 hv b16 P16 => ?_⟩
        exact k v H16 (bt.trans b16) (P16.more (by omega)) ((vg v (List.mem_of_getElem? hv)).but Pn b16)
end
end Ag

set_option Elab.async false
set_option linter.all false
set_option maxRecDepth 100000
set_option maxHeartbeats 4000000
set_option pp.maxSteps 400
namespace Ag
open PySem PySem.Spec PyProof.Rows L2 LamX
theorem stepsB_congr {R R' : List Rw} (h : ∀ r, r ∈ R' ↔ r ∈ R) (cs hs : List Str) : stepsB R' cs hs = stepsB R cs hs := by
  unfold stepsB
  exact congrArg _ (funext fun i => decide_eq_decide.mpr (h _))
theorem courseB_congr {R R' : List Rw} (h : ∀ r, r ∈ R' ↔ r ∈ R) (d1 d2 d3 : PyData) : courseB R' d1 d2 d3 = courseB R d1 d2 d3 := by
  unfold courseB; rw [stepsB_congr h]
theorem VG.both {K : PySem.W.Frag} {C : Addr} {H : Hp} {v : V} {R R' : List Rw} (h : VG K C H v) (e : ∀ r, r ∈ R' ↔ r ∈ R) : ∃ res, VAt K C R H v res ∧ VAt K C R' H v res := by
  rcases h with ⟨a, dx, v1, v2, v3, d1, d2, d3, z, h1, h2, h3, h4, g1, g2⟩ | ⟨d, h1, h2⟩
  · exact ⟨_, .inl ⟨a, d1, d2, d3, z, ⟨dx, v1, v2, v3, h1, df_dp h2, df_dp h3, df_dp h4⟩, g1, g2, rfl⟩, .inl ⟨a, d1, d2, d3, z, ⟨dx, v1, v2, v3, h1, df_dp h2, df_dp h3, df_dp h4⟩, g1, g2, (courseB_congr e _ _ _).symm⟩⟩
  · exact ⟨_, .inr ⟨d, df_dp h1, h2, rfl⟩, .inr ⟨d, df_dp h1, h2, rfl⟩⟩
/-- what stands through a turn -/
structure Lp (K : PySem.W.Frag) (S p c m b : Addr) (R R' : List Rw) (n : Nat) (H : Hp) : Prop where
  pn : Pen p c n H
  ls : LsAt K m R H
  sv : ServerAt K S b R' H
section
variable {K : PySem.W.Frag} {S p c m b : Addr} {R R' : List Rw} {n n' : Nat} {H H' : Hp}
theorem Lp.same (h : Lp K S p c m b R R' n H) (s : Same H H') : Lp K S p c m b R R' n H' := ⟨h.pn.same s, h.ls.same s, h.sv.same s⟩
theorem Lp.but (h : Lp K S p c m b R R' n H) (t : But p H H') (P : Pen p c n' H') : Lp K S p c m b R R' n' H' := ⟨P, h.ls.but h.pn t, h.sv.but h.pn t⟩
theorem Lp.more (h : Lp K S p c m b R R' n H) (l : n ≤ n') : Lp K S p c m b R R' n' H := ⟨h.pn.more l, h.ls, h.sv⟩
end
/-- what may stand in a tuple -/
def okI (d : PyData) : Prop := asT d = d ∧ gd d = true ∧ d.depth ≤ 1 ∧ noL d = true
theorem okI_atom {d : PyData} (h : atomD d) : okI d := ⟨(atom_asT h).1, (atom_asT h).2.1, by rw [(atom_asT h).2.2.1]; decide, (atom_asT h).2.2.2⟩
theorem asT_all {ds : List PyData} (h : ∀ d ∈ ds, asT d = d) : asT (.tuple ds) = .tuple ds := by
  rw [asT_seq (.inr rfl)]
  refine congrArg PyData.tuple ?_
  have : ds.map asT = ds.map id := List.map_congr_left fun d hd => h d hd
  rw [this, List.map_id]
theorem okI_tup {ds : List PyData} {n : Nat} (h : CT ds n) (l : n ≤ 1000) : okI (.tuple ds) := by
  refine ⟨asT_all fun d hd => (atom_asT (h.1 d hd)).1, ?_, ?_, ?_⟩
  · simp only [gd, Bool.and_eq_true]; exact ⟨gds_of fun d hd => (atom_asT (h.1 d hd)).2.1, decide_eq_true (Nat.le_trans h.2 l)⟩
  · simp only [PyData.depth, depth_0 fun d hd => (atom_asT (h.1 d hd)).2.2.1]; omega
  · rw [noL]; exact noLs_of fun d hd => (atom_asT (h.1 d hd)).2.2.2
theorem depth_1 : ∀ {ds : List PyData}, (∀ d ∈ ds, d.depth ≤ 1) → PyData.depthAll ds ≤ 1
  | [], _ => by simp [PyData.depthAll]
  | d :: ds, h => by
    have a := h d List.mem_cons_self
    have b := depth_1 fun y hy => h y (List.mem_cons_of_mem _ hy)
    simp only [PyData.depthAll]; omega
theorem carg_tup2 {ds : List PyData} (h : ∀ d ∈ ds, okI d) (l : ds.length ≤ 1000) : CArg (.tuple ds) := by
  have e : asT (.tuple ds) = .tuple ds := asT_all fun d hd => (h d hd).1
  have g : gd (.tuple ds) = true := by
    simp only [gd, Bool.and_eq_true]; exact ⟨gds_of fun d hd => (h d hd).2.1, decide_eq_true l⟩
  refine ⟨⟨g, ?_⟩, ?_, by rw [e]; exact g⟩
  · have := depth_1 fun d hd => (h d hd).2.2.1
    simp only [PyData.depth]; omega
  · rw [e, noL]; exact noLs_of fun d hd => (h d hd).2.2.2
theorem carg_str {x : Str} (h : gd (.str x) = true) : CArg (.str x) := ⟨⟨h, by simp [PyData.depth]⟩, by rw [asT]; simp [noL], by rw [asT]; exact h⟩
theorem gd_abc : gd (.str ("ab" : Str)) = true ∧ gd (.str ("a" : Str)) = true ∧ gd (.str ("b" : Str)) = true ∧ gd (.str ("c" : Str)) = true := by decide +kernel
theorem wt_nil {K : PySem.W.Frag} {σ : L2.St} {F : Addr → Prop} {H : Hp} : WT K (tTup tNil) σ F H 0 := ⟨[], ed_tup ea_nil (by show 0 ≤ 100000; decide), ⟨fun d hd => absurd hd List.not_mem_nil, Nat.le_refl _⟩⟩
/-- is_course against the law's -/
theorem run_two {K : PySem.W.Frag} {S C p c m b : Addr} {R R' : List Rw} {n : Nat} {H : Hp} {v : V} {i j l : Nat} {σ : L2.St} {E1 E2 E3 : XK} {tu tw : TS} {D : Ends} (e : ∀ r, r ∈ R' ↔ r ∈ R) (lp : Lp K S p c m b R R' n H) (g : VG K C H v) (hi : σ[i]? = some (some (.ref b))) (hj : σ[j]? = some (some (.ref m))) (hl : σ[l]? = some (some v))
    (k : ∀ H1, Same H H1 → tw D σ H1) : tIfS (tNot (tB (tCall (spSame K) [] E1 (tCons (tCall (spIsC K S C) [] E2 (tCons (tVar i) (tCons (tVar l) tNil))) (tCons (tCall (spLIsC K C) [] E3 (tCons (tVar j) (tCons (tVar l) tNil))) tNil))))) tu tw D σ H := by
  obtain ⟨res, g1, g2⟩ := g.both e
  refine ⟨_, hi, _, hl, b, v, R', res, rfl, lp.sv, g2, fun H1 s1 => ?_⟩
  refine ⟨_, hj, _, hl, m, v, R, res, rfl, lp.ls.same s1, g1.same s1, fun H2 s2 => ?_⟩
  refine ⟨_, _, .bool res, rfl, .bl _, .bl _, rfl, rfl, fun H3 s3 => ?_⟩
  refine ⟨true, rfl, ?_⟩
  exact k H3 (s1.trans (s2.trans s3))
section
variable {K : PySem.W.Frag} {C : Addr} {σ : L2.St} {F : Addr → Prop} {H : Hp} {t1 t2 t3 ta tb : TE} {d1 d2 d3 : PyData} {E : XK} {Q : VK} {D : Ends} {r : R2}
theorem run_retand (h : ED K ta σ F H (.bool true)) (k : ∀ H1, Same H H1 → tb σ H1 fun v H2 => D.rt v H2) : tRet (tAndV ta tb) D σ H := h H (Same.refl _) _ fun v H1 s hv => by
  cases hv; exact ⟨true, rfl, by rw [if_pos rfl]; exact k H1 s⟩
theorem run_notop (h : ta σ H fun x H1 => tb σ H1 fun y H2 => r x y H2 fun v H3 => ∃ c, v = .bl c ∧ Q (.bl (!c)) H3) : tNotV (tOp r ta tb) σ H Q := h
theorem run_mk3 (h1 : ED K t1 σ F H d1) (h2 : ED K t2 σ F H d2) (h3 : ED K t3 σ F H d3) (c1 : CArg d1) (c2 : CArg d2) (c3 : CArg d3) (k : ∀ x H', Same H H' → H x = none → (∃ dx fs, H' x = some (.ins C dx fs)) → Q (.ref x) H') : tMake C (spCourse K C) [] E (tCons t1 (tCons t2 (tCons t3 tNil))) σ H Q :=
  h1 H (Same.refl _) _ fun v1 H2 s2 g1 => h2 H2 s2 _ fun v2 H3 s3 g2 => h3 H3 (s2.trans s3) _ fun v3 H4 s4 g3 => fun x dx hx hdx nx => by
    have s : Same H4 (upd (upd H4 dx (.own x)) x (.ins C dx [])) := (Same.newA hdx).trans (Same.newA (by rw [upd_ne (Ne.symm nx)]; exact hx))
    have s24 := s2.trans (s3.trans s4)
    refine ⟨x, dx, v1, v2, v3, d1, d2, d3, rfl, upd_same, dp_mono (s3.trans (s4.trans s)) (df_dp g1), dp_mono (s4.trans s) (df_dp g2), dp_mono s (df_dp g3), c1.pre, c2.pre, c3.pre, fun H' b cr => ⟨rfl, ?_⟩⟩
    obtain ⟨dx', u1, u2, u3, e, _⟩ := cr
    exact k x H' (fun a o z => b a o (ne_of_none (s24 _ _ z) hx) (s _ _ (s24 _ _ z))) (s24.freshA hx) ⟨_, _, e⟩
end
def dShow : PyData := .tuple [.tuple [.str ("a" : Str)], .tuple [.str ("x" : Str), .tuple [.str ("y" : Str)]], .int 1]
theorem dShow_ok : dShow.showable = true ∧ dShow.depth ≤ 50 ∧ dShow.shown.length ≤ 1000 := by decide +kernel
theorem gd_xy : gd (.str ("x" : Str)) = true ∧ gd (.str ("y" : Str)) = true := by decide +kernel
theorem as_1 : asT (.list [.str ("a" : Str)]) = .tuple [.str ("a" : Str)] := by
  rw [asT_seq (.inl rfl)]; simp only [List.map_cons, List.map_nil, asT]
theorem as_2 : asT (.list [.str ("x" : Str), .list [.str ("y" : Str)]]) = .tuple [.str ("x" : Str), .tuple [.str ("y" : Str)]] := by
  rw [asT_seq (.inl rfl)]; simp only [List.map_cons, List.map_nil]; rw [asT_seq (d := .list [.str ("y" : Str)]) (.inl rfl)]; simp only [List.map_cons, List.map_nil, asT]
theorem pre_1 : preT 3 (.list [.str ("a" : Str)]) := ⟨by decide +kernel, by decide +kernel⟩
theorem pre_2 : preT 3 (.list [.str ("x" : Str), .list [.str ("y" : Str)]]) := ⟨by decide +kernel, by decide +kernel⟩
section
variable {P : Program} {w : World} {K : PySem.W.Frag} {mg : Str → Option Value} {base : Heap} (T : Txt w K mg)
theorem law_runs {a : Addr} {zs : List Int} {s : Shared} {H : Hp} (hs : SqL K H a (zs.map V.int)) (hl : zs.length ≤ 63) (e0 : Env0 P w K mg base callerA [] s H) :
    codeAny (model P w) callerA (.call (.ref T.a_law) ⟨[.ref a], []⟩) (CR CX0 [] P w H s (fun v _ => v = .bl true) fun _ _ _ => False) s := by
  have G_law_pen := ok_law_pen (P := P) (base := base) T
  have G_law_draw := ok_draw (P := P) (base := base) T
  have G_law_names := ok_names (P := P) (base := base) T
  have G_law_some_server := ok_some_server (P := P) (base := base) T
  have G_law_made_server := ok_made (P := P) (base := base) T
  have G_law_some_course := ok_some_course (P := P) (base := base) T
  have G_law_bent_course := ok_bent (P := P) (base := base) T
  have G_is_course := ok_is_course (P := P) (base := base) T
  have G_law_is_course := ok_law_is_course (P := P) (base := base) T
  have G_law_same := ok_law_same (P := P) (base := base) T
  have G_Course___init__ := ok_Course_init (P := P) (base := base) T
  obtain ⟨oc, od, kV, doc, pm, an, cdv, ct, osl, efd, lk, hcd⟩ := T.D_law.fn.ex
  have BL := T.D_law.bd
  rw [efd] at BL lk
  have kIn : K.In s.heap := e0.mod.kin.keeps fun b o e => (e0.bs b o e).1
  have rm : Room 12 callerA := ⟨rfl, by decide +kernel, by decide +kernel⟩
  refine run_ofS (N := ["script", "pen", "lap", "calls", "halls", "server", "made", "turn", "course", "step", "bent", "at", "mixed", "value", "kept"]) (vs := [.ref a]) (us := [.ref a]) lk hcd sc_law rm e0 (BL s [.ref a] kIn rfl) (.cons rfl .nil) rfl fun hr => ?_
  refine ⟨_, (pss_cons (ps_set (i := 1) sc_law.nd rfl (by first | exact Or.inl rfl | exact Or.inr rfl) (pe_call (G_law_pen) (hr.mono (by omega)) (by rfl) T.D_law_pen.mg T.D_law_pen.fn.kp T.D_law_pen.bd .nil pass0 (pa_cons (pv 0) pa_nil)))
      (pss_cons (ps_for (passes_of rfl) rfl (pi_range1 (by rfl) T.b_range (pa_cons pe_int pa_nil)) (pg_name (i := 2) sc_law.nd rfl (by first | exact Or.inl rfl | exact Or.inr rfl)) (pss_cons (ps_par (i := 3) (j := 4) (by rfl) sc_law.nd rfl rfl (by decide) rfl rfl (pa_cons (pe_callB cr_sortedS (by rfl) T.b_sorted bt_sorted (pa_cons (pe_call (G_law_names) (hr.mono (by omega)) (by rfl) T.D_law_names.mg T.D_law_names.fn.kp T.D_law_names.bd .nil pass0 (pa_cons (pv 1) (pa_cons (pe_op op_add pe_int (pe_call (G_law_draw) (hr.mono (by omega)) (by rfl) T.D_law_draw.mg T.D_law_draw.fn.kp T.D_law_draw.bd .nil pass0 (pa_cons (pv 1) (pa_cons pe_int pa_nil)))) pa_nil))) pa_nil)) (pa_cons (pe_call (G_law_names) (hr.mono (by omega)) (by rfl) T.D_law_names.mg T.D_law_names.fn.kp T.D_law_names.bd .nil pass0 (pa_cons (pv 1) (pa_cons (pe_op op_add pe_int (pe_call (G_law_draw) (hr.mono (by omega)) (by rfl) T.D_law_draw.mg T.D_law_draw.fn.kp T.D_law_draw.bd .nil pass0 (pa_cons (pv 1) (pa_cons pe_int pa_nil)))) pa_nil))) pa_nil)) (by rfl))
      (pss_cons (ps_set (i := 5) sc_law.nd rfl (by first | exact Or.inl rfl | exact Or.inr rfl) (pe_call (G_law_some_server) (hr.mono (by omega)) (by rfl) T.D_law_some_server.mg T.D_law_some_server.fn.kp T.D_law_some_server.bd .nil pass0 (pa_cons (pv 1) (pa_cons (pv 3) (pa_cons (pv 4) (pa_cons pe_int pa_nil))))))
      (pss_cons (ps_set (i := 6) sc_law.nd rfl (by first | exact Or.inl rfl | exact Or.inr rfl) (pe_call (G_law_made_server) (hr.mono (by omega)) (by rfl) T.D_law_made_server.mg T.D_law_made_server.fn.kp T.D_law_made_server.bd .nil pass0 (pa_cons (pv 1) (pa_cons (pv 5) pa_nil))))
      (pss_one (ps_for (passes_of rfl) rfl (pi_range1 (by rfl) T.b_range (pa_cons pe_int pa_nil)) (pg_name (i := 7) sc_law.nd rfl (by first | exact Or.inl rfl | exact Or.inr rfl)) (pss_cons (ps_set (i := 8) sc_law.nd rfl (by first | exact Or.inl rfl | exact Or.inr rfl) (pe_call (G_law_some_course) (hr.mono (by omega)) (by rfl) T.D_law_some_course.mg T.D_law_some_course.fn.kp T.D_law_some_course.bd .nil pass0 (pa_cons (pv 1) (pa_cons (pv 5) pa_nil))))
      (pss_cons (ps_if (PW.pt (pw_or (pt_cmpR op_isnotB (pe_call (G_is_course) (hr.mono (by omega)) (by rfl) T.D_is_course.mg T.D_is_course.fn.kp T.D_is_course.bd .nil pass0 (pa_cons (pv 6) (pa_cons (pv 8) pa_nil))) pe_bl (nomark _)) (pw_or1 (pt_not (pt_val (pe_call (G_law_is_course) (hr.mono (by omega)) (by rfl) T.D_law_is_course.mg T.D_law_is_course.fn.kp T.D_law_is_course.bd .nil pass0 (pa_cons (pv 5) (pa_cons (pv 8) pa_nil)))))))) (pss_one (ps_ret pe_bl)) pss_nil)
      (pss_cons (ps_for (passes_of rfl) rfl (pi_range1 (by rfl) T.b_range (pa_cons pe_int pa_nil)) (pg_name (i := 9) sc_law.nd rfl (by first | exact Or.inl rfl | exact Or.inr rfl)) (pss_cons (ps_set (i := 10) sc_law.nd rfl (by first | exact Or.inl rfl | exact Or.inr rfl) (pe_call (G_law_bent_course) (hr.mono (by omega)) (by rfl) T.D_law_bent_course.mg T.D_law_bent_course.fn.kp T.D_law_bent_course.bd .nil pass0 (pa_cons (pv 1) (pa_cons (pv 5) (pa_cons (pv 8) pa_nil)))))
      (pss_one (ps_if (pt_not (pt_val (pe_call (G_law_same) (hr.mono (by omega)) (by rfl) T.D_law_same.mg T.D_law_same.fn.kp T.D_law_same.bd .nil pass0 (pa_cons (pe_call (G_is_course) (hr.mono (by omega)) (by rfl) T.D_is_course.mg T.D_is_course.fn.kp T.D_is_course.bd .nil pass0 (pa_cons (pv 6) (pa_cons (pv 10) pa_nil))) (pa_cons (pe_call (G_law_is_course) (hr.mono (by omega)) (by rfl) T.D_law_is_course.mg T.D_law_is_course.fn.kp T.D_law_is_course.bd .nil pass0 (pa_cons (pv 5) (pa_cons (pv 10) pa_nil))) pa_nil))))) (pss_one (ps_ret pe_bl)) pss_nil))))
      (pss_cons (ps_set (i := 11) sc_law.nd rfl (by first | exact Or.inl rfl | exact Or.inr rfl) (pe_call (G_law_draw) (hr.mono (by omega)) (by rfl) T.D_law_draw.mg T.D_law_draw.fn.kp T.D_law_draw.bd .nil pass0 (pa_cons (pv 1) (pa_cons (pe_callB call_len (by rfl) T.b_len bt_len (pa_cons (pe_fldK (K := K) rfl (pv 8) rfl) pa_nil)) pa_nil))))
      (pss_cons (ps_set (i := 12) sc_law.nd rfl (by first | exact Or.inl rfl | exact Or.inr rfl) (pe_lst (pa_cons (pe_make T.mk_Course (G_Course___init__) (hr.mono (by omega)) (by rfl) T.g_Course T.D_Course___init__.bd .nil pass0 (pa_cons (pe_fldK (K := K) rfl (pv 8) rfl) (pa_cons (pe_fldK (K := K) rfl (pv 8) rfl) (pa_cons pe_int pa_nil)))) (pa_cons (pe_make T.mk_Course (G_Course___init__) (hr.mono (by omega)) (by rfl) T.g_Course T.D_Course___init__.bd .nil pass0 (pa_cons (pe_fldK (K := K) rfl (pv 8) rfl) (pa_cons (pe_op op_catA (pe_op op_catA (pe_slice sl_tupA (pe_fldK (K := K) rfl (pv 8) rfl) po_none (po_some (pv 11))) (pe_tup (pa_cons (pe_slice sl_tupA (pe_fldK (K := K) rfl (pv 8) rfl) (po_some (pv 11)) (po_some (pe_op op_add (pv 11) pe_int))) pa_nil))) (pe_slice sl_tupA (pe_fldK (K := K) rfl (pv 8) rfl) (po_some (pe_op op_add (pv 11) pe_int)) po_none)) (pa_cons pe_int pa_nil)))) pa_nil))))
      (pss_cons (ps_set (i := 12) sc_law.nd rfl (by first | exact Or.inl rfl | exact Or.inr rfl) (pe_op op_cat (pv 12) (pe_lst (pa_cons (pe_make T.mk_Course (G_Course___init__) (hr.mono (by omega)) (by rfl) T.g_Course T.D_Course___init__.bd .nil pass0 (pa_cons (pe_tup pa_nil) (pa_cons (pe_tup pa_nil) (pa_cons pe_int pa_nil)))) (pa_cons (pe_make T.mk_Course (G_Course___init__) (hr.mono (by omega)) (by rfl) T.g_Course T.D_Course___init__.bd .nil pass0 (pa_cons (pe_tup pa_nil) (pa_cons (pe_tup (pa_cons pe_str pa_nil)) (pa_cons pe_int pa_nil)))) pa_nil)))))
      (pss_one (ps_for (passes_of rfl) rfl (pi_list (pe_op op_cat (pv 12) (pe_lst (pa_cons (pe_make T.mk_Course (G_Course___init__) (hr.mono (by omega)) (by rfl) T.g_Course T.D_Course___init__.bd .nil pass0 (pa_cons (pe_tup pa_nil) (pa_cons (pe_tup (pa_cons (pe_ix (r := rIx K) ix_seq (pv 4) pe_int (fun _ _ => rfl)) pa_nil)) (pa_cons pe_int pa_nil)))) (pa_cons (pe_make T.mk_Course (G_Course___init__) (hr.mono (by omega)) (by rfl) T.g_Course T.D_Course___init__.bd .nil pass0 (pa_cons (pe_tup pa_nil) (pa_cons (pe_tup (pa_cons (pe_ix (r := rIx K) ix_seq (pv 4) pe_int (fun _ _ => rfl)) pa_nil)) (pa_cons pe_int pa_nil)))) (pa_cons (pe_make T.mk_Course (G_Course___init__) (hr.mono (by omega)) (by rfl) T.g_Course T.D_Course___init__.bd .nil pass0 (pa_cons pe_str (pa_cons (pe_tup (pa_cons pe_str (pa_cons pe_str (pa_cons pe_str pa_nil)))) (pa_cons pe_int pa_nil)))) (pa_cons pe_non (pa_cons (pe_tup pa_nil) (pa_cons pe_int (pa_cons (pe_fldK (K := K) rfl (pv 8) rfl) pa_nil)))))))))) (pg_name (i := 13) sc_law.nd rfl (by first | exact Or.inl rfl | exact Or.inr rfl)) (pss_one (ps_if (pt_not (pt_val (pe_call (G_law_same) (hr.mono (by omega)) (by rfl) T.D_law_same.mg T.D_law_same.fn.kp T.D_law_same.bd .nil pass0 (pa_cons (pe_call (G_is_course) (hr.mono (by omega)) (by rfl) T.D_is_course.mg T.D_is_course.fn.kp T.D_is_course.bd .nil pass0 (pa_cons (pv 6) (pa_cons (pv 13) pa_nil))) (pa_cons (pe_call (G_law_is_course) (hr.mono (by omega)) (by rfl) T.D_law_is_course.mg T.D_law_is_course.fn.kp T.D_law_is_course.bd .nil pass0 (pa_cons (pv 5) (pa_cons (pv 13) pa_nil))) pa_nil))))) (pss_one (ps_ret pe_bl)) pss_nil))))))))))))))))
      (pss_cons (ps_set (i := 14) sc_law.nd rfl (by first | exact Or.inl rfl | exact Or.inr rfl) (pe_make T.mk_Course (G_Course___init__) (hr.mono (by omega)) (by rfl) T.g_Course T.D_Course___init__.bd .nil pass0 (pa_cons (pe_lst (pa_cons pe_str pa_nil)) (pa_cons (pe_lst (pa_cons pe_str (pa_cons (pe_lst (pa_cons pe_str pa_nil)) pa_nil))) (pa_cons pe_int pa_nil)))))
      (pss_one (ps_ret (pe_and (pe_cmpR op_eq (pe_callB (cr_repr rfl hr.units) (by rfl) T.b_repr bt_repr (pa_cons (pe_tup (pa_cons (pe_fldK (K := K) rfl (pv 14) rfl) (pa_cons (pe_fldK (K := K) rfl (pv 14) rfl) (pa_cons (pe_fldK (K := K) rfl (pv 14) rfl) pa_nil)))) pa_nil)) (pe_callB (cr_repr rfl hr.units) (by rfl) T.b_repr bt_repr (pa_cons (pe_tup (pa_cons (pe_tup (pa_cons pe_str pa_nil)) (pa_cons (pe_tup (pa_cons pe_str (pa_cons (pe_tup (pa_cons pe_str pa_nil)) pa_nil))) (pa_cons pe_int pa_nil)))) pa_nil)) (nomark _)) (pe_one (pe_not (pe_cmpR (r := rEqI T.C_Course) (op_eqI T.om_Course T.oe_Course (Nat.lt_of_le_of_lt (Nat.le_add_right _ _) hr.units)) (pe_make T.mk_Course (G_Course___init__) (hr.mono (by omega)) (by rfl) T.g_Course T.D_Course___init__.bd .nil pass0 (pa_cons (pe_tup pa_nil) (pa_cons (pe_tup (pa_cons pe_str pa_nil)) (pa_cons pe_int pa_nil)))) (pe_make T.mk_Course (G_Course___init__) (hr.mono (by omega)) (by rfl) T.g_Course T.D_Course___init__.bd .nil pass0 (pa_cons (pe_tup pa_nil) (pa_cons (pe_tup (pa_cons pe_str pa_nil)) (pa_cons pe_int pa_nil)))) (nomark _)))))))))), ?_⟩
  refine ⟨_, rfl, a, zs, rfl, hs, hl, fun p c H1 s1 P1 => ?_⟩
  refine ⟨4, rfl, by decide, by decide, for_range (n := 4) (fun i σ' H' => ∃ (o2 o3 o4 o5 o6 o7 o8 o9 o10 o11 o12 o13 o14 : Option V), σ' = [some (.ref a), some (.ref p), o2, o3, o4, o5, o6, o7, o8, o9, o10, o11, o12, o13, o14] ∧ Pen p c (100000 * i) H')
    ⟨none, none, none, none, none, none, none, none, none, none, none, none, none, rfl, P1⟩ ?_ ?_⟩
  · rintro i σ' H' hi ⟨o2, o3, o4, o5, o6, o7, o8, o9, o10, o11, o12, o13, o14, rfl, P2⟩
    clear P1 s1 hs e0 lk hcd BL kIn
    dsimp only [gName]
    refine ⟨_, rfl, _, rfl, p, c, 2, _, rfl, P2, by decide, by decide, by omega, fun d H3 d0 d2 b3 P3 => ?_⟩
    obtain ⟨M, hM, M1, M3⟩ : ∃ M : Nat, 2 + d = (M : Int) ∧ 1 ≤ M ∧ M ≤ 3 := ⟨(2 + d).toNat, by omega, by omega, by omega⟩
    refine ⟨_, _, rfl, rfl, p, c, M, _, by show [V.ref p, V.int (2 + d)] = _; rw [hM], P3, by omega, by omega, fun cl0 ns H4 hns fcl ecl0 b4 P4 => ?_⟩
    have nln := nms_len hns
    refine ⟨cl0, ns, rfl, SqL.of ecl0, by omega, fun cs cl pm so hcl => ?_⟩
    have nc : ∀ x ∈ cs, nameB x = true := fun x hx => by
      obtain ⟨j, hj, hn⟩ := nms_mem hns (pm.mem_iff.mp hx)
      exact nm_name (by omega) hn
    have cln : cs.length = M := by rw [pm.length_eq, nln]
    have P5 := P4.same (Same.newA (o := .lst (cs.map V.str)) hcl)
    have ecl := upd_same (H := H4) (a := cl) (o := .lst (cs.map V.str))
    clear P2 b3 P3 b4 P4 hns nln pm so ecl0 fcl d0 d2 hcl
    revert P5 ecl
    generalize upd H4 cl (.lst (cs.map V.str)) = H5
    intro P5 ecl
    refine ⟨_, rfl, _, rfl, p, c, 5, _, rfl, P5, by decide, by decide, by omega, fun d H6 d0 d5 b6 P6 => ?_⟩
    obtain ⟨N, hN, N1, N5⟩ : ∃ N : Nat, 1 + d = (N : Int) ∧ 1 ≤ N ∧ N ≤ 5 := ⟨(1 + d).toNat, by omega, by omega, by omega⟩
    refine ⟨_, _, rfl, rfl, p, c, N, _, by show [V.ref p, V.int (1 + d)] = _; rw [hN], P6, by omega, by omega, fun hl' hs H7 hhs fhl ehl b7 P7 => ?_⟩
    have hln := nms_len hhs
    have nh : ∀ x ∈ hs, nameB x = true := fun x hx => by
      obtain ⟨j, hj, hn⟩ := nms_mem hhs hx
      exact nm_name (by omega) hn
    have ecl := b7 _ _ (P5.ne ecl fun _ e => nomatch e) (b6 _ _ (P5.ne ecl fun _ e => nomatch e) ecl)
    clear P5 b6 P6 b7 hhs fhl d0 d5
    refine ⟨_, _, rfl, ?_⟩
    refine ⟨_, rfl, _, rfl, _, rfl, p, c, cl, hl', _, cs, hs, rfl, P7, ecl, ehl, nc, nh, by omega, by omega, by omega, by omega, by omega, fun m R H8 b8 P8 ls Rn R45 hR => ?_⟩
    dsimp only [gName]
    have ehl := b8 _ _ (P7.ne ehl fun _ e => nomatch e) ehl
    refine ⟨_, rfl, _, rfl, p, c, m, _, R, rfl, P8, ls, by omega, by omega, fun b R' H9 b9 P9 sv hRR => ?_⟩
    dsimp only [gName]
    have lp : Lp K T.C_Server p c m b R R' (100000 * i + 2000) H9 := ⟨P9.more (by omega), ls.but P8 b9, sv⟩
    have ehl := b9 _ _ (P8.ne ehl fun _ e => nomatch e) ehl
    clear P7 b8 P8 ls b9 P9 sv ecl
    refine ⟨6, rfl, by decide, by decide, for_range (n := 6) (fun j σ' H' => ∃ (o2 o7 o8 o9 o10 o11 o12 o13 o14 : Option V), σ' = [some (.ref a), some (.ref p), o2, some (.ref cl), some (.ref hl'), some (.ref m), some (.ref b), o7, o8, o9, o10, o11, o12, o13, o14] ∧ Lp K T.C_Server p c m b R R' (100000 * i + 2000 + 1000 * j) H' ∧ H' hl' = some (.lst (hs.map V.str)))
      ⟨_, _, _, _, _, _, _, _, _, rfl, lp, ehl⟩ ?_ ?_⟩
    · clear lp ehl
      rintro j σ' H10 hj ⟨o2, o7, o8, o9, o10, o11, o12, o13, o14, rfl, lp, ehl⟩
      dsimp only [gName]
      refine ⟨_, rfl, _, rfl, p, c, m, _, R, rfl, lp.pn, lp.ls, Rn, by omega, fun ca cs' hs' r H11 b11 P11 cat nc' nh' hl2 c9 r9 st la => ?_⟩
      dsimp only [gName]
      have ehl := b11 _ _ (lp.pn.ne ehl fun _ e => nomatch e) ehl
      replace lp := lp.but b11 P11
      have aC := ct_words nc' c9
      have aH := ct_words nh' (show hs'.length ≤ 10 by omega)
      have hB : courseB R (.tuple (cs'.map .str)) (.tuple (hs'.map .str)) (.int (r : Nat)) = true := by
        rw [courseB_words nc' nh', st, la, decide_eq_true hl2, show wholeB (.int (r : Nat)) 0 cs'.length = true by
          show (decide ((0 : Int) ≤ (r : Int)) && decide ((r : Int) ≤ (cs'.length : Int))) = true
          rw [decide_eq_true (show (0 : Int) ≤ (r : Int) by omega), decide_eq_true (show (r : Int) ≤ (cs'.length : Int) by omega)]; rfl]
        rfl
      clear b11 P11
      refine ⟨_, rfl, _, rfl, b, .ref ca, R', true, rfl, lp.sv, .inl ⟨ca, _, _, _, rfl, cat, (aC.carg (by decide)).pre.1, (aH.carg (by decide)).pre.1, by rw [courseB_congr hRR]; exact hB.symm⟩, fun H12 s12 => ?_⟩
      refine ⟨true, rfl, rfl, _, rfl, ite2 (fun hb => absurd hb (by simp)) fun _ => ?_⟩
      refine ⟨_, rfl, _, rfl, m, .ref ca, R, true, rfl, lp.ls.same s12, .inl ⟨ca, _, _, _, rfl, cat.same s12, (aC.carg (by decide)).pre.1, (aH.carg (by decide)).pre.1, hB.symm⟩, fun H13 s13 => ⟨true, rfl, ?_⟩⟩
      refine ite2 (fun hb => nomatch hb) fun _ => ?_
      have s23 := s12.trans s13
      replace lp := lp.same s23
      replace cat := cat.same s23
      have ehl := s23 _ _ ehl
      clear s23 s12 s13 hB st la
      dsimp only [tNext]
      refine ⟨4, rfl, by decide, by decide, for_range (n := 4) (fun k σ' H' => ∃ (o7 o9 o10 o11 o12 o13 o14 : Option V), σ' = [some (.ref a), some (.ref p), o2, some (.ref cl), some (.ref hl'), some (.ref m), some (.ref b), o7, some (.ref ca), o9, o10, o11, o12, o13, o14] ∧ Lp K T.C_Server p c m b R R' (100000 * i + 2000 + 1000 * j + 50 + 20 * k) H' ∧ H' hl' = some (.lst (hs.map V.str)) ∧ CourseAt K T.C_Course ca (.tuple (cs'.map .str)) (.tuple (hs'.map .str)) (.int (r : Nat)) H')
        ⟨_, _, _, _, _, _, _, rfl, lp, ehl, cat⟩ ?_ ?_⟩
      · clear lp ehl cat
        rintro k σ' H14 hk ⟨o7, o9, o10, o11, o12, o13, o14, rfl, lp, ehl, cat⟩
        dsimp only [gName]
        refine ⟨_, rfl, _, rfl, _, rfl, p, c, m, ca, _, R, cs', hs', r, rfl, lp.pn, lp.ls, cat, nc', nh', c9, by omega, by omega, fun v H15 b15 P15 vg => ?_⟩
        dsimp only [gName]
        refine run_two (j := 5) hRR (lp.but b15 P15) vg rfl rfl rfl fun H16 s16 => ?_
        exact ⟨_, _, _, _, _, _, _, rfl, (lp.but b15 P15).same s16, s16 _ _ (b15 _ _ (lp.pn.ne ehl fun _ e => nomatch e) ehl), (cat.but lp.pn b15).same s16⟩
      · clear lp ehl cat
        rintro σ' H14 ⟨o7, o9, o10, o11, o12, o13, o14, rfl, lp, ehl, cat⟩
        obtain ⟨dx, v1, v2, v3, ha, q1, q2, q3⟩ := cat
        obtain ⟨a1, rfl, t1⟩ : ∃ a1, v1 = .ref a1 ∧ SqT K H14 a1 (cs'.map V.str) := by
          cases q1 with
          | tup x y => exact ⟨_, rfl, by rw [← strs_dps y]; exact x⟩
        obtain ⟨a2, rfl, t2⟩ : ∃ a2, v2 = .ref a2 ∧ SqT K H14 a2 (hs'.map V.str) := by
          cases q2 with
          | tup x y => exact ⟨_, rfl, by rw [← strs_dps y]; exact x⟩
        clear q1 q2
        refine ⟨_, rfl, _, rfl, ca, _, dx, _, _, rfl, ha, T.cl_Course, T.na_Course_halls, cf_halls, _, _, rfl, .inr ⟨_, t2, rfl⟩, p, c, _, _, rfl, lp.pn, by rw [List.length_map]; omega, by rw [List.length_map]; omega, by omega, fun d H15 d0 d1 b15 P15 => ?_⟩
        obtain ⟨at0, rfl⟩ : ∃ q : Nat, d = q := ⟨d.toNat, by omega⟩
        have ha := b15 _ _ (lp.pn.ne ha fun _ e => nomatch e) ha
        have t1 := lp.pn.st b15 t1
        have t2 := lp.pn.st b15 t2
        have ehl := b15 _ _ (lp.pn.ne ehl fun _ e => nomatch e) ehl
        replace lp := lp.but b15 P15
        clear b15 P15 d0 d1 q3
        dsimp only [gName]
        have Fh : ∀ (σ : L2.St), σ[8]? = some (some (.ref ca)) → WT K (tFld K (tVar 8) ("halls" : Str)) σ (nn H15) H15 10 := fun σ e => ⟨_, ed_fldI e ha T.cl_Course T.na_Course_halls cf_halls (dp_df (.tup t2 (dps_strs hs'))), aH⟩
        have Fc : ∀ (σ : L2.St), σ[8]? = some (some (.ref ca)) → WT K (tFld K (tVar 8) ("calls" : Str)) σ (nn H15) H15 9 := fun σ e => ⟨_, ed_fldI e ha T.cl_Course T.na_Course_calls cf_calls (dp_df (.tup t1 (dps_strs cs'))), aC⟩
        have E11 : ∀ (σ : L2.St), σ[11]? = some (some (.int (at0 : Int))) → ED K (tVar 11) σ (nn H15) H15 (.int (at0 : Int)) := fun σ e => ed_var e (.int _)
        have c1 : ∀ lo hi, (cutD (hs'.map PyData.str) lo hi).length ≤ 10 := fun lo hi => Nat.le_trans cut_len aH.2
        refine run_asg (run_lstG (C := T.C_Course) (egs_cons (eg_makeT (Fh _ rfl) (Fc _ rfl) ed_int (carg_int _) (by decide) (by decide))
          (egs_cons (eg_make (ed_fldI (i := 8) rfl ha T.cl_Course T.na_Course_calls cf_calls (dp_df (.tup t1 (dps_strs cs')))) (ed_catT (ed_catT (ed_slT (ed_fldI (i := 8) rfl ha T.cl_Course T.na_Course_halls cf_halls (dp_df (.tup t2 (dps_strs hs')))) eo_none (eo_some (E11 _ rfl))) (ed_tup (ea_cons (ed_slT (ed_fldI (i := 8) rfl ha T.cl_Course T.na_Course_halls cf_halls (dp_df (.tup t2 (dps_strs hs')))) (eo_some (E11 _ rfl)) (eo_some (ed_add (E11 _ rfl) ed_int))) ea_nil) (by show 1 ≤ 100000; decide)) ?_) (ed_slT (ed_fldI (i := 8) rfl ha T.cl_Course T.na_Course_halls cf_halls (dp_df (.tup t2 (dps_strs hs')))) (eo_some (ed_add (E11 _ rfl) ed_int)) eo_none) ?_) ed_int (aC.carg (by decide)) (carg_tup2 ?_ ?_) (carg_int _)) egs_nil)) (by decide) fun l12 vs12 H16 s16 el12 vl12 vg12 => ?_)
        · exact Nat.le_trans (Nat.add_le_add (c1 _ _) (Nat.le_refl 1)) (by decide)
        · rw [List.length_append]; exact Nat.le_trans (Nat.add_le_add (Nat.add_le_add (c1 _ _) (Nat.le_refl 1)) (c1 _ _)) (by decide)
        · intro d hd
          rcases List.mem_append.mp hd with hd | hd
          · rcases List.mem_append.mp hd with hd | hd
            · exact okI_atom (aH.1 d (cut_mem hd))
            · rw [List.mem_singleton.mp hd]
              exact okI_tup (n := 10) ⟨fun y hy => aH.1 y (cut_mem hy), c1 _ _⟩ (by decide)
          · exact okI_atom (aH.1 d (cut_mem hd))
        · rw [List.length_append, List.length_append]; exact Nat.le_trans (Nat.add_le_add (Nat.add_le_add (c1 _ _) (Nat.le_refl 1)) (c1 _ _)) (by decide)
        clear Fh Fc E11
        replace lp := lp.same s16
        have ha := s16 _ _ ha
        have t1 := s16.stA t1
        have ehl := s16 _ _ ehl
        clear s16
        dsimp only [gName]
        refine run_asg ⟨_, rfl, ?_⟩
        refine run_lstG (C := T.C_Course) (egs_cons (eg_makeT (F := nn H16) wt_nil wt_nil ed_int (carg_int _) (by decide) (by decide))
          (egs_cons (eg_makeT (F := nn H16) wt_nil (wt_one ed_str (.inl ⟨_, rfl, gd_zz⟩)) ed_int (carg_int _) (by decide) (by decide)) egs_nil)) (by decide) fun l13 vs13 H17 s17 el13 vl13 vg13 => ?_
        refine ⟨l12, l13, _, _, rfl, rfl, s17 _ _ el12, el13, small5 (by rw [vl12, vl13]; decide), fun lm hlm => ?_⟩
        have s18 := Same.newA (o := .lst (vs12 ++ vs13)) hlm
        have vgm : ∀ v ∈ vs12 ++ vs13, VG K T.C_Course (upd H17 lm (.lst (vs12 ++ vs13))) v := fun v hv => by
          rcases List.mem_append.mp hv with hv | hv
          · exact (vg12 v hv).same (s17.trans s18)
          · exact (vg13 v hv).same s18
        have elm : (upd H17 lm (.lst (vs12 ++ vs13))) lm = some (.lst (vs12 ++ vs13)) := upd_same
        have vlm : (vs12 ++ vs13).length = 4 := by rw [List.length_append, vl12, vl13]
        have s178 := s17.trans s18
        replace lp := lp.same s178
        have ha := s178 _ _ ha
        have t1 := s178.stA t1
        have ehl := s178 _ _ ehl
        clear s178 s17 s18 vg12 vg13 vl12 vl13 el12 el13 hlm
        revert vgm elm vlm lp ha t1 ehl
        generalize upd H17 lm (.lst (vs12 ++ vs13)) = H18
        generalize vs12 ++ vs13 = vs18
        intro vgm elm vlm lp ha t1 ehl
        dsimp only [gName]
        obtain ⟨h0, hh0⟩ : ∃ x, hs[0]? = some x := ⟨hs[0]'(by omega), List.getElem?_eq_getElem (by omega)⟩
        have g0 : atomD (.str h0) := .inl ⟨h0, rfl, name_gd (nh h0 (List.mem_of_getElem? hh0))⟩
        have h0D : (hs.map PyData.str)[0]? = some (.str h0) := by rw [List.getElem?_map, hh0]; rfl
        have X4 : ∀ (σ : L2.St), σ[4]? = some (some (.ref hl')) → ED K (tOp (rIx K) (tVar 4) (tC (.int 0))) σ (nn H18) H18 (.str h0) := fun σ e => ed_ixL (j := 0) (ed_var e (dp_df (.lst (SqL.of ehl) (dps_strs hs)))) ed_int h0D
        refine ⟨_, rfl, ?_⟩
        refine run_lstG (C := T.C_Course) (egs_cons (eg_makeT (F := nn H18) wt_nil (wt_one (X4 _ rfl) g0) ed_int (carg_int _) (by decide) (by decide))
          (egs_cons (eg_makeT (F := nn H18) wt_nil (wt_one (X4 _ rfl) g0) ed_int (carg_int _) (by decide) (by decide))
          (egs_cons (eg_make (F := nn H18) ed_str (ed_tup (ea_cons ed_str (ea_cons ed_str (ea_cons ed_str ea_nil))) (by show 3 ≤ 100000; decide)) ed_int (carg_str gd_abc.1) (carg_tup ?_ (by show 3 ≤ 1000; decide)) (carg_int _))
          (egs_cons (eg_tup (F := nn H18) (d := .none) ed_non rfl rfl)
          (egs_cons (eg_tup (F := nn H18) (ed_tup ea_nil (by show 0 ≤ 100000; decide)) rfl rfl)
          (egs_cons (eg_tup (F := nn H18) ed_int rfl rfl)
          (egs_cons (eg_tup (ed_fldI (i := 8) rfl ha T.cl_Course T.na_Course_calls cf_calls (dp_df (.tup t1 (dps_strs cs')))) ?_ rfl) egs_nil))))))) (by decide) fun l19 vs19 H19 s19 el19 vl19 vg19 => ?_
        · intro d hd
          simp only [List.mem_cons, List.not_mem_nil, or_false] at hd
          rcases hd with rfl | rfl | rfl
          · exact .inl ⟨_, rfl, gd_abc.2.1⟩
          · exact .inl ⟨_, rfl, gd_abc.2.2.1⟩
          · exact .inl ⟨_, rfl, gd_abc.2.2.2⟩
        · rw [noL]; exact noLs_of fun d hd => (atom_asT (aC.1 d hd)).2.2.2
        refine ⟨lm, l19, _, _, rfl, rfl, s19 _ _ elm, el19, small5 (by rw [vlm, vl19]; decide), fun lx hlx => ?_⟩
        have s20 := Same.newA (o := .lst (vs18 ++ vs19)) hlx
        have vgx : ∀ v ∈ vs18 ++ vs19, VG K T.C_Course (upd H19 lx (.lst (vs18 ++ vs19))) v := fun v hv => by
          rcases List.mem_append.mp hv with hv | hv
          · exact (vgm v hv).same (s19.trans s20)
          · exact (vg19 v hv).same s20
        have elx : (upd H19 lx (.lst (vs18 ++ vs19))) lx = some (.lst (vs18 ++ vs19)) := upd_same
        have s190 := s19.trans s20
        replace lp := lp.same s190
        have ehl := s190 _ _ ehl
        clear s190 s19 s20 vgm vg19 vlm vl19 elm el19 hlx X4 ha t1
        revert vgx elx lp ehl
        generalize upd H19 lx (.lst (vs18 ++ vs19)) = H20
        generalize vs18 ++ vs19 = vs20
        intro vgx elx lp ehl
        refine ⟨lx, rfl, ⟨_, SqL.of elx⟩, for_list (K := K) (a := lx) (xs := vs20) (fun k σ' H' => ∃ (o7 o9 o10 o11 o12 o13 o14 : Option V), σ' = [some (.ref a), some (.ref p), o2, some (.ref cl), some (.ref hl'), some (.ref m), some (.ref b), o7, some (.ref ca), o9, o10, o11, o12, o13, o14] ∧ Same H20 H')
          ⟨_, _, _, _, _, _, _, rfl, Same.refl _⟩ (fun k σ' H' _ h => by obtain ⟨_, _, _, _, _, _, _, _, s⟩ := h; exact SqL.of (s _ _ elx)) ?_ ?_⟩
        · rintro k v σ' H' hv ⟨o7, o9, o10, o11, o12, o13, o14, rfl, sx⟩
          dsimp only [gName]
          refine run_two (j := 5) hRR (lp.same sx) ((vgx v (List.mem_of_getElem? hv)).same sx) rfl rfl rfl fun H21 s21 => ?_
          exact ⟨_, _, _, _, _, _, _, rfl, sx.trans s21⟩
        · rintro σ' H' ⟨o7, o9, o10, o11, o12, o13, o14, rfl, sx⟩
          exact ⟨_, _, _, _, _, _, _, _, _, rfl, (lp.same sx).more (by omega), sx _ _ ehl⟩
    · clear lp ehl
      rintro σ' H10 ⟨o2, o7, o8, o9, o10, o11, o12, o13, o14, rfl, lp, ehl⟩
      exact ⟨_, _, _, _, _, _, _, _, _, _, _, _, _, rfl, lp.pn.more (by omega)⟩
  · rintro σ' H' ⟨o2, o3, o4, o5, o6, o7, o8, o9, o10, o11, o12, o13, o14, rfl, P2⟩
    clear P1 s1 hs e0 lk hcd BL kIn
    dsimp only
    refine run_asg (run_ea (K := K) (F := nn H') (ds := [.list [.str ("a" : Str)], .list [.str ("x" : Str), .list [.str ("y" : Str)]], .int 1]) (ea_cons (ed_lst (ea_cons ed_str ea_nil) (by show 1 ≤ 100000; decide)) (ea_cons (ed_lst (ea_cons ed_str (ea_cons (ed_lst (ea_cons ed_str ea_nil) (by show 1 ≤ 100000; decide)) ea_nil)) (by show 2 ≤ 100000; decide)) (ea_cons ed_int ea_nil))) fun vs H3 s3 hvs => ?_)
    obtain _ | ⟨q1, hvs⟩ := hvs
    obtain _ | ⟨q2, hvs⟩ := hvs
    obtain _ | ⟨q3, hvs⟩ := hvs
    cases hvs
    intro x dx hx hdx nx
    have sx : Same H3 (upd (upd H3 dx (.own x)) x (.ins T.C_Course dx [])) := (Same.newA hdx).trans (Same.newA (by rw [upd_ne (Ne.symm nx)]; exact hx))
    refine ⟨x, dx, _, _, _, _, _, _, rfl, upd_same, dp_mono sx (df_dp q1), dp_mono sx (df_dp q2), dp_mono sx (df_dp q3), pre_1, pre_2, pre_int _, fun H4 b4 cr => ⟨rfl, ?_⟩⟩
    rw [as_1, as_2, show asT (.int 1) = .int 1 by rw [asT]] at cr
    obtain ⟨dx', u1, u2, u3, e, w1, w2, w3⟩ := cr
    dsimp only [gName]
    refine run_retand (K := K) (F := nn H4) (ed_is (ed_eqS (ed_repr (d := dShow) (ed_tup (ea_cons (ed_fldI (i := 14) rfl e T.cl_Course T.na_Course_calls cf_calls (dp_df w1)) (ea_cons (ed_fldI (i := 14) rfl e T.cl_Course T.na_Course_halls cf_halls (dp_df w2)) (ea_cons (ed_fldI (i := 14) rfl e T.cl_Course T.na_Course_ring cf_ring (dp_df w3)) ea_nil))) (by show 3 ≤ 100000; decide)) dShow_ok.1 dShow_ok.2.1 (Nat.le_trans dShow_ok.2.2 (by decide)))
      (ed_repr (d := dShow) (ed_tup (ea_cons (ed_tup (ea_cons ed_str ea_nil) (by show 1 ≤ 100000; decide)) (ea_cons (ed_tup (ea_cons ed_str (ea_cons (ed_tup (ea_cons ed_str ea_nil) (by show 1 ≤ 100000; decide)) ea_nil)) (by show 2 ≤ 100000; decide)) (ea_cons ed_int ea_nil))) (by show 3 ≤ 100000; decide)) dShow_ok.1 dShow_ok.2.1 (Nat.le_trans dShow_ok.2.2 (by decide)))) (by rw [decide_eq_true rfl])) fun H5 s5 => ?_
    refine run_notop ?_
    have cx : CArg (.tuple [.str ("x" : Str)]) := carg_tup (fun d hd => by rw [List.mem_singleton.mp hd]; exact .inl ⟨_, rfl, gd_xy.1⟩) (by show 1 ≤ 1000; decide)
    have c0 : CArg (.tuple []) := carg_tup (fun d hd => absurd hd List.not_mem_nil) (by show 0 ≤ 1000; decide)
    refine run_mk3 (K := K) (F := nn H5) (ed_tup ea_nil (by show 0 ≤ 100000; decide)) (ed_tup (ea_cons ed_str ea_nil) (by show 1 ≤ 100000; decide)) ed_int c0 cx (carg_int _) fun x1 H6 s6 f6 ⟨dx1, fs1, e1⟩ => ?_
    refine run_mk3 (K := K) (F := nn H6) (ed_tup ea_nil (by show 0 ≤ 100000; decide)) (ed_tup (ea_cons ed_str ea_nil) (by show 1 ≤ 100000; decide)) ed_int c0 cx (carg_int _) fun x2 H7 s7 f7 ⟨dx2, fs2, e2⟩ => ?_
    exact ⟨x1, x2, dx1, dx2, fs1, fs2, rfl, rfl, s7 _ _ e1, e2, ⟨(fun z => by rw [← z, e1] at f7; cases f7), false, rfl, rfl⟩⟩
end
end Ag

set_option Elab.async false
set_option linter.all false
set_option maxRecDepth 100000
set_option maxHeartbeats 0
namespace Ag
open PySem PySem.Spec PyProof.Rows L2
/-! ### a table with text keys, as written -/
def TabOf : List DictEntry → List (Str × Int) → Prop
  | [], [] => True
  | e :: r, q :: s => (∃ t u, e.key = .str q.1 t ∧ e.val = .int q.2 u) ∧ TabOf r s
  | _, _ => False
theorem tab_find : ∀ {es : List DictEntry} {kvs : List (Str × Int)} (z : Str), TabOf es kvs → es.any (·.refKey) = false ∧ ((∃ i e u, (z, i) ∈ kvs ∧ (∀ j, kvs.lookup z = some j → j = i) ∧ es.find? (·.key.isStr z) = some e ∧ e.val = .int i u) ∨ (z ∉ kvs.map (·.1) ∧ es.find? (·.key.isStr z) = none))
  | [], [], z, _ => ⟨rfl, .inr ⟨by simp, rfl⟩⟩
  | e :: r, q :: s, z, ⟨⟨t, u, h1, h2⟩, h⟩ => by
    obtain ⟨a, b⟩ := tab_find z h
    have hr : e.refKey = false := by unfold DictEntry.refKey; rw [h1]
    refine ⟨by rw [List.any_cons, hr, a]; rfl, ?_⟩
    have hs : e.key.isStr z = (q.1 == z) := by rw [h1]; rfl
    by_cases hz : q.1 = z
    · refine .inl ⟨q.2, e, u, ?_, fun j hj => ?_, ?_, h2⟩
      · rw [← hz]; exact List.mem_cons_self
      · obtain ⟨q1, q2⟩ := q
        simp only at hz; subst hz
        simp at hj; exact hj.symm
      · rw [List.find?_cons, hs, beq_iff_eq.mpr hz]
    · have hf : (q.1 == z) = false := beq_eq_false_iff_ne.mpr hz
      have hf2 : (z == q.1) = false := beq_eq_false_iff_ne.mpr fun w => hz w.symm
      rcases b with ⟨i, e2, u2, m, l, f, v⟩ | ⟨m, f⟩
      · refine .inl ⟨i, e2, u2, List.mem_cons_of_mem _ m, fun j hj => l j ?_, ?_, v⟩
        · obtain ⟨q1, q2⟩ := q
          simp only at hf2
          rw [List.lookup_cons, hf2] at hj; exact hj
        · rw [List.find?_cons, hs, hf]; exact f
      · refine .inr ⟨?_, ?_⟩
        · rw [List.map_cons, List.mem_cons]; rintro (w | w)
          · exact hz w.symm
          · exact m w
        · rw [List.find?_cons, hs, hf]; exact f
section
variable {w : World} {K : PySem.W.Frag} {a : Addr} {es : Array DictEntry} {n : Nat} {kvs : List (Str × Int)}
theorem tab_in (l : K.lookup a = some ⟨.type "dict", none, .dict es n, #[]⟩) (t : TabOf es.toList kvs) (z : Str) : ∃ r, PySem.W.nsIn K a z = some r ∧ r.isSome = decide (z ∈ kvs.map (·.1)) := by
  obtain ⟨h1, h2⟩ := tab_find z t
  unfold PySem.W.nsIn
  rw [l]
  rcases h2 with ⟨i, e, u, m, _, f, v⟩ | ⟨m, f⟩
  · refine ⟨some e.val, ?_, ?_⟩
    · simp only [f]
    · exact (decide_eq_true (List.mem_map.mpr ⟨_, m, rfl⟩)).symm
  · refine ⟨none, ?_, (decide_eq_false m).symm⟩
    simp only [f, h1]; rfl
theorem tab_at (l : K.lookup a = some ⟨.type "dict", none, .dict es n, #[]⟩) (k : PySem.W.KeysLit w.params es.toList) (t : TabOf es.toList kvs) (nd : kvs.all (fun q => kvs.lookup q.1 == some q.2) = true) (z : Str) (i : Int) (hm : (z, i) ∈ kvs) : KDct K w a z (.int i) := by
  obtain ⟨h1, h2⟩ := tab_find z t
  have hl : kvs.lookup z = some i := by simpa using List.all_eq_true.mp nd _ hm
  rcases h2 with ⟨j, e, u, m, lk, f, v⟩ | ⟨m, f⟩
  · have := lk i hl; subst this
    refine ⟨es, n, e.val, l, k, ?_, u, v⟩
    unfold PySem.W.nsIn
    rw [l]
    simp only [f]
  · exact absurd (List.mem_map.mpr ⟨_, hm, rfl⟩) m
end
theorem binds_all {K : PySem.W.Frag} {fd : FuncData} {ps : List Str} (h : ∃ ds, Vals [] ds ∧ Binds K fd ps ds) : Binds K fd ps [] := by
  obtain ⟨ds, v, b⟩ := h
  cases v
  exact b
theorem all_mk {l : PySem.W.OpenLaw} {w : World} {K : PySem.W.Frag} {q : Program} {loose : List Str} {mean : ExcName → Option Value} {mg mb : Str → Option Value} {s : Shared} {fa : Addr} (TP : PyProof.Rows.Top q (PySem.W.looseW q loose) mean mg mb s.heap) (X : K.In s.heap)
    (hfa : mg "law" = some (.ref fa))
    {f0 : Addr} {od0 an0 : Option Addr} {sl0 : Array (Option Value)} {oc0 kV0 dc0 pm0 cd0 ct0 : Value}
    {f1 : Addr} {od1 an1 : Option Addr} {sl1 : Array (Option Value)} {oc1 kV1 dc1 pm1 cd1 ct1 : Value}
    {dt1 : Addr} {odt1 : Option Addr} {nt1 : Nat} {slt1 : Array (Option Value)}
    {f2 : Addr} {od2 an2 : Option Addr} {sl2 : Array (Option Value)} {oc2 kV2 dc2 pm2 cd2 ct2 : Value}
    {f3 : Addr} {od3 an3 : Option Addr} {sl3 : Array (Option Value)} {oc3 kV3 dc3 pm3 cd3 ct3 : Value}
    {f4 : Addr} {od4 an4 : Option Addr} {sl4 : Array (Option Value)} {oc4 kV4 dc4 pm4 cd4 ct4 : Value}
    {f5 : Addr} {od5 an5 : Option Addr} {sl5 : Array (Option Value)} {oc5 kV5 dc5 pm5 cd5 ct5 : Value}
    {f6 : Addr} {od6 an6 : Option Addr} {sl6 : Array (Option Value)} {oc6 kV6 dc6 pm6 cd6 ct6 : Value}
    {f7 : Addr} {od7 an7 : Option Addr} {sl7 : Array (Option Value)} {oc7 kV7 dc7 pm7 cd7 ct7 : Value}
    {f8 : Addr} {od8 an8 : Option Addr} {sl8 : Array (Option Value)} {oc8 kV8 dc8 pm8 cd8 ct8 : Value}
    {f9 : Addr} {od9 an9 : Option Addr} {sl9 : Array (Option Value)} {oc9 kV9 dc9 pm9 cd9 ct9 : Value}
    {f10 : Addr} {od10 an10 : Option Addr} {sl10 : Array (Option Value)} {oc10 kV10 dc10 pm10 cd10 ct10 : Value}
    {f11 : Addr} {od11 an11 : Option Addr} {sl11 : Array (Option Value)} {oc11 kV11 dc11 pm11 cd11 ct11 : Value}
    {f12 : Addr} {od12 an12 : Option Addr} {sl12 : Array (Option Value)} {oc12 kV12 dc12 pm12 cd12 ct12 : Value}
    {f13 : Addr} {od13 an13 : Option Addr} {sl13 : Array (Option Value)} {oc13 kV13 dc13 pm13 cd13 ct13 : Value}
    {f14 : Addr} {od14 an14 : Option Addr} {sl14 : Array (Option Value)} {oc14 kV14 dc14 pm14 cd14 ct14 : Value}
    {f15 : Addr} {od15 an15 : Option Addr} {sl15 : Array (Option Value)} {oc15 kV15 dc15 pm15 cd15 ct15 : Value}
    {f16 : Addr} {od16 an16 : Option Addr} {sl16 : Array (Option Value)} {oc16 kV16 dc16 pm16 cd16 ct16 : Value}
    {f17 : Addr} {od17 an17 : Option Addr} {sl17 : Array (Option Value)} {oc17 kV17 dc17 pm17 cd17 ct17 : Value}
    {f18 : Addr} {od18 an18 : Option Addr} {sl18 : Array (Option Value)} {oc18 kV18 dc18 pm18 cd18 ct18 : Value}
    {f19 : Addr} {od19 an19 : Option Addr} {sl19 : Array (Option Value)} {oc19 kV19 dc19 pm19 cd19 ct19 : Value}
    {f20 : Addr} {od20 an20 : Option Addr} {sl20 : Array (Option Value)} {oc20 kV20 dc20 pm20 cd20 ct20 : Value}
    {f21 : Addr} {od21 an21 : Option Addr} {sl21 : Array (Option Value)} {oc21 kV21 dc21 pm21 cd21 ct21 : Value}
    {f22 : Addr} {od22 an22 : Option Addr} {sl22 : Array (Option Value)} {oc22 kV22 dc22 pm22 cd22 ct22 : Value}
    {f23 : Addr} {od23 an23 : Option Addr} {sl23 : Array (Option Value)} {oc23 kV23 dc23 pm23 cd23 ct23 : Value}
    {f24 : Addr} {od24 an24 : Option Addr} {sl24 : Array (Option Value)} {oc24 kV24 dc24 pm24 cd24 ct24 : Value}
    {f25 : Addr} {od25 an25 : Option Addr} {sl25 : Array (Option Value)} {oc25 kV25 dc25 pm25 cd25 ct25 : Value}
    {f26 : Addr} {od26 an26 : Option Addr} {sl26 : Array (Option Value)} {oc26 kV26 dc26 pm26 cd26 ct26 : Value}
    {f27 : Addr} {od27 an27 : Option Addr} {sl27 : Array (Option Value)} {oc27 kV27 dc27 pm27 cd27 ct27 : Value}
    {CAgainError : Addr}
    {CBadRow : Addr}
    {fBadRow0 : Addr} {odBadRow0 anBadRow0 : Option Addr} {slBadRow0 : Array (Option Value)} {ocBadRow0 kVBadRow0 dcBadRow0 pmBadRow0 cdBadRow0 ctBadRow0 : Value}
    {CServer : Addr}
    {fServer0 : Addr} {odServer0 anServer0 : Option Addr} {slServer0 : Array (Option Value)} {ocServer0 kVServer0 dcServer0 pmServer0 cdServer0 ctServer0 : Value}
    {fServer1 : Addr} {odServer1 anServer1 : Option Addr} {slServer1 : Array (Option Value)} {ocServer1 kVServer1 dcServer1 pmServer1 cdServer1 ctServer1 : Value}
    {fServer2 : Addr} {odServer2 anServer2 : Option Addr} {slServer2 : Array (Option Value)} {ocServer2 kVServer2 dcServer2 pmServer2 cdServer2 ctServer2 : Value}
    {fServer3 : Addr} {odServer3 anServer3 : Option Addr} {slServer3 : Array (Option Value)} {ocServer3 kVServer3 dcServer3 pmServer3 cdServer3 ctServer3 : Value}
    {fServer4 : Addr} {odServer4 anServer4 : Option Addr} {slServer4 : Array (Option Value)} {ocServer4 kVServer4 dcServer4 pmServer4 cdServer4 ctServer4 : Value}
    {fServer5 : Addr} {odServer5 anServer5 : Option Addr} {slServer5 : Array (Option Value)} {ocServer5 kVServer5 dcServer5 pmServer5 cdServer5 ctServer5 : Value}
    {fServer6 : Addr} {odServer6 anServer6 : Option Addr} {slServer6 : Array (Option Value)} {ocServer6 kVServer6 dcServer6 pmServer6 cdServer6 ctServer6 : Value}
    {fServer7 : Addr} {odServer7 anServer7 : Option Addr} {slServer7 : Array (Option Value)} {ocServer7 kVServer7 dcServer7 pmServer7 cdServer7 ctServer7 : Value}
    {fServer8 : Addr} {odServer8 anServer8 : Option Addr} {slServer8 : Array (Option Value)} {ocServer8 kVServer8 dcServer8 pmServer8 cdServer8 ctServer8 : Value}
    {fServer9 : Addr} {odServer9 anServer9 : Option Addr} {slServer9 : Array (Option Value)} {ocServer9 kVServer9 dcServer9 pmServer9 cdServer9 ctServer9 : Value}
    {fServer10 : Addr} {odServer10 anServer10 : Option Addr} {slServer10 : Array (Option Value)} {ocServer10 kVServer10 dcServer10 pmServer10 cdServer10 ctServer10 : Value}
    {fServer11 : Addr} {odServer11 anServer11 : Option Addr} {slServer11 : Array (Option Value)} {ocServer11 kVServer11 dcServer11 pmServer11 cdServer11 ctServer11 : Value}
    {CCourse : Addr}
    {fCourse0 : Addr} {odCourse0 anCourse0 : Option Addr} {slCourse0 : Array (Option Value)} {ocCourse0 kVCourse0 dcCourse0 pmCourse0 cdCourse0 ctCourse0 : Value}
    {tFIGURES : Tok}
    {tLETTERS : Tok}
    (a0 : PySem.W.nsIn K mainGlobals "_wall" = some (some (.ref f0)))
    (l0 : K.lookup f0 = some ⟨oc0, od0, .func (PySem.W.fnOf "_wall" "_wall" (defArgs s_wall) (defBody s_wall) (defScope s_wall) .none kV0 dc0 pm0 an0 cd0 ct0), sl0⟩)
    (c0 : PySem.W.codeIn K cd0 "_wall" = true)
    (k0 : PySem.W.keepIn K (.ref f0) = true)
    (a1 : PySem.W.nsIn K mainGlobals "is_whole" = some (some (.ref f1)))
    (l1 : K.lookup f1 = some ⟨oc1, od1, .func (PySem.W.fnOf "is_whole" "is_whole" (defArgs s_is_whole) (defBody s_is_whole) (defScope s_is_whole) (.ref dt1) kV1 dc1 pm1 an1 cd1 ct1), sl1⟩)
    (c1 : PySem.W.codeIn K cd1 "is_whole" = true)
    (k1 : PySem.W.keepIn K (.ref f1) = true)
    (m1 : K.lookup dt1 = some ⟨.type "tuple", odt1, .seq #[.none] nt1, slt1⟩)
    (a2 : PySem.W.nsIn K mainGlobals "as_tuples" = some (some (.ref f2)))
    (l2 : K.lookup f2 = some ⟨oc2, od2, .func (PySem.W.fnOf "as_tuples" "as_tuples" (defArgs s_as_tuples) (defBody s_as_tuples) (defScope s_as_tuples) .none kV2 dc2 pm2 an2 cd2 ct2), sl2⟩)
    (c2 : PySem.W.codeIn K cd2 "as_tuples" = true)
    (k2 : PySem.W.keepIn K (.ref f2) = true)
    (a3 : PySem.W.nsIn K mainGlobals "ascending" = some (some (.ref f3)))
    (l3 : K.lookup f3 = some ⟨oc3, od3, .func (PySem.W.fnOf "ascending" "ascending" (defArgs s_ascending) (defBody s_ascending) (defScope s_ascending) .none kV3 dc3 pm3 an3 cd3 ct3), sl3⟩)
    (c3 : PySem.W.codeIn K cd3 "ascending" = true)
    (k3 : PySem.W.keepIn K (.ref f3) = true)
    (a4 : PySem.W.nsIn K mainGlobals "is_name" = some (some (.ref f4)))
    (l4 : K.lookup f4 = some ⟨oc4, od4, .func (PySem.W.fnOf "is_name" "is_name" (defArgs s_is_name) (defBody s_is_name) (defScope s_is_name) .none kV4 dc4 pm4 an4 cd4 ct4), sl4⟩)
    (c4 : PySem.W.codeIn K cd4 "is_name" = true)
    (k4 : PySem.W.keepIn K (.ref f4) = true)
    (a5 : PySem.W.nsIn K mainGlobals "is_row" = some (some (.ref f5)))
    (l5 : K.lookup f5 = some ⟨oc5, od5, .func (PySem.W.fnOf "is_row" "is_row" (defArgs s_is_row) (defBody s_is_row) (defScope s_is_row) .none kV5 dc5 pm5 an5 cd5 ct5), sl5⟩)
    (c5 : PySem.W.codeIn K cd5 "is_row" = true)
    (k5 : PySem.W.keepIn K (.ref f5) = true)
    (a6 : PySem.W.nsIn K mainGlobals "need_rows" = some (some (.ref f6)))
    (l6 : K.lookup f6 = some ⟨oc6, od6, .func (PySem.W.fnOf "need_rows" "need_rows" (defArgs s_need_rows) (defBody s_need_rows) (defScope s_need_rows) .none kV6 dc6 pm6 an6 cd6 ct6), sl6⟩)
    (c6 : PySem.W.codeIn K cd6 "need_rows" = true)
    (k6 : PySem.W.keepIn K (.ref f6) = true)
    (a7 : PySem.W.nsIn K mainGlobals "are_words" = some (some (.ref f7)))
    (l7 : K.lookup f7 = some ⟨oc7, od7, .func (PySem.W.fnOf "are_words" "are_words" (defArgs s_are_words) (defBody s_are_words) (defScope s_are_words) .none kV7 dc7 pm7 an7 cd7 ct7), sl7⟩)
    (c7 : PySem.W.codeIn K cd7 "are_words" = true)
    (k7 : PySem.W.keepIn K (.ref f7) = true)
    (a8 : PySem.W.nsIn K mainGlobals "is_course" = some (some (.ref f8)))
    (l8 : K.lookup f8 = some ⟨oc8, od8, .func (PySem.W.fnOf "is_course" "is_course" (defArgs s_is_course) (defBody s_is_course) (defScope s_is_course) .none kV8 dc8 pm8 an8 cd8 ct8), sl8⟩)
    (c8 : PySem.W.codeIn K cd8 "is_course" = true)
    (k8 : PySem.W.keepIn K (.ref f8) = true)
    (a9 : PySem.W.nsIn K mainGlobals "_law_pen" = some (some (.ref f9)))
    (l9 : K.lookup f9 = some ⟨oc9, od9, .func (PySem.W.fnOf "_law_pen" "_law_pen" (defArgs s_law_pen) (defBody s_law_pen) (defScope s_law_pen) .none kV9 dc9 pm9 an9 cd9 ct9), sl9⟩)
    (c9 : PySem.W.codeIn K cd9 "_law_pen" = true)
    (k9 : PySem.W.keepIn K (.ref f9) = true)
    (a10 : PySem.W.nsIn K mainGlobals "_law_draw" = some (some (.ref f10)))
    (l10 : K.lookup f10 = some ⟨oc10, od10, .func (PySem.W.fnOf "_law_draw" "_law_draw" (defArgs s_law_draw) (defBody s_law_draw) (defScope s_law_draw) .none kV10 dc10 pm10 an10 cd10 ct10), sl10⟩)
    (c10 : PySem.W.codeIn K cd10 "_law_draw" = true)
    (k10 : PySem.W.keepIn K (.ref f10) = true)
    (a11 : PySem.W.nsIn K mainGlobals "_law_pick" = some (some (.ref f11)))
    (l11 : K.lookup f11 = some ⟨oc11, od11, .func (PySem.W.fnOf "_law_pick" "_law_pick" (defArgs s_law_pick) (defBody s_law_pick) (defScope s_law_pick) .none kV11 dc11 pm11 an11 cd11 ct11), sl11⟩)
    (c11 : PySem.W.codeIn K cd11 "_law_pick" = true)
    (k11 : PySem.W.keepIn K (.ref f11) = true)
    (a12 : PySem.W.nsIn K mainGlobals "_law_shuffled" = some (some (.ref f12)))
    (l12 : K.lookup f12 = some ⟨oc12, od12, .func (PySem.W.fnOf "_law_shuffled" "_law_shuffled" (defArgs s_law_shuffled) (defBody s_law_shuffled) (defScope s_law_shuffled) .none kV12 dc12 pm12 an12 cd12 ct12), sl12⟩)
    (c12 : PySem.W.codeIn K cd12 "_law_shuffled" = true)
    (k12 : PySem.W.keepIn K (.ref f12) = true)
    (a13 : PySem.W.nsIn K mainGlobals "_law_some" = some (some (.ref f13)))
    (l13 : K.lookup f13 = some ⟨oc13, od13, .func (PySem.W.fnOf "_law_some" "_law_some" (defArgs s_law_some) (defBody s_law_some) (defScope s_law_some) .none kV13 dc13 pm13 an13 cd13 ct13), sl13⟩)
    (c13 : PySem.W.codeIn K cd13 "_law_some" = true)
    (k13 : PySem.W.keepIn K (.ref f13) = true)
    (a14 : PySem.W.nsIn K mainGlobals "_law_name" = some (some (.ref f14)))
    (l14 : K.lookup f14 = some ⟨oc14, od14, .func (PySem.W.fnOf "_law_name" "_law_name" (defArgs s_law_name) (defBody s_law_name) (defScope s_law_name) .none kV14 dc14 pm14 an14 cd14 ct14), sl14⟩)
    (c14 : PySem.W.codeIn K cd14 "_law_name" = true)
    (k14 : PySem.W.keepIn K (.ref f14) = true)
    (a15 : PySem.W.nsIn K mainGlobals "_law_names" = some (some (.ref f15)))
    (l15 : K.lookup f15 = some ⟨oc15, od15, .func (PySem.W.fnOf "_law_names" "_law_names" (defArgs s_law_names) (defBody s_law_names) (defScope s_law_names) .none kV15 dc15 pm15 an15 cd15 ct15), sl15⟩)
    (c15 : PySem.W.codeIn K cd15 "_law_names" = true)
    (k15 : PySem.W.keepIn K (.ref f15) = true)
    (a16 : PySem.W.nsIn K mainGlobals "_law_mixed" = some (some (.ref f16)))
    (l16 : K.lookup f16 = some ⟨oc16, od16, .func (PySem.W.fnOf "_law_mixed" "_law_mixed" (defArgs s_law_mixed) (defBody s_law_mixed) (defScope s_law_mixed) .none kV16 dc16 pm16 an16 cd16 ct16), sl16⟩)
    (c16 : PySem.W.codeIn K cd16 "_law_mixed" = true)
    (k16 : PySem.W.keepIn K (.ref f16) = true)
    (a17 : PySem.W.nsIn K mainGlobals "_law_same" = some (some (.ref f17)))
    (l17 : K.lookup f17 = some ⟨oc17, od17, .func (PySem.W.fnOf "_law_same" "_law_same" (defArgs s_law_same) (defBody s_law_same) (defScope s_law_same) .none kV17 dc17 pm17 an17 cd17 ct17), sl17⟩)
    (c17 : PySem.W.codeIn K cd17 "_law_same" = true)
    (k17 : PySem.W.keepIn K (.ref f17) = true)
    (a18 : PySem.W.nsIn K mainGlobals "_law_is_whole" = some (some (.ref f18)))
    (l18 : K.lookup f18 = some ⟨oc18, od18, .func (PySem.W.fnOf "_law_is_whole" "_law_is_whole" (defArgs s_law_is_whole) (defBody s_law_is_whole) (defScope s_law_is_whole) .none kV18 dc18 pm18 an18 cd18 ct18), sl18⟩)
    (c18 : PySem.W.codeIn K cd18 "_law_is_whole" = true)
    (k18 : PySem.W.keepIn K (.ref f18) = true)
    (a19 : PySem.W.nsIn K mainGlobals "_law_server_of" = some (some (.ref f19)))
    (l19 : K.lookup f19 = some ⟨oc19, od19, .func (PySem.W.fnOf "_law_server_of" "_law_server_of" (defArgs s_law_server_of) (defBody s_law_server_of) (defScope s_law_server_of) .none kV19 dc19 pm19 an19 cd19 ct19), sl19⟩)
    (c19 : PySem.W.codeIn K cd19 "_law_server_of" = true)
    (k19 : PySem.W.keepIn K (.ref f19) = true)
    (a20 : PySem.W.nsIn K mainGlobals "_law_some_server" = some (some (.ref f20)))
    (l20 : K.lookup f20 = some ⟨oc20, od20, .func (PySem.W.fnOf "_law_some_server" "_law_some_server" (defArgs s_law_some_server) (defBody s_law_some_server) (defScope s_law_some_server) .none kV20 dc20 pm20 an20 cd20 ct20), sl20⟩)
    (c20 : PySem.W.codeIn K cd20 "_law_some_server" = true)
    (k20 : PySem.W.keepIn K (.ref f20) = true)
    (a21 : PySem.W.nsIn K mainGlobals "_law_made_server" = some (some (.ref f21)))
    (l21 : K.lookup f21 = some ⟨oc21, od21, .func (PySem.W.fnOf "_law_made_server" "_law_made_server" (defArgs s_law_made_server) (defBody s_law_made_server) (defScope s_law_made_server) .none kV21 dc21 pm21 an21 cd21 ct21), sl21⟩)
    (c21 : PySem.W.codeIn K cd21 "_law_made_server" = true)
    (k21 : PySem.W.keepIn K (.ref f21) = true)
    (a22 : PySem.W.nsIn K mainGlobals "_law_calls_at" = some (some (.ref f22)))
    (l22 : K.lookup f22 = some ⟨oc22, od22, .func (PySem.W.fnOf "_law_calls_at" "_law_calls_at" (defArgs s_law_calls_at) (defBody s_law_calls_at) (defScope s_law_calls_at) .none kV22 dc22 pm22 an22 cd22 ct22), sl22⟩)
    (c22 : PySem.W.codeIn K cd22 "_law_calls_at" = true)
    (k22 : PySem.W.keepIn K (.ref f22) = true)
    (a23 : PySem.W.nsIn K mainGlobals "_law_is_name" = some (some (.ref f23)))
    (l23 : K.lookup f23 = some ⟨oc23, od23, .func (PySem.W.fnOf "_law_is_name" "_law_is_name" (defArgs s_law_is_name) (defBody s_law_is_name) (defScope s_law_is_name) .none kV23 dc23 pm23 an23 cd23 ct23), sl23⟩)
    (c23 : PySem.W.codeIn K cd23 "_law_is_name" = true)
    (k23 : PySem.W.keepIn K (.ref f23) = true)
    (a24 : PySem.W.nsIn K mainGlobals "_law_is_course" = some (some (.ref f24)))
    (l24 : K.lookup f24 = some ⟨oc24, od24, .func (PySem.W.fnOf "_law_is_course" "_law_is_course" (defArgs s_law_is_course) (defBody s_law_is_course) (defScope s_law_is_course) .none kV24 dc24 pm24 an24 cd24 ct24), sl24⟩)
    (c24 : PySem.W.codeIn K cd24 "_law_is_course" = true)
    (k24 : PySem.W.keepIn K (.ref f24) = true)
    (a25 : PySem.W.nsIn K mainGlobals "_law_bent_course" = some (some (.ref f25)))
    (l25 : K.lookup f25 = some ⟨oc25, od25, .func (PySem.W.fnOf "_law_bent_course" "_law_bent_course" (defArgs s_law_bent_course) (defBody s_law_bent_course) (defScope s_law_bent_course) .none kV25 dc25 pm25 an25 cd25 ct25), sl25⟩)
    (c25 : PySem.W.codeIn K cd25 "_law_bent_course" = true)
    (k25 : PySem.W.keepIn K (.ref f25) = true)
    (a26 : PySem.W.nsIn K mainGlobals "_law_some_course" = some (some (.ref f26)))
    (l26 : K.lookup f26 = some ⟨oc26, od26, .func (PySem.W.fnOf "_law_some_course" "_law_some_course" (defArgs s_law_some_course) (defBody s_law_some_course) (defScope s_law_some_course) .none kV26 dc26 pm26 an26 cd26 ct26), sl26⟩)
    (c26 : PySem.W.codeIn K cd26 "_law_some_course" = true)
    (k26 : PySem.W.keepIn K (.ref f26) = true)
    (a27 : PySem.W.nsIn K mainGlobals "law" = some (some (.ref f27)))
    (l27 : K.lookup f27 = some ⟨oc27, od27, .func (PySem.W.fnOf "law" "law" (defArgs s_law) (defBody s_law) (defScope s_law) .none kV27 dc27 pm27 an27 cd27 ct27), sl27⟩)
    (c27 : PySem.W.codeIn K cd27 "law" = true)
    (k27 : PySem.W.keepIn K (.ref f27) = true)
    (gAgainError : PySem.W.nsIn K mainGlobals "AgainError" = some (some (.ref CAgainError)))
    (saAgainError : PySem.W.findIn K (.ref CAgainError) "__setattr__" = some (some (.builtin "object.__setattr__")))
    (kcAgainError : PySem.W.keepIn K (.ref CAgainError) = true)
    (hdAgainError : PySem.W.hasDictIn K CAgainError = true)
    (gaAgainError : PySem.W.findIn K (.ref CAgainError) "__getattribute__" = some (some (.builtin "BaseException.__getattribute__")))
    (ggAgainError : PySem.W.findIn K (.ref CAgainError) "__getattr__" = some none)
    (exAgainError : PySem.W.subIn K (.ref CAgainError) (.type "BaseException") = some true)
    (tyAgainError : PySem.W.typeIn K (.ref CAgainError) = some (.type "type"))
    (sbAgainError : PySem.W.subIn K (.ref CAgainError) (.ref CAgainError) = some true)
    (xlAgainError : ∃ nm q N bs bm sn sub ab col dd k0 k1 k2 k3 k5, K.lookup CAgainError = some (excClassObj nm q CAgainError N bs bm true sn sub ab col dd k0 k1 k2 k3 k5 "ValueError.__new__") ∧ PySem.HandSPX.refsVE bm = true)
    (gBadRow : PySem.W.nsIn K mainGlobals "BadRow" = some (some (.ref CBadRow)))
    (aBadRow0 : PySem.W.findIn K (.ref CBadRow) "__init__" = some (some (.ref fBadRow0)))
    (lBadRow0 : K.lookup fBadRow0 = some ⟨ocBadRow0, odBadRow0, .func (PySem.W.fnOf "__init__" "BadRow.__init__" (defArgs s_BadRow___init__) (defBody s_BadRow___init__) (defScope s_BadRow___init__) .none kVBadRow0 dcBadRow0 pmBadRow0 anBadRow0 cdBadRow0 ctBadRow0), slBadRow0⟩)
    (cBadRow0 : PySem.W.codeIn K cdBadRow0 "BadRow.__init__" = true)
    (kBadRow0 : PySem.W.keepIn K (.ref fBadRow0) = true)
    (tBadRow0 : PySem.W.typeIn K (.ref fBadRow0) = some (.type "function"))
    (nBadRowwhat : PySem.W.findIn K (.ref CBadRow) "what" = some none)
    (nBadRowrow : PySem.W.findIn K (.ref CBadRow) "row" = some none)
    (saBadRow : PySem.W.findIn K (.ref CBadRow) "__setattr__" = some (some (.builtin "object.__setattr__")))
    (kcBadRow : PySem.W.keepIn K (.ref CBadRow) = true)
    (hdBadRow : PySem.W.hasDictIn K CBadRow = true)
    (gaBadRow : PySem.W.findIn K (.ref CBadRow) "__getattribute__" = some (some (.builtin "BaseException.__getattribute__")))
    (ggBadRow : PySem.W.findIn K (.ref CBadRow) "__getattr__" = some none)
    (exBadRow : PySem.W.subIn K (.ref CBadRow) (.type "BaseException") = some true)
    (tyBadRow : PySem.W.typeIn K (.ref CBadRow) = some (.type "type"))
    (sbBadRow : PySem.W.subIn K (.ref CBadRow) (.ref CBadRow) = some true)
    (xlBadRow : ∃ nm q N bs bm sn sub ab col dd k0 k1 k2 k3 k5, K.lookup CBadRow = some (excClassObj nm q CBadRow N bs bm true sn sub ab col dd k0 k1 k2 k3 k5 "ValueError.__new__") ∧ PySem.HandSPX.refsVE bm = true)
    (gServer : PySem.W.nsIn K mainGlobals "Server" = some (some (.ref CServer)))
    (aServer0 : PySem.W.findIn K (.ref CServer) "__init__" = some (some (.ref fServer0)))
    (lServer0 : K.lookup fServer0 = some ⟨ocServer0, odServer0, .func (PySem.W.fnOf "__init__" "Server.__init__" (defArgs s_Server___init__) (defBody s_Server___init__) (defScope s_Server___init__) .none kVServer0 dcServer0 pmServer0 anServer0 cdServer0 ctServer0), slServer0⟩)
    (cServer0 : PySem.W.codeIn K cdServer0 "Server.__init__" = true)
    (kServer0 : PySem.W.keepIn K (.ref fServer0) = true)
    (iServer0 : PySem.W.isFn K (.ref fServer0) = true)
    (aServer1 : PySem.W.findIn K (.ref CServer) "__eq__" = some (some (.ref fServer1)))
    (lServer1 : K.lookup fServer1 = some ⟨ocServer1, odServer1, .func (PySem.W.fnOf "__eq__" "Server.__eq__" (defArgs s_Server___eq__) (defBody s_Server___eq__) (defScope s_Server___eq__) .none kVServer1 dcServer1 pmServer1 anServer1 cdServer1 ctServer1), slServer1⟩)
    (cServer1 : PySem.W.codeIn K cdServer1 "Server.__eq__" = true)
    (kServer1 : PySem.W.keepIn K (.ref fServer1) = true)
    (iServer1 : PySem.W.isFn K (.ref fServer1) = true)
    (aServer2 : PySem.W.findIn K (.ref CServer) "__len__" = some (some (.ref fServer2)))
    (lServer2 : K.lookup fServer2 = some ⟨ocServer2, odServer2, .func (PySem.W.fnOf "__len__" "Server.__len__" (defArgs s_Server___len__) (defBody s_Server___len__) (defScope s_Server___len__) .none kVServer2 dcServer2 pmServer2 anServer2 cdServer2 ctServer2), slServer2⟩)
    (cServer2 : PySem.W.codeIn K cdServer2 "Server.__len__" = true)
    (kServer2 : PySem.W.keepIn K (.ref fServer2) = true)
    (iServer2 : PySem.W.isFn K (.ref fServer2) = true)
    (aServer3 : PySem.W.findIn K (.ref CServer) "__contains__" = some (some (.ref fServer3)))
    (lServer3 : K.lookup fServer3 = some ⟨ocServer3, odServer3, .func (PySem.W.fnOf "__contains__" "Server.__contains__" (defArgs s_Server___contains__) (defBody s_Server___contains__) (defScope s_Server___contains__) .none kVServer3 dcServer3 pmServer3 anServer3 cdServer3 ctServer3), slServer3⟩)
    (cServer3 : PySem.W.codeIn K cdServer3 "Server.__contains__" = true)
    (kServer3 : PySem.W.keepIn K (.ref fServer3) = true)
    (iServer3 : PySem.W.isFn K (.ref fServer3) = true)
    (aServer4 : PySem.W.findIn K (.ref CServer) "__add__" = some (some (.ref fServer4)))
    (lServer4 : K.lookup fServer4 = some ⟨ocServer4, odServer4, .func (PySem.W.fnOf "__add__" "Server.__add__" (defArgs s_Server___add__) (defBody s_Server___add__) (defScope s_Server___add__) .none kVServer4 dcServer4 pmServer4 anServer4 cdServer4 ctServer4), slServer4⟩)
    (cServer4 : PySem.W.codeIn K cdServer4 "Server.__add__" = true)
    (kServer4 : PySem.W.keepIn K (.ref fServer4) = true)
    (iServer4 : PySem.W.isFn K (.ref fServer4) = true)
    (aServer5 : PySem.W.findIn K (.ref CServer) "__sub__" = some (some (.ref fServer5)))
    (lServer5 : K.lookup fServer5 = some ⟨ocServer5, odServer5, .func (PySem.W.fnOf "__sub__" "Server.__sub__" (defArgs s_Server___sub__) (defBody s_Server___sub__) (defScope s_Server___sub__) .none kVServer5 dcServer5 pmServer5 anServer5 cdServer5 ctServer5), slServer5⟩)
    (cServer5 : PySem.W.codeIn K cdServer5 "Server.__sub__" = true)
    (kServer5 : PySem.W.keepIn K (.ref fServer5) = true)
    (iServer5 : PySem.W.isFn K (.ref fServer5) = true)
    (aServer6 : PySem.W.findIn K (.ref CServer) "__or__" = some (some (.ref fServer6)))
    (lServer6 : K.lookup fServer6 = some ⟨ocServer6, odServer6, .func (PySem.W.fnOf "__or__" "Server.__or__" (defArgs s_Server___or__) (defBody s_Server___or__) (defScope s_Server___or__) .none kVServer6 dcServer6 pmServer6 anServer6 cdServer6 ctServer6), slServer6⟩)
    (cServer6 : PySem.W.codeIn K cdServer6 "Server.__or__" = true)
    (kServer6 : PySem.W.keepIn K (.ref fServer6) = true)
    (iServer6 : PySem.W.isFn K (.ref fServer6) = true)
    (aServer7 : PySem.W.findIn K (.ref CServer) "answers" = some (some (.ref fServer7)))
    (lServer7 : K.lookup fServer7 = some ⟨ocServer7, odServer7, .func (PySem.W.fnOf "answers" "Server.answers" (defArgs s_Server_answers) (defBody s_Server_answers) (defScope s_Server_answers) .none kVServer7 dcServer7 pmServer7 anServer7 cdServer7 ctServer7), slServer7⟩)
    (cServer7 : PySem.W.codeIn K cdServer7 "Server.answers" = true)
    (kServer7 : PySem.W.keepIn K (.ref fServer7) = true)
    (iServer7 : PySem.W.isFn K (.ref fServer7) = true)
    (aServer8 : PySem.W.findIn K (.ref CServer) "known" = some (some (.ref fServer8)))
    (lServer8 : K.lookup fServer8 = some ⟨ocServer8, odServer8, .func (PySem.W.fnOf "known" "Server.known" (defArgs s_Server_known) (defBody s_Server_known) (defScope s_Server_known) .none kVServer8 dcServer8 pmServer8 anServer8 cdServer8 ctServer8), slServer8⟩)
    (cServer8 : PySem.W.codeIn K cdServer8 "Server.known" = true)
    (kServer8 : PySem.W.keepIn K (.ref fServer8) = true)
    (iServer8 : PySem.W.isFn K (.ref fServer8) = true)
    (aServer9 : PySem.W.findIn K (.ref CServer) "halls" = some (some (.ref fServer9)))
    (lServer9 : K.lookup fServer9 = some ⟨ocServer9, odServer9, .func (PySem.W.fnOf "halls" "Server.halls" (defArgs s_Server_halls) (defBody s_Server_halls) (defScope s_Server_halls) .none kVServer9 dcServer9 pmServer9 anServer9 cdServer9 ctServer9), slServer9⟩)
    (cServer9 : PySem.W.codeIn K cdServer9 "Server.halls" = true)
    (kServer9 : PySem.W.keepIn K (.ref fServer9) = true)
    (iServer9 : PySem.W.isFn K (.ref fServer9) = true)
    (aServer10 : PySem.W.findIn K (.ref CServer) "calls" = some (some (.ref fServer10)))
    (lServer10 : K.lookup fServer10 = some ⟨ocServer10, odServer10, .func (PySem.W.fnOf "calls" "Server.calls" (defArgs s_Server_calls) (defBody s_Server_calls) (defScope s_Server_calls) .none kVServer10 dcServer10 pmServer10 anServer10 cdServer10 ctServer10), slServer10⟩)
    (cServer10 : PySem.W.codeIn K cdServer10 "Server.calls" = true)
    (kServer10 : PySem.W.keepIn K (.ref fServer10) = true)
    (iServer10 : PySem.W.isFn K (.ref fServer10) = true)
    (aServer11 : PySem.W.findIn K (.ref CServer) "doubts" = some (some (.ref fServer11)))
    (lServer11 : K.lookup fServer11 = some ⟨ocServer11, odServer11, .func (PySem.W.fnOf "doubts" "Server.doubts" (defArgs s_Server_doubts) (defBody s_Server_doubts) (defScope s_Server_doubts) .none kVServer11 dcServer11 pmServer11 anServer11 cdServer11 ctServer11), slServer11⟩)
    (cServer11 : PySem.W.codeIn K cdServer11 "Server.doubts" = true)
    (kServer11 : PySem.W.keepIn K (.ref fServer11) = true)
    (iServer11 : PySem.W.isFn K (.ref fServer11) = true)
    (nServerrows : PySem.W.findIn K (.ref CServer) "rows" = some none)
    (nServer_answers : PySem.W.findIn K (.ref CServer) "_answers" = some none)
    (nServer_known : PySem.W.findIn K (.ref CServer) "_known" = some none)
    (saServer : PySem.W.findIn K (.ref CServer) "__setattr__" = some (some (.builtin "object.__setattr__")))
    (kcServer : PySem.W.keepIn K (.ref CServer) = true)
    (hdServer : PySem.W.hasDictIn K CServer = true)
    (pgServer : PySem.W.plainGet K CServer Str.empty = true)
    (poServer : PySem.W.plainOver K CServer = true)
    (miServer : PySem.W.makesIn K CServer = true)
    (gCourse : PySem.W.nsIn K mainGlobals "Course" = some (some (.ref CCourse)))
    (aCourse0 : PySem.W.findIn K (.ref CCourse) "__init__" = some (some (.ref fCourse0)))
    (lCourse0 : K.lookup fCourse0 = some ⟨ocCourse0, odCourse0, .func (PySem.W.fnOf "__init__" "Course.__init__" (defArgs s_Course___init__) (defBody s_Course___init__) (defScope s_Course___init__) .none kVCourse0 dcCourse0 pmCourse0 anCourse0 cdCourse0 ctCourse0), slCourse0⟩)
    (cCourse0 : PySem.W.codeIn K cdCourse0 "Course.__init__" = true)
    (kCourse0 : PySem.W.keepIn K (.ref fCourse0) = true)
    (iCourse0 : PySem.W.isFn K (.ref fCourse0) = true)
    (nCoursecalls : PySem.W.findIn K (.ref CCourse) "calls" = some none)
    (nCoursehalls : PySem.W.findIn K (.ref CCourse) "halls" = some none)
    (nCoursering : PySem.W.findIn K (.ref CCourse) "ring" = some none)
    (saCourse : PySem.W.findIn K (.ref CCourse) "__setattr__" = some (some (.builtin "object.__setattr__")))
    (kcCourse : PySem.W.keepIn K (.ref CCourse) = true)
    (hdCourse : PySem.W.hasDictIn K CCourse = true)
    (pgCourse : PySem.W.plainGet K CCourse Str.empty = true)
    (poCourse : PySem.W.plainOver K CCourse = true)
    (miCourse : PySem.W.makesIn K CCourse = true)
    (eaCourse : PySem.W.findIn K (.ref CCourse) "__class__" = some (some (.builtin "object.__class__")))
    (emCourse : PySem.W.mroIn K CCourse (.type "object") = some true)
    (eN : PySem.W.specialIn K (.builtin "object.__class__") "__get__" = some (some (.builtin "getset_descriptor.__get__")))
    (eT : PySem.W.takesIn K (.builtin "object.__class__") = some true)
    (xtkt_Course : PySem.W.kitOne K (.type "tuple") (.ref CCourse) = some false)
    (xtkn_Course : PySem.W.kitOne K (.type "NoneType") (.ref CCourse) = some false)
    (xtkint_Course : PySem.W.kitOne K (.type "int") (.ref CCourse) = some false)
    (xtoe_Course : PySem.W.findIn K (.ref CCourse) "__eq__" = some (some (.builtin "object.__eq__")))
    (xtom_Course : PySem.W.mroIn K CCourse (.type "object") = some true)
    (kiCourseCourse : PySem.W.kitOne K (.ref CCourse) (.ref CCourse) = some true)
    (gFIGURES : PySem.W.nsIn K mainGlobals "FIGURES" = some (some (.str "0123456789" tFIGURES)))
    (gLETTERS : PySem.W.nsIn K mainGlobals "LETTERS" = some (some (.str "abcdefghijklmnopqrstuvwxyz" tLETTERS)))
    (bisinstance : PySem.W.nsIn K mainGlobals "isinstance" = some none)
    (btuple : PySem.W.nsIn K mainGlobals "tuple" = some none)
    (ball : PySem.W.nsIn K mainGlobals "all" = some none)
    (benumerate : PySem.W.nsIn K mainGlobals "enumerate" = some none)
    (brange : PySem.W.nsIn K mainGlobals "range" = some none)
    (bint : PySem.W.nsIn K mainGlobals "int" = some none)
    (bsorted : PySem.W.nsIn K mainGlobals "sorted" = some none)
    (bbool : PySem.W.nsIn K mainGlobals "bool" = some none)
    (blist : PySem.W.nsIn K mainGlobals "list" = some none)
    (blen : PySem.W.nsIn K mainGlobals "len" = some none)
    (bstr : PySem.W.nsIn K mainGlobals "str" = some none)
    (bset : PySem.W.nsIn K mainGlobals "set" = some none)
    (brepr : PySem.W.nsIn K mainGlobals "repr" = some none)
    (bmin : PySem.W.nsIn K mainGlobals "min" = some none)
    (bzip : PySem.W.nsIn K mainGlobals "zip" = some none) :
    LawG l w K 63 mg fa s := by
  have G := TP.g
  have e : f27 = fa := Value.ref.inj (Option.some.inj ((PySem.W.mg_of X G a27).symm.trans hfa))
  subst e
  let T : Txt w K mg := {
    a_wall := f0
    d_wall := (PySem.W.fnOf "_wall" "_wall" (defArgs s_wall) (defBody s_wall) (defScope s_wall) .none kV0 dc0 pm0 an0 cd0 ct0)
    D_wall := ⟨fun_mk (st := s_wall) l0 c0 k0, PySem.W.mg_of X G a0, (fun_mk (x := "_wall") (qual := "_wall") (st := s_wall) l0 c0 k0).binds (ps := ["k"]) fun _ _ _ _ _ _ us hl => match us, hl with | [_], _ => rfl⟩
    a_is_whole := f1
    d_is_whole := (PySem.W.fnOf "is_whole" "is_whole" (defArgs s_is_whole) (defBody s_is_whole) (defScope s_is_whole) (.ref dt1) kV1 dc1 pm1 an1 cd1 ct1)
    D_is_whole := ⟨⟨⟨oc1, od1, .ref dt1, kV1, dc1, pm1, an1, cd1, ct1, sl1, rfl, l1, c1, .inr ⟨by simp, dt1, _, [.none], nt1, rfl, m1, rfl, (.cons rfl .nil)⟩, .inl rfl⟩, k1⟩, PySem.W.mg_of X G a1, binds_all (FunD.binds1 (x := "is_whole") (qual := "is_whole") (params := defArgs s_is_whole) (body := defBody s_is_whole) (scope := defScope s_is_whole) (dvs := [.non]) (kws := []) (ps := ["value", "least", "most"]) ⟨⟨oc1, od1, .ref dt1, kV1, dc1, pm1, an1, cd1, ct1, sl1, rfl, l1, c1, .inr ⟨by simp, dt1, _, [.none], nt1, rfl, m1, rfl, (.cons rfl .nil)⟩, .inl rfl⟩, k1⟩ 3 1 (by simp) (by decide) fun T kV doc pm an cdv ct us its hu hi => match us, hu, its, hi with | [_, _, _], _, [_], _ => ⟨_, rfl, rfl⟩)⟩
    a_as_tuples := f2
    d_as_tuples := (PySem.W.fnOf "as_tuples" "as_tuples" (defArgs s_as_tuples) (defBody s_as_tuples) (defScope s_as_tuples) .none kV2 dc2 pm2 an2 cd2 ct2)
    D_as_tuples := ⟨fun_mk (st := s_as_tuples) l2 c2 k2, PySem.W.mg_of X G a2, (fun_mk (x := "as_tuples") (qual := "as_tuples") (st := s_as_tuples) l2 c2 k2).binds (ps := ["value"]) fun _ _ _ _ _ _ us hl => match us, hl with | [_], _ => rfl⟩
    a_ascending := f3
    d_ascending := (PySem.W.fnOf "ascending" "ascending" (defArgs s_ascending) (defBody s_ascending) (defScope s_ascending) .none kV3 dc3 pm3 an3 cd3 ct3)
    D_ascending := ⟨fun_mk (st := s_ascending) l3 c3 k3, PySem.W.mg_of X G a3, (fun_mk (x := "ascending") (qual := "ascending") (st := s_ascending) l3 c3 k3).binds (ps := ["names"]) fun _ _ _ _ _ _ us hl => match us, hl with | [_], _ => rfl⟩
    a_is_name := f4
    d_is_name := (PySem.W.fnOf "is_name" "is_name" (defArgs s_is_name) (defBody s_is_name) (defScope s_is_name) .none kV4 dc4 pm4 an4 cd4 ct4)
    D_is_name := ⟨fun_mk (st := s_is_name) l4 c4 k4, PySem.W.mg_of X G a4, (fun_mk (x := "is_name") (qual := "is_name") (st := s_is_name) l4 c4 k4).binds (ps := ["value"]) fun _ _ _ _ _ _ us hl => match us, hl with | [_], _ => rfl⟩
    a_is_row := f5
    d_is_row := (PySem.W.fnOf "is_row" "is_row" (defArgs s_is_row) (defBody s_is_row) (defScope s_is_row) .none kV5 dc5 pm5 an5 cd5 ct5)
    D_is_row := ⟨fun_mk (st := s_is_row) l5 c5 k5, PySem.W.mg_of X G a5, (fun_mk (x := "is_row") (qual := "is_row") (st := s_is_row) l5 c5 k5).binds (ps := ["value"]) fun _ _ _ _ _ _ us hl => match us, hl with | [_], _ => rfl⟩
    a_need_rows := f6
    d_need_rows := (PySem.W.fnOf "need_rows" "need_rows" (defArgs s_need_rows) (defBody s_need_rows) (defScope s_need_rows) .none kV6 dc6 pm6 an6 cd6 ct6)
    D_need_rows := ⟨fun_mk (st := s_need_rows) l6 c6 k6, PySem.W.mg_of X G a6, (fun_mk (x := "need_rows") (qual := "need_rows") (st := s_need_rows) l6 c6 k6).binds (ps := ["rows"]) fun _ _ _ _ _ _ us hl => match us, hl with | [_], _ => rfl⟩
    a_are_words := f7
    d_are_words := (PySem.W.fnOf "are_words" "are_words" (defArgs s_are_words) (defBody s_are_words) (defScope s_are_words) .none kV7 dc7 pm7 an7 cd7 ct7)
    D_are_words := ⟨fun_mk (st := s_are_words) l7 c7 k7, PySem.W.mg_of X G a7, (fun_mk (x := "are_words") (qual := "are_words") (st := s_are_words) l7 c7 k7).binds (ps := ["value"]) fun _ _ _ _ _ _ us hl => match us, hl with | [_], _ => rfl⟩
    a_is_course := f8
    d_is_course := (PySem.W.fnOf "is_course" "is_course" (defArgs s_is_course) (defBody s_is_course) (defScope s_is_course) .none kV8 dc8 pm8 an8 cd8 ct8)
    D_is_course := ⟨fun_mk (st := s_is_course) l8 c8 k8, PySem.W.mg_of X G a8, (fun_mk (x := "is_course") (qual := "is_course") (st := s_is_course) l8 c8 k8).binds (ps := ["server", "value"]) fun _ _ _ _ _ _ us hl => match us, hl with | [_, _], _ => rfl⟩
    a_law_pen := f9
    d_law_pen := (PySem.W.fnOf "_law_pen" "_law_pen" (defArgs s_law_pen) (defBody s_law_pen) (defScope s_law_pen) .none kV9 dc9 pm9 an9 cd9 ct9)
    D_law_pen := ⟨fun_mk (st := s_law_pen) l9 c9 k9, PySem.W.mg_of X G a9, (fun_mk (x := "_law_pen") (qual := "_law_pen") (st := s_law_pen) l9 c9 k9).binds (ps := ["script"]) fun _ _ _ _ _ _ us hl => match us, hl with | [_], _ => rfl⟩
    a_law_draw := f10
    d_law_draw := (PySem.W.fnOf "_law_draw" "_law_draw" (defArgs s_law_draw) (defBody s_law_draw) (defScope s_law_draw) .none kV10 dc10 pm10 an10 cd10 ct10)
    D_law_draw := ⟨fun_mk (st := s_law_draw) l10 c10 k10, PySem.W.mg_of X G a10, (fun_mk (x := "_law_draw") (qual := "_law_draw") (st := s_law_draw) l10 c10 k10).binds (ps := ["pen", "many"]) fun _ _ _ _ _ _ us hl => match us, hl with | [_, _], _ => rfl⟩
    a_law_pick := f11
    d_law_pick := (PySem.W.fnOf "_law_pick" "_law_pick" (defArgs s_law_pick) (defBody s_law_pick) (defScope s_law_pick) .none kV11 dc11 pm11 an11 cd11 ct11)
    D_law_pick := ⟨fun_mk (st := s_law_pick) l11 c11 k11, PySem.W.mg_of X G a11, (fun_mk (x := "_law_pick") (qual := "_law_pick") (st := s_law_pick) l11 c11 k11).binds (ps := ["pen", "some"]) fun _ _ _ _ _ _ us hl => match us, hl with | [_, _], _ => rfl⟩
    a_law_shuffled := f12
    d_law_shuffled := (PySem.W.fnOf "_law_shuffled" "_law_shuffled" (defArgs s_law_shuffled) (defBody s_law_shuffled) (defScope s_law_shuffled) .none kV12 dc12 pm12 an12 cd12 ct12)
    D_law_shuffled := ⟨fun_mk (st := s_law_shuffled) l12 c12 k12, PySem.W.mg_of X G a12, (fun_mk (x := "_law_shuffled") (qual := "_law_shuffled") (st := s_law_shuffled) l12 c12 k12).binds (ps := ["pen", "some"]) fun _ _ _ _ _ _ us hl => match us, hl with | [_, _], _ => rfl⟩
    a_law_some := f13
    d_law_some := (PySem.W.fnOf "_law_some" "_law_some" (defArgs s_law_some) (defBody s_law_some) (defScope s_law_some) .none kV13 dc13 pm13 an13 cd13 ct13)
    D_law_some := ⟨fun_mk (st := s_law_some) l13 c13 k13, PySem.W.mg_of X G a13, (fun_mk (x := "_law_some") (qual := "_law_some") (st := s_law_some) l13 c13 k13).binds (ps := ["pen", "some", "most"]) fun _ _ _ _ _ _ us hl => match us, hl with | [_, _, _], _ => rfl⟩
    a_law_name := f14
    d_law_name := (PySem.W.fnOf "_law_name" "_law_name" (defArgs s_law_name) (defBody s_law_name) (defScope s_law_name) .none kV14 dc14 pm14 an14 cd14 ct14)
    D_law_name := ⟨fun_mk (st := s_law_name) l14 c14 k14, PySem.W.mg_of X G a14, (fun_mk (x := "_law_name") (qual := "_law_name") (st := s_law_name) l14 c14 k14).binds (ps := ["pen", "index"]) fun _ _ _ _ _ _ us hl => match us, hl with | [_, _], _ => rfl⟩
    a_law_names := f15
    d_law_names := (PySem.W.fnOf "_law_names" "_law_names" (defArgs s_law_names) (defBody s_law_names) (defScope s_law_names) .none kV15 dc15 pm15 an15 cd15 ct15)
    D_law_names := ⟨fun_mk (st := s_law_names) l15 c15 k15, PySem.W.mg_of X G a15, (fun_mk (x := "_law_names") (qual := "_law_names") (st := s_law_names) l15 c15 k15).binds (ps := ["pen", "many"]) fun _ _ _ _ _ _ us hl => match us, hl with | [_, _], _ => rfl⟩
    a_law_mixed := f16
    d_law_mixed := (PySem.W.fnOf "_law_mixed" "_law_mixed" (defArgs s_law_mixed) (defBody s_law_mixed) (defScope s_law_mixed) .none kV16 dc16 pm16 an16 cd16 ct16)
    D_law_mixed := ⟨fun_mk (st := s_law_mixed) l16 c16 k16, PySem.W.mg_of X G a16, (fun_mk (x := "_law_mixed") (qual := "_law_mixed") (st := s_law_mixed) l16 c16 k16).binds (ps := ["pen", "some"]) fun _ _ _ _ _ _ us hl => match us, hl with | [_, _], _ => rfl⟩
    a_law_same := f17
    d_law_same := (PySem.W.fnOf "_law_same" "_law_same" (defArgs s_law_same) (defBody s_law_same) (defScope s_law_same) .none kV17 dc17 pm17 an17 cd17 ct17)
    D_law_same := ⟨fun_mk (st := s_law_same) l17 c17 k17, PySem.W.mg_of X G a17, (fun_mk (x := "_law_same") (qual := "_law_same") (st := s_law_same) l17 c17 k17).binds (ps := ["told", "due"]) fun _ _ _ _ _ _ us hl => match us, hl with | [_, _], _ => rfl⟩
    a_law_is_whole := f18
    d_law_is_whole := (PySem.W.fnOf "_law_is_whole" "_law_is_whole" (defArgs s_law_is_whole) (defBody s_law_is_whole) (defScope s_law_is_whole) .none kV18 dc18 pm18 an18 cd18 ct18)
    D_law_is_whole := ⟨fun_mk (st := s_law_is_whole) l18 c18 k18, PySem.W.mg_of X G a18, (fun_mk (x := "_law_is_whole") (qual := "_law_is_whole") (st := s_law_is_whole) l18 c18 k18).binds (ps := ["value", "least", "most"]) fun _ _ _ _ _ _ us hl => match us, hl with | [_, _, _], _ => rfl⟩
    a_law_server_of := f19
    d_law_server_of := (PySem.W.fnOf "_law_server_of" "_law_server_of" (defArgs s_law_server_of) (defBody s_law_server_of) (defScope s_law_server_of) .none kV19 dc19 pm19 an19 cd19 ct19)
    D_law_server_of := ⟨fun_mk (st := s_law_server_of) l19 c19 k19, PySem.W.mg_of X G a19, (fun_mk (x := "_law_server_of") (qual := "_law_server_of") (st := s_law_server_of) l19 c19 k19).binds (ps := ["rows"]) fun _ _ _ _ _ _ us hl => match us, hl with | [_], _ => rfl⟩
    a_law_some_server := f20
    d_law_some_server := (PySem.W.fnOf "_law_some_server" "_law_some_server" (defArgs s_law_some_server) (defBody s_law_some_server) (defScope s_law_some_server) .none kV20 dc20 pm20 an20 cd20 ct20)
    D_law_some_server := ⟨fun_mk (st := s_law_some_server) l20 c20 k20, PySem.W.mg_of X G a20, (fun_mk (x := "_law_some_server") (qual := "_law_some_server") (st := s_law_some_server) l20 c20 k20).binds (ps := ["pen", "calls", "places", "share"]) fun _ _ _ _ _ _ us hl => match us, hl with | [_, _, _, _], _ => rfl⟩
    a_law_made_server := f21
    d_law_made_server := (PySem.W.fnOf "_law_made_server" "_law_made_server" (defArgs s_law_made_server) (defBody s_law_made_server) (defScope s_law_made_server) .none kV21 dc21 pm21 an21 cd21 ct21)
    D_law_made_server := ⟨fun_mk (st := s_law_made_server) l21 c21 k21, PySem.W.mg_of X G a21, (fun_mk (x := "_law_made_server") (qual := "_law_made_server") (st := s_law_made_server) l21 c21 k21).binds (ps := ["pen", "server"]) fun _ _ _ _ _ _ us hl => match us, hl with | [_, _], _ => rfl⟩
    a_law_calls_at := f22
    d_law_calls_at := (PySem.W.fnOf "_law_calls_at" "_law_calls_at" (defArgs s_law_calls_at) (defBody s_law_calls_at) (defScope s_law_calls_at) .none kV22 dc22 pm22 an22 cd22 ct22)
    D_law_calls_at := ⟨fun_mk (st := s_law_calls_at) l22 c22 k22, PySem.W.mg_of X G a22, (fun_mk (x := "_law_calls_at") (qual := "_law_calls_at") (st := s_law_calls_at) l22 c22 k22).binds (ps := ["server", "place"]) fun _ _ _ _ _ _ us hl => match us, hl with | [_, _], _ => rfl⟩
    a_law_is_name := f23
    d_law_is_name := (PySem.W.fnOf "_law_is_name" "_law_is_name" (defArgs s_law_is_name) (defBody s_law_is_name) (defScope s_law_is_name) .none kV23 dc23 pm23 an23 cd23 ct23)
    D_law_is_name := ⟨fun_mk (st := s_law_is_name) l23 c23 k23, PySem.W.mg_of X G a23, (fun_mk (x := "_law_is_name") (qual := "_law_is_name") (st := s_law_is_name) l23 c23 k23).binds (ps := ["value"]) fun _ _ _ _ _ _ us hl => match us, hl with | [_], _ => rfl⟩
    a_law_is_course := f24
    d_law_is_course := (PySem.W.fnOf "_law_is_course" "_law_is_course" (defArgs s_law_is_course) (defBody s_law_is_course) (defScope s_law_is_course) .none kV24 dc24 pm24 an24 cd24 ct24)
    D_law_is_course := ⟨fun_mk (st := s_law_is_course) l24 c24 k24, PySem.W.mg_of X G a24, (fun_mk (x := "_law_is_course") (qual := "_law_is_course") (st := s_law_is_course) l24 c24 k24).binds (ps := ["server", "value"]) fun _ _ _ _ _ _ us hl => match us, hl with | [_, _], _ => rfl⟩
    a_law_bent_course := f25
    d_law_bent_course := (PySem.W.fnOf "_law_bent_course" "_law_bent_course" (defArgs s_law_bent_course) (defBody s_law_bent_course) (defScope s_law_bent_course) .none kV25 dc25 pm25 an25 cd25 ct25)
    D_law_bent_course := ⟨fun_mk (st := s_law_bent_course) l25 c25 k25, PySem.W.mg_of X G a25, (fun_mk (x := "_law_bent_course") (qual := "_law_bent_course") (st := s_law_bent_course) l25 c25 k25).binds (ps := ["pen", "server", "value"]) fun _ _ _ _ _ _ us hl => match us, hl with | [_, _, _], _ => rfl⟩
    a_law_some_course := f26
    d_law_some_course := (PySem.W.fnOf "_law_some_course" "_law_some_course" (defArgs s_law_some_course) (defBody s_law_some_course) (defScope s_law_some_course) .none kV26 dc26 pm26 an26 cd26 ct26)
    D_law_some_course := ⟨fun_mk (st := s_law_some_course) l26 c26 k26, PySem.W.mg_of X G a26, (fun_mk (x := "_law_some_course") (qual := "_law_some_course") (st := s_law_some_course) l26 c26 k26).binds (ps := ["pen", "server"]) fun _ _ _ _ _ _ us hl => match us, hl with | [_, _], _ => rfl⟩
    a_law := f27
    d_law := (PySem.W.fnOf "law" "law" (defArgs s_law) (defBody s_law) (defScope s_law) .none kV27 dc27 pm27 an27 cd27 ct27)
    D_law := ⟨fun_mk (st := s_law) l27 c27 k27, PySem.W.mg_of X G a27, (fun_mk (x := "law") (qual := "law") (st := s_law) l27 c27 k27).binds (ps := ["script"]) fun _ _ _ _ _ _ us hl => match us, hl with | [_], _ => rfl⟩
    C_AgainError := CAgainError
    g_AgainError := PySem.W.mg_of X G gAgainError
    ox_AgainError := ⟨xlAgainError, saAgainError, exAgainError, tyAgainError, kcAgainError⟩
    xf_AgainError := ⟨gaAgainError, ggAgainError, exAgainError, hdAgainError⟩
    sb_AgainError := sbAgainError
    C_BadRow := CBadRow
    g_BadRow := PySem.W.mg_of X G gBadRow
    a_BadRow___init__ := fBadRow0
    d_BadRow___init__ := (PySem.W.fnOf "__init__" "BadRow.__init__" (defArgs s_BadRow___init__) (defBody s_BadRow___init__) (defScope s_BadRow___init__) .none kVBadRow0 dcBadRow0 pmBadRow0 anBadRow0 cdBadRow0 ctBadRow0)
    D_BadRow___init__ := ⟨fun_mk (st := s_BadRow___init__) lBadRow0 cBadRow0 kBadRow0, (fun_mk (x := "__init__") (qual := "BadRow.__init__") (st := s_BadRow___init__) lBadRow0 cBadRow0 kBadRow0).binds (ps := ["self", "what", "row"]) fun _ _ _ _ _ _ us hl => match us, hl with | [_, _, _], _ => rfl⟩
    ic_BadRow := aBadRow0
    ti_BadRow := tBadRow0
    na_BadRow_what := nBadRowwhat
    na_BadRow_row := nBadRowrow
    ox_BadRow := ⟨xlBadRow, saBadRow, exBadRow, tyBadRow, kcBadRow⟩
    xf_BadRow := ⟨gaBadRow, ggBadRow, exBadRow, hdBadRow⟩
    sb_BadRow := sbBadRow
    C_Server := CServer
    g_Server := PySem.W.mg_of X G gServer
    a_Server___init__ := fServer0
    d_Server___init__ := (PySem.W.fnOf "__init__" "Server.__init__" (defArgs s_Server___init__) (defBody s_Server___init__) (defScope s_Server___init__) .none kVServer0 dcServer0 pmServer0 anServer0 cdServer0 ctServer0)
    D_Server___init__ := ⟨fun_mk (st := s_Server___init__) lServer0 cServer0 kServer0, (fun_mk (x := "__init__") (qual := "Server.__init__") (st := s_Server___init__) lServer0 cServer0 kServer0).binds (ps := ["self", "rows"]) fun _ _ _ _ _ _ us hl => match us, hl with | [_, _], _ => rfl⟩
    mk_Server := ⟨miServer, aServer0, iServer0, kcServer⟩
    a_Server___eq__ := fServer1
    d_Server___eq__ := (PySem.W.fnOf "__eq__" "Server.__eq__" (defArgs s_Server___eq__) (defBody s_Server___eq__) (defScope s_Server___eq__) .none kVServer1 dcServer1 pmServer1 anServer1 cdServer1 ctServer1)
    D_Server___eq__ := ⟨fun_mk (st := s_Server___eq__) lServer1 cServer1 kServer1, (fun_mk (x := "__eq__") (qual := "Server.__eq__") (st := s_Server___eq__) lServer1 cServer1 kServer1).binds (ps := ["self", "other"]) fun _ _ _ _ _ _ us hl => match us, hl with | [_, _], _ => rfl⟩
    mt_Server___eq__ := ⟨aServer1, iServer1, kServer1⟩
    a_Server___len__ := fServer2
    d_Server___len__ := (PySem.W.fnOf "__len__" "Server.__len__" (defArgs s_Server___len__) (defBody s_Server___len__) (defScope s_Server___len__) .none kVServer2 dcServer2 pmServer2 anServer2 cdServer2 ctServer2)
    D_Server___len__ := ⟨fun_mk (st := s_Server___len__) lServer2 cServer2 kServer2, (fun_mk (x := "__len__") (qual := "Server.__len__") (st := s_Server___len__) lServer2 cServer2 kServer2).binds (ps := ["self"]) fun _ _ _ _ _ _ us hl => match us, hl with | [_], _ => rfl⟩
    mt_Server___len__ := ⟨aServer2, iServer2, kServer2⟩
    a_Server___contains__ := fServer3
    d_Server___contains__ := (PySem.W.fnOf "__contains__" "Server.__contains__" (defArgs s_Server___contains__) (defBody s_Server___contains__) (defScope s_Server___contains__) .none kVServer3 dcServer3 pmServer3 anServer3 cdServer3 ctServer3)
    D_Server___contains__ := ⟨fun_mk (st := s_Server___contains__) lServer3 cServer3 kServer3, (fun_mk (x := "__contains__") (qual := "Server.__contains__") (st := s_Server___contains__) lServer3 cServer3 kServer3).binds (ps := ["self", "row"]) fun _ _ _ _ _ _ us hl => match us, hl with | [_, _], _ => rfl⟩
    mt_Server___contains__ := ⟨aServer3, iServer3, kServer3⟩
    a_Server___add__ := fServer4
    d_Server___add__ := (PySem.W.fnOf "__add__" "Server.__add__" (defArgs s_Server___add__) (defBody s_Server___add__) (defScope s_Server___add__) .none kVServer4 dcServer4 pmServer4 anServer4 cdServer4 ctServer4)
    D_Server___add__ := ⟨fun_mk (st := s_Server___add__) lServer4 cServer4 kServer4, (fun_mk (x := "__add__") (qual := "Server.__add__") (st := s_Server___add__) lServer4 cServer4 kServer4).binds (ps := ["self", "row"]) fun _ _ _ _ _ _ us hl => match us, hl with | [_, _], _ => rfl⟩
    mt_Server___add__ := ⟨aServer4, iServer4, kServer4⟩
    a_Server___sub__ := fServer5
    d_Server___sub__ := (PySem.W.fnOf "__sub__" "Server.__sub__" (defArgs s_Server___sub__) (defBody s_Server___sub__) (defScope s_Server___sub__) .none kVServer5 dcServer5 pmServer5 anServer5 cdServer5 ctServer5)
    D_Server___sub__ := ⟨fun_mk (st := s_Server___sub__) lServer5 cServer5 kServer5, (fun_mk (x := "__sub__") (qual := "Server.__sub__") (st := s_Server___sub__) lServer5 cServer5 kServer5).binds (ps := ["self", "row"]) fun _ _ _ _ _ _ us hl => match us, hl with | [_, _], _ => rfl⟩
    mt_Server___sub__ := ⟨aServer5, iServer5, kServer5⟩
    a_Server___or__ := fServer6
    d_Server___or__ := (PySem.W.fnOf "__or__" "Server.__or__" (defArgs s_Server___or__) (defBody s_Server___or__) (defScope s_Server___or__) .none kVServer6 dcServer6 pmServer6 anServer6 cdServer6 ctServer6)
    D_Server___or__ := ⟨fun_mk (st := s_Server___or__) lServer6 cServer6 kServer6, (fun_mk (x := "__or__") (qual := "Server.__or__") (st := s_Server___or__) lServer6 cServer6 kServer6).binds (ps := ["self", "other"]) fun _ _ _ _ _ _ us hl => match us, hl with | [_, _], _ => rfl⟩
    mt_Server___or__ := ⟨aServer6, iServer6, kServer6⟩
    a_Server_answers := fServer7
    d_Server_answers := (PySem.W.fnOf "answers" "Server.answers" (defArgs s_Server_answers) (defBody s_Server_answers) (defScope s_Server_answers) .none kVServer7 dcServer7 pmServer7 anServer7 cdServer7 ctServer7)
    D_Server_answers := ⟨fun_mk (st := s_Server_answers) lServer7 cServer7 kServer7, (fun_mk (x := "answers") (qual := "Server.answers") (st := s_Server_answers) lServer7 cServer7 kServer7).binds (ps := ["self", "hall", "call"]) fun _ _ _ _ _ _ us hl => match us, hl with | [_, _, _], _ => rfl⟩
    mt_Server_answers := ⟨aServer7, iServer7, kServer7⟩
    a_Server_known := fServer8
    d_Server_known := (PySem.W.fnOf "known" "Server.known" (defArgs s_Server_known) (defBody s_Server_known) (defScope s_Server_known) .none kVServer8 dcServer8 pmServer8 anServer8 cdServer8 ctServer8)
    D_Server_known := ⟨fun_mk (st := s_Server_known) lServer8 cServer8 kServer8, (fun_mk (x := "known") (qual := "Server.known") (st := s_Server_known) lServer8 cServer8 kServer8).binds (ps := ["self", "hall"]) fun _ _ _ _ _ _ us hl => match us, hl with | [_, _], _ => rfl⟩
    mt_Server_known := ⟨aServer8, iServer8, kServer8⟩
    a_Server_halls := fServer9
    d_Server_halls := (PySem.W.fnOf "halls" "Server.halls" (defArgs s_Server_halls) (defBody s_Server_halls) (defScope s_Server_halls) .none kVServer9 dcServer9 pmServer9 anServer9 cdServer9 ctServer9)
    D_Server_halls := ⟨fun_mk (st := s_Server_halls) lServer9 cServer9 kServer9, (fun_mk (x := "halls") (qual := "Server.halls") (st := s_Server_halls) lServer9 cServer9 kServer9).binds (ps := ["self"]) fun _ _ _ _ _ _ us hl => match us, hl with | [_], _ => rfl⟩
    mt_Server_halls := ⟨aServer9, iServer9, kServer9⟩
    a_Server_calls := fServer10
    d_Server_calls := (PySem.W.fnOf "calls" "Server.calls" (defArgs s_Server_calls) (defBody s_Server_calls) (defScope s_Server_calls) .none kVServer10 dcServer10 pmServer10 anServer10 cdServer10 ctServer10)
    D_Server_calls := ⟨fun_mk (st := s_Server_calls) lServer10 cServer10 kServer10, (fun_mk (x := "calls") (qual := "Server.calls") (st := s_Server_calls) lServer10 cServer10 kServer10).binds (ps := ["self"]) fun _ _ _ _ _ _ us hl => match us, hl with | [_], _ => rfl⟩
    mt_Server_calls := ⟨aServer10, iServer10, kServer10⟩
    a_Server_doubts := fServer11
    d_Server_doubts := (PySem.W.fnOf "doubts" "Server.doubts" (defArgs s_Server_doubts) (defBody s_Server_doubts) (defScope s_Server_doubts) .none kVServer11 dcServer11 pmServer11 anServer11 cdServer11 ctServer11)
    D_Server_doubts := ⟨fun_mk (st := s_Server_doubts) lServer11 cServer11 kServer11, (fun_mk (x := "doubts") (qual := "Server.doubts") (st := s_Server_doubts) lServer11 cServer11 kServer11).binds (ps := ["self"]) fun _ _ _ _ _ _ us hl => match us, hl with | [_], _ => rfl⟩
    mt_Server_doubts := ⟨aServer11, iServer11, kServer11⟩
    na_Server_rows := nServerrows
    na_Server__answers := nServer_answers
    na_Server__known := nServer_known
    cl_Server := ⟨pgServer, hdServer, poServer, saServer⟩
    C_Course := CCourse
    g_Course := PySem.W.mg_of X G gCourse
    a_Course___init__ := fCourse0
    d_Course___init__ := (PySem.W.fnOf "__init__" "Course.__init__" (defArgs s_Course___init__) (defBody s_Course___init__) (defScope s_Course___init__) .none kVCourse0 dcCourse0 pmCourse0 anCourse0 cdCourse0 ctCourse0)
    D_Course___init__ := ⟨fun_mk (st := s_Course___init__) lCourse0 cCourse0 kCourse0, (fun_mk (x := "__init__") (qual := "Course.__init__") (st := s_Course___init__) lCourse0 cCourse0 kCourse0).binds (ps := ["self", "calls", "halls", "ring"]) fun _ _ _ _ _ _ us hl => match us, hl with | [_, _, _, _], _ => rfl⟩
    mk_Course := ⟨miCourse, aCourse0, iCourse0, kcCourse⟩
    na_Course_calls := nCoursecalls
    na_Course_halls := nCoursehalls
    na_Course_ring := nCoursering
    cl_Course := ⟨pgCourse, hdCourse, poCourse, saCourse⟩
    ty_Course := fun H a dx fs e => .ins e ⟨pgCourse, hdCourse, poCourse, saCourse⟩ eaCourse eN eT emCourse
    kt_Course := xtkt_Course
    kn_Course := xtkn_Course
    kint_Course := xtkint_Course
    oe_Course := xtoe_Course
    om_Course := xtom_Course
    ki_Course_Course := kiCourseCourse
    t_FIGURES := tFIGURES
    g_FIGURES := PySem.W.mg_of X G gFIGURES
    t_LETTERS := tLETTERS
    g_LETTERS := PySem.W.mg_of X G gLETTERS
    b_isinstance := PySem.W.mg_none_of X G bisinstance
    b_tuple := PySem.W.mg_none_of X G btuple
    b_all := PySem.W.mg_none_of X G ball
    b_enumerate := PySem.W.mg_none_of X G benumerate
    b_range := PySem.W.mg_none_of X G brange
    b_int := PySem.W.mg_none_of X G bint
    b_sorted := PySem.W.mg_none_of X G bsorted
    b_bool := PySem.W.mg_none_of X G bbool
    b_list := PySem.W.mg_none_of X G blist
    b_len := PySem.W.mg_none_of X G blen
    b_str := PySem.W.mg_none_of X G bstr
    b_set := PySem.W.mg_none_of X G bset
    b_repr := PySem.W.mg_none_of X G brepr
    b_min := PySem.W.mg_none_of X G bmin
    b_zip := PySem.W.mg_none_of X G bzip }
  exact ⟨[], fun p hp => (nomatch hp), fun p hp => (nomatch hp), fun p hp => (nomatch hp), fun a ns base H hl _ _ _ hTB hT hs e0 => law_runs T hs hl e0⟩
end Ag
open PySem PySem.W PyProof.Rows in
set_option maxRecDepth 100000 in
set_option maxHeartbeats 0 in
theorem PySem.Challenge.cw_againnotes_k31_whole_courses_holds : PySem.Challenge.rw_againnotes_k31_whole_courses.Holds := by
  w_on; o_law; k_head; (case hw => w_witness2)
  k_fill
  refine Ag.walk_G (l := PySem.Challenge.rw_againnotes_k31_whole_courses) (n := 63) rfl (by decide) rfl (fun w h Y => PySem.W.kIn_of Y) ?F
  case F =>
    intro w mg mb fa s mean TP KX hmg
    refine' Ag.all_mk TP KX hmg ?a0 ?l0 ?c0 ?k0 ?a1 ?l1 ?c1 ?k1 ?m1 ?a2 ?l2 ?c2 ?k2 ?a3 ?l3 ?c3 ?k3 ?a4 ?l4 ?c4 ?k4 ?a5 ?l5 ?c5 ?k5 ?a6 ?l6 ?c6 ?k6 ?a7 ?l7 ?c7 ?k7 ?a8 ?l8 ?c8 ?k8 ?a9 ?l9 ?c9 ?k9 ?a10 ?l10 ?c10 ?k10 ?a11 ?l11 ?c11 ?k11 ?a12 ?l12 ?c12 ?k12 ?a13 ?l13 ?c13 ?k13 ?a14 ?l14 ?c14 ?k14 ?a15 ?l15 ?c15 ?k15 ?a16 ?l16 ?c16 ?k16 ?a17 ?l17 ?c17 ?k17 ?a18 ?l18 ?c18 ?k18 ?a19 ?l19 ?c19 ?k19 ?a20 ?l20 ?c20 ?k20 ?a21 ?l21 ?c21 ?k21 ?a22 ?l22 ?c22 ?k22 ?a23 ?l23 ?c23 ?k23 ?a24 ?l24 ?c24 ?k24 ?a25 ?l25 ?c25 ?k25 ?a26 ?l26 ?c26 ?k26 ?a27 ?l27 ?c27 ?k27 ?gAgainError ?saAgainError ?kcAgainError ?hdAgainError ?gaAgainError ?ggAgainError ?exAgainError ?tyAgainError ?sbAgainError ?xlAgainError ?gBadRow ?aBadRow0 ?lBadRow0 ?cBadRow0 ?kBadRow0 ?tBadRow0 ?nBadRowwhat ?nBadRowrow ?saBadRow ?kcBadRow ?hdBadRow ?gaBadRow ?ggBadRow ?exBadRow ?tyBadRow ?sbBadRow ?xlBadRow ?gServer ?aServer0 ?lServer0 ?cServer0 ?kServer0 ?iServer0 ?aServer1 ?lServer1 ?cServer1 ?kServer1 ?iServer1 ?aServer2 ?lServer2 ?cServer2 ?kServer2 ?iServer2 ?aServer3 ?lServer3 ?cServer3 ?kServer3 ?iServer3 ?aServer4 ?lServer4 ?cServer4 ?kServer4 ?iServer4 ?aServer5 ?lServer5 ?cServer5 ?kServer5 ?iServer5 ?aServer6 ?lServer6 ?cServer6 ?kServer6 ?iServer6 ?aServer7 ?lServer7 ?cServer7 ?kServer7 ?iServer7 ?aServer8 ?lServer8 ?cServer8 ?kServer8 ?iServer8 ?aServer9 ?lServer9 ?cServer9 ?kServer9 ?iServer9 ?aServer10 ?lServer10 ?cServer10 ?kServer10 ?iServer10 ?aServer11 ?lServer11 ?cServer11 ?kServer11 ?iServer11 ?nServerrows ?nServer_answers ?nServer_known ?saServer ?kcServer ?hdServer ?pgServer ?poServer ?miServer ?gCourse ?aCourse0 ?lCourse0 ?cCourse0 ?kCourse0 ?iCourse0 ?nCoursecalls ?nCoursehalls ?nCoursering ?saCourse ?kcCourse ?hdCourse ?pgCourse ?poCourse ?miCourse ?eaCourse ?emCourse ?eN ?eT ?xtkt_Course ?xtkn_Course ?xtkint_Course ?xtoe_Course ?xtom_Course ?kiCourseCourse ?gFIGURES ?gLETTERS ?bisinstance ?btuple ?ball ?benumerate ?brange ?bint ?bsorted ?bbool ?blist ?blen ?bstr ?bset ?brepr ?bmin ?bzip
    (case a0 => k_is)
    (case l0 => k_is)
    (case c0 => k_is)
    (case k0 => k_is)
    (case a1 => k_is)
    (case l1 => k_is)
    (case c1 => k_is)
    (case k1 => k_is)
    (case m1 => k_is)
    (case a2 => k_is)
    (case l2 => k_is)
    (case c2 => k_is)
    (case k2 => k_is)
    (case a3 => k_is)
    (case l3 => k_is)
    (case c3 => k_is)
    (case k3 => k_is)
    (case a4 => k_is)
    (case l4 => k_is)
    (case c4 => k_is)
    (case k4 => k_is)
    (case a5 => k_is)
    (case l5 => k_is)
    (case c5 => k_is)
    (case k5 => k_is)
    (case a6 => k_is)
    (case l6 => k_is)
    (case c6 => k_is)
    (case k6 => k_is)
    (case a7 => k_is)
    (case l7 => k_is)
    (case c7 => k_is)
    (case k7 => k_is)
    (case a8 => k_is)
    (case l8 => k_is)
    (case c8 => k_is)
    (case k8 => k_is)
    (case a9 => k_is)
    (case l9 => k_is)
    (case c9 => k_is)
    (case k9 => k_is)
    (case a10 => k_is)
    (case l10 => k_is)
    (case c10 => k_is)
    (case k10 => k_is)
    (case a11 => k_is)
    (case l11 => k_is)
    (case c11 => k_is)
    (case k11 => k_is)
    (case a12 => k_is)
    (case l12 => k_is)
    (case c12 => k_is)
    (case k12 => k_is)
    (case a13 => k_is)
    (case l13 => k_is)
    (case c13 => k_is)
    (case k13 => k_is)
    (case a14 => k_is)
    (case l14 => k_is)
    (case c14 => k_is)
    (case k14 => k_is)
    (case a15 => k_is)
    (case l15 => k_is)
    (case c15 => k_is)
    (case k15 => k_is)
    (case a16 => k_is)
    (case l16 => k_is)
    (case c16 => k_is)
    (case k16 => k_is)
    (case a17 => k_is)
    (case l17 => k_is)
    (case c17 => k_is)
    (case k17 => k_is)
    (case a18 => k_is)
    (case l18 => k_is)
    (case c18 => k_is)
    (case k18 => k_is)
    (case a19 => k_is)
    (case l19 => k_is)
    (case c19 => k_is)
    (case k19 => k_is)
    (case a20 => k_is)
    (case l20 => k_is)
    (case c20 => k_is)
    (case k20 => k_is)
    (case a21 => k_is)
    (case l21 => k_is)
    (case c21 => k_is)
    (case k21 => k_is)
    (case a22 => k_is)
    (case l22 => k_is)
    (case c22 => k_is)
    (case k22 => k_is)
    (case a23 => k_is)
    (case l23 => k_is)
    (case c23 => k_is)
    (case k23 => k_is)
    (case a24 => k_is)
    (case l24 => k_is)
    (case c24 => k_is)
    (case k24 => k_is)
    (case a25 => k_is)
    (case l25 => k_is)
    (case c25 => k_is)
    (case k25 => k_is)
    (case a26 => k_is)
    (case l26 => k_is)
    (case c26 => k_is)
    (case k26 => k_is)
    (case a27 => k_is)
    (case l27 => k_is)
    (case c27 => k_is)
    (case k27 => k_is)
    (case gAgainError => k_is)
    (case saAgainError => k_is)
    (case kcAgainError => k_is)
    (case hdAgainError => k_is)
    (case gaAgainError => k_is)
    (case ggAgainError => k_is)
    (case exAgainError => k_is)
    (case tyAgainError => k_is)
    (case sbAgainError => k_is)
    (case xlAgainError => exact ⟨_, _, _, _, _, _, _, _, _, _, _, _, _, _, _, by k_is, by rfl⟩)
    (case gBadRow => k_is)
    (case aBadRow0 => k_is)
    (case lBadRow0 => k_is)
    (case cBadRow0 => k_is)
    (case kBadRow0 => k_is)
    (case tBadRow0 => k_is)
    (case nBadRowwhat => k_is)
    (case nBadRowrow => k_is)
    (case saBadRow => k_is)
    (case kcBadRow => k_is)
    (case hdBadRow => k_is)
    (case gaBadRow => k_is)
    (case ggBadRow => k_is)
    (case exBadRow => k_is)
    (case tyBadRow => k_is)
    (case sbBadRow => k_is)
    (case xlBadRow => exact ⟨_, _, _, _, _, _, _, _, _, _, _, _, _, _, _, by k_is, by rfl⟩)
    (case gServer => k_is)
    (case aServer0 => k_is)
    (case lServer0 => k_is)
    (case cServer0 => k_is)
    (case kServer0 => k_is)
    (case iServer0 => k_is)
    (case aServer1 => k_is)
    (case lServer1 => k_is)
    (case cServer1 => k_is)
    (case kServer1 => k_is)
    (case iServer1 => k_is)
    (case aServer2 => k_is)
    (case lServer2 => k_is)
    (case cServer2 => k_is)
    (case kServer2 => k_is)
    (case iServer2 => k_is)
    (case aServer3 => k_is)
    (case lServer3 => k_is)
    (case cServer3 => k_is)
    (case kServer3 => k_is)
    (case iServer3 => k_is)
    (case aServer4 => k_is)
    (case lServer4 => k_is)
    (case cServer4 => k_is)
    (case kServer4 => k_is)
    (case iServer4 => k_is)
    (case aServer5 => k_is)
    (case lServer5 => k_is)
    (case cServer5 => k_is)
    (case kServer5 => k_is)
    (case iServer5 => k_is)
    (case aServer6 => k_is)
    (case lServer6 => k_is)
    (case cServer6 => k_is)
    (case kServer6 => k_is)
    (case iServer6 => k_is)
    (case aServer7 => k_is)
    (case lServer7 => k_is)
    (case cServer7 => k_is)
    (case kServer7 => k_is)
    (case iServer7 => k_is)
    (case aServer8 => k_is)
    (case lServer8 => k_is)
    (case cServer8 => k_is)
    (case kServer8 => k_is)
    (case iServer8 => k_is)
    (case aServer9 => k_is)
    (case lServer9 => k_is)
    (case cServer9 => k_is)
    (case kServer9 => k_is)
    (case iServer9 => k_is)
    (case aServer10 => k_is)
    (case lServer10 => k_is)
    (case cServer10 => k_is)
    (case kServer10 => k_is)
    (case iServer10 => k_is)
    (case aServer11 => k_is)
    (case lServer11 => k_is)
    (case cServer11 => k_is)
    (case kServer11 => k_is)
    (case iServer11 => k_is)
    (case nServerrows => k_is)
    (case nServer_answers => k_is)
    (case nServer_known => k_is)
    (case saServer => k_is)
    (case kcServer => k_is)
    (case hdServer => k_is)
    (case pgServer => k_is)
    (case poServer => k_is)
    (case miServer => k_is)
    (case gCourse => k_is)
    (case aCourse0 => k_is)
    (case lCourse0 => k_is)
    (case cCourse0 => k_is)
    (case kCourse0 => k_is)
    (case iCourse0 => k_is)
    (case nCoursecalls => k_is)
    (case nCoursehalls => k_is)
    (case nCoursering => k_is)
    (case saCourse => k_is)
    (case kcCourse => k_is)
    (case hdCourse => k_is)
    (case pgCourse => k_is)
    (case poCourse => k_is)
    (case miCourse => k_is)
    (case eaCourse => k_is)
    (case emCourse => k_is)
    (case eN => k_is)
    (case eT => k_is)
    (case xtkt_Course => kernel_rfl)
    (case xtkn_Course => kernel_rfl)
    (case xtkint_Course => kernel_rfl)
    (case xtoe_Course => kernel_rfl)
    (case xtom_Course => kernel_rfl)
    (case kiCourseCourse => kernel_rfl)
    (case gFIGURES => k_is)
    (case gLETTERS => k_is)
    (case bisinstance => k_is)
    (case btuple => k_is)
    (case ball => k_is)
    (case benumerate => k_is)
    (case brange => k_is)
    (case bint => k_is)
    (case bsorted => k_is)
    (case bbool => k_is)
    (case blist => k_is)
    (case blen => k_is)
    (case bstr => k_is)
    (case bset => k_is)
    (case brepr => k_is)
    (case bmin => k_is)
    (case bzip => k_is)
#print axioms PySem.Challenge.cw_againnotes_k31_whole_courses_holds
