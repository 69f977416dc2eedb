import PyProof.Rows.All
import Wide.All
import OpenK.AllK
import Wide.FinOn
import HandS.ForMost
import HandS.Set
import HandS.SetKeys
import HandS.TupSets
import PyProof.Rows.SortShellAny
import HandS.Strs
import HandS.IsInst
import HandS.TupAny
import HandS.TupMul
import HandS.TupLe
import HandS.Style
import HandS.Deep
import HandS.NoneIn
import HandS.Codes
import HandS.Lambda
import HandS.EndTab
import PyProof.ReprRoads
import HandS.TryMany
import HandS.ExcField
import HandS.Zip
import PyProof.IsRules
import PyProof.AutoSeq1
import PyProof.NeData
import PyProof.StrBlock2
import PyProof.Rows.StrMul
import KE.SortCalls
import HandS.Text
import PyProof.StrLawsRepr
import PyProof.CallFns
import HandS.ExcInit
import HandS.ExcIs
import HandS.ExcValue
import KE.KExcIs
import HandS.WordsExc
import HandS.Defaults
import KE.DataCmp
import HandS.Walk
import PySem.Challenge.RW_againnotes_k01_errors
set_option Elab.async false
set_option linter.all false
set_option maxRecDepth 100000
set_option maxHeartbeats 4000000
/-! Sets of scannable keys of one kind, with what a walk over them asks for; set(list of texts), sorted of such a set. -/
namespace Ag
open PySem PySem.Spec PyProof.Rows L2

section gen
variable {P : Program} {w : World} {κ : Type} [DecidableEq κ] {kd : KeyKind P w κ}
/-- two entries have no key in common -/
def Apart (kd : KeyKind P w κ) (e f : Int × Value) : Prop := ∀ k, kd.is k e.2 = true → kd.is k f.2 = false
theorem Apart.symm {e f : Int × Value} (h : Apart kd e f) : Apart kd f e := fun k hf => by
  cases q : kd.is k e.2 with
  | false => rfl
  | true => have := h k q; rw [hf] at this; cases this

structure SetG (kd : KeyKind P w κ) (h : Heap) (a : Addr) (S : κ → Bool) (n : Nat) (o : Obj) (es : Array (Int × Value)) (ep : Nat) (t : SetTable) : Prop where
  at_ : h.get? a = some o
  ex : o.ExactSet
  dat : o.data = .set es ep t
  els : ElemsOf kd es.toList
  mem : ∀ k, S k = true ↔ ∃ e ∈ es.toList, kd.is k e.2 = true
  room : es.size < scanBound
  fit : t.fits es.size = true
  num : es.size = n
  ris : Ris t.place.toList
  led : w.params.followText "set-order" = true ∨ t.led = true
  nd : es.toList.Pairwise (Apart kd)

def SetAtG (kd : KeyKind P w κ) (h : Heap) (a : Addr) (S : κ → Bool) (n : Nat) : Prop := ∃ o es ep t, SetG kd h a S n o es ep t
theorem SetAtG.keep {h h' : Heap} {a : Addr} {S : κ → Bool} {n : Nat} (R : SetAtG kd h a S n) (k : ∀ o, h.get? a = some o → h'.get? a = some o) : SetAtG kd h' a S n := by
  obtain ⟨o, es, ep, t, r⟩ := R
  exact ⟨o, es, ep, t, ⟨k o r.at_, r.ex, r.dat, r.els, r.mem, r.room, r.fit, r.num, r.ris, r.led, r.nd⟩⟩
theorem SetAtG.fresh {h : Heap} {a : Addr} (ho : h.get? a = some { cls := .type "set", dict := none, data := .set #[] 0 (.fresh 0 0 (!w.params.followText "set-order")) }) : SetAtG kd h a (fun _ => false) 0 :=
  ⟨_, #[], 0, _, ⟨ho, ⟨rfl, rfl, rfl⟩, rfl, fun e he => (by simp at he), fun k => (by simp), (by decide), (by rfl), rfl, List.Pairwise.nil, by
    show _ ∨ (!w.params.followText "set-order") = true
    cases w.params.followText "set-order" <;> simp, List.Pairwise.nil⟩⟩

variable {A : Around} {E : Value → Shared → Prop} {s : Shared} {a : Addr} {S : κ → Bool} {n : Nat}

theorem addG_tail {g : Bool → Sem Unit} (hg : ∀ (b : Bool) (s₁ : Shared) (Q' : Unit → Shared → Prop), Q' () s₁ → wpAny (model P w) A (g b) Q' E s₁)
    {o : Obj} {es es1 : Array (Int × Value)} {ep : Nat} {t t2 : SetTable} {S' : κ → Bool} (ho : s.heap.get? a = some o) (hex : o.ExactSet) (hd : o.data = .set es ep t)
    (el1 : ElemsOf kd es1.toList) (m1 : ∀ k, S' k = true ↔ ∃ e ∈ es1.toList, kd.is k e.2 = true) (nd1 : es1.toList.Pairwise (Apart kd))
    (b1 : es1.size < scanBound) (f2 : t2.fits es1.size = true) (r2 : Ris t2.place.toList) (l2 : w.params.followText "set-order" = true ∨ t2.led = true) {wasD : Bool} {R : Option Bool → Shared → Prop}
    (hR : ∀ h', Heap.SameBut a s.heap h' → SetAtG kd h' a S' es1.size → R (some true) { s with heap := h' }) :
    wpAny (model P w) A (do
        storeSet a es1 t2
        if (!wasD && t2.tooFull) = true then do
            g (relayAll t2 es1 (SetTable.grown es1.size)).2.2
            storeSet a (relayAll t2 es1 (SetTable.grown es1.size)).1 (relayAll t2 es1 (SetTable.grown es1.size)).2.1
            pure (some true)
          else pure (some true)) R E s := by
  refine wpAny_bind (wpAny_storeSet_of ho hd ?_ (fits_of_scanBound b1))
  have q1 := store_at (es' := es1) (t' := t2) ho hd
  have k1 := Heap.SameBut.update s.heap a (Obj.putSet es1 t2)
  by_cases hc : (!wasD && t2.tooFull) = true
  · rw [if_pos hc]
    have pm := relayAll_perm t2 es1 (SetTable.grown es1.size)
    have f3 := relayAll_fits t2 es1 (SetTable.grown es1.size)
    have r3 := relayAll_ris t2 es1 (SetTable.grown es1.size)
    have l3 := relayAll_led t2 es1 (SetTable.grown es1.size)
    generalize relayAll t2 es1 (SetTable.grown es1.size) = Z at pm f3 r3 l3 ⊢
    obtain ⟨es2, t3, gv⟩ := Z
    dsimp only at pm f3 r3 l3 ⊢
    have z2 : es2.size = es1.size := by rw [← Array.length_toList, pm.length_eq, Array.length_toList]
    have b2 : es2.size < scanBound := z2 ▸ b1
    refine wpAny_bind (hg _ _ _ ?_)
    refine wpAny_bind (wpAny_storeSet_of q1 rfl ?_ (fits_of_scanBound b2))
    have q2 := store_at (es' := es2) (t' := t3) q1 rfl
    have m2 : ∀ k, S' k = true ↔ ∃ e ∈ es2.toList, kd.is k e.2 = true := fun k => (m1 k).trans ⟨fun ⟨e, he, q⟩ => ⟨e, pm.mem_iff.mpr he, q⟩, fun ⟨e, he, q⟩ => ⟨e, pm.mem_iff.mp he, q⟩⟩
    exact wpAny_pure (hR _ (k1.trans (Heap.SameBut.update _ a _)) ⟨_, es2, _, t3, ⟨q2, hex, rfl, el1.perm pm, m2, b2, f3, z2, r3, l2.imp id fun z => l3 ▸ z, (pm.pairwise_iff (fun h => Apart.symm h)).mpr nd1⟩⟩)
  · rw [if_neg hc]
    exact wpAny_pure (hR _ k1 ⟨_, es1, _, t2, ⟨q1, hex, rfl, el1, m1, b1, f2, rfl, r2, l2, nd1⟩⟩)

theorem addG {k : κ} {x : Value} {Q : Bool → Shared → Prop} (hk : kd.is k x = true) (hx : x.scannable = true) (R : SetAtG kd s.heap a S n) (hroom : n + 1 < scanBound)
    (hQ : ∀ h', Heap.SameBut a s.heap h' → SetAtG kd h' a (fun j => S j || decide (j = k)) (if S k = true then n else n + 1) → Q (!S k) { s with heap := h' }) :
    wpAny (model P w) A (setAddHashed a x (kd.hash k)) Q E s := by
  obtain ⟨o, es, ep, t, R⟩ := R
  have bz : es.size + 1 < scanBound := by rw [R.num]; exact hroom
  unfold setAddHashed setAddHashedIn
  refine wpAny_holding (wpAny_bind (wpAny_setState_of R.at_ R.dat R.fit ?_))
  dsimp only
  rw [byScan_of hx R.room R.els]
  simp only [↓reduceIte]
  unfold setAddByScan
  refine wpAny_bind (wpAny_bind (wpAny_rule (wpAny_bind (wpAny_setScan_of hk R.at_ R.dat R.fit R.els ?_))))
  cases hfi : List.findIdx? (fun e => kd.is k e.2) es.toList with
  | some j =>
    obtain ⟨hj, pj, _⟩ := List.findIdx?_eq_some_iff_getElem.mp hfi
    have hS : S k = true := (R.mem k).mpr ⟨_, List.getElem_mem hj, pj⟩
    refine wpAny_pure (wpAny_pure ?_)
    have q := hQ s.heap (Heap.SameBut.refl a s.heap) ⟨o, es, ep, t, ⟨R.at_, R.ex, R.dat, R.els, fun i => (by
      rw [Bool.or_eq_true, decide_eq_true_eq, ← R.mem i]
      exact ⟨fun z => z.elim id (fun e => e ▸ hS), .inl⟩), R.room, R.fit, (by rw [if_pos hS]; exact R.num), R.ris, R.led, R.nd⟩⟩
    rw [hS] at q
    exact q
  | none =>
    have hno : ∀ e ∈ es.toList, kd.is k e.2 = false := fun e he => by
      have c := List.findIdx?_eq_none_iff.mp hfi e he
      cases q : kd.is k e.2 with
      | false => rfl
      | true => rw [q] at c; cases c
    have hS : S k = false := by
      cases q : S k with
      | false => rfl
      | true =>
        obtain ⟨e, he, z⟩ := (R.mem k).mp q
        rw [hno e he] at z; cases z
    have pm := layNew_perm t es (kd.hash k) x
    have f1 := layNew_fits t es (kd.hash k) x
    have r1 := layNew_ris t es (kd.hash k) x R.ris
    have l1 := layNew_led t es (kd.hash k) x
    dsimp only
    generalize layNew t es (kd.hash k) x = Z at pm f1 r1 l1 ⊢
    obtain ⟨es1, t1, wasD, gv⟩ := Z
    dsimp only at pm f1 r1 l1 ⊢
    rw [Array.toList_push] at pm
    have el1 : ElemsOf kd es1.toList := (R.els.push hk hx).perm pm
    have m1 : ∀ i, (S i || decide (i = k)) = true ↔ ∃ e ∈ es1.toList, kd.is i e.2 = true := mem_push_iff hk R.mem pm
    have nd1 : es1.toList.Pairwise (Apart kd) := by
      refine (pm.pairwise_iff (fun h => Apart.symm h)).mpr (List.pairwise_append.mpr ⟨R.nd, List.pairwise_singleton _ _, fun e he f hf => ?_⟩)
      rw [List.mem_singleton.mp hf]
      refine Apart.symm fun j hj => ?_
      have : j = k := kd.inj x j k hj hk
      rw [this]; exact hno e he
    have z1 : es1.size = n + 1 := by rw [← Array.length_toList, pm.length_eq, List.length_append, Array.length_toList, R.num]; rfl
    have b1 : es1.size < scanBound := by rw [z1]; exact hroom
    have ld : w.params.followText "set-order" = true ∨ t1.led = true := R.led.imp id fun z => by rw [l1]; exact z
    have fin : ∀ h', Heap.SameBut a s.heap h' → SetAtG kd h' a (fun j => S j || decide (j = k)) es1.size → Q true { s with heap := h' } := fun h' sb r => by
      have q := hQ h' sb
      rw [hS] at q
      rw [z1] at r
      exact q r
    have gw : ∀ (b : Bool) {s₁ : Shared} {Q' : Unit → Shared → Prop}, Q' () s₁ → wpAny (model P w) A (match b with | true => rule "set.scan.the-table-gave-way" | false => pure ()) Q' E s₁ :=
      fun b s₁ Q' q => by cases b <;> first | exact wpAny_pure q | exact wpAny_rule q
    refine wpAny_bind (gw _ ?_)
    split
    · refine wpAny_bind ?_
      rw [hashByValue_scannable 8 hx]
      refine wpAny_pure (addG_tail (fun b s₁ Q' q => by cases b <;> first | exact wpAny_pure q | exact wpAny_rule q) R.at_ R.ex R.dat el1 m1 nd1 b1 ?_ ?_ ?_ ?_)
      · split <;> first | exact f1 | exact SetTable.fits_plain_off f1
      · split <;> exact r1
      · split <;> exact ld
      · intro h' sb r; dsimp only; exact wpAny_pure (fin h' sb r)
    · refine wpAny_bind (wpAny_pure ?_)
      simp only [↓reduceIte]
      refine addG_tail (fun b s₁ Q' q => by cases b <;> first | exact wpAny_pure q | exact wpAny_rule q) R.at_ R.ex R.dat el1 m1 nd1 b1 f1 r1 ld ?_
      intro h' sb r; dsimp only; exact wpAny_pure (fin h' sb r)
end gen
end Ag

set_option Elab.async false
set_option linter.all false
set_option maxRecDepth 100000
set_option maxHeartbeats 4000000
namespace Ag
open PySem PySem.Spec PyProof.Rows L2
section
variable {P : Program} {w : World} {A : Around} {E : Value → Shared → Prop}

/-- set.update's loop over texts -/
theorem upd_loop {I : Addr} {fp wr : List Addr} {G : Array GenState → Array GenState → Prop} {n : Nat} {Pv : Nat → Value → Prop} {St : Nat → Shared → Prop} {R : Result → Shared → Prop}
    (W : WalksS P w A.in1 I fp wr G n Pv St) (C : Addr) (hC : C ∉ fp) (xs : List Str) (hn : n = xs.length) (hb : xs.length + 1 < scanBound) (hv : ∀ i v, Pv i v → ∃ x t, xs[i]? = some x ∧ v = .str x t) :
    ∀ (j i : Nat) (s : Shared), n - i = j → i ≤ n → St i s → (∃ S m, SetAtG (PySem.strKind P w) s.heap C S m ∧ m ≤ i ∧ ∀ k, S k = true ↔ k ∈ xs.take i) →
      (∀ s' S m, Moved (C :: wr) G s s' → SetAtG (PySem.strKind P w) s'.heap C S m → m ≤ n → (∀ k, S k = true ↔ k ∈ xs) → R (.ok (.ret .none)) s') →
      codeAny (model P w) A (.builtin "set.update.loop" ⟨[.ref C, .ref I], []⟩) R s := by
  have hCw : C ∉ wr := fun z => hC (W.sub _ z)
  have wide : ∀ b ∈ wr, b ∈ C :: wr := fun b z => List.mem_cons_of_mem _ z
  intro j
  induction j with
  | zero =>
    intro i s hj hi st ⟨S, m, hS, hm, hk⟩ hR
    obtain rfl : i = n := by omega
    refine codeAny_builtin F.entry_set_update_loop ?_
    rw [Around.under_plainId F.plain_set_update_loop _]
    show wpAny _ A.in1 (pyNext (.ref I) >>= _) _ _ s
    refine wpAny_bind (W.done s _ _ st fun s' mv => ?_)
    show wpAny _ A.in1 (ret Value.none) _ _ s'
    refine wpAny_pure (hR s' S m (mv.mono wide) (hS.keep fun o e => mv.heap C o hCw e) hm fun k => ?_)
    rw [hk k, hn, List.take_length]
  | succ j ih =>
    intro i s hj hi st ⟨S, m, hS, hm, hk⟩ hR
    have lt : i < n := by omega
    refine codeAny_builtin F.entry_set_update_loop ?_
    rw [Around.under_plainId F.plain_set_update_loop _]
    show wpAny _ A.in1 (pyNext (.ref I) >>= _) _ _ s
    refine wpAny_bind (W.item i s _ _ lt st fun v s' pv st' mv => ?_)
    obtain ⟨x, tk, hx, rfl⟩ := hv i v pv
    have hS' := hS.keep (h' := s'.heap) fun o e => mv.heap C o hCw e
    show wpAny _ A.in1 (holding [Value.str x tk] (setAdd C (.str x tk)) >>= _) _ _ s'
    refine wpAny_bind (wpAny_holding ?_)
    unfold setAdd
    refine wpAny_holding (wpAny_bind ((PySem.strKind P w).pyHash (k := x) (strKind_is _ _ _ _) ?_))
    refine addG (kd := PySem.strKind P w) (s := { s' with toks := s'.toks + 1 }) (strKind_is _ _ _ _) rfl hS' (by omega) fun h' sb hS2 => ?_
    have tk1 : xs.take (i + 1) = xs.take i ++ [x] := by rw [List.take_succ, hx]; rfl
    refine wpAny_pure ⟨plainId_quiet F.plain_set_update_loop _, ih (i + 1) _ (by omega) lt (W.frame _ s' _ _ st' (Nat.le_succ _) fun b z o e => ?_) ⟨_, _, hS2, ?_, fun k => ?_⟩ fun s2 S2 m2 mv2 h2 l2 k2 => hR s2 S2 m2 ?_ h2 l2 k2⟩
    · rw [sb.2 b (fun q => hC (q ▸ z))]; exact e
    · split <;> omega
    · rw [tk1, Bool.or_eq_true, hk k, List.mem_append, List.mem_singleton, decide_eq_true_eq]
    · refine Moved.trans W.gtrans ((mv.mono wide).then_heap (Nat.le_succ _) fun b o z e => ?_) mv2
      rw [sb.2 b (fun q => z (q ▸ List.mem_cons_self))]; exact e

set_option maxHeartbeats 4000000 in
theorem set_of_strs {s : Shared} {l : Addr} {items : Array Value} {xs : List Str} {Q : Value → Shared → Prop} (hh : A.handled = none) (hl : s.heap.IsList l items) (hi : StrsAre items.toList xs) (hb : xs.length + 1 < scanBound)
    (hQ : ∀ (h' : Heap) (tk : Nat) S m, SetAtG (PySem.strKind P w) h' s.heap.objs.size S m → m ≤ xs.length → (∀ k, S k = true ↔ k ∈ xs) → (∀ b o, s.heap.get? b = some o → h'.get? b = some o) → Q (.ref s.heap.objs.size) { s with heap := h', toks := tk }) :
    wpAny (model P w) A (call (.type "set") [.ref l]) Q E s := by
  have isz : items.size = xs.length := by rw [← StrsAre.len_eq hi, Array.length_toList]
  obtain ⟨c, tl, hmro⟩ := F.called_set.mro
  have hmade := F.called_set.made
  have hsub := F.called_set.sub
  refine wpAny_call (codeAny_of_tree ?_)
  show wpAny _ _ (callAny (.type "set") _) _ _ _
  refine wpAny_pure ⟨Code.quiet_builtin _ (by decide +kernel), codeAny_builtin F.entry_type_call ?_⟩
  rw [Around.under_plain (weight_type_call_type "set" [.ref l] []) rfl]
  have h1 := F.called_set.notType
  have h2 := F.called_set.canCreate
  have hct := F.typeCall_set_1 (.ref l)
  repeat (any_goals (first | assumption | wp_step))
  refine codeAny_mono (code_set_led1 (.ref l) (E := E) (Q₁ := fun obj s₁ => obj = .ref s.heap.objs.size ∧ s₁ = { s with heap := s.heap.push ({ cls := .type "set", dict := none, data := .set #[] 0 (.fresh 0 0 (!w.params.followText "set-order")) } : Obj) }) ⟨rfl, rfl⟩) fun r s₁ hr => ?_
  cases r with
  | error e => exact hr
  | ok fl =>
    cases fl with
    | ret obj =>
      obtain ⟨rfl, rfl⟩ := hr
      have hS : (s.heap.push ({ cls := .type "set", dict := none, data := .set #[] 0 (.fresh 0 0 (!w.params.followText "set-order")) } : Obj)).get? s.heap.objs.size = some ({ cls := .type "set", dict := none, data := .set #[] 0 (.fresh 0 0 (!w.params.followText "set-order")) } : Obj) := Heap.get?_push_size _ rfl
      have hT : Shared.TypeIs { s with heap := s.heap.push ({ cls := .type "set", dict := none, data := .set #[] 0 (.fresh 0 0 (!w.params.followText "set-order")) } : Obj) } (.ref s.heap.objs.size) "set" := ⟨_, hS, rfl⟩
      have hli := F.called_set.init.lookup
      have hbi := F.called_set.init.bind (.ref s.heap.objs.size)
      repeat (any_goals (first | assumption | wp_step))
      refine codeAny_mono (codeAny_call_builtin (R := wants (fun r s₂ => r = .none ∧ ∃ h' tk S m, s₂ = { s with heap := h', toks := tk } ∧ SetAtG (PySem.strKind P w) h' s.heap.objs.size S m ∧ m ≤ xs.length ∧ (∀ k, S k = true ↔ k ∈ xs) ∧
          (∀ b o, s.heap.get? b = some o → h'.get? b = some o)) E) F.called_set.init.plain F.entry_set_init (check_set_init_1 hT ?_)) fun r₂ s₂ hr₂ => ?_
      · obtain ⟨ol, hol, hcl, nl, hdl⟩ := hl
        obtain ⟨ocls, odict, odata, oslots⟩ := ol
        simp only at hcl hdl
        subst hcl; subst hdl
        have hol1 : (s.heap.push ({ cls := .type "set", dict := none, data := .set #[] 0 (.fresh 0 0 (!w.params.followText "set-order")) } : Obj)).get? l = some { cls := .type "list", dict := odict, data := .seq items nl, slots := oslots } := Heap.get?_push_of_some _ hol
        have hsls := F.sub_list_set
        have hslf := F.sub_list_frozenset
        have hne : (Value.type "list" == Value.type "dict") = false := by decide
        have hl1 : (s.heap.push ({ cls := .type "set", dict := none, data := .set #[] 0 (.fresh 0 0 (!w.params.followText "set-order")) } : Obj)).IsList l items := ⟨_, hol1, rfl, nl, rfl⟩
        unfold Builtin.«set.__init__» noKeywords Builtin.Frozenset.updateFrom
        generalize hPI : pyIter = PI
        wp_walk
        subst hPI
        refine wpAny_pyIter_list hl1 ?_
        refine wpAny_bind (wpAny_runValue ?_)
        have llt : l < s.heap.objs.size := Heap.lt_size hol
        have hh3 : A.in1.in1.in1.handled = none := by simp [hh]
        have z1 : (s.heap.push ({ cls := .type "set", dict := none, data := .set #[] 0 (.fresh 0 0 (!w.params.followText "set-order")) } : Obj)).objs.size = s.heap.objs.size + 1 := Heap.size_push ..
        have ne1 : l ≠ (s.heap.push ({ cls := .type "set", dict := none, data := .set #[] 0 (.fresh 0 0 (!w.params.followText "set-order")) } : Obj)).objs.size := by rw [z1]; exact Nat.ne_of_lt (Nat.lt_succ_of_lt llt)
        have hnf : s.heap.objs.size ∉ [(s.heap.push ({ cls := .type "set", dict := none, data := .set #[] 0 (.fresh 0 0 (!w.params.followText "set-order")) } : Obj)).objs.size, l] := by
          rw [z1]; intro z
          rcases List.mem_cons.mp z with z | z
          · exact Nat.ne_of_lt (Nat.lt_succ_self _) z
          · exact Nat.ne_of_gt llt (List.mem_singleton.mp z)
        have hval : ∀ (i : Nat) (v : Value), items[i]? = some v → ∃ x t, xs[i]? = some x ∧ v = .str x t := fun i v q => by
          have q2 : items.toList[i]? = some v := by rw [Array.getElem?_toList]; exact q
          obtain ⟨t, e⟩ := SS.strs_at hi i v q2
          have il : i < xs.length := by rw [← isz, ← Array.length_toList]; exact (List.getElem?_eq_some_iff.mp q2).1
          refine ⟨_, t, ?_, e⟩
          rw [List.getD_eq_getElem?_getD, List.getElem?_eq_getElem il]; rfl
        refine upd_loop ((Walks.list hh3 _ l ne1 items).toS) s.heap.objs.size hnf xs isz hb hval (items.size - 0) 0 _ (by omega) (Nat.zero_le _)
          ⟨⟨_, Heap.get?_push_size _ rfl, rfl, rfl⟩, (hl1.push _)⟩ ⟨_, 0, SetAtG.fresh (kd := PySem.strKind P w) (Heap.get?_push_of_some _ hS), Nat.le_refl _, fun k => (by simp)⟩ fun s' S m mv hS' hm hk => ?_
        obtain ⟨h', g2, d', tk', os'⟩ := s'
        have eg : g2 = s.gens := mv.gens
        have ed : d' = s.drawn := mv.drawn
        have eo : os' = s.os := mv.os
        subst eg; subst ed; subst eo
        show wpAny _ _ _ _ _ _
        refine wpAny_pure ?_
        show wpAny _ _ (ret Value.none) _ _ _
        refine wpAny_pure ⟨rfl, h', tk', S, m, rfl, hS', by rw [← isz]; exact hm, hk, fun b o e => mv.heap b o (fun z => ?_) (Heap.get?_push_of_some _ (Heap.get?_push_of_some _ e))⟩
        have lb := Heap.lt_size e
        rcases List.mem_cons.mp z with z | z
        · exact Nat.ne_of_lt lb z
        · exact Nat.ne_of_lt (Nat.lt_succ_of_lt lb) ((List.mem_singleton.mp z).trans z1)
      · cases r₂ with
        | error e => exact hr₂
        | ok fl₂ =>
          cases fl₂ with
          | ret r =>
            obtain ⟨rfl, h', tk, S, m, rfl, hS', hm, hk, kp⟩ := hr₂
            repeat (any_goals (first | assumption | wp_step))
            exact hQ _ _ _ _ hS' hm hk kp
          | _ => exact hr₂.elim
    | _ => exact hr.elim
end
end Ag

set_option Elab.async false
set_option linter.all false
set_option maxRecDepth 100000
set_option maxHeartbeats 4000000
namespace Ag
open PySem PySem.Spec PyProof.Rows L2
section
variable {P : Program} {w : World} {A : Around} {E : Value → Shared → Prop} {s : Shared}

theorem strs_pick : ∀ (l : List (Int × Value)), ElemsOf (PySem.strKind P w) l → ∃ xs : List Str, StrsAre (l.map (·.2)) xs ∧ ∀ k, k ∈ xs ↔ ∃ e ∈ l, (PySem.strKind P w).is k e.2 = true
  | [], _ => ⟨[], .nil, fun k => by simp⟩
  | e :: l, h => by
    obtain ⟨xs, r, m⟩ := strs_pick l h.tail
    obtain ⟨⟨k, hk, _⟩, _⟩ := h.head
    obtain ⟨t, q⟩ := Value.isStrOf_shape (x := k) (v := e.2) hk
    refine ⟨k :: xs, ?_, fun j => ?_⟩
    · show StrsAre (e.2 :: l.map (·.2)) _
      rw [q]; exact .cons k t r
    · rw [List.mem_cons, m j]
      constructor
      · rintro (rfl | ⟨f, hf, z⟩)
        · exact ⟨e, List.mem_cons_self, hk⟩
        · exact ⟨f, List.mem_cons_of_mem _ hf, z⟩
      · rintro ⟨f, hf, z⟩
        rcases List.mem_cons.mp hf with rfl | hf
        · exact .inl ((PySem.strKind P w).inj _ _ _ z hk)
        · exact .inr ⟨f, hf, z⟩

theorem strs_of_perm : ∀ {us vs : List Value} {xs : List Str}, us.Perm vs → StrsAre vs xs → ∃ ys : List Str, StrsAre us ys ∧ ys.Perm xs := by
  intro us vs xs p
  induction p generalizing xs with
  | nil => intro h; cases h; exact ⟨[], .nil, .nil⟩
  | cons v _ ih =>
    intro h
    cases h with
    | cons x t r =>
      obtain ⟨ys, a, b⟩ := ih r
      exact ⟨x :: ys, .cons x t a, b.cons x⟩
  | swap v u l =>
    intro h
    cases h with
    | cons x t r =>
      cases r with
      | cons y t' r' => exact ⟨y :: x :: _, .cons y t' (.cons x t r'), .swap x y _⟩
  | trans _ _ ih1 ih2 =>
    intro h
    obtain ⟨ys, a, b⟩ := ih2 h
    obtain ⟨zs, c, d⟩ := ih1 a
    exact ⟨zs, c, d.trans b⟩

theorem strsAre_inj : ∀ {us : List Value} {xs ys : List Str}, StrsAre us xs → StrsAre us ys → xs = ys
  | _, _, _, .nil, h => by cases h; rfl
  | _, _, _, .cons x t r, h => by
    cases h with
    | cons y t' r' => rw [strsAre_inj r r']

theorem strs_nodup : ∀ {l : List (Int × Value)} {xs : List Str}, StrsAre (l.map (·.2)) xs → l.Pairwise (Apart (PySem.strKind P w)) → ElemsOf (PySem.strKind P w) l → xs.Nodup
  | [], _, .nil, _, _ => List.nodup_nil
  | e :: l, _, h, nd, el => by
    obtain ⟨v, hv⟩ : ∃ v, e.2 = v := ⟨_, rfl⟩
    rw [List.map_cons, hv] at h
    cases h with
    | cons x t r =>
      obtain ⟨n1, n2⟩ := List.pairwise_cons.mp nd
      refine List.nodup_cons.mpr ⟨fun hx => ?_, strs_nodup r n2 el.tail⟩
      obtain ⟨ys, r', m⟩ := strs_pick (P := P) (w := w) l el.tail
      have same : ys = _ := strsAre_inj r' r
      subst same
      obtain ⟨f, hf, z⟩ := (m x).mp hx
      have := n1 f hf x (by rw [hv]; exact strKind_is _ _ _ _)
      rw [z] at this; cases this

theorem sorted_of_strset {a : Addr} {S : Str → Bool} {m : Nat} {Q : Value → Shared → Prop} (R : SetAtG (PySem.strKind P w) s.heap a S m) (hh : A.handled = none)
    (hQ : ∀ s' p (out : Array Value) (c : Nat) (ys : List Str), (∀ b o, s.heap.get? b = some o → s'.heap.get? b = some o) → s'.gens = s.gens → s'.os = s.os → s.heap.objs.size ≤ p →
      s'.heap.get? p = some (seqObj "list" out c) → StrsAre out.toList ys → sortedS ys = true → ys.Nodup → (∀ k, k ∈ ys ↔ S k = true) → ys.length = m → Q (.ref p) s') :
    wpAny (model P w) A (call (.builtin "sorted") [.ref a]) Q E s := by
  obtain ⟨o, es, ep, t, R⟩ := R
  obtain ⟨xs, hxs, mx⟩ := strs_pick (P := P) (w := w) es.toList R.els
  have nx := strs_nodup hxs R.nd R.els
  refine Calls.call_function_entry kind_sorted plain_sorted entry_sorted (args_sorted1 _) ?_
  unfold Builtin.«sorted»
  refine wpAny_bind (m := checkCount "sorted" 1 1 _) (wpAny_pure ?_)
  refine wpAny_bind (collect_set (A := A.in1) hh ⟨o, R.at_, R.ex.1, R.dat⟩ R.fit R.room R.ris R.led fun s1 vs k1 hz g1 o1 pm => ?_)
  have vl : vs.length = m := by rw [pm.length_eq, List.length_map, Array.length_toList]; exact R.num
  obtain ⟨zs, hzs, pz⟩ := strs_of_perm pm hxs
  have mb : m < scanBound := R.num ▸ R.room
  have small : vs.length ≤ sizeLine := by rw [vl]; exact fits_of_scanBound mb
  refine wpAny_bind (wpAny_newList ?_ small)
  have hoL : (s1.heap.push (seqObj "list" vs.toArray 0)).get? s1.heap.objs.size = some (seqObj "list" vs.toArray 0) := Heap.get?_push_size _ rfl
  refine wpAny_bind (wpAny_holding (wpAny_call_entry slot_list_sort ⟨_, hoL, rfl⟩ entry_list_sort (list_sort_treeKAny strKind_oneLt hoL hzs.keysOf (fun v₁ v₂ rest e => keyKind_strs (by rw [← e]; exact hzs)) small fun st' hp hs => ⟨_, rfl, ?_⟩) (args_list_sort _)))
  obtain ⟨ys, a1, a2, a3⟩ := sorted_out_str hzs hp hs
  obtain ⟨c, hc⟩ := sortedHeap_at (vs := vs) (out := (arrOf st').map (·.2)) hoL
  have py : ys.Perm xs := a2.trans pz
  refine wpAny_pure ⟨_, rfl, hQ _ s1.heap.objs.size _ c ys (fun b u e => ?_) g1 o1 hz hc a1 a3 (py.nodup_iff.mpr nx) (fun k => by rw [py.mem_iff, mx k, ← R.mem k]) ?_⟩
  · have q := k1 b u e
    have lt := Heap.lt_size q
    show (sortedHeap (s1.heap.push (seqObj "list" vs.toArray 0)) s1.heap.objs.size vs _).get? b = some u
    rw [sortedHeap_old (Nat.ne_of_lt lt) (by rw [size_push']; exact Nat.lt_succ_of_lt lt)]
    exact Heap.get?_push_of_some _ q
  · have h1 := StrsAre.len_eq hzs
    rw [a2.length_eq, ← h1, vl]
end

/-! ### over the layer -/
/-- the set of the texts xs, at a -/
def StrSet (P : Program) (w : World) (a : Addr) (xs : List Str) : HO := .ext fun h => ∃ S m, SetAtG (PySem.strKind P w) h a S m ∧ m ≤ xs.length ∧ ∀ k, S k = true ↔ k ∈ xs
def rSetS (K : PySem.W.Frag) (P : Program) (w : World) : List V → Hp → VK → Prop := fun vs H Q => ∃ (a : Addr) (xs : List Str), vs = [V.ref a] ∧ (SqL K H a (xs.map V.str)) ∧ xs.length < 4000 ∧
  ∀ p, H p = none → Q (.ref p) (upd H p (StrSet P w p xs))
def rSortSetS (P : Program) (w : World) : List V → Hp → VK → Prop := fun vs H Q => ∃ (a : Addr) (xs : List Str), vs = [V.ref a] ∧ H a = some (StrSet P w a xs) ∧
  ∀ ys p, sortedS ys = true → ys.Nodup → (∀ k, k ∈ ys ↔ k ∈ xs) → H p = none → Q (.ref p) (upd H p (.lst (ys.map V.str)))
theorem cr_setS {X : Cx} (hc : X.calm = true) : CallR X (.type "set") (rSetS X.K X.prog X.w) := by
  intro pins s σ H vs us Q I r h
  obtain ⟨a, xs, rfl, hs, hb, q⟩ := h
  obtain ⟨its, rv, hl, _⟩ := I.list hs
  rw [Vals.ref1 r]
  have hn : H s.heap.objs.size = none := I.hok.fresh (Nat.le_refl _)
  refine set_of_strs (P := X.prog) (w := X.w) (I.ok.hd hc) hl.isList rv.strs (by unfold scanBound; omega) fun h' tk S m hS hm hk kp => ?_
  refine ⟨.ref s.heap.objs.size, upd H s.heap.objs.size (StrSet X.prog X.w s.heap.objs.size xs), I.laid (t' := tk) kp (Nat.le_refl _) ?_, rfl, q _ hn⟩
  refine ⟨⟨S, m, hS, hm, hk⟩, ?_, ?_⟩
  · obtain ⟨o, es, ep, t, R⟩ := hS
    exact ⟨o, R.at_⟩
  · rintro h1 h2 ⟨S, m, hS, hm, hk⟩ e
    exact ⟨S, m, hS.keep e, hm, hk⟩
theorem cr_sortSetS {X : Cx} (hc : X.calm = true) : CallR X (.builtin "sorted") (rSortSetS X.prog X.w) := by
  intro pins s σ H vs us Q I r h
  obtain ⟨a, xs, rfl, ha, q⟩ := h
  obtain ⟨⟨S, m, hS, hm, hk⟩, _⟩ := I.hok a _ ha
  rw [Vals.ref1 r]
  refine sorted_of_strset hS (I.ok.hd hc) fun s' p out c ys kp g o hp hg hout srt nd mem hlen => ?_
  have hn : H p = none := I.hok.fresh hp
  have mb : m < scanBound := by
    obtain ⟨o, es, ep, t, R⟩ := hS
    exact R.num ▸ R.room
  have small : (ys.map V.str).length ≤ sizeLine := by rw [List.length_map, hlen]; exact fits_of_scanBound mb
  have J : Inv X pins σ (upd H p (.lst (ys.map V.str))) { s with heap := s'.heap, gens := s'.gens, drawn := s'.drawn, toks := s'.toks } :=
    I.call (ch := []) (Un.laid kp hp hn) (I.hok.laid kp hp ⟨small, out.toList, c, vals_of_strs hout, hg⟩) (by rw [g]; exact I.bare) (fun _ z => nomatch z)
  have e : s' = { s with heap := s'.heap, gens := s'.gens, drawn := s'.drawn, toks := s'.toks } := by
    cases s'; cases s; cases o; rfl
  rw [e]
  exact ⟨.ref p, _, J, rfl, q ys p srt nd (fun k => (mem k).trans (hk k)) hn⟩
end Ag

set_option Elab.async false
set_option linter.all false
set_option maxRecDepth 100000
set_option maxHeartbeats 1000000
/-! Data: what a reading of an expression over plain values gives, with the heap only growing. -/
namespace Ag
open PySem PySem.Spec PyProof.Rows L2

/-! ### heaps that keep -/
theorem _root_.L2.Same.newA {H : Hp} {p : Addr} {o : HO} (h : H p = none) : Same H (upd H p o) := fun a u e => by
  rw [upd_ne (ne_of_none e h)]; exact e
theorem _root_.L2.Same.rdA {H H' : Hp} {a : Addr} {u : HO} (e : Same H H') (h : Rd H a u) : Rd H' a u :=
  h.elim (fun z => .inl (e _ _ z)) fun ⟨o, z⟩ => .inr ⟨o, e _ _ z⟩
theorem _root_.L2.Same.slA {K : PySem.W.Frag} {H H' : Hp} {a : Addr} {xs : List V} (e : Same H H') (h : SqL K H a xs) : SqL K H' a xs := h.imp e.rdA id
theorem _root_.L2.Same.stA {K : PySem.W.Frag} {H H' : Hp} {a : Addr} {xs : List V} (e : Same H H') (h : SqT K H a xs) : SqT K H' a xs := h.imp e.rdA id
theorem _root_.L2.Same.freshA {H H' : Hp} {p : Addr} (e : Same H H') (h : H' p = none) : H p = none := e.free h

/-! ### plain data -/
mutual
theorem dp_mono {K : PySem.W.Frag} {H H' : Hp} (e : Same H H') : ∀ {v : V} {d : PyData}, Dp K H v d → Dp K H' v d
  | _, _, .non => .non
  | _, _, .bl b => .bl b
  | _, _, .int i => .int i
  | _, _, .str x => .str x
  | _, _, .lst h r => .lst (e.slA h) (dps_mono e r)
  | _, _, .tup h r => .tup (e.stA h) (dps_mono e r)
theorem dps_mono {K : PySem.W.Frag} {H H' : Hp} (e : Same H H') : ∀ {vs : List V} {ds : List PyData}, DpAll K H vs ds → DpAll K H' vs ds
  | _, _, .nil => .nil
  | _, _, .cons h r => .cons (dp_mono e h) (dps_mono e r)
end
theorem dps_len {K : PySem.W.Frag} {H : Hp} : ∀ {vs : List V} {ds : List PyData}, DpAll K H vs ds → vs.length = ds.length
  | _, _, .nil => rfl
  | _, _, .cons _ r => by rw [List.length_cons, List.length_cons, dps_len r]
theorem dps_get {K : PySem.W.Frag} {H : Hp} : ∀ {vs : List V} {ds : List PyData} {i : Nat} {d : PyData}, DpAll K H vs ds → ds[i]? = some d → ∃ v, vs[i]? = some v ∧ Dp K H v d
  | _, _, _, _, .nil, h => by simp at h
  | _, _, 0, _, .cons a r, h => by simp at h; subst h; exact ⟨_, rfl, a⟩
  | _, _, i + 1, _, .cons a r, h => by
    obtain ⟨v, e, q⟩ := dps_get (i := i) r (by simpa using h)
    exact ⟨v, by simpa using e, q⟩
theorem dps_get' {K : PySem.W.Frag} {H : Hp} : ∀ {vs : List V} {ds : List PyData} {i : Nat} {v : V}, DpAll K H vs ds → vs[i]? = some v → ∃ d, ds[i]? = some d ∧ Dp K H v d
  | _, _, _, _, .nil, h => by simp at h
  | _, _, 0, _, .cons a r, h => by simp at h; subst h; exact ⟨_, rfl, a⟩
  | _, _, i + 1, _, .cons a r, h => by
    obtain ⟨v, e, q⟩ := dps_get' (i := i) r (by simpa using h)
    exact ⟨v, by simpa using e, q⟩
theorem dps_app {K : PySem.W.Frag} {H : Hp} : ∀ {vs us : List V} {ds es : List PyData}, DpAll K H vs ds → DpAll K H us es → DpAll K H (vs ++ us) (ds ++ es)
  | _, _, _, _, .nil, q => q
  | _, _, _, _, .cons a r, q => .cons a (dps_app r q)
theorem dps_take {K : PySem.W.Frag} {H : Hp} : ∀ {vs : List V} {ds : List PyData} (n : Nat), DpAll K H vs ds → DpAll K H (vs.take n) (ds.take n)
  | _, _, 0, _ => .nil
  | _, _, _ + 1, .nil => .nil
  | _, _, n + 1, .cons a r => .cons a (dps_take n r)
theorem dps_drop {K : PySem.W.Frag} {H : Hp} : ∀ {vs : List V} {ds : List PyData} (n : Nat), DpAll K H vs ds → DpAll K H (vs.drop n) (ds.drop n)
  | _, _, 0, h => h
  | _, _, _ + 1, .nil => .nil
  | _, _, n + 1, .cons _ r => dps_drop n r
theorem dps_strs {K : PySem.W.Frag} {H : Hp} : ∀ (xs : List Str), DpAll K H (xs.map V.str) (xs.map .str)
  | [] => .nil
  | x :: xs => .cons (.str x) (dps_strs xs)
theorem strs_dps {K : PySem.W.Frag} {H : Hp} : ∀ {xs : List Str} {vs : List V}, DpAll K H vs (xs.map .str) → vs = xs.map V.str
  | [], _, h => by cases h; rfl
  | x :: xs, _, h => by
    cases h with
    | cons a r => cases a; rw [strs_dps r]; rfl
theorem ints_dps {K : PySem.W.Frag} {H : Hp} : ∀ {xs : List Int} {vs : List V}, DpAll K H vs (xs.map .int) → vs = xs.map V.int
  | [], _, h => by cases h; rfl
  | x :: xs, _, h => by
    cases h with
    | cons a r => cases a; rw [ints_dps r]; rfl
theorem bls_dps {K : PySem.W.Frag} {H : Hp} : ∀ {xs : List Bool} {vs : List V}, DpAll K H vs (xs.map .bool) → vs = xs.map V.bl
  | [], _, h => by cases h; rfl
  | x :: xs, _, h => by
    cases h with
    | cons a r => cases a; rw [bls_dps r]; rfl


/-! ### data whose lists stand where F allows -/
def KL (K : PySem.W.Frag) (a : Addr) (xs : List V) : Prop := ∃ (o : Obj) (its : Array Value) (n : Nat), K.lookup a = some o ∧ o.cls = .type "list" ∧ o.dict = none ∧ o.data = .seq its n ∧ its.size ≤ sizeLine ∧ Vals xs its.toList
mutual
inductive Df (K : PySem.W.Frag) (F : Addr → Prop) (H : Hp) : V → PyData → Prop
  | non : Df K F H .non .none
  | bl (b : Bool) : Df K F H (.bl b) (.bool b)
  | int (i : Int) : Df K F H (.int i) (.int i)
  | str (x : Str) : Df K F H (.str x) (.str x)
  | lst {a : Addr} {xs : List V} {ds : List PyData} : (Rd H a (.lst xs) ∧ F a) ∨ KL K a xs → DfAll K F H xs ds → Df K F H (.ref a) (.list ds)
  | tup {a : Addr} {xs : List V} {ds : List PyData} : SqT K H a xs → DfAll K F H xs ds → Df K F H (.ref a) (.tuple ds)
inductive DfAll (K : PySem.W.Frag) (F : Addr → Prop) (H : Hp) : List V → List PyData → Prop
  | nil : DfAll K F H [] []
  | cons {v : V} {vs : List V} {d : PyData} {ds : List PyData} : Df K F H v d → DfAll K F H vs ds → DfAll K F H (v :: vs) (d :: ds)
end
section
variable {K : PySem.W.Frag} {F G : Addr → Prop} {H H' : Hp}
mutual
theorem df_dp : ∀ {v : V} {d : PyData}, Df K F H v d → Dp K H v d
  | _, _, .non => .non
  | _, _, .bl b => .bl b
  | _, _, .int i => .int i
  | _, _, .str x => .str x
  | _, _, .lst h r => .lst (h.imp (fun z => z.1) id) (dfs_dps r)
  | _, _, .tup h r => .tup h (dfs_dps r)
theorem dfs_dps : ∀ {vs : List V} {ds : List PyData}, DfAll K F H vs ds → DpAll K H vs ds
  | _, _, .nil => .nil
  | _, _, .cons h r => .cons (df_dp h) (dfs_dps r)
end
mutual
theorem dp_df : ∀ {v : V} {d : PyData}, Dp K H v d → Df K (fun a => H a ≠ none) H v d
  | _, _, .non => .non
  | _, _, .bl b => .bl b
  | _, _, .int i => .int i
  | _, _, .str x => .str x
  | _, _, .lst h r => .lst (h.imp (fun z => ⟨z, by rcases z with z | ⟨o, z⟩ <;> (rw [z]; exact fun q => nomatch q)⟩) id) (dps_dfs r)
  | _, _, .tup h r => .tup h (dps_dfs r)
theorem dps_dfs : ∀ {vs : List V} {ds : List PyData}, DpAll K H vs ds → DfAll K (fun a => H a ≠ none) H vs ds
  | _, _, .nil => .nil
  | _, _, .cons h r => .cons (dp_df h) (dps_dfs r)
end
mutual
theorem df_mono (e : Same H H') (f : ∀ a, F a → G a) : ∀ {v : V} {d : PyData}, Df K F H v d → Df K G H' v d
  | _, _, .non => .non
  | _, _, .bl b => .bl b
  | _, _, .int i => .int i
  | _, _, .str x => .str x
  | _, _, .lst h r => .lst (h.imp (fun z => ⟨e.rdA z.1, f _ z.2⟩) id) (dfs_mono e f r)
  | _, _, .tup h r => .tup (e.stA h) (dfs_mono e f r)
theorem dfs_mono (e : Same H H') (f : ∀ a, F a → G a) : ∀ {vs : List V} {ds : List PyData}, DfAll K F H vs ds → DfAll K G H' vs ds
  | _, _, .nil => .nil
  | _, _, .cons h r => .cons (df_mono e f h) (dfs_mono e f r)
end
theorem rd_other {a D : Addr} {u o : HO} (h : Rd H a u) (n : a ≠ D) : Rd (upd H D o) a u := by
  rcases h with h | ⟨x, h⟩
  · exact .inl (by rw [upd_ne n]; exact h)
  · exact .inr ⟨x, by rw [upd_ne n]; exact h⟩
mutual
/-- a list that the data does not hold is changed -/
theorem df_upd {D : Addr} {ys : List V} {o : HO} (hD : H D = some (.lst ys)) (nf : ¬ F D) : ∀ {v : V} {d : PyData}, Df K F H v d → Df K F (upd H D o) v d
  | _, _, .non => .non
  | _, _, .bl b => .bl b
  | _, _, .int i => .int i
  | _, _, .str x => .str x
  | _, _, .lst h r => .lst (h.imp (fun z => ⟨rd_other z.1 (fun q => nf (q ▸ z.2)), z.2⟩) id) (dfs_upd hD nf r)
  | _, _, .tup h r => .tup (h.imp (fun z => rd_other z (fun q => by
      subst q
      rcases z with z | ⟨x, z⟩ <;> (rw [hD] at z; cases z))) id) (dfs_upd hD nf r)
theorem dfs_upd {D : Addr} {ys : List V} {o : HO} (hD : H D = some (.lst ys)) (nf : ¬ F D) : ∀ {vs : List V} {ds : List PyData}, DfAll K F H vs ds → DfAll K F (upd H D o) vs ds
  | _, _, .nil => .nil
  | _, _, .cons h r => .cons (df_upd hD nf h) (dfs_upd hD nf r)
end
theorem dfs_len : ∀ {vs : List V} {ds : List PyData}, DfAll K F H vs ds → vs.length = ds.length
  | _, _, .nil => rfl
  | _, _, .cons _ r => by rw [List.length_cons, List.length_cons, dfs_len r]
theorem dfs_get : ∀ {vs : List V} {ds : List PyData} {i : Nat} {d : PyData}, DfAll K F H vs ds → ds[i]? = some d → ∃ v, vs[i]? = some v ∧ Df K F H v d
  | _, _, _, _, .nil, h => by simp at h
  | _, _, 0, _, .cons a r, h => by simp at h; subst h; exact ⟨_, rfl, a⟩
  | _, _, i + 1, _, .cons a r, h => by
    obtain ⟨v, e, q⟩ := dfs_get (i := i) r (by simpa using h)
    exact ⟨v, by simpa using e, q⟩
theorem dfs_get' : ∀ {vs : List V} {ds : List PyData} {i : Nat} {v : V}, DfAll K F H vs ds → vs[i]? = some v → ∃ d, ds[i]? = some d ∧ Df K F H v d
  | _, _, _, _, .nil, h => by simp at h
  | _, _, 0, _, .cons a r, h => by simp at h; subst h; exact ⟨_, rfl, a⟩
  | _, _, i + 1, _, .cons a r, h => by
    obtain ⟨d, e, q⟩ := dfs_get' (i := i) r (by simpa using h)
    exact ⟨d, by simpa using e, q⟩
theorem dfs_app : ∀ {vs us : List V} {ds es : List PyData}, DfAll K F H vs ds → DfAll K F H us es → DfAll K F H (vs ++ us) (ds ++ es)
  | _, _, _, _, .nil, q => q
  | _, _, _, _, .cons a r, q => .cons a (dfs_app r q)
theorem dfs_take : ∀ {vs : List V} {ds : List PyData} (n : Nat), DfAll K F H vs ds → DfAll K F H (vs.take n) (ds.take n)
  | _, _, 0, _ => .nil
  | _, _, _ + 1, .nil => .nil
  | _, _, n + 1, .cons a r => .cons a (dfs_take n r)
theorem dfs_drop : ∀ {vs : List V} {ds : List PyData} (n : Nat), DfAll K F H vs ds → DfAll K F H (vs.drop n) (ds.drop n)
  | _, _, 0, h => h
  | _, _, _ + 1, .nil => .nil
  | _, _, n + 1, .cons _ r => dfs_drop n r
theorem dfs_strs : ∀ (xs : List Str), DfAll K F H (xs.map V.str) (xs.map .str)
  | [] => .nil
  | x :: xs => .cons (.str x) (dfs_strs xs)
end
/-- what F allows, or is younger than H1 -/
def Fr (F : Addr → Prop) (H1 : Hp) : Addr → Prop := fun a => F a ∨ H1 a = none
theorem Fr.to {F : Addr → Prop} {H1 H2 : Hp} (s : Same H1 H2) : ∀ a, Fr F H2 a → Fr F H1 a := fun a z => z.imp id fun q => s.freshA q
theorem Fr.base {F : Addr → Prop} {H1 : Hp} : ∀ a, F a → Fr F H1 a := fun a z => .inl z
/-- what stands -/
def nn (H : Hp) : Addr → Prop := fun a => H a ≠ none
/-- all but lists that F does not allow are kept -/
def isLst : HO → Bool | .lst _ => true | _ => false
def SameF (F : Addr → Prop) (H H' : Hp) : Prop := ∀ a u, H a = some u → (F a ∨ isLst u = false) → H' a = some u
theorem SameF.refl {F : Addr → Prop} {H : Hp} : SameF F H H := fun _ _ h _ => h
theorem SameF.trans {F : Addr → Prop} {H H1 H2 : Hp} (a : SameF F H H1) (b : SameF F H1 H2) : SameF F H H2 := fun x u h z => b x u (a x u h z) z
theorem SameF.sub {F G : Addr → Prop} {H H1 : Hp} (a : SameF F H H1) (f : ∀ x, G x → F x) : SameF G H H1 := fun x u h z => a x u h (z.imp (f x) id)
theorem _root_.L2.Same.F {F : Addr → Prop} {H H1 : Hp} (a : Same H H1) : SameF F H H1 := fun x u h _ => a x u h
theorem SameF.upd {F : Addr → Prop} {H : Hp} {D : Addr} {ys : List V} {o : HO} (hD : H D = some (.lst ys)) (nf : ¬ F D) : SameF F H (upd H D o) := fun x u h z => by
  rw [upd_ne (fun q => ?_)]
  · exact h
  · subst q
    rw [hD] at h; cases h
    exact z.elim nf (fun q => nomatch q)
theorem rd_lstF {F : Addr → Prop} {H H1 : Hp} {a : Addr} {xs : List V} (s : SameF F H H1) (h : Rd H a (.lst xs)) (f : F a) : Rd H1 a (.lst xs) := h.elim (fun z => .inl (s _ _ z (.inl f))) fun ⟨o, z⟩ => .inr ⟨o, s _ _ z (.inl f)⟩
theorem sqt_F {K : PySem.W.Frag} {F : Addr → Prop} {H H1 : Hp} {a : Addr} {xs : List V} (s : SameF F H H1) (h : SqT K H a xs) : SqT K H1 a xs := h.imp (fun z => z.elim (fun z => .inl (s _ _ z (.inr rfl))) fun ⟨o, z⟩ => .inr ⟨o, s _ _ z (.inr rfl)⟩) id
mutual
theorem df_monoF {K : PySem.W.Frag} {F : Addr → Prop} {H H1 : Hp} (s : SameF F H H1) : ∀ {v : V} {d : PyData}, Df K F H v d → Df K F H1 v d
  | _, _, .non => .non
  | _, _, .bl b => .bl b
  | _, _, .int i => .int i
  | _, _, .str x => .str x
  | _, _, .lst h r => .lst (h.imp (fun z => ⟨rd_lstF s z.1 z.2, z.2⟩) id) (dfs_monoF s r)
  | _, _, .tup h r => .tup (sqt_F s h) (dfs_monoF s r)
theorem dfs_monoF {K : PySem.W.Frag} {F : Addr → Prop} {H H1 : Hp} (s : SameF F H H1) : ∀ {vs : List V} {ds : List PyData}, DfAll K F H vs ds → DfAll K F H1 vs ds
  | _, _, .nil => .nil
  | _, _, .cons h r => .cons (df_monoF s h) (dfs_monoF s r)
end
/-- a later heap, whose lists allow what stood -/
structure Ext (F : Addr → Prop) (H : Hp) (F2 : Addr → Prop) (H2 : Hp) : Prop where
  same : SameF F H H2
  ok : ∀ a, F a → H a ≠ none → F2 a
theorem Ext.refl {F : Addr → Prop} {H : Hp} : Ext F H F H := ⟨SameF.refl, fun _ h _ => h⟩
mutual
theorem df_in {K : PySem.W.Frag} {F : Addr → Prop} {H : Hp} : ∀ {v : V} {d : PyData}, Df K F H v d → Df K (fun a => F a ∧ H a ≠ none) H v d
  | _, _, .non => .non
  | _, _, .bl b => .bl b
  | _, _, .int i => .int i
  | _, _, .str x => .str x
  | _, _, .lst h r => .lst (h.imp (fun z => ⟨z.1, z.2, by rcases z.1 with z | ⟨o, z⟩ <;> (rw [z]; exact fun q => nomatch q)⟩) id) (dfs_in r)
  | _, _, .tup h r => .tup h (dfs_in r)
theorem dfs_in {K : PySem.W.Frag} {F : Addr → Prop} {H : Hp} : ∀ {vs : List V} {ds : List PyData}, DfAll K F H vs ds → DfAll K (fun a => F a ∧ H a ≠ none) H vs ds
  | _, _, .nil => .nil
  | _, _, .cons h r => .cons (df_in h) (dfs_in r)
end
theorem df_ext {K : PySem.W.Frag} {F F2 : Addr → Prop} {H H2 : Hp} {v : V} {d : PyData} (e : Ext F H F2 H2) (h : Df K F H v d) : Df K F2 H2 v d := df_mono (Same.refl _) (fun a z => e.ok a z.1 z.2) (df_monoF (e.same.sub fun _ z => z.1) (df_in h))
theorem dfs_ext {K : PySem.W.Frag} {F F2 : Addr → Prop} {H H2 : Hp} {v : List V} {d : List PyData} (e : Ext F H F2 H2) (h : DfAll K F H v d) : DfAll K F2 H2 v d := dfs_mono (Same.refl _) (fun a z => e.ok a z.1 z.2) (dfs_monoF (e.same.sub fun _ z => z.1) (dfs_in h))

theorem small5 {n : Nat} (h : n ≤ 100000) : n ≤ sizeLine := Nat.le_trans h (by decide)
theorem lt5 {n : Nat} (h : n < 100000) : n < sizeLine := Nat.lt_of_lt_of_le h (by decide)

/-! ### what evaluates to what, the heap growing -/
def ED (K : PySem.W.Frag) (te : TE) (σ : L2.St) (F : Addr → Prop) (H : Hp) (d : PyData) : Prop := ∀ H1, Same H H1 → ∀ Q : VK, (∀ v H2, Same H1 H2 → Df K (Fr F H1) H2 v d → Q v H2) → te σ H1 Q
def ET (tt : TT) (σ : L2.St) (H : Hp) (b : Bool) : Prop := ∀ H1, Same H H1 → ∀ Q : Bool → Hp → Prop, (∀ H2, Same H1 H2 → Q b H2) → tt σ H1 Q
def EA (K : PySem.W.Frag) (ta : TA) (σ : L2.St) (F : Addr → Prop) (H : Hp) (ds : List PyData) : Prop := ∀ H1, Same H H1 → ∀ Q : List V → Hp → Prop, (∀ vs H2, Same H1 H2 → DfAll K (Fr F H1) H2 vs ds → Q vs H2) → ta σ H1 Q
def EO (to : TO) (σ : L2.St) (H : Hp) (o : Option Int) : Prop := ∀ H1, Same H H1 → ∀ Q : Option Int → Hp → Prop, (∀ H2, Same H1 H2 → Q o H2) → to σ H1 Q

section
variable {K : PySem.W.Frag} {σ : L2.St} {F : Addr → Prop} {H H' : Hp} {ta tb te tc : TE} {t u : TT} {d e : PyData}
theorem ED.mono (s : Same H H') (h : ED K te σ F H d) : ED K te σ F H' d := fun H1 a Q q => h H1 (s.trans a) Q q
theorem ET.mono {b : Bool} (s : Same H H') (h : ET t σ H b) : ET t σ H' b := fun H1 a Q q => h H1 (s.trans a) Q q
theorem ed_var {i : Nat} {v : V} (h : σ[i]? = some (some v)) (hd : Df K F H v d) : ED K (tVar i) σ F H d := fun H1 s Q q => ⟨v, h, q v H1 (Same.refl _) (df_mono s Fr.base hd)⟩
theorem ed_c {v : V} (hd : ∀ F H, Df K F H v d) : ED K (tC v) σ F H d := fun H1 _ _ q => q v H1 (Same.refl _) (hd _ H1)
theorem ed_int {i : Int} : ED K (tC (.int i)) σ F H (.int i) := ed_c fun _ _ => .int i
theorem ed_str {x : Str} : ED K (tC (.str x)) σ F H (.str x) := ed_c fun _ _ => .str x
theorem ed_bl {b : Bool} : ED K (tC (.bl b)) σ F H (.bool b) := ed_c fun _ _ => .bl b
theorem ed_non : ED K (tC .non) σ F H .none := ed_c fun _ _ => .non
theorem ea_nil : EA K tNil σ F H [] := fun H1 _ _ q => q [] H1 (Same.refl _) .nil
theorem ea_cons {tr : TA} {ds : List PyData} (h : ED K te σ F H d) (r : EA K tr σ F H ds) : EA K (tCons te tr) σ F H (d :: ds) := fun H1 s Q q =>
  h H1 s _ fun v H2 s2 hv => r H2 (s.trans s2) _ fun vs H3 s3 hvs => q (v :: vs) H3 (s2.trans s3) (.cons (df_mono s3 (fun _ z => z) hv) (dfs_mono (Same.refl _) (Fr.to s2) hvs))
theorem ed_tup {ta : TA} {ds : List PyData} (h : EA K ta σ F H ds) (hl : ds.length ≤ 100000) : ED K (tTup ta) σ F H (.tuple ds) := fun H1 s Q q =>
  h H1 s _ fun vs H2 s2 hv => ⟨by rw [dfs_len hv]; exact small5 hl, fun p hp => q _ _ (s2.trans (Same.newA hp)) (.tup (.of upd_same) (dfs_mono (Same.newA hp) (fun _ z => z) hv))⟩
theorem ed_lst {ta : TA} {ds : List PyData} (h : EA K ta σ F H ds) (hl : ds.length ≤ 100000) : ED K (tLst ta) σ F H (.list ds) := fun H1 s Q q =>
  h H1 s _ fun vs H2 s2 hv => ⟨by rw [dfs_len hv]; exact small5 hl, fun p hp => q _ _ (s2.trans (Same.newA hp)) (.lst (.inl ⟨.inl upd_same, .inr (s2.freshA hp)⟩) (dfs_mono (Same.newA hp) (fun _ z => z) hv))⟩

/-- an operation of two values, read by its rule -/
def RD (K : PySem.W.Frag) (r : R2) (d e f : PyData) : Prop := ∀ (F : Addr → Prop) x y H1, Df K F H1 x d → Df K F H1 y e → ∀ Q : VK, (∀ v H2, Same H1 H2 → Df K (fun a => F a ∨ H1 a = none) H2 v f → Q v H2) → r x y H1 Q
theorem ed_op {r : R2} {f : PyData} (ha : ED K ta σ F H d) (hb : ED K tb σ F H e) (hr : RD K r d e f) : ED K (tOp r ta tb) σ F H f := fun H1 s Q q =>
  ha H1 s _ fun x H2 s2 hx => hb H2 (s.trans s2) _ fun y H3 s3 hy => hr (Fr F H1) x y H3 (df_mono s3 (fun _ z => z) hx) (df_mono (Same.refl _) (Fr.to s2) hy) Q fun v H4 s4 hv =>
    q v H4 ((s2.trans s3).trans s4) (df_mono (Same.refl _) (fun _ z => z.elim id fun e => .inr ((s2.trans s3).freshA e)) hv)
theorem rd_int {C : Int → Int → Prop} {g : Int → Int → Int} {i j : Int} (hc : C i j) : RD K (rI C fun i j => .int (g i j)) (.int i) (.int j) (.int (g i j)) := fun F x y H1 hx hy Q q => by
  cases hx; cases hy; exact ⟨i, j, rfl, rfl, hc, q _ _ (Same.refl _) (.int _)⟩
theorem rd_int0 {g : Int → Int → Int} {i j : Int} : RD K (rI0 fun i j => .int (g i j)) (.int i) (.int j) (.int (g i j)) := fun F x y H1 hx hy Q q => by
  cases hx; cases hy; exact ⟨i, j, rfl, rfl, q _ _ (Same.refl _) (.int _)⟩
theorem rd_cmp {g : Int → Int → Bool} {i j : Int} : RD K (rI0 fun i j => .bl (g i j)) (.int i) (.int j) (.bool (g i j)) := fun F x y H1 hx hy Q q => by
  cases hx; cases hy; exact ⟨i, j, rfl, rfl, q _ _ (Same.refl _) (.bl _)⟩
theorem ed_add {i j : Int} (ha : ED K ta σ F H (.int i)) (hb : ED K tb σ F H (.int j)) : ED K (tOp (rI0 fun i j => .int (i + j)) ta tb) σ F H (.int (i + j)) := ed_op ha hb rd_int0
theorem ed_sub {i j : Int} (ha : ED K ta σ F H (.int i)) (hb : ED K tb σ F H (.int j)) : ED K (tOp (rI0 fun i j => .int (i - j)) ta tb) σ F H (.int (i - j)) := ed_op ha hb rd_int0
theorem ed_lt {i j : Int} (ha : ED K ta σ F H (.int i)) (hb : ED K tb σ F H (.int j)) : ED K (tOp (rI0 fun i j => .bl (decide (i < j))) ta tb) σ F H (.bool (decide (i < j))) := ed_op ha hb rd_cmp
theorem ed_le {i j : Int} (ha : ED K ta σ F H (.int i)) (hb : ED K tb σ F H (.int j)) : ED K (tOp (rI0 fun i j => .bl (decide (i ≤ j))) ta tb) σ F H (.bool (decide (i ≤ j))) := ed_op ha hb rd_cmp
theorem ed_gt {i j : Int} (ha : ED K ta σ F H (.int i)) (hb : ED K tb σ F H (.int j)) : ED K (tOp (rI0 fun i j => .bl (decide (j < i))) ta tb) σ F H (.bool (decide (j < i))) := ed_op ha hb rd_cmp
theorem ed_ge {i j : Int} (ha : ED K ta σ F H (.int i)) (hb : ED K tb σ F H (.int j)) : ED K (tOp (rI0 fun i j => .bl (decide (j ≤ i))) ta tb) σ F H (.bool (decide (j ≤ i))) := ed_op ha hb rd_cmp
theorem ed_eqD (ha : ED K ta σ F H d) (hb : ED K tb σ F H e) (h1 : SeqAt.shaped d = true) (h2 : SeqAt.shaped e = true) : ED K (tOp (rEqD K) ta tb) σ F H (.bool (PyData.eqv d e)) :=
  ed_op ha hb fun F x y H1 hx hy Q q => ⟨d, e, df_dp hx, df_dp hy, h1, h2, q _ _ (Same.refl _) (.bl _)⟩
theorem ed_neD (ha : ED K ta σ F H d) (hb : ED K tb σ F H e) (h1 : SeqAt.shaped d = true) (h2 : SeqAt.shaped e = true) : ED K (tOp (rNeD K) ta tb) σ F H (.bool (!PyData.eqv d e)) :=
  ed_op ha hb fun F x y H1 hx hy Q q => ⟨d, e, df_dp hx, df_dp hy, h1, h2, q _ _ (Same.refl _) (.bl _)⟩
theorem ed_eqS {x y : Str} (ha : ED K ta σ F H (.str x)) (hb : ED K tb σ F H (.str y)) : ED K (tOp rEq ta tb) σ F H (.bool (decide (x = y))) :=
  ed_op ha hb fun F a b H1 hx hy Q q => by
    cases hx; cases hy
    refine ⟨rfl, ?_⟩
    have e : decide (V.str x = V.str y) = decide (x = y) := by
      by_cases z : x = y
      · rw [decide_eq_true z, decide_eq_true (congrArg V.str z)]
      · rw [decide_eq_false z, decide_eq_false (fun q => z (V.str.inj q))]
    rw [e]; exact q _ _ (Same.refl _) (.bl _)
theorem ed_eqI {x y : Int} (ha : ED K ta σ F H (.int x)) (hb : ED K tb σ F H (.int y)) : ED K (tOp rEq ta tb) σ F H (.bool (decide (x = y))) :=
  ed_op ha hb fun F a b H1 hx hy Q q => by
    cases hx; cases hy
    refine ⟨rfl, ?_⟩
    have e : decide (V.int x = V.int y) = decide (x = y) := by
      by_cases z : x = y
      · rw [decide_eq_true z, decide_eq_true (congrArg V.int z)]
      · rw [decide_eq_false z, decide_eq_false (fun q => z (V.int.inj q))]
    rw [e]; exact q _ _ (Same.refl _) (.bl _)
theorem ed_neS {x y : Str} (ha : ED K ta σ F H (.str x)) (hb : ED K tb σ F H (.str y)) : ED K (tOp rNe ta tb) σ F H (.bool (!decide (x = y))) :=
  ed_op ha hb fun F a b H1 hx hy Q q => by
    cases hx; cases hy
    refine ⟨rfl, ?_⟩
    have e : decide (V.str x = V.str y) = decide (x = y) := by
      by_cases z : x = y
      · rw [decide_eq_true z, decide_eq_true (congrArg V.str z)]
      · rw [decide_eq_false z, decide_eq_false (fun q => z (V.str.inj q))]
    rw [e]; exact q _ _ (Same.refl _) (.bl _)
theorem ed_neI {x y : Int} (ha : ED K ta σ F H (.int x)) (hb : ED K tb σ F H (.int y)) : ED K (tOp rNe ta tb) σ F H (.bool (!decide (x = y))) :=
  ed_op ha hb fun F a b H1 hx hy Q q => by
    cases hx; cases hy
    refine ⟨rfl, ?_⟩
    have e : decide (V.int x = V.int y) = decide (x = y) := by
      by_cases z : x = y
      · rw [decide_eq_true z, decide_eq_true (congrArg V.int z)]
      · rw [decide_eq_false z, decide_eq_false (fun q => z (V.int.inj q))]
    rw [e]; exact q _ _ (Same.refl _) (.bl _)
theorem ed_catS {x y : Str} (ha : ED K ta σ F H (.str x)) (hb : ED K tb σ F H (.str y)) (hl : x.length + y.length ≤ 100000) :
    ED K (tOp (fun x y H Q => ∃ i j, x = .str i ∧ y = .str j ∧ i.length + j.length ≤ sizeLine ∧ Q (.str (i ++ j)) H) ta tb) σ F H (.str (x ++ y)) :=
  ed_op ha hb fun F a b H1 hx hy Q q => by
    cases hx; cases hy; exact ⟨x, y, rfl, rfl, small5 hl, q _ _ (Same.refl _) (.str _)⟩
/-- x is None -/
def isNone : PyData → Bool | .none => true | _ => false
theorem isN_of {F : Addr → Prop} {H : Hp} {x : V} (h : Df K F H x d) : decide (x = .non) = isNone d := by cases h <;> rfl
theorem ed_isN (ha : ED K ta σ F H d) : ED K (tOp (fun x y H Q => y = .non ∧ Q (.bl (decide (x = .non))) H) ta (tC .non)) σ F H (.bool (isNone d)) :=
  ed_op ha ed_non fun F a b H1 hx hy Q q => by
    cases hy; refine ⟨rfl, ?_⟩; rw [isN_of hx]; exact q _ _ (Same.refl _) (.bl _)
/-- a written item of a list, a tuple, a text -/
theorem ed_ixT {ds : List PyData} {j : Nat} (ha : ED K ta σ F H (.tuple ds)) (hb : ED K tb σ F H (.int j)) (h : ds[j]? = some d) : ED K (tOp (rIx K) ta tb) σ F H d :=
  ed_op ha hb fun F a b H1 hx hy Q q => by
    cases hy
    cases hx with
    | tup hs r =>
      obtain ⟨v, e, hv⟩ := dfs_get r h
      exact .inr (.inl ⟨_, _, _, v, rfl, rfl, hs, atI_nat e, q _ _ (Same.refl _) (df_mono (Same.refl _) (fun _ z => .inl z) hv)⟩)
theorem ed_ixL {ds : List PyData} {j : Nat} (ha : ED K ta σ F H (.list ds)) (hb : ED K tb σ F H (.int j)) (h : ds[j]? = some d) : ED K (tOp (rIx K) ta tb) σ F H d :=
  ed_op ha hb fun F a b H1 hx hy Q q => by
    cases hy
    cases hx with
    | lst hs r =>
      obtain ⟨v, e, hv⟩ := dfs_get r h
      exact .inl ⟨_, _, _, v, rfl, rfl, hs.imp (fun z => z.1) id, atI_nat e, q _ _ (Same.refl _) (df_mono (Same.refl _) (fun _ z => .inl z) hv)⟩
theorem ed_ixS {x : Str} {j c : Nat} (ha : ED K ta σ F H (.str x)) (hb : ED K tb σ F H (.int j)) (hl : x.length ≤ 100000) (h : x.cps.toList[j]? = some c) : ED K (tOp (rIx K) ta tb) σ F H (.str ⟨#[c]⟩) :=
  ed_op ha hb fun F a b H1 hx hy Q q => by
    cases hy; cases hx
    exact .inr (.inr ⟨_, _, c, rfl, rfl, small5 hl, atI_nat h, q _ _ (Same.refl _) (.str _)⟩)

/-! ### tests -/
theorem et_test {b : Bool} (h : ED K te σ F H (.bool b)) : ET (tTest te) σ H b := fun H1 s Q q => h H1 s _ fun v H2 s2 hv => by
  cases hv; exact ⟨b, rfl, q H2 s2⟩
theorem et_B {b : Bool} (h : ED K te σ F H (.bool b)) : ET (tB te) σ H b := fun H1 s Q q => h H1 s _ fun v H2 s2 hv => by
  cases hv; exact ⟨b, rfl, q H2 s2⟩
theorem et_and {a b : Bool} (h1 : ET t σ H a) (h2 : a = true → ET u σ H b) : ET (tAnd t u) σ H (a && b) := fun H1 s Q q => h1 H1 s _ fun H2 s2 => by
  cases a with
  | true => exact h2 rfl H2 (s.trans s2) Q fun H3 s3 => q H3 (s2.trans s3)
  | false => exact q H2 s2
theorem et_or {a b : Bool} (h1 : ET t σ H a) (h2 : a = false → ET u σ H b) : ET (tOr t u) σ H (a || b) := fun H1 s Q q => h1 H1 s _ fun H2 s2 => by
  cases a with
  | true => exact q H2 s2
  | false => exact h2 rfl H2 (s.trans s2) Q fun H3 s3 => q H3 (s2.trans s3)
theorem et_not {a : Bool} (h1 : ET t σ H a) : ET (tNot t) σ H (!a) := fun H1 s Q q => h1 H1 s _ fun H2 s2 => q H2 s2
theorem et_is {a b : Bool} (h : ET t σ H a) (e : a = b) : ET t σ H b := e ▸ h
theorem ed_is (h : ED K te σ F H d) (z : d = e) : ED K te σ F H e := z ▸ h
theorem ed_andV {a b : Bool} (h1 : ED K ta σ F H (.bool a)) (h2 : a = true → ED K tb σ F H (.bool b)) : ED K (tAndV ta tb) σ F H (.bool (a && b)) := fun H1 s Q q => h1 H1 s _ fun v H2 s2 hv => by
  cases hv
  refine ⟨a, rfl, ?_⟩
  cases a with
  | true => exact h2 rfl H2 (s.trans s2) Q fun v H3 s3 hv => q v H3 (s2.trans s3) (df_mono (Same.refl _) (Fr.to s2) hv)
  | false => exact q _ H2 s2 (.bl _)
theorem ed_orV {a b : Bool} (h1 : ED K ta σ F H (.bool a)) (h2 : a = false → ED K tb σ F H (.bool b)) : ED K (tOrV ta tb) σ F H (.bool (a || b)) := fun H1 s Q q => h1 H1 s _ fun v H2 s2 hv => by
  cases hv
  refine ⟨a, rfl, ?_⟩
  cases a with
  | true => exact q _ H2 s2 (.bl _)
  | false => exact h2 rfl H2 (s.trans s2) Q fun v H3 s3 hv => q v H3 (s2.trans s3) (df_mono (Same.refl _) (Fr.to s2) hv)
theorem ed_notV {a : Bool} (h1 : ED K ta σ F H (.bool a)) : ED K (tNotV ta) σ F H (.bool (!a)) := fun H1 s Q q => h1 H1 s _ fun v H2 s2 hv => by
  cases hv; exact ⟨a, rfl, q _ H2 s2 (.bl _)⟩
theorem ed_if {b : Bool} (h : ET t σ H b) (h1 : b = true → ED K ta σ F H d) (h2 : b = false → ED K tb σ F H d) : ED K (tIf t ta tb) σ F H d := fun H1 s Q q => h H1 s _ fun H2 s2 => by
  cases b with
  | true => exact h1 rfl H2 (s.trans s2) Q fun v H3 s3 hv => q v H3 (s2.trans s3) (df_mono (Same.refl _) (Fr.to s2) hv)
  | false => exact h2 rfl H2 (s.trans s2) Q fun v H3 s3 hv => q v H3 (s2.trans s3) (df_mono (Same.refl _) (Fr.to s2) hv)
theorem ed_chain {r r' : R2} {a b : Bool} {f : PyData} (ha : ED K ta σ F H d) (hb : ED K tb σ F H e) (hc : ED K tc σ F H f) (h1 : RD K r d e (.bool a)) (h2 : a = true → RD K r' e f (.bool b)) :
    ED K (tChain r r' ta tb tc) σ F H (.bool (a && b)) := fun H1 s Q q =>
  ha H1 s _ fun x H2 s2 hx => hb H2 (s.trans s2) _ fun y H3 s3 hy => h1 (fun _ => True) x y H3 (df_mono s3 (fun _ _ => trivial) hx) (df_mono (Same.refl _) (fun _ _ => trivial) hy) _ fun z H4 s4 hz => by
    cases hz
    refine ⟨a, rfl, ?_⟩
    cases a with
    | true =>
      refine hc H4 (((s.trans s2).trans s3).trans s4) _ fun w H5 s5 hw => h2 rfl (fun _ => True) y w H5 (df_mono (s4.trans s5) (fun _ _ => trivial) hy) (df_mono (Same.refl _) (fun _ _ => trivial) hw) Q fun v H6 s6 hv => ?_
      cases hv
      exact q _ H6 ((((s2.trans s3).trans s4).trans s5).trans s6) (.bl _)
    | false => exact q _ H4 ((s2.trans s3).trans s4) (.bl _)

/-! ### built-in calls -/
def RDC (K : PySem.W.Frag) (r : List V → Hp → VK → Prop) (ds : List PyData) (f : PyData) : Prop := ∀ (F : Addr → Prop) vs H1, DfAll K F H1 vs ds → ∀ Q : VK, (∀ v H2, Same H1 H2 → Df K (fun a => F a ∨ H1 a = none) H2 v f → Q v H2) → r vs H1 Q
theorem ed_cb {r : List V → Hp → VK → Prop} {ta : TA} {ds : List PyData} (h : EA K ta σ F H ds) (hr : RDC K r ds d) : ED K (tCB r ta) σ F H d := fun H1 s Q q =>
  h H1 s _ fun vs H2 s2 hv => hr (Fr F H1) vs H2 hv Q fun v H3 s3 hv3 => q v H3 (s2.trans s3) (df_mono (Same.refl _) (fun _ z => z.elim id fun e => .inr (s2.freshA e)) hv3)
theorem ed_call {sp : Sp} {E : XK} {ta : TA} {ds : List PyData} (h : EA K ta σ F H ds) (hr : RDC K (fun vs H Q => sp vs H Q E) ds d) : ED K (tCall sp [] E ta) σ F H d := fun H1 s Q q =>
  h H1 s _ fun vs H2 s2 hv => by
    show sp (vs ++ []) H2 Q E
    rw [List.append_nil]
    exact hr (Fr F H1) vs H2 hv Q fun v H3 s3 hv3 => q v H3 (s2.trans s3) (df_mono (Same.refl _) (fun _ z => z.elim id fun e => .inr (s2.freshA e)) hv3)
/-- len of data -/
def lenP : PyData → Nat | .list ds => ds.length | .tuple ds => ds.length | .str x => x.length | _ => 0
def hasLen : PyData → Bool | .list _ => true | .tuple _ => true | .str x => decide (x.length ≤ 100000) | _ => false
theorem rdc_len (h : hasLen d = true) : RDC K (fun xs H Q => ∃ x n, xs = [x] ∧ LenV K x H n ∧ Q (.int n) H) [d] (.int (lenP d : Int)) := fun F vs H1 hv Q q => by
  cases hv with
  | cons a r =>
    cases r
    refine ⟨_, lenP d, rfl, ?_, q _ _ (Same.refl _) (.int _)⟩
    cases a with
    | lst hs r => exact .inl ⟨_, hs.imp (fun z => z.1) id, (dfs_len r).symm⟩
    | tup hs r => exact .inr ⟨_, hs, (dfs_len r).symm⟩
    | str x => exact ⟨small5 (of_decide_eq_true h), rfl⟩
    | _ => cases h
theorem ed_len (ha : ED K ta σ F H d) (h : hasLen d = true) : ED K (tCB (fun xs H Q => ∃ x n, xs = [x] ∧ LenV K x H n ∧ Q (.int n) H) (tCons ta tNil)) σ F H (.int (lenP d : Int)) := ed_cb (ea_cons ha ea_nil) (rdc_len h)
/-- isinstance of data -/
def tyName : PyData → String | .none => "NoneType" | .bool _ => "bool" | .int _ => "int" | .str _ => "str" | .list _ => "list" | .tuple _ => "tuple" | .dict _ => "dict"
theorem tyx_of {H : Hp} {x : V} (h : Dp K H x d) : TyX K H x (.type (tyName d)) := by
  cases h with
  | non => exact .base .non
  | bl b => exact .base (.bl b)
  | int i => exact .base (.int i)
  | str x => exact .base (.str x)
  | lst hs r =>
    rcases hs with (h | ⟨o, h⟩) | ⟨o, its, n, hk, hc, _⟩
    · exact .base (.lst h)
    · exact .base (.frz h)
    · exact .kList hk hc
  | tup hs r =>
    rcases hs with (h | ⟨o, h⟩) | ⟨o, its, n, hk, hc, _⟩
    · exact .base (.tup h)
    · exact .fTuple h
    · exact .kTuple hk hc
def isiB (T : String) : PyData → Bool
  | .none => false | .bool _ => T == "bool" || T == "int" | .int _ => T == "int" | .str _ => T == "str" | .list _ => T == "list" | .tuple _ => T == "tuple" | .dict _ => T == "dict"
theorem kit_all {T : String} (hT : T = "str" ∨ T = "tuple" ∨ T = "list" ∨ T = "int" ∨ T = "bool") {H : Hp} {x : V} (h : Dp K H x d) : PySem.W.kitOne K (.type (tyName d)) (.type T) = some (isiB T d) := by
  rcases hT with rfl | rfl | rfl | rfl | rfl
  · cases h with
    | non => exact kit_ty (show kitB "NoneType" "str" = some false by decide +kernel)
    | bl b => exact kit_ty (show kitB "bool" "str" = some false by decide +kernel)
    | int i => exact kit_ty (show kitB "int" "str" = some false by decide +kernel)
    | str x => exact kit_ty (show kitB "str" "str" = some true by decide +kernel)
    | lst hs r => exact kit_ty (show kitB "list" "str" = some false by decide +kernel)
    | tup hs r => exact kit_ty (show kitB "tuple" "str" = some false by decide +kernel)
  · cases h with
    | non => exact kit_ty (show kitB "NoneType" "tuple" = some false by decide +kernel)
    | bl b => exact kit_ty (show kitB "bool" "tuple" = some false by decide +kernel)
    | int i => exact kit_ty (show kitB "int" "tuple" = some false by decide +kernel)
    | str x => exact kit_ty (show kitB "str" "tuple" = some false by decide +kernel)
    | lst hs r => exact kit_ty (show kitB "list" "tuple" = some false by decide +kernel)
    | tup hs r => exact kit_ty (show kitB "tuple" "tuple" = some true by decide +kernel)
  · cases h with
    | non => exact kit_ty (show kitB "NoneType" "list" = some false by decide +kernel)
    | bl b => exact kit_ty (show kitB "bool" "list" = some false by decide +kernel)
    | int i => exact kit_ty (show kitB "int" "list" = some false by decide +kernel)
    | str x => exact kit_ty (show kitB "str" "list" = some false by decide +kernel)
    | lst hs r => exact kit_ty (show kitB "list" "list" = some true by decide +kernel)
    | tup hs r => exact kit_ty (show kitB "tuple" "list" = some false by decide +kernel)
  · cases h with
    | non => exact kit_ty (show kitB "NoneType" "int" = some false by decide +kernel)
    | bl b => exact kit_ty (show kitB "bool" "int" = some true by decide +kernel)
    | int i => exact kit_ty (show kitB "int" "int" = some true by decide +kernel)
    | str x => exact kit_ty (show kitB "str" "int" = some false by decide +kernel)
    | lst hs r => exact kit_ty (show kitB "list" "int" = some false by decide +kernel)
    | tup hs r => exact kit_ty (show kitB "tuple" "int" = some false by decide +kernel)
  · cases h with
    | non => exact kit_ty (show kitB "NoneType" "bool" = some false by decide +kernel)
    | bl b => exact kit_ty (show kitB "bool" "bool" = some true by decide +kernel)
    | int i => exact kit_ty (show kitB "int" "bool" = some false by decide +kernel)
    | str x => exact kit_ty (show kitB "str" "bool" = some false by decide +kernel)
    | lst hs r => exact kit_ty (show kitB "list" "bool" = some false by decide +kernel)
    | tup hs r => exact kit_ty (show kitB "tuple" "bool" = some false by decide +kernel)
theorem ed_isi {T : String} (ha : ED K ta σ F H d) (hT : T = "str" ∨ T = "tuple" ∨ T = "list" ∨ T = "int" ∨ T = "bool") : ED K (tCB (rIsi K) (tCons ta (tCons (tC (.ty T)) tNil))) σ F H (.bool (isiB T d)) := fun H1 s Q q =>
  ha H1 s _ fun x H2 s2 hx => ⟨x, .ty T, _, _, _, rfl, .ty T, tyx_of (df_dp hx), kit_all hT (df_dp hx), q _ _ s2 (.bl _)⟩
/-- all, any of bools -/
theorem ed_all {bs : List Bool} (ha : ED K ta σ F H (.list (bs.map .bool))) : ED K (tCB (rAll K) (tCons ta tNil)) σ F H (.bool (bs.all id)) := ed_cb (ea_cons ha ea_nil) fun F vs H1 hv Q q => by
  cases hv with
  | cons a r =>
    cases r
    cases a with
    | lst hs r => rw [bls_dps (dfs_dps r)] at hs; exact ⟨_, bs, rfl, hs.imp (fun z => z.1) id, q _ _ (Same.refl _) (.bl _)⟩
theorem ed_sum {ns : List Int} (ha : ED K ta σ F H (.list (ns.map .int))) : ED K (tCB (rSum K) (tCons ta tNil)) σ F H (.int ns.sum) := ed_cb (ea_cons ha ea_nil) fun F vs H1 hv Q q => by
  cases hv with
  | cons a r =>
    cases r
    cases a with
    | lst hs r => rw [ints_dps (dfs_dps r)] at hs; exact ⟨_, ns, rfl, hs.imp (fun z => z.1) id, q _ _ (Same.refl _) (.int _)⟩
/-- tuple(xs), list(xs) -/
def seqOf : PyData → List PyData | .list ds => ds | .tuple ds => ds | _ => []
def isSeq : PyData → Bool | .list _ => true | .tuple _ => true | _ => false
theorem ed_tupleOf (ha : ED K ta σ F H d) (h : isSeq d = true) : ED K (tCB (fun xs H Q => ∃ p ys, xs = [.ref p] ∧ ((SqL K H p ys ∧ ∀ l, H l = none → Q (.ref l) (upd H l (.tup ys))) ∨ (SqT K H p ys ∧ Q (.ref p) H))) (tCons ta tNil)) σ F H (.tuple (seqOf d)) := ed_cb (ea_cons ha ea_nil) fun F vs H1 hv Q q => by
  cases hv with
  | cons a r =>
    cases r
    cases a with
    | lst hs r => exact ⟨_, _, rfl, .inl ⟨hs.imp (fun z => z.1) id, fun l hl => q _ _ (Same.newA hl) (.tup (.of upd_same) (dfs_mono (Same.newA hl) (fun _ z => .inl z) r))⟩⟩
    | tup hs r => exact ⟨_, _, rfl, .inr ⟨hs, q _ _ (Same.refl _) (.tup hs (dfs_mono (Same.refl _) (fun _ z => .inl z) r))⟩⟩
    | _ => cases h
theorem ed_listOf (ha : ED K ta σ F H d) (h : isSeq d = true) : ED K (tCB (fun xs H Q => ∃ p ys, xs = [.ref p] ∧ (SqL K H p ys ∨ SqT K H p ys) ∧ ∀ l, H l = none → Q (.ref l) (upd H l (.lst ys))) (tCons ta tNil)) σ F H (.list (seqOf d)) := ed_cb (ea_cons ha ea_nil) fun F vs H1 hv Q q => by
  cases hv with
  | cons a r =>
    cases r
    cases a with
    | lst hs r => exact ⟨_, _, rfl, .inl (hs.imp (fun z => z.1) id), fun l hl => q _ _ (Same.newA hl) (.lst (.inl ⟨.inl upd_same, .inr hl⟩) (dfs_mono (Same.newA hl) (fun _ z => .inl z) r))⟩
    | tup hs r => exact ⟨_, _, rfl, .inr hs, fun l hl => q _ _ (Same.newA hl) (.lst (.inl ⟨.inl upd_same, .inr hl⟩) (dfs_mono (Same.newA hl) (fun _ z => .inl z) r))⟩
    | _ => cases h
end
end Ag

set_option Elab.async false
set_option linter.all false
set_option maxRecDepth 100000
set_option maxHeartbeats 1000000
/-! The end of a law row, the law run at the caller's very surroundings (so that nothing is being shown there), with tables of code objects. -/
namespace Ag
open PySem PySem.Spec PyProof.Rows L2 LamX
def emptyT : Obj := { cls := .none, data := .fields #[] }
/-- what is tracked ahead of the law: the script, unless it is written, and the tables -/
def lawH (a : Addr) (tabs : List Addr) (o : Obj) (xs : List V) (wr : Bool) : Hp := fun b => if b ∈ tabs then some (.tbl #[]) else if b = a ∧ wr = false then some (.frz o (.lst xs)) else none
section
variable {a b : Addr} {tabs : List Addr} {o : Obj} {xs : List V} {wr : Bool} {u : HO}
theorem lawH_tab (h : b ∈ tabs) : lawH a tabs o xs wr b = some (.tbl #[]) := if_pos h
theorem lawH_at (h : a ∉ tabs) : lawH a tabs o xs false a = some (.frz o (.lst xs)) := by
  unfold lawH; rw [if_neg h, if_pos ⟨rfl, rfl⟩]
theorem lawH_cases (h : lawH a tabs o xs wr b = some u) : (b ∈ tabs ∧ u = .tbl #[]) ∨ (b = a ∧ wr = false ∧ b ∉ tabs ∧ u = .frz o (.lst xs)) := by
  unfold lawH at h
  by_cases h1 : b ∈ tabs
  · rw [if_pos h1] at h; cases h; exact .inl ⟨h1, rfl⟩
  · rw [if_neg h1] at h
    by_cases h2 : b = a ∧ wr = false
    · rw [if_pos h2] at h; cases h; exact .inr ⟨h2.1, h2.2, h1, rfl⟩
    · rw [if_neg h2] at h; cases h
theorem lawH_none (h : lawH a tabs o xs wr b = none) : b ∉ tabs := fun z => by rw [lawH_tab z] at h; cases h
end
/-- the law's call: F tells what it does over a heap in which just the script and the tables are tracked -/
theorem law_callG {P : Program} {w : World} {K : PySem.W.Frag} {mg mb : Str → Option Value} {fa a : Addr} {cs : List (Addr × Addr)} {s₁ : Shared} {vs : List Value} {ns : List Int}
    (KX : K.In s₁.heap) (hns : s₁.heap.Ns mainGlobals mg) (hb : s₁.heap.Ns builtinsNs mb) (hbb : ∀ x : Str, x ≠ "__name__" → mb x = bootBuiltins x) (hlim : s₁.heap.NoLimit) (hg : s₁.gens = #[])
    (hT : ∀ p ∈ cs, s₁.heap.get? p.2 = some emptyT) (nT : ∀ p ∈ cs, K.lookup p.2 = none) (C : ∀ p ∈ cs, PySem.W.CodeHd s₁.heap p.1 p.2)
    (hbm : ∃ (bm : Addr) (ob : Obj), mg "__builtins__" = some (.ref bm) ∧ bm ≠ builtinsNs ∧ s₁.heap.get? bm = some ob ∧ ob.cls = .type "module" ∧ ob.dict = some builtinsNs ∧ ob.data = .plain)
    (ha : s₁.heap.get? a = some { cls := .type "list", data := .seq vs.toArray }) (hi : IntsAre vs ns) (hl : ns.length ≤ sizeLine)
    (F : ∀ (base : Heap) (H : Hp), K.In base → base.Ns mainGlobals mg → (∀ p ∈ cs, TabB base mg p.1 p.2) → (∀ p ∈ cs, H p.2 = some (.tbl #[])) → SqL K H a (ns.map V.int) → Env0 P w K mg base callerA [] s₁ H →
      codeAny (model P w) callerA (.call (.ref fa) ⟨[.ref a], []⟩) (CR CX0 [] P w H s₁ (fun v _ => v = .bl true) fun _ _ _ => False) s₁) :
    codeAny (model P w) callerA (.call (.ref fa) ⟨[.ref a], []⟩) (fun r s' => r = .ok (.ret (.bool true)) ∧ OldK s₁.heap s'.heap ∧ s'.os = s₁.os ∧ AllBare s'.gens) s₁ := by
  let sc : Obj := { cls := .type "list", data := .seq vs.toArray }
  let tabs := cs.map Prod.snd
  let wr : Bool := (K.lookup a).isSome
  let H : Hp := lawH a tabs sc (ns.map V.int) wr
  have tget : ∀ b ∈ tabs, s₁.heap.get? b = some emptyT := fun b hb => by
    obtain ⟨p, hp, rfl⟩ := List.mem_map.mp hb; exact hT p hp
  have tmem : ∀ p ∈ cs, p.2 ∈ tabs := fun p hp => List.mem_map_of_mem hp
  have na : a ∉ tabs := fun z => by
    have q := tget a z
    rw [ha] at q
    have := congrArg Obj.data (Option.some.inj q)
    exact nomatch this
  have nk : ∀ b ∈ tabs, K.lookup b = none := fun b hb => by
    obtain ⟨p, hp, rfl⟩ := List.mem_map.mp hb; exact nT p hp
  -- an object that is neither a list nor fields is not tracked
  have free : ∀ {b : Addr} {o : Obj}, s₁.heap.get? b = some o → (∀ z n, o.data ≠ .seq z n) → o.data ≠ .fields #[] → H b = none := fun {b o} e n1 n2 => by
    cases q : H b with
    | none => rfl
    | some u =>
      rcases lawH_cases q with ⟨m, _⟩ | ⟨m, _, _, _⟩
      · rw [tget b m] at e; cases e; exact absurd rfl n2
      · subst m; rw [ha] at e; cases e; exact absurd rfl (n1 _ _)
  have baseG : ∀ {b : Addr} {o : Obj}, s₁.heap.get? b = some o → (∀ z n, o.data ≠ .seq z n) → o.data ≠ .fields #[] → (hidT s₁.heap H).get? b = some o := fun e n1 n2 => hidT_get e (free e n1 n2)
  have nsB : ∀ {b : Addr} {m : Str → Option Value}, s₁.heap.Ns b m → (hidT s₁.heap H).Ns b m := fun ⟨o, es, ep, e, d, r⟩ =>
    ⟨o, es, ep, baseG e (fun z n q => by rw [d] at q; exact nomatch q) (fun q => by rw [d] at q; exact nomatch q), d, r⟩
  have kB : K.In (hidT s₁.heap H) := fun b o e => hidT_get (KX b o e) (by
    cases q : H b with
    | none => rfl
    | some u =>
      rcases lawH_cases q with ⟨m, _⟩ | ⟨m, wf, _, _⟩
      · rw [nk b m] at e; cases e
      · subst m
        have wf : (K.lookup b).isSome = false := wf
        rw [e] at wf; cases wf)
  have mod : L2.Mod K mg (hidT s₁.heap H) := ⟨kB, nsB hns, ⟨mb, nsB hb, hbb⟩, let ⟨mc, h1, h2⟩ := hlim; ⟨mc, nsB h1, h2⟩⟩
  have tb : ∀ p ∈ cs, TabB (hidT s₁.heap H) mg p.1 p.2 := fun p hp => by
    have hp2 := hT p hp
    obtain ⟨bm, ob, b1, b2, b3, b4, b5, b6⟩ := hbm
    refine ⟨?_, ⟨bm, ob, b1, b2, fun q => ?_, fun q => ?_, baseG b3 (fun z n q => by rw [b6] at q; exact nomatch q) (fun q => by rw [b6] at q; exact nomatch q), b4, b5, b6⟩, fun q => ?_⟩
    · obtain ⟨o, us, file, tf, flags, tg, inF, text, tt, e1, r1, r2, r3, rest⟩ := C p hp
      exact ⟨o, us, file, tf, flags, tg, inF, text, tt, baseG e1 (fun z n q => by rw [r2] at q; exact nomatch q) (fun q => by
        rw [r2] at q
        have q := Data.fields.inj q
        subst q; simp at r3), r1, r2, r3, rest⟩
    · obtain ⟨o, es, ep, e, d, _⟩ := hns
      rw [q, e] at b3; cases b3; rw [d] at b6; exact nomatch b6
    · rw [q, hp2] at b3; cases b3; exact nomatch b6
    · obtain ⟨o, es, ep, e, d, _⟩ := hns
      rw [q, hp2] at e; cases e; exact nomatch d
  have hok : HOk P w H s₁.heap := fun b u q => by
    rcases lawH_cases q with ⟨m, rfl⟩ | ⟨rfl, _, _, rfl⟩
    · exact tget b m
    · exact ⟨ha, by rw [List.length_map]; exact hl, vs, 0, vals_ints hi, ha⟩
  have e0 : Env0 P w K mg (hidT s₁.heap H) callerA [] s₁ H := ⟨rfl, mod, fun b o e => of_hidT e, Nat.le_of_eq (hidT_size _ _), trivial, fun b z => (nomatch z), hok, .of_eq hg⟩
  have sq : SqL K H a (ns.map V.int) := by
    cases q : K.lookup a with
    | none =>
      have wf : wr = false := by show (K.lookup a).isSome = false; rw [q]; rfl
      refine .inl (.inr ⟨sc, ?_⟩)
      show lawH a tabs sc (ns.map V.int) wr a = _
      rw [wf]; exact lawH_at na
    | some o =>
      have e := KX a o q
      rw [ha] at e; cases e
      exact .inr ⟨_, vs.toArray, _, q, rfl, rfl, rfl, by rw [List.size_toArray, hi.length]; exact hl, vals_ints hi⟩
  refine codeAny_mono (F _ H kB (nsB hns) tb (fun p hp => lawH_tab (tmem p hp)) sq e0) fun r s' h => ?_
  cases r with
  | error e => exact (show False from h).elim
  | ok fl =>
    cases fl with
    | ret u =>
      obtain ⟨v, H', os, bare, un, hok', rv, q⟩ := h
      cases (show v = V.bl true from q)
      obtain rfl : u = Value.bool true := rv
      have grown : ∀ b ∈ tabs, ∃ more : Array Value, s'.heap.get? b = some { cls := .none, data := .fields more } := fun b hb => by
        obtain ⟨more, z⟩ := un.tbls b #[] (lawH_tab hb)
        exact ⟨_, hok' b _ z⟩
      have kept : ∀ b o, b ∉ tabs → s₁.heap.get? b = some o → s'.heap.get? b = some o := fun b o nb e => by
        cases q : H b with
        | none => exact un.keep b o e q (fun z => nomatch z) (fun z => nomatch z)
        | some u =>
          rcases lawH_cases q with ⟨m, _⟩ | ⟨m, _, _, hu⟩
          · exact absurd m nb
          · subst m; subst hu
            have e2 := (hok' b _ (un.frzs b sc _ q)).1
            rw [ha] at e; cases e; exact e2
      refine ⟨rfl, ⟨fun b o e => ?_, fun b o e => ?_⟩, os, bare⟩
      · by_cases hb : b ∈ tabs
        · obtain ⟨p, hp, rfl⟩ := List.mem_map.mp hb
          obtain ⟨more, hm⟩ := grown _ hb
          rw [hT p hp] at e; cases e
          exact .inr (.inl ⟨((C p hp).tab (hT p hp)).isCodeTable, rfl, #[], more, rfl, by rw [Array.empty_append]; exact hm⟩)
        · exact .inl (kept b o hb e)
      · by_cases hb : b ∈ tabs
        · obtain ⟨more, hm⟩ := grown b hb; exact ⟨_, hm⟩
        · exact ⟨o, kept b o hb e⟩
    | next => exact False.elim h
    | brk => exact False.elim h
    | cont => exact False.elim h
/-- what is known of the law at the head's heap -/
def LawG (l : PySem.W.OpenLaw) (w : World) (K : PySem.W.Frag) (n : Nat) (mg : Str → Option Value) (fa : Addr) (s : Shared) : Prop :=
  ∃ cs : List (Addr × Addr), (∀ p ∈ cs, s.heap.get? p.2 = some emptyT) ∧ (∀ p ∈ cs, K.lookup p.2 = none) ∧ (∀ p ∈ cs, PySem.W.CodeHd s.heap p.1 p.2) ∧
    ∀ (a : Addr) (ns : List Int) (base : Heap) (H : Hp), ns.length ≤ n → (∀ z ∈ ns, Builtin.Int.intBits z ≤ 1048576) → K.In base → base.Ns mainGlobals mg → (∀ p ∈ cs, TabB base mg p.1 p.2) → (∀ p ∈ cs, H p.2 = some (.tbl #[])) → SqL K H a (ns.map V.int) → Env0 l.prog w K mg base callerA [] s H →
      codeAny (model l.prog w) callerA (.call (.ref fa) ⟨[.ref a], []⟩) (CR CX0 [] l.prog w H s (fun v _ => v = .bl true) fun _ _ _ => False) s
theorem walk_G {l : PySem.W.OpenLaw} {n : Nat} {q : Program} {loose : List Str} {XP : (Str → Option Value) → Heap → Prop} {YP : World → Heap → Prop} {d : DefRec} {K : Params → PySem.W.Frag}
    (hn : l.most = some n) (hn2 : n ≤ sizeLine) (hdf : d.params.defaults = []) (hY : ∀ (w : World) (h : Heap), YP w h → (K w.params).In h)
    (F : ∀ (w : World) (mg mb : Str → Option Value) (fa : Addr) (s : Shared) (mean : ExcName → Option Value), PyProof.Rows.Top q (PySem.W.looseW q loose) mean mg mb s.heap → (K w.params).In s.heap → mg d.name = some (.ref fa) → LawG l w (K w.params) n mg fa s) :
    PySem.W.WalkO q loose XP YP l.row.toRowW d [] (fun f vs => PySem.call f vs) := by
  refine Att.attach_callB hn hdf fun w s₀ s₁ mg mb fa o pm cd doc a vs ns G Y ho hd hcd hmg hobj hints hlen hbits hg => ?_
  have KX := hY w _ Y
  obtain ⟨cs, hT, nT, C, hF⟩ := F w mg mb fa s₁ _ G.T KX hmg
  exact law_callG KX G.T.g G.T.b G.T.builtins G.T.nolimit hg hT nT C G.T.bmain hobj hints (Nat.le_trans hlen hn2) fun base H h1 h2 h3 h4 h5 h6 => hF a ns base H hlen hbits h1 h2 h3 h4 h5 h6
end Ag

set_option Elab.async false
set_option linter.all false
set_option maxRecDepth 100000
set_option maxHeartbeats 2000000
/-! try with several clauses, each of which binds what it catches to a name. -/
namespace Ag
open PySem PySem.Spec PyProof.Rows L2
/-- a clause: the class, the slot of its name, and its suite's reading -/
structure Clause where
  cls : Value
  slot : Nat
  ts : Addr → Value → Option Addr → TS
/-- the ends of a suite whose name is unbound behind it -/
def endsU (i : Nat) (D : Ends) : Ends := ⟨fun σ H => D.nx (σ.set i none) H, D.rt, fun σ H => D.bk (σ.set i none) H, fun σ H => D.ct (σ.set i none) H⟩
def wNamed (K : PySem.W.Frag) (n : Nat) (Wout : WX) (D : Ends) : List Clause → WX
  | [] => Wout
  | q :: r => fun c d σ H => ∃ b, PySem.W.exmOne K c q.cls = some b ∧ (b = true → σ.length = n → ∀ a, H a = none → q.ts a c d (endsU q.slot D) (σ.set q.slot (some (.ref a))) H) ∧ (b = false → wNamed K n Wout D r c d σ H)
inductive ClausesOk (X : Cx) : List ExceptHandler → List Clause → Prop
  | nil : ClausesOk X [] []
  | cons {x n : Str} {q : Clause} {b₀ : Stmt} {suite : List Stmt} {np hp : Pos} {hds : List ExceptHandler} {l : List Clause} (names : Names X x q.cls) (hi : X.N[q.slot]? = some n) (loc : X.env.kindOf n = some .local)
      (run : ∀ (a : Addr) (oe : Obj) (c : Value) (d : Option Addr) (pn : List (Addr × Obj)), Zc c d oe → (∃ vs, oe.data = .fields vs) → PSs (X.suite a ((a, oe) :: pn)) (b₀ :: suite) (q.ts a c d)) (rest : ClausesOk X hds l) :
      ClausesOk X (.ExceptHandler (some (.Name x np)) (some n) (b₀ :: suite) hp :: hds) (q :: l)
section
variable {X : Cx} {body : List Stmt} {h₀ : ExceptHandler} {hds : List ExceptHandler} {l : List Clause} {pos : Pos} {tb : WX → TS} {Wout : WX}
theorem ps_try_named (stk : X.stack = X.env :: X.outer) (frm : X.env.frame = some X.env.locals) (nd : X.N.Nodup) (out : Takes X Wout)
    (hb : ∀ (W : WX) (pn : List (Addr × Obj)) (xe : Value → Shared → Prop), Takes (X.tr pn xe) W → PassesOwn (model X.prog X.w) X.A X.env xe → PSs (X.tr pn xe) body (tb W))
    (hh : ClausesOk X (h₀ :: hds) l) : PS X (.Try body (h₀ :: hds) [] [] pos) (fun D σ H => tb (wNamed X.K X.N.length Wout D l) D σ H) := by
  refine ⟨fun pins s σ H D I h => wpAny_Try_except ?_⟩
  have ok := I.ok
  have fr : X.A.frames = some (X.env :: X.outer) := by rw [ok.frames, stk]
  have caught : ∀ (u : Value) (s' : Shared), XE (X.tr (X.pn ++ pins) fun e z => wpAny (model X.prog X.w) X.A (noteFrame e X.env) (fun _ z2 => wpAny (model X.prog X.w) X.A (setFlight e none) (fun _ z3 =>
      wpAny (model X.prog X.w) X.A (handleBy e X.env (h₀ :: hds)) (SP X pins D) X.xe z3) X.xe z2) X.xe z) (wNamed X.K X.N.length Wout D l) u s' →
      wpAny (model X.prog X.w) X.A (noteFrame u X.env) (fun _ z2 => wpAny (model X.prog X.w) X.A (setFlight u none) (fun _ z3 => wpAny (model X.prog X.w) X.A (handleBy u X.env (h₀ :: hds)) (SP X pins D) X.xe z3) X.xe z2) X.xe s' := by
    rintro u s' ⟨a, B, sI, pins', σ1, H1, c, d, rfl, J0, nb, up, sky, na, os, ag, w⟩
    have J : Inv X pins σ1 H1 sI := J0.ofTry ok
    refine Sky.land Zc.steady fr frm (show Sky B (X.env :: X.outer) a (Zc c d) X.env.locals s'.heap by rw [← stk]; exact sky) fun g1 fl1 u1 => ?_
    have J1 : Inv X pins σ1 H1 { s' with heap := g1 } := J.landed nb fl1.1 (up.trans u1) os ag
    obtain ⟨o1, vs1, e1, z1, d1⟩ := fl1.there
    have nfr : a ∉ frs (X.env :: X.outer) := fun hm => by
      obtain ⟨_, o2, e2, no⟩ := fl1.2.2.1.mem hm
      rw [e1] at e2; cases e2
      exact no _ d1
    have nL : a ≠ X.env.locals := fun z => nfr (List.mem_filterMap.mpr ⟨X.env, .head _, by rw [frm, z]⟩)
    have nF : a ∉ X.fs := fun hm => by
      obtain ⟨e, he, q⟩ := List.mem_filterMap.mp hm
      exact nfr (List.mem_filterMap.mpr ⟨e, .tail _ he, q⟩)
    have S1 := J1.suite e1 d1 na nL nF
    have go : ∀ {hs : List ExceptHandler} {ls : List Clause}, ClausesOk X hs ls → wNamed X.K X.N.length Wout D ls c d σ1 H1 → wpAny (model X.prog X.w) X.A (handleBy (.ref a) X.env hs) (SP X pins D) X.xe { s' with heap := g1 } := by
      intro hs ls hk
      induction hk with
      | nil =>
        intro w
        refine wpAny_handleBy_nil ?_
        obtain ⟨_, _, _, o2, vs2, T, oT, ts2, e2, z2, d2, t1, _⟩ := id fl1
        unfold PySem.passOn
        refine wpAny_bind (wpAny_field e2 d2 t1 ?_)
        rw [if_neg (show ¬ (Value.ref T == Value.none) = true from fun z => nomatch z)]
        have last : wpAny (model X.prog X.w) X.A (setFlight (.ref a) X.env.frame) (fun _ z4 => wpAny (model X.prog X.w) X.A (throw (.ref a) : Sem Flow) (SP X pins D) X.xe z4) X.xe { s' with heap := g1 } := by
          rw [frm]
          exact HandSPX.setFlight_upZ fl1 fun g2 h2 u2 => wpAny_throw (out _ _ ⟨a, B, sI, pins, σ1, H1, c, d, rfl, J, nb, (up.trans u1).trans u2, .inr (.inr (by rw [stk]; exact h2)), na, os, ag, w⟩)
        first
          | exact wpAny_bind (wpAny_pure (wpAny_bind last))
          | exact wpAny_bind last
      | @cons x n q b₀ suite np hp hds2 l2 names hi loc run rest ih =>
        rintro ⟨b, hb1, yes, no⟩
        refine wpAny_handleBy_cons (codeAny_handlers_test ?_) (fun z => nomatch z)
        have looks : PySem.W.Looks (model X.prog X.w) g1 (typeOf (.ref a)) c := fun A Q E s k z => wpAny_typeOf_ref (k _ _ e1) (by rw [z1.1]; exact z)
        have tst : ∀ {Q : Value → Shared → Prop} {E : Value → Shared → Prop}, Q q.cls { s' with heap := g1 } → wpAny (model X.prog X.w) (X.A.mark (some (.ref a))) (eval (.Name x np) X.env) Q E { s' with heap := g1 } := fun z => by
          obtain ⟨hg, hdb, hm | ⟨hm, hv, hnn⟩⟩ := names
          · exact ld_glob (X := X.suite a ((a, o1) :: (X.pn ++ pins))) S1 hg hm z hdb
          · exact ld_blt (X := X.suite a ((a, o1) :: (X.pn ++ pins))) S1 hg hm hv z hnn hdb
        refine tst ((PySem.W.exm_one (M := model X.prog X.w) J1.kIn looks hb1).here ?_)
        cases b with
        | false =>
          show wpAny _ X.A (handleBy (.ref a) X.env hds2) _ _ _
          exact ih (no rfl)
        | true =>
          refine codeAny_handlers_suite_as (HandSPX.lands_againZ fl1 fun g2 fl2 u2 => ?_)
          have J2 : Inv X pins σ1 H1 { s' with heap := g2 } := J.landed nb fl2.1 ((up.trans u1).trans u2) os ag
          obtain ⟨o2, vs2, e2, z2, d2⟩ := fl2.there
          refine store_ok (X := X.suite a ((a, o2) :: (X.pn ++ pins))) (v := .ref a) (J2.suite e2 d2 na nL nF) nd hi (show Loc X.env.scope n from .inl loc) rfl (fun s5 S5 => ?_) (.inr loc)
          refine wpAny_mono ((run a o2 c d (X.pn ++ pins) z2 ⟨_, d2⟩).run [] s5 _ H1 _ S5 (yes rfl J2.len a na)) (fun f s6 r6 => ?_) (fun _ _ z => False.elim z)
          have fin : ∀ {σ6 : L2.St} {H6 : Hp} {R : Shared → Prop}, Inv (X.suite a ((a, o2) :: (X.pn ++ pins))) [] σ6 H6 s6 → (∀ s7, Inv X pins (σ6.set q.slot none) H6 s7 → R s7) →
              wpAny (model X.prog X.w) X.A (do bindName X.env n .none; unbindBehindTheSuite X.env n hp) (fun _ s7 => R s7) X.xe s6 := fun S6 r => gone_ok (S6.unsuite ok) nd hi loc r
          cases f with
          | next => obtain ⟨σ6, H6, S6, q6⟩ := r6; exact fin S6 fun s7 J7 => ⟨_, _, J7, q6⟩
          | brk => obtain ⟨σ6, H6, S6, q6⟩ := r6; exact fin S6 fun s7 J7 => ⟨_, _, J7, q6⟩
          | cont => obtain ⟨σ6, H6, S6, q6⟩ := r6; exact fin S6 fun s7 J7 => ⟨_, _, J7, q6⟩
          | ret u => obtain ⟨v6, σ6, H6, S6, v7, q6⟩ := r6; exact fin S6 fun s7 J7 => ⟨_, _, _, J7, v7, q6⟩
    exact go hh w
  refine wpAny_mono ((hb (wNamed X.K X.N.length Wout D l) (X.pn ++ pins) _ (fun u s' xx => caught u s' xx) PassesOwn.looking).run [] s σ H D (I.toTry _) h) (fun f s1 r => ?_) (fun e s1 z => z)
  cases f with
  | next => obtain ⟨σ', H', J', q⟩ := r; exact wpAny_execs_nil ⟨σ', H', J'.ofTry ok, q⟩
  | brk => obtain ⟨σ', H', J', q⟩ := r; exact ⟨σ', H', J'.ofTry ok, q⟩
  | cont => obtain ⟨σ', H', J', q⟩ := r; exact ⟨σ', H', J'.ofTry ok, q⟩
  | ret u => obtain ⟨v, σ', H', J', rv, q⟩ := r; exact ⟨v, σ', H', J'.ofTry ok, rv, q⟩
end
/-- code that is never come to -/
theorem pss_never {X : Cx} {sts : List Stmt} : PSs X sts (fun _ _ _ => False) := ⟨fun _ _ _ _ _ _ h => h.elim⟩
theorem ps_never {X : Cx} {st : Stmt} : PS X st (fun _ _ _ => False) := ⟨fun _ _ _ _ _ _ h => h.elim⟩
theorem pe_never {X : Cx} {e : Expr} : PE X e (fun _ _ _ => False) := ⟨fun _ _ _ _ _ _ h => h.elim⟩
end Ag

set_option Elab.async false
set_option linter.all false
set_option maxRecDepth 100000
set_option maxHeartbeats 1000000
/-! The pen: a dict of five written keys; what a draw leaves. -/
namespace Ag
open PySem PySem.Spec PyProof.Rows L2

abbrev ck (s : Str) : Key := Sum.inr s
def penKV (c : Addr) (at_ dig cnt fold : Int) : List (Key × V) :=
  [(ck "cells", .ref c), (ck "at", .int at_), (ck "digits", .int dig), (ck "count", .int cnt), (ck "fold", .int fold)]
theorem kn1 : ¬ ck "cells" = ck "at" := by decide +kernel
theorem kn2 : ¬ ck "cells" = ck "digits" := by decide +kernel
theorem kn3 : ¬ ck "cells" = ck "count" := by decide +kernel
theorem kn4 : ¬ ck "cells" = ck "fold" := by decide +kernel
theorem kn5 : ¬ ck "at" = ck "digits" := by decide +kernel
theorem kn6 : ¬ ck "at" = ck "count" := by decide +kernel
theorem kn7 : ¬ ck "at" = ck "fold" := by decide +kernel
theorem kn8 : ¬ ck "digits" = ck "count" := by decide +kernel
theorem kn9 : ¬ ck "digits" = ck "fold" := by decide +kernel
theorem kn0 : ¬ ck "count" = ck "fold" := by decide +kernel
theorem sn_cells_at : ¬ Str.ofString "cells" = Str.ofString "at" := by decide +kernel
theorem sn_cells_digits : ¬ Str.ofString "cells" = Str.ofString "digits" := by decide +kernel
theorem sn_cells_count : ¬ Str.ofString "cells" = Str.ofString "count" := by decide +kernel
theorem sn_cells_fold : ¬ Str.ofString "cells" = Str.ofString "fold" := by decide +kernel
theorem sn_at_cells : ¬ Str.ofString "at" = Str.ofString "cells" := by decide +kernel
theorem sn_at_digits : ¬ Str.ofString "at" = Str.ofString "digits" := by decide +kernel
theorem sn_at_count : ¬ Str.ofString "at" = Str.ofString "count" := by decide +kernel
theorem sn_at_fold : ¬ Str.ofString "at" = Str.ofString "fold" := by decide +kernel
theorem sn_digits_cells : ¬ Str.ofString "digits" = Str.ofString "cells" := by decide +kernel
theorem sn_digits_at : ¬ Str.ofString "digits" = Str.ofString "at" := by decide +kernel
theorem sn_digits_count : ¬ Str.ofString "digits" = Str.ofString "count" := by decide +kernel
theorem sn_digits_fold : ¬ Str.ofString "digits" = Str.ofString "fold" := by decide +kernel
theorem sn_count_cells : ¬ Str.ofString "count" = Str.ofString "cells" := by decide +kernel
theorem sn_count_at : ¬ Str.ofString "count" = Str.ofString "at" := by decide +kernel
theorem sn_count_digits : ¬ Str.ofString "count" = Str.ofString "digits" := by decide +kernel
theorem sn_count_fold : ¬ Str.ofString "count" = Str.ofString "fold" := by decide +kernel
theorem sn_fold_cells : ¬ Str.ofString "fold" = Str.ofString "cells" := by decide +kernel
theorem sn_fold_at : ¬ Str.ofString "fold" = Str.ofString "at" := by decide +kernel
theorem sn_fold_digits : ¬ Str.ofString "fold" = Str.ofString "digits" := by decide +kernel
theorem sn_fold_count : ¬ Str.ofString "fold" = Str.ofString "count" := by decide +kernel
section
variable {c : Addr} {a d n f x : Int}
theorem pen_cells : valV (penKV c a d n f) (ck "cells") = some (.ref c) := valV_pos rfl
theorem pen_at : valV (penKV c a d n f) (ck "at") = some (.int a) := by unfold penKV; rw [valV_neg kn1]; exact valV_pos rfl
theorem pen_dig : valV (penKV c a d n f) (ck "digits") = some (.int d) := by unfold penKV; rw [valV_neg kn2, valV_neg kn5]; exact valV_pos rfl
theorem pen_cnt : valV (penKV c a d n f) (ck "count") = some (.int n) := by unfold penKV; rw [valV_neg kn3, valV_neg kn6, valV_neg kn8]; exact valV_pos rfl
theorem pen_fold : valV (penKV c a d n f) (ck "fold") = some (.int f) := by unfold penKV; rw [valV_neg kn4, valV_neg kn7, valV_neg kn9, valV_neg kn0]; exact valV_pos rfl
theorem put_at : putK (penKV c a d n f) (ck "at") (.int x) = penKV c x d n f := by
  unfold putK; rw [valV_any, pen_at]
  simp [penKV, ck, sn_cells_at, sn_cells_digits, sn_cells_count, sn_cells_fold, sn_at_cells, sn_at_digits, sn_at_count, sn_at_fold, sn_digits_cells, sn_digits_at, sn_digits_count, sn_digits_fold, sn_count_cells, sn_count_at, sn_count_digits, sn_count_fold, sn_fold_cells, sn_fold_at, sn_fold_digits, sn_fold_count]
theorem put_dig : putK (penKV c a d n f) (ck "digits") (.int x) = penKV c a x n f := by
  unfold putK; rw [valV_any, pen_dig]
  simp [penKV, ck, sn_cells_at, sn_cells_digits, sn_cells_count, sn_cells_fold, sn_at_cells, sn_at_digits, sn_at_count, sn_at_fold, sn_digits_cells, sn_digits_at, sn_digits_count, sn_digits_fold, sn_count_cells, sn_count_at, sn_count_digits, sn_count_fold, sn_fold_cells, sn_fold_at, sn_fold_digits, sn_fold_count]
theorem put_cnt : putK (penKV c a d n f) (ck "count") (.int x) = penKV c a d x f := by
  unfold putK; rw [valV_any, pen_cnt]
  simp [penKV, ck, sn_cells_at, sn_cells_digits, sn_cells_count, sn_cells_fold, sn_at_cells, sn_at_digits, sn_at_count, sn_at_fold, sn_digits_cells, sn_digits_at, sn_digits_count, sn_digits_fold, sn_count_cells, sn_count_at, sn_count_digits, sn_count_fold, sn_fold_cells, sn_fold_at, sn_fold_digits, sn_fold_count]
theorem put_fold : putK (penKV c a d n f) (ck "fold") (.int x) = penKV c a d n x := by
  unfold putK; rw [valV_any, pen_fold]
  simp [penKV, ck, sn_cells_at, sn_cells_digits, sn_cells_count, sn_cells_fold, sn_at_cells, sn_at_digits, sn_at_count, sn_at_fold, sn_digits_cells, sn_digits_at, sn_digits_count, sn_digits_fold, sn_count_cells, sn_count_at, sn_count_digits, sn_count_fold, sn_fold_cells, sn_fold_at, sn_fold_digits, sn_fold_count]
end
/-- the pen at p, its cells at c; n bounds how often it has been drawn -/
def Pen (p c : Addr) (n : Nat) (H : Hp) : Prop :=
  ∃ (cells : List Int) (a d k f : Int), H p = some (.dK (penKV c a d k f)) ∧ Rd H c (.lst (cells.map V.int)) ∧ 0 ≤ a ∧ 0 ≤ d ∧ 0 ≤ k ∧ k ≤ n ∧ 0 ≤ f ∧ f < 2147483648
/-- all but the pen is kept -/
def But (p : Addr) (H H' : Hp) : Prop := ∀ a o, a ≠ p → H a = some o → H' a = some o
theorem But.refl (p : Addr) (H : Hp) : But p H H := fun _ _ _ h => h
theorem But.trans {p : Addr} {H H1 H2 : Hp} (a : But p H H1) (b : But p H1 H2) : But p H H2 := fun x o n h => b x o n (a x o n h)
theorem But.of {p : Addr} {H H1 : Hp} (a : Same H H1) : But p H H1 := fun x o _ h => a x o h
theorem But.free {p a : Addr} {H H1 : Hp} (b : But p H H1) (h : H1 a = none) (n : a ≠ p) : H a = none := by
  cases q : H a with
  | none => rfl
  | some o => rw [b a o n q] at h; cases h
section
variable {K : PySem.W.Frag} {p c : Addr} {n : Nat} {H H' : Hp}
theorem Pen.ne {a : Addr} {o : HO} (h : Pen p c n H) (e : H a = some o) (no : ∀ kvs, o ≠ .dK kvs) : a ≠ p := by
  obtain ⟨cells, a', d, k, f, hp, _⟩ := h
  exact ne_of e hp (no _)
theorem Pen.rd {a : Addr} {u : HO} (h : Pen p c n H) (b : But p H H') (r : Rd H a u) (no : ∀ kvs, u ≠ .dK kvs) : Rd H' a u := by
  rcases r with r | ⟨o, r⟩
  · exact .inl (b _ _ (h.ne r no) r)
  · exact .inr ⟨o, b _ _ (h.ne r (fun _ z => nomatch z)) r⟩
theorem Pen.sl {a : Addr} {xs : List V} (h : Pen p c n H) (b : But p H H') (r : SqL K H a xs) : SqL K H' a xs := r.imp (fun z => h.rd b z (fun _ z => nomatch z)) id
theorem Pen.st {a : Addr} {xs : List V} (h : Pen p c n H) (b : But p H H') (r : SqT K H a xs) : SqT K H' a xs := r.imp (fun z => h.rd b z (fun _ z => nomatch z)) id
mutual
theorem Pen.dp (h : Pen p c n H) (b : But p H H') : ∀ {v : V} {d : PyData}, Dp K H v d → Dp K H' v d
  | _, _, .non => .non
  | _, _, .bl b => .bl b
  | _, _, .int i => .int i
  | _, _, .str x => .str x
  | _, _, .lst q r => .lst (h.sl b q) (Pen.dps h b r)
  | _, _, .tup q r => .tup (h.st b q) (Pen.dps h b r)
theorem Pen.dps (h : Pen p c n H) (b : But p H H') : ∀ {vs : List V} {ds : List PyData}, DpAll K H vs ds → DpAll K H' vs ds
  | _, _, .nil => .nil
  | _, _, .cons q r => .cons (Pen.dp h b q) (Pen.dps h b r)
end
theorem Pen.same (h : Pen p c n H) (s : Same H H') : Pen p c n H' := by
  obtain ⟨cells, a, d, k, f, hp, hc, r⟩ := h
  exact ⟨cells, a, d, k, f, s _ _ hp, s.rdA hc, r⟩
theorem Pen.more {m : Nat} (h : Pen p c n H) (l : n ≤ m) : Pen p c m H := by
  obtain ⟨cells, a, d, k, f, hp, hc, h1, h2, h3, h4, r⟩ := h
  exact ⟨cells, a, d, k, f, hp, hc, h1, h2, h3, Int.le_trans h4 (by omega), r⟩
theorem Pen.some_p (h : Pen p c n H) : ∃ o, H p = some o := by
  obtain ⟨cells, a, d, k, f, hp, _⟩ := h; exact ⟨_, hp⟩
theorem Pen.some_c (h : Pen p c n H) : ∃ o, H c = some o := by
  obtain ⟨cells, a, d, k, f, hp, hc, _⟩ := h
  rcases hc with hc | ⟨o, hc⟩ <;> exact ⟨_, hc⟩
/-- an own object is changed or made: the pen stands -/
theorem Pen.upd {l : Addr} {o : HO} (h : Pen p c n H) (h1 : l ≠ p) (h2 : l ≠ c) : Pen p c n (L2.upd H l o) := by
  obtain ⟨cells, a, d, k, f, hp, hc, r⟩ := h
  refine ⟨cells, a, d, k, f, by rw [upd_ne (Ne.symm h1)]; exact hp, ?_, r⟩
  rcases hc with hc | ⟨o, hc⟩
  · exact .inl (by rw [upd_ne (Ne.symm h2)]; exact hc)
  · exact .inr ⟨o, by rw [upd_ne (Ne.symm h2)]; exact hc⟩
theorem Pen.ne_p {l : Addr} (h : Pen p c n H) (hl : H l = none) : l ≠ p := by
  obtain ⟨o, e⟩ := h.some_p
  exact Ne.symm (ne_of_none e hl)
theorem Pen.ne_c {l : Addr} (h : Pen p c n H) (hl : H l = none) : l ≠ c := by
  obtain ⟨o, e⟩ := h.some_c
  exact Ne.symm (ne_of_none e hl)
end

section
variable {H : Hp} {p c : Addr} {a d n f x : Int}
theorem pg_cells (h : H p = some (.dK (penKV c a d n f))) : DGet H p (.str "cells") (some (.ref c)) := by
  have q := DGet.k (k := ck "cells") h
  rw [pen_cells] at q; exact q
theorem pg_at (h : H p = some (.dK (penKV c a d n f))) : DGet H p (.str "at") (some (.int a)) := by
  have q := DGet.k (k := ck "at") h
  rw [pen_at] at q; exact q
theorem pg_dig (h : H p = some (.dK (penKV c a d n f))) : DGet H p (.str "digits") (some (.int d)) := by
  have q := DGet.k (k := ck "digits") h
  rw [pen_dig] at q; exact q
theorem pg_cnt (h : H p = some (.dK (penKV c a d n f))) : DGet H p (.str "count") (some (.int n)) := by
  have q := DGet.k (k := ck "count") h
  rw [pen_cnt] at q; exact q
theorem pg_fold (h : H p = some (.dK (penKV c a d n f))) : DGet H p (.str "fold") (some (.int f)) := by
  have q := DGet.k (k := ck "fold") h
  rw [pen_fold] at q; exact q
theorem pp_at (h : H p = some (.dK (penKV c a d n f))) : DPut H p (.str "at") (.int x) (upd H p (.dK (penKV c x d n f))) := by
  have q := DPut.k (k := ck "at") (v := .int x) h (by show 5 < sizeLine; decide)
  rw [put_at] at q; exact q
theorem pp_dig (h : H p = some (.dK (penKV c a d n f))) : DPut H p (.str "digits") (.int x) (upd H p (.dK (penKV c a x n f))) := by
  have q := DPut.k (k := ck "digits") (v := .int x) h (by show 5 < sizeLine; decide)
  rw [put_dig] at q; exact q
theorem pp_cnt (h : H p = some (.dK (penKV c a d n f))) : DPut H p (.str "count") (.int x) (upd H p (.dK (penKV c a d x f))) := by
  have q := DPut.k (k := ck "count") (v := .int x) h (by show 5 < sizeLine; decide)
  rw [put_cnt] at q; exact q
theorem pp_fold (h : H p = some (.dK (penKV c a d n f))) : DPut H p (.str "fold") (.int x) (upd H p (.dK (penKV c a d n x))) := by
  have q := DPut.k (k := ck "fold") (v := .int x) h (by show 5 < sizeLine; decide)
  rw [put_fold] at q; exact q
end
/-- the promise of a draw -/
def spDraw : Sp := fun vs H Q _ => ∃ (p c : Addr) (many : Int) (n : Nat), vs = [.ref p, .int many] ∧ Pen p c n H ∧ 0 < many ∧ many < 1000000 ∧ n < 1000000000000 ∧
  ∀ (d : Int) H', 0 ≤ d → d < many → But p H H' → Pen p c (n + 1) H' → Q (.int d) H'
end Ag

set_option Elab.async false
set_option linter.all false
set_option maxRecDepth 100000
set_option maxHeartbeats 1000000
/-! Comprehensions over data, statements over data. -/
namespace Ag
open PySem PySem.Spec PyProof.Rows L2
/-- a walk that hands out the data ds, as long as what stood at H stands -/
structure Wk (K : PySem.W.Frag) (F : Addr → Prop) (H : Hp) (J : It) (ds : List PyData) : Prop where
  go : ∀ i H', SameF F H H' → i < ds.length → J.go i H'
  stop : ∀ H', SameF F H H' → J.stop ds.length H'
  yld : ∀ i H' x H'', i < ds.length → SameF F H H' → J.yld i H' x H'' → ∃ d, ds[i]? = some d ∧ Same H' H'' ∧ Df K (fun a => F a ∧ H a ≠ none) H'' x d
def EI (K : PySem.W.Frag) (wi : TI) (σ : L2.St) (F : Addr → Prop) (H : Hp) (ds : List PyData) : Prop := ∀ H1, Same H H1 → ∀ R : It → Hp → Prop, (∀ J H2, Same H1 H2 → Wk K (Fr F H1) H2 J ds → R J H2) → wi σ H1 R
section
variable {K : PySem.W.Frag} {σ : L2.St} {F : Addr → Prop} {H : Hp} {te tl : TE} {ds : List PyData}
theorem slF {a : Addr} {xs : List V} {H' : Hp} (s : SameF F H H') (h : (Rd H a (.lst xs) ∧ F a) ∨ KL K a xs) : SqL K H' a xs := h.imp (fun z => rd_lstF s z.1 z.2) id
theorem wk_list {a : Addr} {xs : List V} (h : (Rd H a (.lst xs) ∧ F a) ∨ KL K a xs) (r : DfAll K F H xs ds) : Wk K F H (Itl K a) ds where
  go := fun i H' s hi => by
    obtain ⟨d, e⟩ : ∃ d, ds[i]? = some d := ⟨_, List.getElem?_eq_getElem hi⟩
    obtain ⟨v, q, _⟩ := dfs_get r e
    exact ⟨xs, v, slF s h, q⟩
  stop := fun H' s => ⟨xs, slF s h, by rw [dfs_len r]; exact Nat.le_refl _⟩
  yld := fun i H' x H'' _ s y => by
    obtain ⟨rfl, y⟩ := y
    obtain ⟨d, e, hd⟩ := dfs_get' (dfs_monoF (s.sub fun _ z => z.1) (dfs_in r)) (y xs (slF s h))
    exact ⟨d, e, Same.refl _, hd⟩
theorem wk_tup {a : Addr} {xs : List V} (h : SqT K H a xs) (r : DfAll K F H xs ds) : Wk K F H (Itt K a) ds where
  go := fun i H' s hi => by
    obtain ⟨d, e⟩ : ∃ d, ds[i]? = some d := ⟨_, List.getElem?_eq_getElem hi⟩
    obtain ⟨v, q, _⟩ := dfs_get r e
    exact ⟨xs, v, sqt_F s h, q⟩
  stop := fun H' s => ⟨xs, sqt_F s h, by rw [dfs_len r]; exact Nat.le_refl _⟩
  yld := fun i H' x H'' _ s y => by
    obtain ⟨rfl, y⟩ := y
    obtain ⟨d, e, hd⟩ := dfs_get' (dfs_monoF (s.sub fun _ z => z.1) (dfs_in r)) (y xs (sqt_F s h))
    exact ⟨d, e, Same.refl _, hd⟩
theorem ei_list (h : ED K tl σ F H (.list ds)) : EI K (iList K tl) σ F H ds := fun H1 s R q => h H1 s _ fun v H2 s2 hv => by
  cases hv with
  | lst hs r => exact ⟨_, rfl, ⟨_, hs.imp (fun z => z.1) id⟩, q _ H2 s2 (wk_list hs r)⟩
theorem ei_tup (h : ED K tl σ F H (.tuple ds)) : EI K (iTup K tl) σ F H ds := fun H1 s R q => h H1 s _ fun v H2 s2 hv => by
  cases hv with
  | tup hs r => exact ⟨_, rfl, ⟨_, hs⟩, q _ H2 s2 (wk_tup hs r)⟩
def signs (x : Str) : List PyData := x.cps.toList.map fun c => .str ⟨#[c]⟩
theorem ei_str {x : Str} (h : ED K te σ F H (.str x)) : EI K (iStr te) σ F H (signs x) := fun H1 s R q => h H1 s _ fun v H2 s2 hv => by
  cases hv
  refine ⟨x, rfl, q _ H2 s2 ⟨fun i H' _ hi => ?_, fun H' _ => ?_, fun i H' y H'' _ _ z => ?_⟩⟩
  · show i < x.cps.size
    rw [← Array.length_toList]; unfold signs at hi; rw [List.length_map] at hi; exact hi
  · show x.cps.size ≤ (signs x).length
    unfold signs; rw [List.length_map, Array.length_toList]; exact Nat.le_refl _
  · obtain ⟨rfl, c, e, rfl⟩ := z
    refine ⟨.str ⟨#[c]⟩, ?_, Same.refl _, .str _⟩
    unfold signs
    rw [List.getElem?_map, Array.getElem?_toList, e]; rfl
/-- the numbers below n -/
def nums (n : Nat) : List PyData := (List.range n).map fun i => .int (i : Nat)
theorem ei_range {n : Nat} (h : ED K te σ F H (.int (n : Nat))) (hn : n ≤ 100000) : EI K (iRng1 (tCons te tNil)) σ F H (nums n) := fun H1 s R q => h H1 s _ fun v H2 s2 hv => by
  cases hv
  refine ⟨_, rfl, by omega, by omega, q _ H2 s2 ⟨fun i H' _ hi => ?_, fun H' _ => ?_, fun i H' y H'' hi _ z => ?_⟩⟩
  · show i < ((n : Int)).toNat
    unfold nums at hi; rw [List.length_map, List.length_range] at hi; omega
  · show ((n : Int)).toNat ≤ (nums n).length
    unfold nums; rw [List.length_map, List.length_range]; omega
  · obtain ⟨rfl, rfl⟩ := z
    unfold nums at hi; rw [List.length_map, List.length_range] at hi
    refine ⟨.int (i : Nat), ?_, Same.refl _, by rw [Int.zero_add]; exact .int _⟩
    unfold nums; rw [List.getElem?_map, List.getElem?_range hi]; rfl
def zipD (xs ys : List PyData) : List PyData := List.zipWith (fun a b => .tuple [a, b]) xs ys
theorem ei_zip {ta : TA} {xs ys : List PyData} (h : EA K ta σ F H [.tuple xs, .tuple ys]) : EI K (RZ.iZipA K ta) σ F H (zipD xs ys) := fun H1 s R q => h H1 s _ fun vs H2 s2 hv => by
  cases hv with
  | cons a r =>
    cases r with
    | cons b r =>
      cases r
      cases a with
      | tup ha ra =>
        cases b with
        | tup hb rb =>
          refine ⟨_, _, _, _, rfl, .inr ⟨ha, hb, q _ H2 s2 ⟨fun i H' s3 hi => ?_, fun H' s3 => ?_, fun i H' y H'' _ s3 z => ?_⟩⟩⟩
          · have hi' : i < xs.length ∧ i < ys.length := by
              unfold zipD at hi; rw [List.length_zipWith] at hi; omega
            obtain ⟨v, e, _⟩ := dfs_get ra (List.getElem?_eq_getElem hi'.1)
            obtain ⟨v2, e2, _⟩ := dfs_get rb (List.getElem?_eq_getElem hi'.2)
            exact ⟨_, _, v, v2, sqt_F s3 ha, sqt_F s3 hb, e, e2⟩
          · refine ⟨_, _, sqt_F s3 ha, sqt_F s3 hb, ?_⟩
            unfold zipD; rw [List.length_zipWith, dfs_len ra, dfs_len rb]; omega
          · obtain ⟨T, x, x2, rfl, hT, rfl, e1, e2⟩ := z
            obtain ⟨d, q1, hd⟩ := dfs_get' (dfs_in ra) (e1 _ (sqt_F s3 ha))
            obtain ⟨d2, q2, hd2⟩ := dfs_get' (dfs_in rb) (e2 _ (sqt_F s3 hb))
            refine ⟨.tuple [d, d2], ?_, Same.newA hT, .tup (.of upd_same) (.cons (df_mono (Same.newA hT) (fun _ z => z) (df_monoF (s3.sub fun _ z => z.1) hd)) (.cons (df_mono (Same.newA hT) (fun _ z => z) (df_monoF (s3.sub fun _ z => z.1) hd2)) .nil))⟩
            unfold zipD; rw [List.getElem?_zipWith, q1, q2]
/-- a comprehension over data: the list made -/
theorem lc_run {wi : TI} {g : TG} {tt : TT} {vs : List Nat} {f : PyData → Bool} {m : PyData → PyData} (hi : EI K wi σ F H ds) (hl : ds.length ≤ 50000)
    (ht : ∀ F2 H1, Ext F H F2 H1 → ∀ v d, d ∈ ds → Df K F2 H1 v d → ∃ σ2, (∀ Q : L2.St → Hp → Prop, Q σ2 H1 → g v (wipe σ vs) H1 Q) ∧ wipe σ2 vs = wipe σ vs ∧ ET tt σ2 H1 (f d) ∧ (f d = true → ED K te σ2 F2 H1 (m d))) :
    ∀ H1, Same H H1 → ∀ Q : VK, (∀ D ys H', Same H1 H' → H1 D = none → H' D = some (.lst ys) → DfAll K (fun a => Fr F H1 a ∧ a ≠ D) H' ys ((ds.filter f).map m) → Q (.ref D) H') → tLc wi g tt te vs σ H1 Q := fun H1 s Q q => hi H1 s _ fun J H2 s2 W D hD => by
  have out : ∀ i, i ≤ ds.length → (((ds.take i).filter f).map m).length < 100000 := fun i hi => by
    rw [List.length_map]
    have := List.length_filter_le f (ds.take i)
    rw [List.length_take] at this
    omega
  have hD1 : H1 D = none := s2.freshA hD
  -- what items may be: lists not at D
  let F2 : Addr → Prop := fun a => Fr F H1 a ∧ a ≠ D
  have nF : ¬ F2 D := fun z => z.2 rfl
  refine ⟨fun i k H' => k = ds.length - i ∧ i ≤ ds.length ∧ Same H2 H' ∧ ∃ ys, H' D = some (.lst ys) ∧ DfAll K F2 H' ys (((ds.take i).filter f).map m), ⟨ds.length, by simp, Nat.zero_le _, Same.newA hD, [], upd_same, by simp; exact .nil⟩, ?_⟩
  rintro i k H' ⟨rfl, hi, s3, ys, e, r⟩
  by_cases lt : i < ds.length
  · refine .inr ⟨W.go i H' s3.F lt, fun H5 => Same H2 H5 ∧ ∃ ys, H5 D = some (.lst ys) ∧ DfAll K F2 H5 ys (((ds.take (i + 1)).filter f).map m), fun H5 ⟨a, b⟩ => ⟨ds.length - (i + 1), by omega, rfl, lt, a, b⟩, fun x H3 y => ?_⟩
    obtain ⟨d, hd, s4, hx⟩ := W.yld i H' x H3 lt s3.F y
    have hx2 : Df K F2 H3 x d := df_mono (Same.refl _) (fun a z => ⟨z.1, fun q => z.2 (q ▸ hD)⟩) hx
    obtain ⟨σ2, hg, hw, htt, hte⟩ := ht F2 H3 ⟨(((s.trans s2).trans s3).trans s4).F, fun a z n => ⟨.inl z, fun q => n (s.freshA (q ▸ hD1))⟩⟩ x d (List.mem_of_getElem? hd) hx2
    have tk : ds.take (i + 1) = ds.take i ++ [d] := by rw [List.take_succ, hd]; rfl
    refine hg _ ⟨hw, htt H3 (Same.refl _) _ fun H4 s5 => ?_⟩
    cases hf : f d with
    | true =>
      refine hte hf H4 s5 _ fun v H5 s6 hv => ?_
      have e4 : H4 D = some (.lst ys) := s5 _ _ (s4 _ _ e)
      have e5 : H5 D = some (.lst ys) := s6 _ _ e4
      have s45 := (s4.trans s5).trans s6
      have r5 : DfAll K F2 H5 ys (((ds.take i).filter f).map m) := dfs_mono s45 (fun _ z => z) r
      have v5 : Df K F2 H5 v (m d) := df_mono (Same.refl _) (fun a z => by
        rcases z with z | z
        · exact z
        · exact ⟨.inr (s2.freshA (s3.freshA ((s4.trans s5).freshA z))), fun q => by rw [q, e4] at z; cases z⟩) hv
      refine ⟨ys, e5, lt5 (by rw [dfs_len r5]; exact out i hi), fun a u h => ?_, ys ++ [v], upd_same, ?_⟩
      · rw [upd_ne (ne_of_none h hD)]; exact s45 _ _ (s3 _ _ h)
      · rw [tk, List.filter_append, List.map_append]
        have e1 : ([d].filter f).map m = [m d] := by simp [hf]
        rw [e1]
        exact dfs_app (dfs_upd e5 nF r5) (.cons (df_upd e5 nF v5) .nil)
    | false =>
      refine ⟨fun a u h => s5 _ _ (s4 _ _ (s3 _ _ h)), ys, s5 _ _ (s4 _ _ e), ?_⟩
      rw [tk, List.filter_append, List.map_append]
      have e1 : ([d].filter f).map m = [] := by simp [hf]
      rw [e1, List.append_nil]
      exact dfs_mono (s4.trans s5) (fun _ z => z) r
  · have : i = ds.length := by omega
    subst this
    refine .inl ⟨W.stop H' s3.F, q D ys H' (s2.trans s3) hD1 e ?_⟩
    rw [List.take_length] at r; exact r
/-- a comprehension over data -/
theorem ed_lc {wi : TI} {g : TG} {tt : TT} {vs : List Nat} {f : PyData → Bool} {m : PyData → PyData} (hi : EI K wi σ F H ds) (hl : ds.length ≤ 50000)
    (ht : ∀ F2 H1, Ext F H F2 H1 → ∀ v d, d ∈ ds → Df K F2 H1 v d → ∃ σ2, (∀ Q : L2.St → Hp → Prop, Q σ2 H1 → g v (wipe σ vs) H1 Q) ∧ wipe σ2 vs = wipe σ vs ∧ ET tt σ2 H1 (f d) ∧ (f d = true → ED K te σ2 F2 H1 (m d))) :
    ED K (tLc wi g tt te vs) σ F H (.list ((ds.filter f).map m)) := fun H1 s Q q => lc_run hi hl ht H1 s Q fun D ys H' s2 n e r => q _ _ s2 (.lst (.inl ⟨.inl e, .inr n⟩) (dfs_mono (Same.refl _) (fun _ z => z.1) r))
theorem et_yes : ET tYes σ H true := fun H1 _ _ q => q H1 (Same.refl _)
end
/-! ### statements over data -/
section
variable {K : PySem.W.Frag} {σ : L2.St} {F : Addr → Prop} {H : Hp} {te ta tb : TE} {t : TT} {d e : PyData} {D : Ends} {tu tw : TS}
theorem s_ret (h : ED K te σ F H d) (k : ∀ v H1, Same H H1 → Df K (Fr F H) H1 v d → D.rt v H1) : tRet te D σ H := h H (Same.refl _) _ k
theorem s_set {i : Nat} (h : ED K te σ F H d) (k : ∀ v H1, Same H H1 → Df K (Fr F H) H1 v d → D.nx (σ.set i (some v)) H1) : tAsg te (gName i) D σ H := h H (Same.refl _) _ k
theorem s_if {b : Bool} (h : ET t σ H b) (h1 : b = true → ∀ H1, Same H H1 → tu D σ H1) (h2 : b = false → ∀ H1, Same H H1 → tw D σ H1) : tIfS t tu tw D σ H := h H (Same.refl _) _ fun H1 s => by
  cases b with
  | true => exact h1 rfl H1 s
  | false => exact h2 rfl H1 s
theorem ed_notInS {c : Nat} {z : Str} (ha : ED K ta σ F H (.str ⟨#[c]⟩)) (hb : ED K tb σ F H (.str z)) :
    ED K (tOp (fun x y H Q => ∃ (c : Nat) (z : Str), x = .str ⟨#[c]⟩ ∧ y = .str z ∧ Q (.bl (!decide (c ∈ z.cps.toList))) H) ta tb) σ F H (.bool (!decide (c ∈ z.cps.toList))) :=
  ed_op ha hb fun F a b H1 hx hy Q q => by
    cases hx; cases hy; exact ⟨c, z, rfl, rfl, q _ _ (Same.refl _) (.bl _)⟩
theorem ed_inS {c : Nat} {z : Str} (ha : ED K ta σ F H (.str ⟨#[c]⟩)) (hb : ED K tb σ F H (.str z)) :
    ED K (tOp (fun x y H Q => ∃ (c : Nat) (z : Str), x = .str ⟨#[c]⟩ ∧ y = .str z ∧ Q (.bl (decide (c ∈ z.cps.toList))) H) ta tb) σ F H (.bool (decide (c ∈ z.cps.toList))) :=
  ed_op ha hb fun F a b H1 hx hy Q q => by
    cases hx; cases hy; exact ⟨c, z, rfl, rfl, q _ _ (Same.refl _) (.bl _)⟩
end
end Ag

set_option Elab.async false
set_option linter.all false
set_option maxRecDepth 100000
set_option maxHeartbeats 1000000
/-! More rules over data: x is True, in of texts, slices and sums of tuples, list.extend of a tuple. -/
namespace Ag
open PySem PySem.Spec PyProof.Rows L2
/-- a value of data -/
def isDat : V → Bool | .non | .bl _ | .int _ | .str _ | .ref _ => true | _ => false
def rIsX (neg : Bool) : R2 := fun x y H Q => ∃ b, y = .bl b ∧ isDat x = true ∧ Q (.bl (if neg then !decide (x = .bl b) else decide (x = .bl b))) H
theorem is_dat {v : Value} {x : V} {b : Bool} (r : RelV x v) (h : isDat x = true) : plainIs v (.bool b) = true ∧ (v == Value.bool b) = decide (x = .bl b) := by
  cases x with
  | non => cases r; exact ⟨rfl, by rw [decide_eq_false (fun z => nomatch z)]; rfl⟩
  | bl c => cases r; exact ⟨rfl, by cases c <;> cases b <;> decide⟩
  | int i => obtain ⟨t, rfl⟩ := r; exact ⟨rfl, by rw [decide_eq_false (fun z => nomatch z)]; rfl⟩
  | str i => obtain ⟨t, rfl⟩ := r; exact ⟨rfl, by rw [decide_eq_false (fun z => nomatch z)]; rfl⟩
  | ref a => cases r; exact ⟨rfl, by rw [decide_eq_false (fun z => nomatch z)]; rfl⟩
  | _ => cases h
theorem op_isB {X : Cx} : OpR X (compareOp .Is) (rIsX false) := by
  intro pins s σ H x y v u Q I rx ry h
  obtain ⟨b, rfl, hd, q⟩ := h
  cases (show u = Value.bool b from ry)
  obtain ⟨h1, h2⟩ := is_dat (b := b) rx hd
  exact wpAny_is_plain h1 ⟨.bl _, H, I, rfl, by rw [h2]; exact q⟩
theorem op_isnotB {X : Cx} : OpR X (compareOp .IsNot) (rIsX true) := by
  intro pins s σ H x y v u Q I rx ry h
  obtain ⟨b, rfl, hd, q⟩ := h
  cases (show u = Value.bool b from ry)
  obtain ⟨h1, h2⟩ := is_dat (b := b) rx hd
  exact wpAny_isNot_plain h1 ⟨.bl _, H, I, rfl, by rw [h2]; exact q⟩
end Ag
namespace PySem.AutoSeq1
open PySem PySem.Spec PyProof.Rows
set_option maxRecDepth 8000 in
theorem list_extend_tup (l : Addr) (items : Array Value) (n : Nat) (b : Addr) (items2 : Array Value) (n2 : Nat) (dd : Option Addr) (sl : Array (Option Value)) (hs0 : ¬(!items.isEmpty && Builtin.List.listTooLong (items.size + items2.size)) = true) (hs1 : items.size ≤ sizeLine) (hs2 : items.size + items2.size ≤ sizeLine + 1) :
    Meets (Builtin.«list.extend» ⟨[.ref l, .ref b], []⟩) (fun _ R s => s.heap.get? l = some { cls := .type "list", dict := none, data := .seq items n, slots := #[] } ∧ s.heap.get? b = some { cls := .type "tuple", dict := dd, data := .seq items2 n2, slots := sl } ∧ R (.ok (.ret Value.none)) { s with heap := s.heap.update l (Obj.mapSeq fun x => x ++ items2), toks := s.toks }) :=
  .of_wp fun prog w A R s h => by
    obtain ⟨hp, g, d, tk, os⟩ := s; obtain ⟨hl, hb, h⟩ := h; have f1 := idx_int; have f2 := sub_tuple_tuple; have f3 := sub_list_list; have f4 := sub_tuple_list; have f5 := sub_list_tuple;
    have hz' : (items ++ items2).size ≤ sizeLine + 1 := by rw [Array.size_append]; exact hs2
    wp_walk using (wpAny_updateSeq hl rfl (hz := hs1) (_hz' := hz')), wpAny_loadPart' hl, wpAny_loadPart' hb; exact ⟨_, rfl, h⟩
end PySem.AutoSeq1
namespace Ag
open PySem PySem.Spec PyProof.Rows L2
/-- l.extend(tuple) -/
def rExtendT (K : PySem.W.Frag) : V → List V → Hp → VK → Prop := fun x vs H Q => ∃ l b xs zs, x = .ref l ∧ vs = [.ref b] ∧ H l = some (.lst xs) ∧ SqT K H b zs ∧ xs.length + zs.length ≤ sizeLine ∧ Q .non (upd H l (.lst (xs ++ zs)))
theorem mt_extendT {X : Cx} : MtM X "list.extend" (rExtendT X.K) := by
  intro pins s σ H x vs v us Q I rx rv h
  obtain ⟨l, b, xs, zs, rfl, rfl, hH, hB, hz, q⟩ := h
  cases rx
  obtain ⟨u, rfl, ru⟩ := rv.one
  cases ru
  obtain ⟨z, its, n, r, hl, e⟩ := I.lstM hH
  obtain ⟨its2, r2, ⟨⟨oc, od, odt, osl⟩, e2, ec, n2, ed⟩, hz2⟩ := I.tuple hB
  simp only at ec ed
  subst ec ed
  have hl2 := r2.length
  have hsz : its.toArray.size + its2.toArray.size ≤ sizeLine := by rw [List.size_toArray, List.size_toArray]; omega
  have hlong : ¬ (!its.toArray.isEmpty && Builtin.List.listTooLong (its.toArray.size + its2.toArray.size)) = true := by
    rw [notLongL hsz, Bool.and_false]
    exact Bool.false_ne_true
  refine call_meets F.slot_list_extend ⟨_, e, rfl⟩ F.entry_list_extend (F.args_list_extend_2 _ _)
    (PySem.AutoSeq1.list_extend_tup l its.toArray n b its2.toArray n2 od osl hlong (by rw [List.size_toArray]; omega) (by omega)) ⟨e, e2, ?_⟩
  refine ⟨.non, _, I.lset (its' := its ++ its2) hH e (by simp) (r.append r2) ?_, rfl, q⟩
  rw [List.length_append]
  omega

section
variable {K : PySem.W.Frag} {σ : L2.St} {F : Addr → Prop} {H : Hp} {te ta tb : TE} {d e : PyData}
theorem df_isDat {x : V} (h : Df K F H x d) : isDat x = true := by cases h <;> rfl
def isB (b : Bool) : PyData → Bool | .bool c => c == b | _ => false
theorem isB_of {b : Bool} {x : V} (h : Df K F H x d) : decide (x = .bl b) = isB b d := by
  cases h with
  | bl c => cases c <;> cases b <;> decide
  | _ => exact decide_eq_false (fun z => nomatch z)
theorem ed_isB {b : Bool} (ha : ED K ta σ F H d) : ED K (tOp (rIsX false) ta (tC (.bl b))) σ F H (.bool (isB b d)) :=
  ed_op ha ed_bl fun F x y H1 hx hy Q q => by
    cases hy; refine ⟨b, rfl, df_isDat hx, ?_⟩
    show Q (.bl (decide (x = .bl b))) H1
    rw [isB_of hx]; exact q _ _ (Same.refl _) (.bl _)
theorem ed_isnotB {b : Bool} (ha : ED K ta σ F H d) : ED K (tOp (rIsX true) ta (tC (.bl b))) σ F H (.bool (!isB b d)) :=
  ed_op ha ed_bl fun F x y H1 hx hy Q q => by
    cases hy; refine ⟨b, rfl, df_isDat hx, ?_⟩
    show Q (.bl (!decide (x = .bl b))) H1
    rw [isB_of hx]; exact q _ _ (Same.refl _) (.bl _)
theorem inV_strs (x : Str) : ∀ (xs : List Str), inV (.str x) (xs.map V.str) = decide (x ∈ xs)
  | [] => rfl
  | y :: ys => by
    have ih := inV_strs x ys
    unfold inV at ih ⊢
    rw [List.map_cons, List.any_cons, ih]
    have e : eqV (.str y) (.str x) = decide (y = x) := rfl
    rw [e]
    by_cases h : x = y
    · subst h; simp
    · have h' : ¬ y = x := fun q => h q.symm
      simp [h, h']
theorem flat_strs : ∀ (xs : List Str), (xs.map V.str).all flatV = true
  | [] => rfl
  | y :: ys => by rw [List.map_cons, List.all_cons, flat_strs ys]; rfl
theorem ed_inSeq {x : Str} {xs : List Str} (ha : ED K ta σ F H (.str x)) (hb : ED K tb σ F H e) (he : e = .tuple (xs.map .str) ∨ e = .list (xs.map .str)) : ED K (tOp (rIn K false) ta tb) σ F H (.bool (decide (x ∈ xs))) :=
  ed_op ha hb fun F a b H1 hx hy Q q => by
    cases hx
    have h : ∃ p, b = .ref p ∧ (SqL K H1 p (xs.map V.str) ∨ SqT K H1 p (xs.map V.str)) := by
      rcases he with rfl | rfl
      · cases hy with
        | tup h r => rw [strs_dps (dfs_dps r)] at h; exact ⟨_, rfl, .inr h⟩
      · cases hy with
        | lst h r => rw [strs_dps (dfs_dps r)] at h; exact ⟨_, rfl, .inl (h.imp (fun z => z.1) id)⟩
    obtain ⟨p, rfl, h⟩ := h
    refine ⟨p, _, rfl, h, rfl, flat_strs xs, ?_⟩
    show Q (.bl (inV (.str x) (xs.map V.str))) H1
    rw [inV_strs]; exact q _ _ (Same.refl _) (.bl _)
theorem ed_notInSeq {x : Str} {xs : List Str} (ha : ED K ta σ F H (.str x)) (hb : ED K tb σ F H e) (he : e = .tuple (xs.map .str) ∨ e = .list (xs.map .str)) : ED K (tOp (rIn K true) ta tb) σ F H (.bool (!decide (x ∈ xs))) :=
  ed_op ha hb fun F a b H1 hx hy Q q => by
    cases hx
    have h : ∃ p, b = .ref p ∧ (SqL K H1 p (xs.map V.str) ∨ SqT K H1 p (xs.map V.str)) := by
      rcases he with rfl | rfl
      · cases hy with
        | tup h r => rw [strs_dps (dfs_dps r)] at h; exact ⟨_, rfl, .inr h⟩
      · cases hy with
        | lst h r => rw [strs_dps (dfs_dps r)] at h; exact ⟨_, rfl, .inl (h.imp (fun z => z.1) id)⟩
    obtain ⟨p, rfl, h⟩ := h
    refine ⟨p, _, rfl, h, rfl, flat_strs xs, ?_⟩
    show Q (.bl (!inV (.str x) (xs.map V.str))) H1
    rw [inV_strs]; exact q _ _ (Same.refl _) (.bl _)
theorem ed_catT {xs ys : List PyData} (ha : ED K ta σ F H (.tuple xs)) (hb : ED K tb σ F H (.tuple ys)) (hl : xs.length + ys.length ≤ 100000) : ED K (tOp (rCatA K) ta tb) σ F H (.tuple (xs ++ ys)) :=
  ed_op ha hb fun F a b H1 hx hy Q q => by
    cases hx with
    | tup h r =>
      cases hy with
      | tup h2 r2 =>
        refine ⟨_, _, _, _, rfl, rfl, h, h2, by rw [dfs_len r, dfs_len r2]; exact small5 hl, fun z => ?_, fun _ z => ?_, fun _ _ p hp => ?_⟩
        · subst z; cases r; exact q _ _ (Same.refl _) (.tup h2 (dfs_mono (Same.refl _) (fun _ z => .inl z) r2))
        · subst z; cases r2; exact q _ _ (Same.refl _) (by rw [List.append_nil]; exact .tup h (dfs_mono (Same.refl _) (fun _ z => .inl z) r))
        · exact q _ _ (Same.newA hp) (.tup (.of upd_same) (dfs_mono (Same.newA hp) (fun _ z => .inl z) (dfs_app r r2)))
def cutD (xs : List PyData) (lo hi : Option Int) : List PyData := (xs.drop (HT.sIx xs.length 0 lo)).take (HT.sIx xs.length xs.length hi - HT.sIx xs.length 0 lo)
theorem dfs_cut {vs : List V} {ds : List PyData} {lo hi : Option Int} (h : DfAll K F H vs ds) : DfAll K F H (cutV vs lo hi) (cutD ds lo hi) := by
  unfold cutV cutD; rw [dfs_len h]; exact dfs_take _ (dfs_drop _ h)
theorem cutD_all {ds : List PyData} {lo hi : Option Int} (h : HT.sIx ds.length 0 lo = 0 ∧ HT.sIx ds.length ds.length hi = ds.length) : cutD ds lo hi = ds := by
  unfold cutD; rw [h.1, h.2, List.drop_zero, Nat.sub_zero, List.take_length]
theorem eo_none : EO tNoPart σ H none := fun H1 s Q q => q H1 (Same.refl _)
theorem eo_some {i : Int} (h : ED K te σ F H (.int i)) : EO (tPart te) σ H (some i) := fun H1 s Q q => h H1 s _ fun v H2 s2 hv => by
  cases hv; exact ⟨i, rfl, q H2 s2⟩
theorem ed_slT {xs : List PyData} {tl th : TO} {lo hi : Option Int} (h : ED K te σ F H (.tuple xs)) (hl : EO tl σ H lo) (hh : EO th σ H hi) : ED K (tSl (rSlA K) te tl th) σ F H (.tuple (cutD xs lo hi)) := fun H1 s Q q =>
  h H1 s _ fun v H2 s2 hv => hl H2 (s.trans s2) _ fun H3 s3 => hh H3 ((s.trans s2).trans s3) _ fun H4 s4 => by
    cases hv with
    | tup ht r =>
      have s34 := s3.trans s4
      have s24 := s2.trans s34
      refine ⟨_, _, rfl, s34.stA ht, fun z => ?_, fun _ p hp => ?_⟩
      · rw [dfs_len r] at z
        exact q _ _ s24 (by rw [cutD_all z]; exact .tup (s34.stA ht) (dfs_mono s34 (fun _ z => z) r))
      · exact q _ _ (s24.trans (Same.newA hp)) (.tup (.of upd_same) (dfs_mono (s34.trans (Same.newA hp)) (fun _ z => z) (dfs_cut r)))
theorem ed_slL {xs : List PyData} {tl th : TO} {lo hi : Option Int} (h : ED K te σ F H (.list xs)) (hl : EO tl σ H lo) (hh : EO th σ H hi) : ED K (tSl (rSlL K) te tl th) σ F H (.list (cutD xs lo hi)) := fun H1 s Q q =>
  h H1 s _ fun v H2 s2 hv => hl H2 (s.trans s2) _ fun H3 s3 => hh H3 ((s.trans s2).trans s3) _ fun H4 s4 => by
    cases hv with
    | lst ht r =>
      have s34 := s3.trans s4
      have s24 := s2.trans s34
      refine ⟨_, _, rfl, s34.slA (ht.imp (fun z => z.1) id), fun p hp => ?_⟩
      exact q _ _ (s24.trans (Same.newA hp)) (.lst (.inl ⟨.inl upd_same, .inr (s24.freshA hp)⟩) (dfs_mono (s34.trans (Same.newA hp)) (fun _ z => z) (dfs_cut r)))
theorem filt_tt {α : Type} (l : List α) : l.filter (fun _ => true) = l := List.filter_eq_self.mpr fun _ _ => rfl
end
end Ag

set_option Elab.async false
set_option linter.all false
set_option maxRecDepth 100000
set_option maxHeartbeats 1000000
/-! A list beside the empty list, whatever its depth. -/
namespace Ag
open PySem PySem.Spec PyProof.Rows L2
def rNeE (K : PySem.W.Frag) : R2 := fun x y H Q => ∃ ds, Dp K H x (.list ds) ∧ Dp K H y (.list []) ∧ PyData.canLayAll0 ds = true ∧ Q (.bl (!ds.isEmpty)) H
def rEqE (K : PySem.W.Frag) : R2 := fun x y H Q => ∃ ds, Dp K H x (.list ds) ∧ Dp K H y (.list []) ∧ PyData.canLayAll0 ds = true ∧ Q (.bl ds.isEmpty) H
theorem eqv_empty : ∀ (ds : List PyData), PyData.eqv (.list ds) (.list []) = ds.isEmpty
  | [] => by simp [PyData.eqv, PyData.eqvAll]
  | _ :: _ => by simp [PyData.eqv, PyData.eqvAll]
theorem room_empty {A : Around} {d : PyData} (hu : A.units + 64 < cLine) : A.units + min d.depth (PyData.list []).depth < cLine := by
  have h : (PyData.list []).depth ≤ 64 := by decide
  have h2 : min d.depth (PyData.list []).depth ≤ (PyData.list []).depth := Nat.min_le_right _ _
  omega
theorem op_neE {X : Cx} (hu : X.A.units + 64 < cLine) : OpR X (compareOp .NotEq) (rNeE X.K) := by
  intro pins s σ H x y v u Q I rx ry h
  obtain ⟨ds, hd, he, sd, q⟩ := h
  obtain ⟨as, r1⟩ := Dp.reads I (.list ds) x v hd rx
  obtain ⟨bs, r2⟩ := Dp.reads I (.list []) y u he ry
  exact SeqAt.compareNe_reads r1 r2 (by simpa [PyData.canLay0] using sd) (by simp [PyData.canLay0, PyData.canLayAll0]) (room_empty hu) ⟨.bl _, H, I, rfl, by rw [eqv_empty]; exact q⟩
theorem op_eqE {X : Cx} (hu : X.A.units + 64 < cLine) : OpR X (compareOp .Eq) (rEqE X.K) := by
  intro pins s σ H x y v u Q I rx ry h
  obtain ⟨ds, hd, he, sd, q⟩ := h
  obtain ⟨as, r1⟩ := Dp.reads I (.list ds) x v hd rx
  obtain ⟨bs, r2⟩ := Dp.reads I (.list []) y u he ry
  exact SeqAt.compareEq_reads r1 r2 (by simpa [PyData.canLay0] using sd) (by simp [PyData.canLay0, PyData.canLayAll0]) (room_empty hu) ⟨.bl _, H, I, rfl, by rw [eqv_empty]; exact q⟩
section
variable {K : PySem.W.Frag} {σ : L2.St} {F : Addr → Prop} {H : Hp} {te ta tb : TE} {ds : List PyData}
theorem ed_neE (ha : ED K ta σ F H (.list ds)) (hb : ED K tb σ F H (.list [])) (hl : PyData.canLayAll0 ds = true) : ED K (tOp (rNeE K) ta tb) σ F H (.bool (!ds.isEmpty)) :=
  ed_op ha hb fun F a b H1 hx hy Q q => ⟨ds, df_dp hx, df_dp hy, hl, q _ _ (Same.refl _) (.bl _)⟩
theorem ed_eqE (ha : ED K ta σ F H (.list ds)) (hb : ED K tb σ F H (.list [])) (hl : PyData.canLayAll0 ds = true) : ED K (tOp (rEqE K) ta tb) σ F H (.bool ds.isEmpty) :=
  ed_op ha hb fun F a b H1 hx hy Q q => ⟨ds, df_dp hx, df_dp hy, hl, q _ _ (Same.refl _) (.bl _)⟩
theorem ed_emp : ED K (tLst tNil) σ F H (.list []) := ed_lst ea_nil (by decide)
/-- a comprehension of two clauses over data: the list made -/
theorem lc2_run {wi wi1 : TI} {g g1 : TG} {tt tt1 : TT} {vs vs1 : List Nat} {es : PyData → List PyData} {m : PyData → PyData} (hi : EI K wi σ F H ds) (hl : (ds.flatMap es).length ≤ 50000)
    (ht : ∀ F2 H1, Ext F H F2 H1 → ∀ v d, d ∈ ds → Df K F2 H1 v d → ∃ σ2, (∀ Q : L2.St → Hp → Prop, Q σ2 H1 → g v (wipe σ vs) H1 Q) ∧ wipe σ2 vs = wipe σ vs ∧ ET tt σ2 H1 true ∧ EI K wi1 σ2 F2 H1 (es d) ∧
      ∀ F3 H2, Ext F2 H1 F3 H2 → ∀ v2 d2, d2 ∈ es d → Df K F3 H2 v2 d2 → ∃ σ3, (∀ Q : L2.St → Hp → Prop, Q σ3 H2 → g1 v2 (wipe σ2 vs1) H2 Q) ∧ wipe σ3 vs1 = wipe σ2 vs1 ∧ ET tt1 σ3 H2 true ∧ ED K te σ3 F3 H2 (m d2)) :
    ∀ H1, Same H H1 → ∀ Q : VK, (∀ D ys H', Same H1 H' → H1 D = none → H' D = some (.lst ys) → DfAll K (fun a => Fr F H1 a ∧ a ≠ D) H' ys ((ds.flatMap es).map m) → Q (.ref D) H') → tLc2 wi g tt wi1 g1 tt1 te vs vs1 σ H1 Q := fun H1 s Q q => hi H1 s _ fun J H2 s2 W D hD => by
  have hD1 : H1 D = none := s2.freshA hD
  let F2 : Addr → Prop := fun a => Fr F H1 a ∧ a ≠ D
  have nF : ¬ F2 D := fun z => z.2 rfl
  refine ⟨fun i k H' => k = ds.length - i ∧ i ≤ ds.length ∧ Same H2 H' ∧ ∃ ys, H' D = some (.lst ys) ∧ DfAll K F2 H' ys (((ds.take i).flatMap es).map m), ⟨ds.length, by simp, Nat.zero_le _, Same.newA hD, [], upd_same, by simp; exact .nil⟩, ?_⟩
  rintro i k H' ⟨rfl, hi, s3, ys, e, r⟩
  by_cases lt : i < ds.length
  · refine .inr ⟨W.go i H' s3.F lt, fun H5 => Same H2 H5 ∧ ∃ ys, H5 D = some (.lst ys) ∧ DfAll K F2 H5 ys (((ds.take (i + 1)).flatMap es).map m), fun H5 ⟨a, b⟩ => ⟨ds.length - (i + 1), by omega, rfl, lt, a, b⟩, fun x H3 y => ?_⟩
    obtain ⟨d, hd, s4, hx⟩ := W.yld i H' x H3 lt s3.F y
    have hx2 : Df K F2 H3 x d := df_mono (Same.refl _) (fun a z => ⟨z.1, fun q => z.2 (q ▸ hD)⟩) hx
    obtain ⟨σ2, hg, hw, htt, hin, hte⟩ := ht F2 H3 ⟨(((s.trans s2).trans s3).trans s4).F, fun a z n => ⟨.inl z, fun q => n (s.freshA (q ▸ hD1))⟩⟩ x d (List.mem_of_getElem? hd) hx2
    have tk : ds.take (i + 1) = ds.take i ++ [d] := by rw [List.take_succ, hd]; rfl
    have tkf : (ds.take (i + 1)).flatMap es = (ds.take i).flatMap es ++ es d := by rw [tk, List.flatMap_append]; simp
    have bnd : ((ds.take i).flatMap es ++ es d).length ≤ 50000 := by
      rw [← tkf]
      refine Nat.le_trans ?_ hl
      conv => rhs; rw [← List.take_append_drop (i + 1) ds, List.flatMap_append, List.length_append]
      exact Nat.le_add_right _ _
    refine hg _ ⟨hw, htt H3 (Same.refl _) _ fun H4 s5 => ?_⟩
    have e4 : H4 D = some (.lst ys) := s5 _ _ (s4 _ _ e)
    refine hin H4 s5 _ fun J1 H6 s6 W1 => ?_
    have e6 := s6 _ _ e4
    have s36 := (s4.trans s5).trans s6
    have nF4 : ¬ Fr F2 H4 D := fun z => z.elim nF (fun z => by rw [e4] at z; cases z)
    have to2 : ∀ a, Fr F2 H4 a → F2 a := fun a z => z.elim id fun z => ⟨.inr (s2.freshA (s3.freshA ((s4.trans s5).freshA z))), fun q => by rw [q, e4] at z; cases z⟩
    refine ⟨fun j k H' => k = (es d).length - j ∧ j ≤ (es d).length ∧ Same H2 H' ∧ SameF (Fr F2 H4) H6 H' ∧ ∃ ys, H' D = some (.lst ys) ∧ DfAll K F2 H' ys (((ds.take i).flatMap es ++ (es d).take j).map m), ⟨(es d).length, by simp, Nat.zero_le _, s3.trans s36, SameF.refl, ys, e6, by simp only [List.take_zero, List.append_nil]; exact dfs_mono s36 (fun _ z => z) r⟩, ?_⟩
    rintro j k H' ⟨rfl, hj, t3, tF, zs, ez, rz⟩
    by_cases lj : j < (es d).length
    · refine .inr ⟨W1.go j H' tF lj, fun H5 => Same H2 H5 ∧ SameF (Fr F2 H4) H6 H5 ∧ ∃ ys, H5 D = some (.lst ys) ∧ DfAll K F2 H5 ys (((ds.take i).flatMap es ++ (es d).take (j + 1)).map m), fun H5 ⟨a, b, c⟩ => ⟨(es d).length - (j + 1), by omega, rfl, lj, a, b, c⟩, fun x2 H7 y2 => ?_⟩
      obtain ⟨d2, hd2, t4, hx3⟩ := W1.yld j H' x2 H7 lj tF y2
      have hx4 : Df K F2 H7 x2 d2 := df_mono (Same.refl _) (fun a z => to2 a z.1) hx3
      have F37 : SameF F2 H3 H7 := ((s5.trans s6).F.trans (tF.sub fun a z => .inl z)).trans t4.F
      obtain ⟨σ3, hg3, hw3, htt3, hte3⟩ := hte F2 H7 ⟨F37, fun a z _ => z⟩ x2 d2 (List.mem_of_getElem? hd2) hx4
      have tk2 : (es d).take (j + 1) = (es d).take j ++ [d2] := by rw [List.take_succ, hd2]; rfl
      refine hg3 _ ⟨hw3, htt3 H7 (Same.refl _) _ fun H8 t5 => ?_⟩
      refine hte3 H8 t5 _ fun v H9 t6 hv => ?_
      have t46 := (t4.trans t5).trans t6
      have e9 : H9 D = some (.lst zs) := t46 _ _ ez
      have r9 : DfAll K F2 H9 zs (((ds.take i).flatMap es ++ (es d).take j).map m) := dfs_mono t46 (fun _ z => z) rz
      have v9 : Df K F2 H9 v (m d2) := df_mono (Same.refl _) (fun a z => by
        rcases z with z | z
        · exact z
        · exact ⟨.inr (s2.freshA (t3.freshA ((t4.trans t5).freshA z))), fun q => by
            have := (t4.trans t5) _ _ ez
            rw [q, this] at z; cases z⟩) hv
      have len9 := dfs_len r9
      rw [List.length_map, List.length_append, List.length_take] at len9
      rw [List.length_append] at bnd
      refine ⟨zs, e9, lt5 (by omega), fun a u h => ?_, (tF.trans t46.F).trans (SameF.upd e9 nF4), zs ++ [v], upd_same, ?_⟩
      · rw [upd_ne (ne_of_none h hD)]; exact t46 _ _ (t3 _ _ h)
      · rw [tk2, ← List.append_assoc, List.map_append]
        exact dfs_app (dfs_upd e9 nF r9) (.cons (df_upd e9 nF v9) .nil)
    · have : j = (es d).length := by omega
      subst this
      refine .inl ⟨W1.stop H' tF, t3, zs, ez, ?_⟩
      rw [tkf]; rw [List.take_length] at rz; exact rz
  · have : i = ds.length := by omega
    subst this
    refine .inl ⟨W.stop H' s3.F, q D ys H' (s2.trans s3) hD1 e ?_⟩
    rw [List.take_length] at r; exact r
end
end Ag

set_option Elab.async false
set_option linter.all false
set_option maxRecDepth 100000
set_option maxHeartbeats 1000000
/-! A text times an int; data that is good, made without naming it. -/
namespace Ag
open PySem PySem.Spec PyProof.Rows L2
def rRepS : R2 := fun x y H Q => ∃ (z : Str) (n : Nat), x = .str z ∧ y = .int (n : Int) ∧ z.length ≤ 1000 ∧ n ≤ 1000 ∧ Q (.str (Txt.mul z n)) H
theorem op_repS {X : Cx} : OpR X (binaryOp .Mult) rRepS := by
  intro pins s σ H x y v u Q I rx ry h
  obtain ⟨z, n, rfl, rfl, h1, h2, q⟩ := h
  obtain ⟨t, rfl⟩ := rx
  obtain ⟨t', rfl⟩ := ry
  exact SB.mul (mulOk_of 1000 1000 h1 (by omega) (by omega) (by decide) (by decide)) fun t' k => ⟨.str _, H, I.tok _, ⟨_, rfl⟩, q⟩
end Ag

set_option Elab.async false
set_option linter.all false
set_option maxRecDepth 100000
set_option maxHeartbeats 1000000
/-! sorted(list of alike data) over the layer: texts, ints, tuples of such. -/
namespace Ag
open PySem PySem.Spec PyProof.Rows L2
open PySem.W (EachIs AllAlike Sortable dataKind sortLe dataLt keyToks)
/-- a is not behind b -/
def leD (a b : PyData) : Bool := !dataLt b a
theorem each_of {h : Heap} : ∀ {xs : List V} {us : List Value} {ds : List PyData} {as : List Addr}, Vals xs us → ReadsAll h us ds as → EachIs (fun (u : Value) (b : V × PyData) => RelV b.1 u ∧ (∃ as, Reads h u b.2 as) ∧ b.2 ∈ ds) us (xs.zip ds)
  | [], _, _, _, .nil, .nil => .nil
  | x :: xs, u :: us, _, _, .cons r t, .cons (d := d) (ds := ds) h1 h2 => by
    rw [List.zip_cons_cons]
    refine .cons ⟨r, ⟨_, h1⟩, List.mem_cons_self⟩ (EachIs.mono (fun u b z => ⟨z.1, z.2.1, List.mem_cons_of_mem _ z.2.2⟩) (each_of t h2))
theorem vals_each {us : List Value} {zs : List (V × PyData)} (h : EachIs (fun (u : Value) (b : V × PyData) => RelV b.1 u) us zs) : Vals (zs.map Prod.fst) us := by
  induction h with
  | nil => exact .nil
  | cons a _ ih => exact .cons a ih
theorem each_reads {h : Heap} : ∀ {us : List Value} {ds : List PyData} {as : List Addr}, ReadsAll h us ds as → EachIs (fun v d => ∃ as, Reads h v d as) us ds
  | [], _, _, .nil => .nil
  | _ :: _, _, _, .cons a r => .cons ⟨_, a⟩ (each_reads r)
/-- sorted(xs): the data in their order, equal ones as they stood; zs: the items beside their data -/
def rSortD (K : PySem.W.Frag) : List V → Hp → VK → Prop := fun vs H Q => ∃ (a : Addr) (xs : List V) (ds : List PyData), vs = [V.ref a] ∧ SqL K H a xs ∧ DpAll K H xs ds ∧ AllAlike ds ∧ Sortable ds ∧ (∀ d ∈ ds, d.depth ≤ 50) ∧
  ∀ (zs : List (V × PyData)) p, zs.Perm (xs.zip ds) → zs.map Prod.snd = ds.mergeSort leD → H p = none → Q (.ref p) (upd H p (.lst (zs.map Prod.fst)))
theorem cr_sortD {X : Cx} (hu : X.A.units + 64 < cLine) : CallR X (.builtin "sorted") (rSortD X.K) := by
  intro pins s σ H vs us Q I r h
  obtain ⟨a, xs, ds, rfl, hs, hd, al, so, dp, q⟩ := h
  obtain ⟨its, rv, hl, hz⟩ := I.list hs
  rw [Vals.ref1 r]
  obtain ⟨as, hr⟩ := Dp.readsAll I ds xs its hd rv
  have len : its.length = ds.length := by rw [← rv.length, dps_len hd]
  have hr2 : ReadsAll (PySem.W.sortingHeap (PySem.W.copyHeap s.heap its) (s.heap.objs.size + 1) its) its ds as := PyProof.Rows.ReadsAll.keeps (fun b o e => PySem.W.sorting_copy_old e) hr
  refine PySem.W.sorted_vals (κ := dataKind (PySem.W.sortingHeap (PySem.W.copyHeap s.heap its) (s.heap.objs.size + 1) its) ds) hl.isList (PySem.W.SortsAt.data (each_reads hr2) al so fun d hd => ?_) (by rw [← rv.length]; exact hz) ?_
  · have := dp d hd
    show X.A.units + 1 + 1 + d.depth < cLine
    omega
  · have e1 := each_of rv hr2
    have hk : EachIs (fun (v : Value) (b : V × PyData) => (dataKind (PySem.W.sortingHeap (PySem.W.copyHeap s.heap its) (s.heap.objs.size + 1) its) ds).keyOf v = some (keyToks b.2)) its (xs.zip ds) :=
      EachIs.mono (fun u b z => by
        obtain ⟨_, ⟨as, h2⟩, h3⟩ := z
        exact PySem.W.dataKind_some al h3 h2) e1
    have e2 : EachIs (fun (u : Value) (b : V × PyData) => RelV b.1 u) its (xs.zip ds) := EachIs.mono (fun u b z => z.1) e1
    have e3 := PySem.W.sortVals_each (κ := dataKind (PySem.W.sortingHeap (PySem.W.copyHeap s.heap its) (s.heap.objs.size + 1) its) ds) (rev := false) (ks := its) (fun b : V × PyData => keyToks b.2) e2 hk
    have hn : H (s.heap.objs.size + 1) = none := I.hok.fresh (Nat.le_succ _)
    have hv := vals_each e3
    have pm : ((xs.zip ds).mergeSort (sortLe (dataKind (PySem.W.sortingHeap (PySem.W.copyHeap s.heap its) (s.heap.objs.size + 1) its) ds).toKeyOrd false fun b : V × PyData => keyToks b.2)).Perm (xs.zip ds) := List.mergeSort_perm _ _
    obtain ⟨n, hat⟩ := sortedAll_at s.heap its (PySem.W.sortVals (dataKind (PySem.W.sortingHeap (PySem.W.copyHeap s.heap its) (s.heap.objs.size + 1) its) ds) false its its).toArray
    refine ⟨.ref (s.heap.objs.size + 1), upd H (s.heap.objs.size + 1) (.lst (((xs.zip ds).mergeSort (sortLe (dataKind (PySem.W.sortingHeap (PySem.W.copyHeap s.heap its) (s.heap.objs.size + 1) its) ds).toKeyOrd false fun b : V × PyData => keyToks b.2)).map Prod.fst)),
      I.laid (t' := s.toks) (fun b o e => sortedAll_old e) (Nat.le_succ _) ⟨?_, _, n, hv, hat⟩, rfl, q _ _ pm ?_ hn⟩
    · rw [List.length_map, pm.length_eq, List.length_zip]
      have := dps_len hd
      have := rv.length
      omega
    · exact (PySem.W.sort_maps (s := leD) Prod.snd fun p _ q _ => rfl).trans (by rw [List.map_snd_zip (by have := dps_len hd; omega)])
end Ag

set_option Elab.async false
set_option linter.all false
set_option maxRecDepth 100000
set_option maxHeartbeats 1000000
/-! Texts split and joined, as data. -/
namespace Ag
open PySem PySem.Spec PyProof.Rows L2
section
variable {K : PySem.W.Frag} {σ : L2.St} {F : Addr → Prop} {H : Hp} {to te : TE} {a b : Str}
theorem ed_split (ho : ED K to σ F H (.str a)) (he : ED K te σ F H (.str b)) (hb : (b.length == 0) = false) (ha : a.length ≤ 100000) :
    ED K (tM1 (fun x xs H Q => ∃ a b, x = .str a ∧ xs = [.str b] ∧ (b.length == 0) = false ∧ a.length + 2 ≤ sizeLine ∧ rNewStrs (Txt.split a b) H Q) to te) σ F H (.list ((Txt.split a b).map .str)) := fun H1 s Q q =>
  ho H1 s _ fun v H2 s2 hv => by
    cases hv
    refine ⟨⟨a, rfl⟩, he H2 (s.trans s2) _ fun u H3 s3 hu => ?_⟩
    cases hu
    refine ⟨a, b, rfl, rfl, hb, Nat.le_trans (Nat.add_le_add_right ha 2) (by decide), fun p hp => ?_⟩
    have s23 := s2.trans s3
    exact q _ _ (s23.trans (Same.newA hp)) (.lst (.inl ⟨.inl upd_same, .inr (s23.freshA hp)⟩) (dfs_strs _))
theorem ed_join {ys : List Str} {e : PyData} (ho : ED K to σ F H (.str a)) (he : ED K te σ F H e) (h : e = .list (ys.map .str) ∨ e = .tuple (ys.map .str)) (hl : (ys.map (·.length)).sum + ys.length * a.length ≤ 16777216) :
    ED K (tM1 (fun x xs H Q => ∃ a p, ∃ ys : List Str, x = .str a ∧ xs = [.ref p] ∧ (SqL K H p (ys.map V.str) ∨ SqT K H p (ys.map V.str)) ∧ (ys.map (·.length)).sum + ys.length * a.length ≤ 16777216 ∧ Q (.str (Txt.join a ys)) H) to te) σ F H (.str (Txt.join a ys)) := fun H1 s Q q =>
  ho H1 s _ fun v H2 s2 hv => by
    cases hv
    refine ⟨⟨a, rfl⟩, he H2 (s.trans s2) _ fun u H3 s3 hu => ?_⟩
    have hq : ∃ p, u = .ref p ∧ (SqL K H3 p (ys.map V.str) ∨ SqT K H3 p (ys.map V.str)) := by
      rcases h with rfl | rfl
      · cases hu with
        | lst h r => rw [strs_dps (dfs_dps r)] at h; exact ⟨_, rfl, .inl (h.imp (fun z => z.1) id)⟩
      · cases hu with
        | tup h r => rw [strs_dps (dfs_dps r)] at h; exact ⟨_, rfl, .inr h⟩
    obtain ⟨p, rfl, hs⟩ := hq
    exact ⟨a, p, ys, rfl, rfl, hs, hl, q _ _ (s2.trans s3) (.str _)⟩
end
end Ag

set_option Elab.async false
set_option linter.all false
set_option maxRecDepth 100000
set_option maxHeartbeats 1000000
/-! repr of data, where nothing is being shown. -/
namespace Ag
open PySem PySem.Spec PyProof.Rows L2
/-- data, or an empty dict -/
def Dx (K : PySem.W.Frag) (H : Hp) (v : V) (d : PyData) : Prop := Dp K H v d ∨ (d = .dict [] ∧ ∃ a, v = .ref a ∧ H a = some (.dK []))
theorem Dx.mono {K : PySem.W.Frag} {H H' : Hp} {v : V} {d : PyData} (e : Same H H') (h : Dx K H v d) : Dx K H' v d := h.imp (dp_mono e) fun ⟨a, b, c, q⟩ => ⟨a, b, c, e _ _ q⟩
theorem Dx.dp {K : PySem.W.Frag} {H : Hp} {v : V} {d : PyData} (h : Dp K H v d) : Dx K H v d := .inl h
theorem Dx.reads {X : Cx} {pins : List (Addr × Obj)} {σ : L2.St} {H : Hp} {s : Shared} (I : Inv X pins σ H s) {d : PyData} {v : V} {u : Value} (h : Dx X.K H v d) (r : RelV v u) : ∃ as, Reads s.heap u d as ∧ (d.hasDict = true → sysModules ∉ as) := by
  rcases h with h | ⟨rfl, a, rfl, h⟩
  · obtain ⟨as, q⟩ := Dp.reads I d v u h r
    refine ⟨as, q, fun z => ?_⟩
    have nd : d.hasDict = false := by
      have key : ∀ (d : PyData) (v : V), Dp X.K H v d → d.hasDict = false := by
        intro d v h
        exact Dp.rec (motive_1 := fun _ d _ => d.hasDict = false) (motive_2 := fun _ ds _ => PyData.hasDictAll ds = false) (by simp [PyData.hasDict]) (fun _ => by simp [PyData.hasDict]) (fun _ => by simp [PyData.hasDict]) (fun _ => by simp [PyData.hasDict])
          (fun _ _ ih => by simp only [PyData.hasDict]; exact ih) (fun _ _ ih => by simp only [PyData.hasDict]; exact ih) (by simp [PyData.hasDictAll]) (fun _ _ i1 i2 => by simp only [PyData.hasDictAll]; rw [i1, i2]; rfl) h
      exact key d v h
    rw [nd] at z; cases z
  · cases r
    obtain ⟨_, ns, vs, kv, o, es, ep, e1, ⟨c1, _⟩, e3, e4, e5, _⟩ := I.hok a _ h
    cases kv
    have ez : es.toList = [] := by
      cases q : es.toList with
      | nil => rfl
      | cons x r => rw [q] at e5; cases e5
    refine ⟨_, .dict e1 c1 e3 (by rw [ez]; exact .nil) (by rw [ez]; exact .nil), fun _ m => ?_⟩
    have m : sysModules = a := by simpa using m
    rw [m] at ns; simp at ns
def rRepr (K : PySem.W.Frag) : List V → Hp → VK → Prop := fun vs H Q => ∃ x d, vs = [x] ∧ Dx K H x d ∧ d.showable = true ∧ d.depth ≤ 50 ∧ d.shown.length ≤ sizeLine ∧ Q (.str d.shown) H
theorem cr_repr {X : Cx} (hg : X.A.guards = some []) (hu : X.A.units + 64 < cLine) : CallR X (.builtin "repr") (rRepr X.K) := by
  intro pins s σ H vs us Q I r h
  obtain ⟨x, d, rfl, hd, sh, dp, sz, q⟩ := h
  obtain ⟨u, rfl, ru⟩ := r.one
  obtain ⟨as, hr, hsm⟩ := Dx.reads I hd ru
  cases hr with
  | none => exact PySem.P.repr_of_none ⟨.str _, H, I.tok _, ⟨_, rfl⟩, q⟩
  | bool b => exact PySem.P.repr_of_bool ⟨.str _, H, I.tok _, ⟨_, rfl⟩, q⟩
  | int i t => exact PySem.P.repr_of_int (by simpa [PyData.showable] using sh) ⟨.str _, H, I.tok _, ⟨_, rfl⟩, q⟩
  | str x t => exact PySem.P.repr_of_str ⟨.str _, H, I.tok _, ⟨_, rfl⟩, q⟩ sz
  | list h1 h2 h3 h4 => exact PySem.repr_of_reads' (.list h1 h2 h3 h4) sh hsm hg (by omega) (fun _ _ e => e) (fun h' u tk hk => ⟨.str _, H, I.kept hk, ⟨_, rfl⟩, q⟩) sz
  | tuple h1 h2 h3 h4 => exact PySem.repr_of_reads' (.tuple h1 h2 h3 h4) sh hsm hg (by omega) (fun _ _ e => e) (fun h' u tk hk => ⟨.str _, H, I.kept hk, ⟨_, rfl⟩, q⟩) sz
  | dict h1 h2 h3 h4 h5 => exact PySem.repr_of_reads' (.dict h1 h2 h3 h4 h5) sh hsm hg (by omega) (fun _ _ e => e) (fun h' u tk hk => ⟨.str _, H, I.kept hk, ⟨_, rfl⟩, q⟩) sz
theorem ed_repr {K : PySem.W.Frag} {σ : L2.St} {F : Addr → Prop} {H : Hp} {ta : TE} {d : PyData} (ha : ED K ta σ F H d) (h1 : d.showable = true) (h2 : d.depth ≤ 50) (h3 : d.shown.length ≤ sizeLine) : ED K (tCB (rRepr K) (tCons ta tNil)) σ F H (.str d.shown) :=
  ed_cb (ea_cons ha ea_nil) fun F vs H1 hv Q q => by
    cases hv with
    | cons a r => cases r; exact ⟨_, d, rfl, .inl (df_dp a), h1, h2, h3, q _ _ (Same.refl _) (.str _)⟩
end Ag

set_option Elab.async false
set_option linter.all false
set_option maxRecDepth 100000
set_option maxHeartbeats 2000000
set_option pp.maxSteps 300
namespace Ag
open PySem PySem.Spec PyProof.Rows L2
/-! own exceptions as values: made by their own __init__, read, asked by isinstance -/
/-- C(e, ..) as a value -/
def tMkV (C : Addr) (sp : Sp) (dvs : List V) (ta : TA) : TE := fun σ H Q => ta σ H fun vs H1 => vs.length ≤ 1000 ∧ ∀ a, H1 a = none → sp (.ref a :: (vs ++ dvs)) (upd H1 a (exo a C none)) (fun v H2 => v = .non ∧ Q (.ref a) H2) (fun _ _ _ => False)
section
variable {X : Cx} {e : Expr} {es : List Expr} {te : TE} {ta : TA} {p pos : Pos}
theorem pe_oex {CX : CXT} {x : Str} {C fI : Addr} {k : Nat} {fd : FuncData} {ps : List Str} {sp : Sp} {ds : List Value} {dvs : List V} (T : OexC X.K C) (iC : PySem.W.findIn X.K (.ref C) "__init__" = some (some (.ref fI))) (tI : PySem.W.typeIn X.K (.ref fI) = some (.type "function"))
    (F1 : FnOk X.prog X.w X.K X.mg X.base CX k fI fd ps sp) (hr : Room (k + 1) X.A) (hb : Binds X.K fd ps ds) (hd : Vals dvs ds) (hx : Passes CX X (fun _ _ _ => False)) (hg : Gl X x) (hm : X.mg x = some (.ref C)) (ha : PA X (e :: es) ta)
    (hdb : (x == ("__debug__" : Str)) = false := by decide) (he : starEach (e :: es) X.env = (false, eval e X.env) :: starEach es X.env := by rfl) (hpl : (backTo pos (starEach es X.env)).any (·.1) = false := by rfl) :
    PE X (.Call (.Name x p) (e :: es) [] pos) (tMkV C sp dvs ta) := by
  refine ⟨fun pins s σ H Q I h => ?_⟩
  obtain ⟨nm, q, N, bs, bm, sn, sub, ab, col, dd, k0, k1, k2, k3, k5, hC, hbm⟩ := T.cls
  refine wpAny_Call_Name_kw (ld_glob I hg hm ?_ hdb)
  refine PySem.W.callWith_K (h₀ := X.base) I.ok.mod.kin T.kC (thn (ha.run pos pins s σ H _ I h) fun us s1 ⟨vs, H1, I1, r1, hz, q1⟩ => ⟨I1.kIn, ?_⟩) he hpl
  show wpAny _ _ (call (.ref C) us) _ _ _
  obtain ⟨hp, g, dr, tk, os⟩ := s1
  have hsz : hp.objs.size ≤ hp.objs.size + 1 := Nat.le_succ _
  have hq := q1 (hp.objs.size + 1) (I1.hok.fresh hsz)
  have hget : ((hp.push (PySem.W.kdv_tup us)).push (PySem.HandSPX.excO C hp.objs.size)).get? (hp.objs.size + 1) = some (PySem.HandSPX.excO C hp.objs.size) := by heap_get
  have I2 : Inv X pins σ (upd H1 (hp.objs.size + 1) (exo (hp.objs.size + 1) C none)) ⟨(hp.push (PySem.W.kdv_tup us)).push (PySem.HandSPX.excO C hp.objs.size), g, dr, tk, os⟩ :=
    I1.laid (t' := tk) (a := hp.objs.size + 1) (o := exo (hp.objs.size + 1) C none) (h' := (hp.push (PySem.W.kdv_tup us)).push (PySem.HandSPX.excO C hp.objs.size)) (fun _ _ z => Heap.get?_push_of_some _ (Heap.get?_push_of_some _ z)) hsz (exo_ok hget)
  have r2 : Vals (V.ref (hp.objs.size + 1) :: (vs ++ dvs)) (Value.ref (hp.objs.size + 1) :: (us ++ ds)) := .cons rfl (r1.append hd)
  have hl : (Value.ref (hp.objs.size + 1) :: us ++ ds).length = ps.length := by
    have e := r2.length
    rw [F1.len _ _ _ _ hq] at e
    exact e.symm
  have hus : us.length ≤ sizeLine := by
    rw [← Paired.length r1, sizeLine_eq]
    omega
  refine wpAny_call (PySem.HandSPX.call_own F.excBase_ValueError (fun Y => PySem.HandSPX.refsVE_contains Y bm hbm) (I1.kIn _ _ hC) (PySem.W.looks_findIn I1.kIn iC) (fun self => PySem.W.bind_fn I1.kIn self tI) hus
    (codeAny_mono (F1.run _ X.stack _ _ ⟨Value.ref (hp.objs.size + 1) :: us, []⟩ (Value.ref (hp.objs.size + 1) :: (us ++ ds)) _ _ (fun _ _ _ => False) (hr.make C us []) (I2.env0.make C us []) (hb _ (Value.ref (hp.objs.size + 1) :: us) I2.kIn hl) r2 hq) fun r s' hq' => ?_))
  cases r with
  | error er => exact hx pins σ _ _ er s' I2 hq'
  | ok fl =>
    cases fl with
    | ret u =>
      obtain ⟨v, H2, I3, rv, ev, q2⟩ := I2.after hq'
      subst ev
      exact ⟨rv, .ref _, H2, I3, rfl, q2⟩
    | next => exact False.elim hq'
    | brk => exact False.elim hq'
    | cont => exact False.elim hq'
/-- C(), an own exception without an own __init__ -/
theorem pe_exc0 {C : Addr} {bmB : List Value} {B newId initId : String} {x : Str} (F : ExcBaseFacts B newId initId bmB) (q : PySem.W.excIn X.K C bmB newId = true) (gC : X.mg x = some (.ref C)) (kC : PySem.W.keepIn X.K (.ref C) = true) (hg : Gl X x)
    (hdb : (x == ("__debug__" : Str)) = false := by decide) :
    PE X (.Call (.Name x p) [] [] pos) (fun σ H Q => ∀ a, H a = none → Q (.ref a) (upd H a (ExO (.ref C) a))) := by
  refine ⟨fun pins s σ H Q I h => ?_⟩
  refine wpAny_Call_Name_kw (ld_glob I hg gC ?_ hdb)
  refine PySem.W.callWith_K0 (first := []) I.kIn kC ?_
  show wpAny _ _ (call (.ref C) []) _ _ _
  obtain ⟨bm, N, nm, qn, bs, hdct, sn, sub, ab, col, dd, k0, k1, k2, k3, k5, mN, hC, hN, hni, T⟩ := exc_obj I.kIn q
  refine wpAny_call_exc_subT F T hC hN hni (fun h' a hm => ?_) (by show 0 ≤ sizeLine; rw [sizeLine_eq]; omega)
  have hn : H a = none := I.hok.gone hm.new
  obtain ⟨t, ht, _, _⟩ := hm.there
  exact ⟨.ref a, upd H a (ExO (.ref C) a), I.laidN hm.keeps hm.new hn (exO_ok ht ⟨rfl, rfl⟩ rfl rfl rfl (show 4 < 6 by decide)), rfl, h a hn⟩
/-- the field of an own exception that is a value -/
def tXo (K : PySem.W.Frag) (f : Str) (te : TE) : TE := fun σ H Q => te σ H fun x H1 => ∃ (a C dd : Addr) (fs : List (Str × V)) (v : V), x = .ref a ∧ H1 a = some (exo a C (some dd)) ∧ H1 dd = some (exd dd fs) ∧ fs.lookup f = some v ∧ XfC K C ∧ PySem.W.findIn K (.ref C) f = some none ∧ Q v H1
theorem pe_xo {n : Str} (he : PE X e te) (hb : attributeBase e n X.env (eval e X.env) = eval e X.env := by rfl) : PE X (.Attribute e n pos) (tXo X.K n te) := by
  refine ⟨fun pins s σ H Q I h => ?_⟩
  refine attr_of hb (thn (he.run pins s σ H _ I h) fun u s1 hh => ?_)
  obtain ⟨x, H1, I1, rx, a, C, dd, fs, v, ex, ea, ed, l, T, hno, q⟩ := hh
  subst ex
  obtain rfl : u = Value.ref a := rx
  obtain ⟨t0, ha⟩ := exo_at I1.hok ea
  obtain ⟨mA, hns, hr⟩ := exd_at I1.hok ed
  obtain ⟨od, ho, hl⟩ := lookIn_ns hns
  obtain ⟨u, hu, ru⟩ := RelO.some_of (v := v) (o := mA n) (by rw [← l]; exact hr n)
  have J : PySem.W.InstAt s1.heap a _ C (some od) := ⟨ha, rfl, rfl, ho⟩
  exact HandSPX.exc_get I1.kIn J T.ga T.gg T.exC (PySem.W.findObj_own T.hdC hno rfl (by rw [hl, hu])) (handed_of ru) ⟨v, H1, I1.tok _, ru, q⟩
/-- an exception as a value: with fields, or without -/
def ExAt (H : Hp) (a C : Addr) : Prop := (∃ d fs, H a = some (exo a C (some d)) ∧ H d = some (exd d fs)) ∨ H a = some (ExO (.ref C) a)
/-- isinstance(one, c), one an exception that is a value -/
def rIsV (K : PySem.W.Frag) : List V → Hp → VK → Prop := fun xs H Q => ∃ (a D : Addr) (c : V) (cv : Value) (b : Bool), xs = [.ref a, c] ∧ ExAt H a D ∧ ExcC K D ∧ (∀ u, RelV c u → u = cv) ∧ PySem.W.kitOne K (.ref D) cv = some b ∧ Q (.bl b) H
theorem call_isV : CallR X (.builtin "isinstance") (rIsV X.K) := by
  intro pins s σ H xs us Q I r h
  obtain ⟨a, D, c, cv, b, rfl, ha, C, hcv, e, q⟩ := h
  cases r with
  | cons rx rr =>
    cases rr with
    | cons rt rr =>
      cases rr
      cases rx
      have ec := hcv _ rt
      subst ec
      have hcl : (PySem.W.clsIn X.K D).isSome = true := by
        obtain ⟨cd, hc, _⟩ := PySem.W.any_some C.hd
        rw [hc]; rfl
      have J : ∃ oe od, PySem.W.InstAt s.heap a oe D od := by
        rcases ha with ⟨d, fs, ea, ed⟩ | ea
        · obtain ⟨t0, ho⟩ := exo_at I.hok ea
          obtain ⟨mA, hns, _⟩ := exd_at I.hok ed
          obtain ⟨od, hod, _⟩ := lookIn_ns hns
          exact ⟨_, some od, ho, rfl, rfl, hod⟩
        · obtain ⟨⟨oe, vs, ho, hz, hd, _⟩, _⟩ := I.hok a _ ea
          obtain ⟨oc, od, oda, osl⟩ := oe
          obtain ⟨h1, h2⟩ := hz
          dsimp only at h1 h2 hd
          subst h1 h2 hd
          exact ⟨_, none, ho, rfl, rfl, trivial⟩
      obtain ⟨oe, od, J⟩ := J
      exact PySem.W.kia_one (PySem.W.kitx_exc hcl C.hg C.hk C.hs C.ha C.hn C.ht C.hm) I.kIn J e (fun z => nomatch z) fun tk => ⟨.bl b, H, I.kept (t' := tk) fun _ _ z => z, rfl, q⟩
/-- isinstance(e, c), e the exception that the suite holds, with a dict -/
def rIsP (K : PySem.W.Frag) (a : Addr) (cls : Value) (d : Option Addr) : List V → Hp → VK → Prop := fun xs H Q => ∃ (D dd : Addr) (fs : List (Str × V)) (c : V) (cv : Value) (b : Bool), xs = [.ref a, c] ∧ cls = .ref D ∧ d = some dd ∧ H dd = some (.xd fs) ∧ ExcC K D ∧ (∀ u, RelV c u → u = cv) ∧ PySem.W.kitOne K (.ref D) cv = some b ∧ Q (.bl b) H
theorem call_isP {a : Addr} {oe : Obj} {pn : List (Addr × Obj)} {cls : Value} {d : Option Addr} (hz : Zc cls d oe) (hf : ∃ vs, oe.data = .fields vs) : CallR (X.suite a ((a, oe) :: pn)) (.builtin "isinstance") (rIsP X.K a cls d) := by
  intro pins s σ H xs us Q I r h
  obtain ⟨D, dd, fs, c, cv, b, rfl, rfl, rfl, ed, C, hcv, e, q⟩ := h
  cases r with
  | cons rx rr =>
    cases rr with
    | cons rt rr =>
      cases rr
      cases rx
      have ec := hcv _ rt
      subst ec
      have hcl : (PySem.W.clsIn X.K D).isSome = true := by
        obtain ⟨cd, hc, _⟩ := PySem.W.any_some C.hd
        rw [hc]; rfl
      obtain ⟨hget, _⟩ := I.pin (a, oe) (List.mem_append.mpr (.inl List.mem_cons_self))
      obtain ⟨vs, hv⟩ := hf
      have hx : ObjOk X.prog X.w H s.heap dd (.xd fs) := I.hok dd _ ed
      obtain ⟨mA, hns, _⟩ := hx
      obtain ⟨od, hod, _⟩ := lookIn_ns hns
      have J : PySem.W.InstAt s.heap a oe D (some od) := ⟨hget, hz.1, by unfold PySem.W.notCls; rw [hv] <;> rfl, by rw [hz.2]; exact hod⟩
      exact PySem.W.kia_one (PySem.W.kitx_exc hcl C.hg C.hk C.hs C.ha C.hn C.ht C.hm) I.kIn J e (fun z => nomatch z) fun tk => ⟨.bl b, H, I.kept (t' := tk) fun _ _ z => z, rfl, q⟩
end
end Ag

set_option Elab.async false
set_option linter.all false
set_option maxRecDepth 100000
set_option maxHeartbeats 1000000
namespace Ag
open PySem PySem.Spec PyProof.Rows L2
/-! ### the text by places -/
def top (i : Nat) : Stmt := PySem.Challenge.pw_againnotes_k01_errors.main.body.getD i (.Pass ⟨0, 0, 0, 0⟩)
abbrev s_BadText___init__ : Stmt := inClass (top 2) 0
abbrev s_BadName___init__ : Stmt := inClass (top 3) 0
abbrev s_BadNumber___init__ : Stmt := inClass (top 4) 0
abbrev s_BadRow___init__ : Stmt := inClass (top 5) 0
abbrev s_NoName___init__ : Stmt := inClass (top 6) 0
abbrev s_TakenName___init__ : Stmt := inClass (top 7) 0
abbrev s_Unlike___init__ : Stmt := inClass (top 8) 0
abbrev s_NotThere___init__ : Stmt := inClass (top 9) 0
abbrev s_TooMany___init__ : Stmt := inClass (top 10) 0
abbrev s_NotKept___init__ : Stmt := inClass (top 11) 0
abbrev s_law_pen : Stmt := top 15
abbrev s_law_draw : Stmt := top 16
abbrev s_law_pick : Stmt := top 17
abbrev s_law_value : Stmt := top 18
abbrev s_law_fields : Stmt := top 19
abbrev s_law_made_errors : Stmt := top 20
abbrev s_law_kinds : Stmt := top 21
abbrev s_law : Stmt := top 22
structure DefAt (K : PySem.W.Frag) (mg : Str → Option Value) (x : Str) (st : Stmt) (ps : List Str) (a : Addr) (fd : FuncData) : Prop where
  fn : Fun K x x st a fd
  mg : mg x = some (.ref a)
  bd : Binds K fd ps []
structure MethAt (K : PySem.W.Frag) (x qual : Str) (st : Stmt) (ps : List Str) (a : Addr) (fd : FuncData) : Prop where
  fn : Fun K x qual st a fd
  bd : Binds K fd ps []
structure DefAtD (K : PySem.W.Frag) (mg : Str → Option Value) (x : Str) (st : Stmt) (ps : List Str) (dvs : List V) (a : Addr) (fd : FuncData) : Prop where
  fn : FunD K x x (defArgs st) (defBody st) (defScope st) dvs [] a fd
  mg : mg x = some (.ref a)
  bd : Binds K fd ps []
structure MethAtD (K : PySem.W.Frag) (x qual : Str) (st : Stmt) (ps : List Str) (dvs : List V) (a : Addr) (fd : FuncData) : Prop where
  fn : FunD K x qual (defArgs st) (defBody st) (defScope st) dvs [] a fd
  bd : Binds K fd ps []
theorem bt_ValueError : bootBuiltins ("ValueError" : Str) = some (.type "ValueError") := by decide +kernel
theorem bt_enumerate : bootBuiltins ("enumerate" : Str) = some (.type "enumerate") := by decide +kernel
theorem bt_list : bootBuiltins ("list" : Str) = some (.type "list") := by decide +kernel
theorem bt_isinstance : bootBuiltins ("isinstance" : Str) = some (.builtin "isinstance") := by decide +kernel
theorem bt_int : bootBuiltins ("int" : Str) = some (.type "int") := by decide +kernel
theorem bt_len : bootBuiltins ("len" : Str) = some (.builtin "len") := by decide +kernel
theorem bt_repr : bootBuiltins ("repr" : Str) = some (.builtin "repr") := by decide +kernel
theorem bt_range : bootBuiltins ("range" : Str) = some (.type "range") := by decide +kernel
structure Txt (w : World) (K : PySem.W.Frag) (mg : Str → Option Value) where
  C_AgainError : Addr
  g_AgainError : mg "AgainError" = some (.ref C_AgainError)
  ox_AgainError : OexC K C_AgainError
  xf_AgainError : XfC K C_AgainError
  sb_AgainError : PySem.W.subIn K (.ref C_AgainError) (.ref C_AgainError) = some true
  C_BadText : Addr
  g_BadText : mg "BadText" = some (.ref C_BadText)
  a_BadText___init__ : Addr
  d_BadText___init__ : FuncData
  D_BadText___init__ : MethAt K "__init__" "BadText.__init__" s_BadText___init__ ["self", "line", "word"] a_BadText___init__ d_BadText___init__
  na_BadText_line : NoAttr K C_BadText "line"
  na_BadText_word : NoAttr K C_BadText "word"
  ox_BadText : OexC K C_BadText
  xf_BadText : XfC K C_BadText
  sb_BadText : PySem.W.subIn K (.ref C_BadText) (.ref C_BadText) = some true
  ic_BadText : PySem.W.findIn K (.ref C_BadText) "__init__" = some (some (.ref a_BadText___init__))
  ti_BadText : PySem.W.typeIn K (.ref a_BadText___init__) = some (.type "function")
  C_BadName : Addr
  g_BadName : mg "BadName" = some (.ref C_BadName)
  a_BadName___init__ : Addr
  d_BadName___init__ : FuncData
  D_BadName___init__ : MethAt K "__init__" "BadName.__init__" s_BadName___init__ ["self", "name"] a_BadName___init__ d_BadName___init__
  na_BadName_name : NoAttr K C_BadName "name"
  ox_BadName : OexC K C_BadName
  xf_BadName : XfC K C_BadName
  sb_BadName : PySem.W.subIn K (.ref C_BadName) (.ref C_BadName) = some true
  ic_BadName : PySem.W.findIn K (.ref C_BadName) "__init__" = some (some (.ref a_BadName___init__))
  ti_BadName : PySem.W.typeIn K (.ref a_BadName___init__) = some (.type "function")
  C_BadNumber : Addr
  g_BadNumber : mg "BadNumber" = some (.ref C_BadNumber)
  a_BadNumber___init__ : Addr
  d_BadNumber___init__ : FuncData
  D_BadNumber___init__ : MethAt K "__init__" "BadNumber.__init__" s_BadNumber___init__ ["self", "what", "number"] a_BadNumber___init__ d_BadNumber___init__
  na_BadNumber_what : NoAttr K C_BadNumber "what"
  na_BadNumber_number : NoAttr K C_BadNumber "number"
  ox_BadNumber : OexC K C_BadNumber
  xf_BadNumber : XfC K C_BadNumber
  sb_BadNumber : PySem.W.subIn K (.ref C_BadNumber) (.ref C_BadNumber) = some true
  ic_BadNumber : PySem.W.findIn K (.ref C_BadNumber) "__init__" = some (some (.ref a_BadNumber___init__))
  ti_BadNumber : PySem.W.typeIn K (.ref a_BadNumber___init__) = some (.type "function")
  C_BadRow : Addr
  g_BadRow : mg "BadRow" = some (.ref C_BadRow)
  a_BadRow___init__ : Addr
  d_BadRow___init__ : FuncData
  D_BadRow___init__ : MethAt K "__init__" "BadRow.__init__" s_BadRow___init__ ["self", "what", "row"] a_BadRow___init__ d_BadRow___init__
  na_BadRow_what : NoAttr K C_BadRow "what"
  na_BadRow_row : NoAttr K C_BadRow "row"
  ox_BadRow : OexC K C_BadRow
  xf_BadRow : XfC K C_BadRow
  sb_BadRow : PySem.W.subIn K (.ref C_BadRow) (.ref C_BadRow) = some true
  ic_BadRow : PySem.W.findIn K (.ref C_BadRow) "__init__" = some (some (.ref a_BadRow___init__))
  ti_BadRow : PySem.W.typeIn K (.ref a_BadRow___init__) = some (.type "function")
  C_NoName : Addr
  g_NoName : mg "NoName" = some (.ref C_NoName)
  a_NoName___init__ : Addr
  d_NoName___init__ : FuncData
  D_NoName___init__ : MethAt K "__init__" "NoName.__init__" s_NoName___init__ ["self", "name"] a_NoName___init__ d_NoName___init__
  na_NoName_name : NoAttr K C_NoName "name"
  ox_NoName : OexC K C_NoName
  xf_NoName : XfC K C_NoName
  sb_NoName : PySem.W.subIn K (.ref C_NoName) (.ref C_NoName) = some true
  ic_NoName : PySem.W.findIn K (.ref C_NoName) "__init__" = some (some (.ref a_NoName___init__))
  ti_NoName : PySem.W.typeIn K (.ref a_NoName___init__) = some (.type "function")
  C_TakenName : Addr
  g_TakenName : mg "TakenName" = some (.ref C_TakenName)
  a_TakenName___init__ : Addr
  d_TakenName___init__ : FuncData
  D_TakenName___init__ : MethAt K "__init__" "TakenName.__init__" s_TakenName___init__ ["self", "name"] a_TakenName___init__ d_TakenName___init__
  na_TakenName_name : NoAttr K C_TakenName "name"
  ox_TakenName : OexC K C_TakenName
  xf_TakenName : XfC K C_TakenName
  sb_TakenName : PySem.W.subIn K (.ref C_TakenName) (.ref C_TakenName) = some true
  ic_TakenName : PySem.W.findIn K (.ref C_TakenName) "__init__" = some (some (.ref a_TakenName___init__))
  ti_TakenName : PySem.W.typeIn K (.ref a_TakenName___init__) = some (.type "function")
  C_Unlike : Addr
  g_Unlike : mg "Unlike" = some (.ref C_Unlike)
  a_Unlike___init__ : Addr
  d_Unlike___init__ : FuncData
  D_Unlike___init__ : MethAt K "__init__" "Unlike.__init__" s_Unlike___init__ ["self", "what"] a_Unlike___init__ d_Unlike___init__
  na_Unlike_what : NoAttr K C_Unlike "what"
  ox_Unlike : OexC K C_Unlike
  xf_Unlike : XfC K C_Unlike
  sb_Unlike : PySem.W.subIn K (.ref C_Unlike) (.ref C_Unlike) = some true
  ic_Unlike : PySem.W.findIn K (.ref C_Unlike) "__init__" = some (some (.ref a_Unlike___init__))
  ti_Unlike : PySem.W.typeIn K (.ref a_Unlike___init__) = some (.type "function")
  C_NotThere : Addr
  g_NotThere : mg "NotThere" = some (.ref C_NotThere)
  a_NotThere___init__ : Addr
  d_NotThere___init__ : FuncData
  D_NotThere___init__ : MethAt K "__init__" "NotThere.__init__" s_NotThere___init__ ["self", "what"] a_NotThere___init__ d_NotThere___init__
  na_NotThere_what : NoAttr K C_NotThere "what"
  ox_NotThere : OexC K C_NotThere
  xf_NotThere : XfC K C_NotThere
  sb_NotThere : PySem.W.subIn K (.ref C_NotThere) (.ref C_NotThere) = some true
  ic_NotThere : PySem.W.findIn K (.ref C_NotThere) "__init__" = some (some (.ref a_NotThere___init__))
  ti_NotThere : PySem.W.typeIn K (.ref a_NotThere___init__) = some (.type "function")
  C_TooMany : Addr
  g_TooMany : mg "TooMany" = some (.ref C_TooMany)
  a_TooMany___init__ : Addr
  d_TooMany___init__ : FuncData
  D_TooMany___init__ : MethAt K "__init__" "TooMany.__init__" s_TooMany___init__ ["self", "what", "many", "limit"] a_TooMany___init__ d_TooMany___init__
  na_TooMany_what : NoAttr K C_TooMany "what"
  na_TooMany_many : NoAttr K C_TooMany "many"
  na_TooMany_limit : NoAttr K C_TooMany "limit"
  ox_TooMany : OexC K C_TooMany
  xf_TooMany : XfC K C_TooMany
  sb_TooMany : PySem.W.subIn K (.ref C_TooMany) (.ref C_TooMany) = some true
  ic_TooMany : PySem.W.findIn K (.ref C_TooMany) "__init__" = some (some (.ref a_TooMany___init__))
  ti_TooMany : PySem.W.typeIn K (.ref a_TooMany___init__) = some (.type "function")
  C_NotKept : Addr
  g_NotKept : mg "NotKept" = some (.ref C_NotKept)
  a_NotKept___init__ : Addr
  d_NotKept___init__ : FuncData
  D_NotKept___init__ : MethAt K "__init__" "NotKept.__init__" s_NotKept___init__ ["self", "promise", "witness"] a_NotKept___init__ d_NotKept___init__
  na_NotKept_promise : NoAttr K C_NotKept "promise"
  na_NotKept_witness : NoAttr K C_NotKept "witness"
  ox_NotKept : OexC K C_NotKept
  xf_NotKept : XfC K C_NotKept
  sb_NotKept : PySem.W.subIn K (.ref C_NotKept) (.ref C_NotKept) = some true
  ic_NotKept : PySem.W.findIn K (.ref C_NotKept) "__init__" = some (some (.ref a_NotKept___init__))
  ti_NotKept : PySem.W.typeIn K (.ref a_NotKept___init__) = some (.type "function")
  C_NothingToUndo : Addr
  g_NothingToUndo : mg "NothingToUndo" = some (.ref C_NothingToUndo)
  ox_NothingToUndo : OexC K C_NothingToUndo
  xf_NothingToUndo : XfC K C_NothingToUndo
  sb_NothingToUndo : PySem.W.subIn K (.ref C_NothingToUndo) (.ref C_NothingToUndo) = some true
  C_NothingToRedo : Addr
  g_NothingToRedo : mg "NothingToRedo" = some (.ref C_NothingToRedo)
  ox_NothingToRedo : OexC K C_NothingToRedo
  xf_NothingToRedo : XfC K C_NothingToRedo
  sb_NothingToRedo : PySem.W.subIn K (.ref C_NothingToRedo) (.ref C_NothingToRedo) = some true
  ec_BadText : ExcC K C_BadText
  ec_BadName : ExcC K C_BadName
  ec_BadNumber : ExcC K C_BadNumber
  ec_BadRow : ExcC K C_BadRow
  ec_NoName : ExcC K C_NoName
  ec_TakenName : ExcC K C_TakenName
  ec_Unlike : ExcC K C_Unlike
  ec_NotThere : ExcC K C_NotThere
  ec_TooMany : ExcC K C_TooMany
  ec_NotKept : ExcC K C_NotKept
  ec_NothingToUndo : ExcC K C_NothingToUndo
  ec_NothingToRedo : ExcC K C_NothingToRedo
  xi_NothingToUndo : PySem.W.excIn K C_NothingToUndo [.type "ValueError", .type "Exception", .type "BaseException", .type "object"] "ValueError.__new__" = true
  kc_NothingToUndo : PySem.W.keepIn K (.ref C_NothingToUndo) = true
  xi_NothingToRedo : PySem.W.excIn K C_NothingToRedo [.type "ValueError", .type "Exception", .type "BaseException", .type "object"] "ValueError.__new__" = true
  kc_NothingToRedo : PySem.W.keepIn K (.ref C_NothingToRedo) = true
  ki_BadText_BadText : PySem.W.kitOne K (.ref C_BadText) (.ref C_BadText) = some true
  ki_BadText_BadName : PySem.W.kitOne K (.ref C_BadText) (.ref C_BadName) = some false
  ki_BadText_BadNumber : PySem.W.kitOne K (.ref C_BadText) (.ref C_BadNumber) = some false
  ki_BadText_BadRow : PySem.W.kitOne K (.ref C_BadText) (.ref C_BadRow) = some false
  ki_BadText_NoName : PySem.W.kitOne K (.ref C_BadText) (.ref C_NoName) = some false
  ki_BadText_TakenName : PySem.W.kitOne K (.ref C_BadText) (.ref C_TakenName) = some false
  ki_BadText_Unlike : PySem.W.kitOne K (.ref C_BadText) (.ref C_Unlike) = some false
  ki_BadText_NotThere : PySem.W.kitOne K (.ref C_BadText) (.ref C_NotThere) = some false
  ki_BadText_TooMany : PySem.W.kitOne K (.ref C_BadText) (.ref C_TooMany) = some false
  ki_BadText_NotKept : PySem.W.kitOne K (.ref C_BadText) (.ref C_NotKept) = some false
  ki_BadText_NothingToUndo : PySem.W.kitOne K (.ref C_BadText) (.ref C_NothingToUndo) = some false
  ki_BadText_NothingToRedo : PySem.W.kitOne K (.ref C_BadText) (.ref C_NothingToRedo) = some false
  ki_BadName_BadText : PySem.W.kitOne K (.ref C_BadName) (.ref C_BadText) = some false
  ki_BadName_BadName : PySem.W.kitOne K (.ref C_BadName) (.ref C_BadName) = some true
  ki_BadName_BadNumber : PySem.W.kitOne K (.ref C_BadName) (.ref C_BadNumber) = some false
  ki_BadName_BadRow : PySem.W.kitOne K (.ref C_BadName) (.ref C_BadRow) = some false
  ki_BadName_NoName : PySem.W.kitOne K (.ref C_BadName) (.ref C_NoName) = some false
  ki_BadName_TakenName : PySem.W.kitOne K (.ref C_BadName) (.ref C_TakenName) = some false
  ki_BadName_Unlike : PySem.W.kitOne K (.ref C_BadName) (.ref C_Unlike) = some false
  ki_BadName_NotThere : PySem.W.kitOne K (.ref C_BadName) (.ref C_NotThere) = some false
  ki_BadName_TooMany : PySem.W.kitOne K (.ref C_BadName) (.ref C_TooMany) = some false
  ki_BadName_NotKept : PySem.W.kitOne K (.ref C_BadName) (.ref C_NotKept) = some false
  ki_BadName_NothingToUndo : PySem.W.kitOne K (.ref C_BadName) (.ref C_NothingToUndo) = some false
  ki_BadName_NothingToRedo : PySem.W.kitOne K (.ref C_BadName) (.ref C_NothingToRedo) = some false
  ki_BadNumber_BadText : PySem.W.kitOne K (.ref C_BadNumber) (.ref C_BadText) = some false
  ki_BadNumber_BadName : PySem.W.kitOne K (.ref C_BadNumber) (.ref C_BadName) = some false
  ki_BadNumber_BadNumber : PySem.W.kitOne K (.ref C_BadNumber) (.ref C_BadNumber) = some true
  ki_BadNumber_BadRow : PySem.W.kitOne K (.ref C_BadNumber) (.ref C_BadRow) = some false
  ki_BadNumber_NoName : PySem.W.kitOne K (.ref C_BadNumber) (.ref C_NoName) = some false
  ki_BadNumber_TakenName : PySem.W.kitOne K (.ref C_BadNumber) (.ref C_TakenName) = some false
  ki_BadNumber_Unlike : PySem.W.kitOne K (.ref C_BadNumber) (.ref C_Unlike) = some false
  ki_BadNumber_NotThere : PySem.W.kitOne K (.ref C_BadNumber) (.ref C_NotThere) = some false
  ki_BadNumber_TooMany : PySem.W.kitOne K (.ref C_BadNumber) (.ref C_TooMany) = some false
  ki_BadNumber_NotKept : PySem.W.kitOne K (.ref C_BadNumber) (.ref C_NotKept) = some false
  ki_BadNumber_NothingToUndo : PySem.W.kitOne K (.ref C_BadNumber) (.ref C_NothingToUndo) = some false
  ki_BadNumber_NothingToRedo : PySem.W.kitOne K (.ref C_BadNumber) (.ref C_NothingToRedo) = some false
  ki_BadRow_BadText : PySem.W.kitOne K (.ref C_BadRow) (.ref C_BadText) = some false
  ki_BadRow_BadName : PySem.W.kitOne K (.ref C_BadRow) (.ref C_BadName) = some false
  ki_BadRow_BadNumber : PySem.W.kitOne K (.ref C_BadRow) (.ref C_BadNumber) = some false
  ki_BadRow_BadRow : PySem.W.kitOne K (.ref C_BadRow) (.ref C_BadRow) = some true
  ki_BadRow_NoName : PySem.W.kitOne K (.ref C_BadRow) (.ref C_NoName) = some false
  ki_BadRow_TakenName : PySem.W.kitOne K (.ref C_BadRow) (.ref C_TakenName) = some false
  ki_BadRow_Unlike : PySem.W.kitOne K (.ref C_BadRow) (.ref C_Unlike) = some false
  ki_BadRow_NotThere : PySem.W.kitOne K (.ref C_BadRow) (.ref C_NotThere) = some false
  ki_BadRow_TooMany : PySem.W.kitOne K (.ref C_BadRow) (.ref C_TooMany) = some false
  ki_BadRow_NotKept : PySem.W.kitOne K (.ref C_BadRow) (.ref C_NotKept) = some false
  ki_BadRow_NothingToUndo : PySem.W.kitOne K (.ref C_BadRow) (.ref C_NothingToUndo) = some false
  ki_BadRow_NothingToRedo : PySem.W.kitOne K (.ref C_BadRow) (.ref C_NothingToRedo) = some false
  ki_NoName_BadText : PySem.W.kitOne K (.ref C_NoName) (.ref C_BadText) = some false
  ki_NoName_BadName : PySem.W.kitOne K (.ref C_NoName) (.ref C_BadName) = some false
  ki_NoName_BadNumber : PySem.W.kitOne K (.ref C_NoName) (.ref C_BadNumber) = some false
  ki_NoName_BadRow : PySem.W.kitOne K (.ref C_NoName) (.ref C_BadRow) = some false
  ki_NoName_NoName : PySem.W.kitOne K (.ref C_NoName) (.ref C_NoName) = some true
  ki_NoName_TakenName : PySem.W.kitOne K (.ref C_NoName) (.ref C_TakenName) = some false
  ki_NoName_Unlike : PySem.W.kitOne K (.ref C_NoName) (.ref C_Unlike) = some false
  ki_NoName_NotThere : PySem.W.kitOne K (.ref C_NoName) (.ref C_NotThere) = some false
  ki_NoName_TooMany : PySem.W.kitOne K (.ref C_NoName) (.ref C_TooMany) = some false
  ki_NoName_NotKept : PySem.W.kitOne K (.ref C_NoName) (.ref C_NotKept) = some false
  ki_NoName_NothingToUndo : PySem.W.kitOne K (.ref C_NoName) (.ref C_NothingToUndo) = some false
  ki_NoName_NothingToRedo : PySem.W.kitOne K (.ref C_NoName) (.ref C_NothingToRedo) = some false
  ki_TakenName_BadText : PySem.W.kitOne K (.ref C_TakenName) (.ref C_BadText) = some false
  ki_TakenName_BadName : PySem.W.kitOne K (.ref C_TakenName) (.ref C_BadName) = some false
  ki_TakenName_BadNumber : PySem.W.kitOne K (.ref C_TakenName) (.ref C_BadNumber) = some false
  ki_TakenName_BadRow : PySem.W.kitOne K (.ref C_TakenName) (.ref C_BadRow) = some false
  ki_TakenName_NoName : PySem.W.kitOne K (.ref C_TakenName) (.ref C_NoName) = some false
  ki_TakenName_TakenName : PySem.W.kitOne K (.ref C_TakenName) (.ref C_TakenName) = some true
  ki_TakenName_Unlike : PySem.W.kitOne K (.ref C_TakenName) (.ref C_Unlike) = some false
  ki_TakenName_NotThere : PySem.W.kitOne K (.ref C_TakenName) (.ref C_NotThere) = some false
  ki_TakenName_TooMany : PySem.W.kitOne K (.ref C_TakenName) (.ref C_TooMany) = some false
  ki_TakenName_NotKept : PySem.W.kitOne K (.ref C_TakenName) (.ref C_NotKept) = some false
  ki_TakenName_NothingToUndo : PySem.W.kitOne K (.ref C_TakenName) (.ref C_NothingToUndo) = some false
  ki_TakenName_NothingToRedo : PySem.W.kitOne K (.ref C_TakenName) (.ref C_NothingToRedo) = some false
  ki_Unlike_BadText : PySem.W.kitOne K (.ref C_Unlike) (.ref C_BadText) = some false
  ki_Unlike_BadName : PySem.W.kitOne K (.ref C_Unlike) (.ref C_BadName) = some false
  ki_Unlike_BadNumber : PySem.W.kitOne K (.ref C_Unlike) (.ref C_BadNumber) = some false
  ki_Unlike_BadRow : PySem.W.kitOne K (.ref C_Unlike) (.ref C_BadRow) = some false
  ki_Unlike_NoName : PySem.W.kitOne K (.ref C_Unlike) (.ref C_NoName) = some false
  ki_Unlike_TakenName : PySem.W.kitOne K (.ref C_Unlike) (.ref C_TakenName) = some false
  ki_Unlike_Unlike : PySem.W.kitOne K (.ref C_Unlike) (.ref C_Unlike) = some true
  ki_Unlike_NotThere : PySem.W.kitOne K (.ref C_Unlike) (.ref C_NotThere) = some false
  ki_Unlike_TooMany : PySem.W.kitOne K (.ref C_Unlike) (.ref C_TooMany) = some false
  ki_Unlike_NotKept : PySem.W.kitOne K (.ref C_Unlike) (.ref C_NotKept) = some false
  ki_Unlike_NothingToUndo : PySem.W.kitOne K (.ref C_Unlike) (.ref C_NothingToUndo) = some false
  ki_Unlike_NothingToRedo : PySem.W.kitOne K (.ref C_Unlike) (.ref C_NothingToRedo) = some false
  ki_NotThere_BadText : PySem.W.kitOne K (.ref C_NotThere) (.ref C_BadText) = some false
  ki_NotThere_BadName : PySem.W.kitOne K (.ref C_NotThere) (.ref C_BadName) = some false
  ki_NotThere_BadNumber : PySem.W.kitOne K (.ref C_NotThere) (.ref C_BadNumber) = some false
  ki_NotThere_BadRow : PySem.W.kitOne K (.ref C_NotThere) (.ref C_BadRow) = some false
  ki_NotThere_NoName : PySem.W.kitOne K (.ref C_NotThere) (.ref C_NoName) = some false
  ki_NotThere_TakenName : PySem.W.kitOne K (.ref C_NotThere) (.ref C_TakenName) = some false
  ki_NotThere_Unlike : PySem.W.kitOne K (.ref C_NotThere) (.ref C_Unlike) = some false
  ki_NotThere_NotThere : PySem.W.kitOne K (.ref C_NotThere) (.ref C_NotThere) = some true
  ki_NotThere_TooMany : PySem.W.kitOne K (.ref C_NotThere) (.ref C_TooMany) = some false
  ki_NotThere_NotKept : PySem.W.kitOne K (.ref C_NotThere) (.ref C_NotKept) = some false
  ki_NotThere_NothingToUndo : PySem.W.kitOne K (.ref C_NotThere) (.ref C_NothingToUndo) = some false
  ki_NotThere_NothingToRedo : PySem.W.kitOne K (.ref C_NotThere) (.ref C_NothingToRedo) = some false
  ki_TooMany_BadText : PySem.W.kitOne K (.ref C_TooMany) (.ref C_BadText) = some false
  ki_TooMany_BadName : PySem.W.kitOne K (.ref C_TooMany) (.ref C_BadName) = some false
  ki_TooMany_BadNumber : PySem.W.kitOne K (.ref C_TooMany) (.ref C_BadNumber) = some false
  ki_TooMany_BadRow : PySem.W.kitOne K (.ref C_TooMany) (.ref C_BadRow) = some false
  ki_TooMany_NoName : PySem.W.kitOne K (.ref C_TooMany) (.ref C_NoName) = some false
  ki_TooMany_TakenName : PySem.W.kitOne K (.ref C_TooMany) (.ref C_TakenName) = some false
  ki_TooMany_Unlike : PySem.W.kitOne K (.ref C_TooMany) (.ref C_Unlike) = some false
  ki_TooMany_NotThere : PySem.W.kitOne K (.ref C_TooMany) (.ref C_NotThere) = some false
  ki_TooMany_TooMany : PySem.W.kitOne K (.ref C_TooMany) (.ref C_TooMany) = some true
  ki_TooMany_NotKept : PySem.W.kitOne K (.ref C_TooMany) (.ref C_NotKept) = some false
  ki_TooMany_NothingToUndo : PySem.W.kitOne K (.ref C_TooMany) (.ref C_NothingToUndo) = some false
  ki_TooMany_NothingToRedo : PySem.W.kitOne K (.ref C_TooMany) (.ref C_NothingToRedo) = some false
  ki_NotKept_BadText : PySem.W.kitOne K (.ref C_NotKept) (.ref C_BadText) = some false
  ki_NotKept_BadName : PySem.W.kitOne K (.ref C_NotKept) (.ref C_BadName) = some false
  ki_NotKept_BadNumber : PySem.W.kitOne K (.ref C_NotKept) (.ref C_BadNumber) = some false
  ki_NotKept_BadRow : PySem.W.kitOne K (.ref C_NotKept) (.ref C_BadRow) = some false
  ki_NotKept_NoName : PySem.W.kitOne K (.ref C_NotKept) (.ref C_NoName) = some false
  ki_NotKept_TakenName : PySem.W.kitOne K (.ref C_NotKept) (.ref C_TakenName) = some false
  ki_NotKept_Unlike : PySem.W.kitOne K (.ref C_NotKept) (.ref C_Unlike) = some false
  ki_NotKept_NotThere : PySem.W.kitOne K (.ref C_NotKept) (.ref C_NotThere) = some false
  ki_NotKept_TooMany : PySem.W.kitOne K (.ref C_NotKept) (.ref C_TooMany) = some false
  ki_NotKept_NotKept : PySem.W.kitOne K (.ref C_NotKept) (.ref C_NotKept) = some true
  ki_NotKept_NothingToUndo : PySem.W.kitOne K (.ref C_NotKept) (.ref C_NothingToUndo) = some false
  ki_NotKept_NothingToRedo : PySem.W.kitOne K (.ref C_NotKept) (.ref C_NothingToRedo) = some false
  ki_NothingToUndo_BadText : PySem.W.kitOne K (.ref C_NothingToUndo) (.ref C_BadText) = some false
  ki_NothingToUndo_BadName : PySem.W.kitOne K (.ref C_NothingToUndo) (.ref C_BadName) = some false
  ki_NothingToUndo_BadNumber : PySem.W.kitOne K (.ref C_NothingToUndo) (.ref C_BadNumber) = some false
  ki_NothingToUndo_BadRow : PySem.W.kitOne K (.ref C_NothingToUndo) (.ref C_BadRow) = some false
  ki_NothingToUndo_NoName : PySem.W.kitOne K (.ref C_NothingToUndo) (.ref C_NoName) = some false
  ki_NothingToUndo_TakenName : PySem.W.kitOne K (.ref C_NothingToUndo) (.ref C_TakenName) = some false
  ki_NothingToUndo_Unlike : PySem.W.kitOne K (.ref C_NothingToUndo) (.ref C_Unlike) = some false
  ki_NothingToUndo_NotThere : PySem.W.kitOne K (.ref C_NothingToUndo) (.ref C_NotThere) = some false
  ki_NothingToUndo_TooMany : PySem.W.kitOne K (.ref C_NothingToUndo) (.ref C_TooMany) = some false
  ki_NothingToUndo_NotKept : PySem.W.kitOne K (.ref C_NothingToUndo) (.ref C_NotKept) = some false
  ki_NothingToUndo_NothingToUndo : PySem.W.kitOne K (.ref C_NothingToUndo) (.ref C_NothingToUndo) = some true
  ki_NothingToUndo_NothingToRedo : PySem.W.kitOne K (.ref C_NothingToUndo) (.ref C_NothingToRedo) = some false
  ki_NothingToRedo_BadText : PySem.W.kitOne K (.ref C_NothingToRedo) (.ref C_BadText) = some false
  ki_NothingToRedo_BadName : PySem.W.kitOne K (.ref C_NothingToRedo) (.ref C_BadName) = some false
  ki_NothingToRedo_BadNumber : PySem.W.kitOne K (.ref C_NothingToRedo) (.ref C_BadNumber) = some false
  ki_NothingToRedo_BadRow : PySem.W.kitOne K (.ref C_NothingToRedo) (.ref C_BadRow) = some false
  ki_NothingToRedo_NoName : PySem.W.kitOne K (.ref C_NothingToRedo) (.ref C_NoName) = some false
  ki_NothingToRedo_TakenName : PySem.W.kitOne K (.ref C_NothingToRedo) (.ref C_TakenName) = some false
  ki_NothingToRedo_Unlike : PySem.W.kitOne K (.ref C_NothingToRedo) (.ref C_Unlike) = some false
  ki_NothingToRedo_NotThere : PySem.W.kitOne K (.ref C_NothingToRedo) (.ref C_NotThere) = some false
  ki_NothingToRedo_TooMany : PySem.W.kitOne K (.ref C_NothingToRedo) (.ref C_TooMany) = some false
  ki_NothingToRedo_NotKept : PySem.W.kitOne K (.ref C_NothingToRedo) (.ref C_NotKept) = some false
  ki_NothingToRedo_NothingToUndo : PySem.W.kitOne K (.ref C_NothingToRedo) (.ref C_NothingToUndo) = some false
  ki_NothingToRedo_NothingToRedo : PySem.W.kitOne K (.ref C_NothingToRedo) (.ref C_NothingToRedo) = some true
  ki_BadText_AgainError : PySem.W.kitOne K (.ref C_BadText) (.ref C_AgainError) = some true
  ki_BadName_AgainError : PySem.W.kitOne K (.ref C_BadName) (.ref C_AgainError) = some true
  ki_BadNumber_AgainError : PySem.W.kitOne K (.ref C_BadNumber) (.ref C_AgainError) = some true
  ki_BadRow_AgainError : PySem.W.kitOne K (.ref C_BadRow) (.ref C_AgainError) = some true
  ki_NoName_AgainError : PySem.W.kitOne K (.ref C_NoName) (.ref C_AgainError) = some true
  ki_TakenName_AgainError : PySem.W.kitOne K (.ref C_TakenName) (.ref C_AgainError) = some true
  ki_Unlike_AgainError : PySem.W.kitOne K (.ref C_Unlike) (.ref C_AgainError) = some true
  ki_NotThere_AgainError : PySem.W.kitOne K (.ref C_NotThere) (.ref C_AgainError) = some true
  ki_TooMany_AgainError : PySem.W.kitOne K (.ref C_TooMany) (.ref C_AgainError) = some true
  ki_NotKept_AgainError : PySem.W.kitOne K (.ref C_NotKept) (.ref C_AgainError) = some true
  ki_NothingToUndo_AgainError : PySem.W.kitOne K (.ref C_NothingToUndo) (.ref C_AgainError) = some true
  ki_NothingToRedo_AgainError : PySem.W.kitOne K (.ref C_NothingToRedo) (.ref C_AgainError) = some true
  ki_BadText_ValueError : PySem.W.kitOne K (.ref C_BadText) (.type "ValueError") = some true
  ki_BadName_ValueError : PySem.W.kitOne K (.ref C_BadName) (.type "ValueError") = some true
  ki_BadNumber_ValueError : PySem.W.kitOne K (.ref C_BadNumber) (.type "ValueError") = some true
  ki_BadRow_ValueError : PySem.W.kitOne K (.ref C_BadRow) (.type "ValueError") = some true
  ki_NoName_ValueError : PySem.W.kitOne K (.ref C_NoName) (.type "ValueError") = some true
  ki_TakenName_ValueError : PySem.W.kitOne K (.ref C_TakenName) (.type "ValueError") = some true
  ki_Unlike_ValueError : PySem.W.kitOne K (.ref C_Unlike) (.type "ValueError") = some true
  ki_NotThere_ValueError : PySem.W.kitOne K (.ref C_NotThere) (.type "ValueError") = some true
  ki_TooMany_ValueError : PySem.W.kitOne K (.ref C_TooMany) (.type "ValueError") = some true
  ki_NotKept_ValueError : PySem.W.kitOne K (.ref C_NotKept) (.type "ValueError") = some true
  ki_NothingToUndo_ValueError : PySem.W.kitOne K (.ref C_NothingToUndo) (.type "ValueError") = some true
  ki_NothingToRedo_ValueError : PySem.W.kitOne K (.ref C_NothingToRedo) (.type "ValueError") = some true
  sb_NotThere_AgainError : PySem.W.subIn K (.ref C_NotThere) (.ref C_AgainError) = some true
  a_law_pen : Addr
  d_law_pen : FuncData
  D_law_pen : DefAt K mg "_law_pen" s_law_pen ["script"] a_law_pen d_law_pen
  a_law_draw : Addr
  d_law_draw : FuncData
  D_law_draw : DefAt K mg "_law_draw" s_law_draw ["pen", "many"] a_law_draw d_law_draw
  a_law_pick : Addr
  d_law_pick : FuncData
  D_law_pick : DefAt K mg "_law_pick" s_law_pick ["pen", "some"] a_law_pick d_law_pick
  a_law_value : Addr
  d_law_value : FuncData
  D_law_value : DefAt K mg "_law_value" s_law_value ["pen"] a_law_value d_law_value
  a_law_fields : Addr
  d_law_fields : FuncData
  D_law_fields : DefAt K mg "_law_fields" s_law_fields ["one", "names"] a_law_fields d_law_fields
  a_law_made_errors : Addr
  d_law_made_errors : FuncData
  D_law_made_errors : DefAt K mg "_law_made_errors" s_law_made_errors ["one", "two", "three"] a_law_made_errors d_law_made_errors
  a_law_kinds : Addr
  d_law_kinds : FuncData
  D_law_kinds : DefAt K mg "_law_kinds" s_law_kinds ["one"] a_law_kinds d_law_kinds
  a_law : Addr
  d_law : FuncData
  D_law : DefAt K mg "law" s_law ["script"] a_law d_law
  b_ValueError : mg "ValueError" = none
  b_enumerate : mg "enumerate" = none
  b_list : mg "list" = none
  b_isinstance : mg "isinstance" = none
  b_int : mg "int" = none
  b_len : mg "len" = none
  b_repr : mg "repr" = none
  b_range : mg "range" = none
theorem sc_BadText___init__ : FnScope ["self", "line", "word"] ["self", "line", "word"] (defScope s_BadText___init__) := ⟨rfl, rfl, rfl, by decide +kernel, rfl, by decide +kernel, by decide +kernel⟩
theorem sc_BadName___init__ : FnScope ["self", "name"] ["self", "name"] (defScope s_BadName___init__) := ⟨rfl, rfl, rfl, by decide +kernel, rfl, by decide +kernel, by decide +kernel⟩
theorem sc_BadNumber___init__ : FnScope ["self", "what", "number"] ["self", "what", "number"] (defScope s_BadNumber___init__) := ⟨rfl, rfl, rfl, by decide +kernel, rfl, by decide +kernel, by decide +kernel⟩
theorem sc_BadRow___init__ : FnScope ["self", "what", "row"] ["self", "what", "row"] (defScope s_BadRow___init__) := ⟨rfl, rfl, rfl, by decide +kernel, rfl, by decide +kernel, by decide +kernel⟩
theorem sc_NoName___init__ : FnScope ["self", "name"] ["self", "name"] (defScope s_NoName___init__) := ⟨rfl, rfl, rfl, by decide +kernel, rfl, by decide +kernel, by decide +kernel⟩
theorem sc_TakenName___init__ : FnScope ["self", "name"] ["self", "name"] (defScope s_TakenName___init__) := ⟨rfl, rfl, rfl, by decide +kernel, rfl, by decide +kernel, by decide +kernel⟩
theorem sc_Unlike___init__ : FnScope ["self", "what"] ["self", "what"] (defScope s_Unlike___init__) := ⟨rfl, rfl, rfl, by decide +kernel, rfl, by decide +kernel, by decide +kernel⟩
theorem sc_NotThere___init__ : FnScope ["self", "what"] ["self", "what"] (defScope s_NotThere___init__) := ⟨rfl, rfl, rfl, by decide +kernel, rfl, by decide +kernel, by decide +kernel⟩
theorem sc_TooMany___init__ : FnScope ["self", "what", "many", "limit"] ["self", "what", "many", "limit"] (defScope s_TooMany___init__) := ⟨rfl, rfl, rfl, by decide +kernel, rfl, by decide +kernel, by decide +kernel⟩
theorem sc_NotKept___init__ : FnScope ["self", "promise", "witness"] ["self", "promise", "witness"] (defScope s_NotKept___init__) := ⟨rfl, rfl, rfl, by decide +kernel, rfl, by decide +kernel, by decide +kernel⟩
theorem sc_law_pen : FnScope ["script", "fold", "cell"] ["script"] (defScope s_law_pen) := ⟨rfl, rfl, rfl, by decide +kernel, rfl, by decide +kernel, by decide +kernel⟩
theorem sc_law_draw : FnScope ["pen", "many", "cell", "digit", "blend"] ["pen", "many"] (defScope s_law_draw) := ⟨rfl, rfl, rfl, by decide +kernel, rfl, by decide +kernel, by decide +kernel⟩
theorem sc_law_pick : FnScope ["pen", "some"] ["pen", "some"] (defScope s_law_pick) := ⟨rfl, rfl, rfl, by decide +kernel, rfl, by decide +kernel, by decide +kernel⟩
theorem sc_law_value : FnScope ["pen"] ["pen"] (defScope s_law_value) := ⟨rfl, rfl, rfl, by decide +kernel, rfl, by decide +kernel, by decide +kernel⟩
theorem sc_law_fields : FnScope ["one", "names", "found", "name"] ["one", "names"] (defScope s_law_fields) := ⟨rfl, rfl, rfl, by decide +kernel, rfl, by decide +kernel, by decide +kernel⟩
theorem sc_law_made_errors : FnScope ["one", "two", "three", "rows"] ["one", "two", "three"] (defScope s_law_made_errors) := ⟨rfl, rfl, rfl, by decide +kernel, rfl, by decide +kernel, by decide +kernel⟩
theorem sc_law_kinds : FnScope ["one", "found"] ["one"] (defScope s_law_kinds) := ⟨rfl, rfl, rfl, by decide +kernel, rfl, by decide +kernel, by decide +kernel⟩
theorem sc_law : FnScope ["script", "pen", "values", "at", "made", "one", "names", "due", "place", "kept", "last", "found", "told"] ["script"] (defScope s_law) := ⟨rfl, rfl, rfl, by decide +kernel, rfl, by decide +kernel, by decide +kernel⟩
end Ag

set_option Elab.async false
set_option linter.all false
set_option maxRecDepth 100000
set_option maxHeartbeats 1000000
namespace Ag
open PySem PySem.Spec PyProof.Rows L2
theorem rd_but {H : Hp} {p : Addr} {o : HO} : But p H (upd H p o) := fun a u n h => by rw [upd_ne n]; exact h
theorem rd_upd {H : Hp} {p c : Addr} {o : HO} {xs : List V} {kvs : List (Key × V)} (hp : H p = some (.dK kvs)) (h : Rd H c (.lst xs)) : Rd (upd H p o) c (.lst xs) := by
  rcases h with h | ⟨u, h⟩
  · exact .inl (by rw [upd_ne (ne_of h hp (fun z => nomatch z))]; exact h)
  · exact .inr ⟨u, by rw [upd_ne (ne_of h hp (fun z => nomatch z))]; exact h⟩
section
variable {P : Program} {w : World} {K : PySem.W.Frag} {mg : Str → Option Value} {base : Heap} (T : Txt w K mg)
theorem ok_draw : FnOk P w K mg base CX0 1 T.a_law_draw T.d_law_draw ["pen", "many"] spDraw := by
  refine T.D_law_draw.fn.ok sc_law_draw (fun vs H Q E h => ?_) (fun cdv A outer s H vs Q E hr h => ?_)
  · obtain ⟨p, c, many, n, rfl, _⟩ := h; rfl
  · obtain ⟨p, c, many, n, rfl, hP, m0, m1, n1, k⟩ := h
    refine ⟨_, (pss_cons (ps_dput (hu_of hr) (pv 0) pe_str (pe_op op_add (pe_dget (hu_of hr) (pv 0) pe_str (fun _ _ => rfl)) pe_int) rfl)
      (C8.pss_cut (ps_if (PW.pt (pw_and (pt_cmpR op_eq (pe_dget (hu_of hr) (pv 0) pe_str (fun _ _ => rfl)) pe_int (nomark _)) (pw_and1 (pt_cmpR op_lt (pe_dget (hu_of hr) (pv 0) pe_str (fun _ _ => rfl)) (pe_callB call_len (by rfl) T.b_len bt_len (pa_cons (pe_dget (hu_of hr) (pv 0) pe_str (fun _ _ => rfl)) pa_nil)) (nomark _))))) (pss_cons (ps_set (i := 2) sc_law_draw.nd rfl (by first | exact Or.inl rfl | exact Or.inr rfl) (pe_ix ix_seq (pe_dget (hu_of hr) (pv 0) pe_str (fun _ _ => rfl)) (pe_dget (hu_of hr) (pv 0) pe_str (fun _ _ => rfl)) (fun _ _ => rfl)))
      (pss_cons (ps_dput (hu_of hr) (pv 0) pe_str (pe_op op_add (pe_dget (hu_of hr) (pv 0) pe_str (fun _ _ => rfl)) pe_int) rfl)
      (pss_one (ps_if (pt_cmpR op_ge (pv 2) (pe_op op_pow pe_int pe_int) (nomark _)) (pss_one (ps_dput (hu_of hr) (pv 0) pe_str (pe_op op_sub (pv 2) (pe_op op_pow pe_int pe_int)) rfl)) (pss_one (ps_dput (hu_of hr) (pv 0) pe_str (pe_op op_mod (pe_callTy call_int1 (by rfl) T.b_int bt_int (pa_cons (pe_op op_add (pe_op op_mul (pe_dget (hu_of hr) (pv 0) pe_str (fun _ _ => rfl)) pe_int) (pv 2)) pa_nil)) pe_int) rfl)))))) pss_nil)
      (pss_cons (ps_if (pt_cmpR op_gt (pe_dget (hu_of hr) (pv 0) pe_str (fun _ _ => rfl)) pe_int (nomark _)) (pss_cons (ps_set (i := 3) sc_law_draw.nd rfl (by first | exact Or.inl rfl | exact Or.inr rfl) (pe_op op_mod (pe_callTy call_int1 (by rfl) T.b_int bt_int (pa_cons (pe_dget (hu_of hr) (pv 0) pe_str (fun _ _ => rfl)) pa_nil)) (pv 1)))
      (pss_cons (ps_dput (hu_of hr) (pv 0) pe_str (pe_op op_fdiv (pe_dget (hu_of hr) (pv 0) pe_str (fun _ _ => rfl)) (pv 1)) rfl)
      (pss_one (ps_ret (pv 3))))) pss_nil)
      (pss_cons (ps_set (i := 4) sc_law_draw.nd rfl (by first | exact Or.inl rfl | exact Or.inr rfl) (pe_op op_add (pe_op op_add (pe_dget (hu_of hr) (pv 0) pe_str (fun _ _ => rfl)) (pe_op op_mul (pe_dget (hu_of hr) (pv 0) pe_str (fun _ _ => rfl)) pe_int)) pe_int))
      (pss_one (ps_ret (pe_op op_mod (pe_op op_fdiv (pe_callTy call_int1 (by rfl) T.b_int bt_int (pa_cons (pe_op op_mod (pe_op op_pow (pv 4) pe_int) pe_int) pa_nil)) pe_int) (pv 1)))))))), ?_⟩
    obtain ⟨cells, a, d, cn, f, hp, hc, a0, d0, c0, cnn, f0, f1⟩ := hP
    -- pen["count"] = pen["count"] + 1
    refine ⟨_, rfl, p, _, rfl, pg_cnt hp, _, _, rfl, rfl, _, rfl, p, _, rfl, pp_cnt hp, ?_⟩
    have b1 : But p H (upd H p (.dK (penKV c a d (cn + 1) f))) := rd_but
    have c1 := rd_upd (o := .dK (penKV c a d (cn + 1) f)) hp hc
    have p1 : (upd H p (.dK (penKV c a d (cn + 1) f))) p = some (.dK (penKV c a d (cn + 1) f)) := upd_same
    generalize upd H p (.dK (penKV c a d (cn + 1) f)) = H1 at b1 c1 p1
    refine ⟨fun σ' H' => ∃ (a' d' f' : Int) (o : Option V), σ' = [some (.ref p), some (.int many), o, none, none] ∧ 0 ≤ a' ∧ 0 ≤ d' ∧ 0 ≤ f' ∧ f' < 2147483648 ∧ H' p = some (.dK (penKV c a' d' (cn + 1) f')) ∧ Rd H' c (.lst (cells.map V.int)) ∧ But p H H', ?_, ?_⟩
    · -- if pen["digits"] == 0 and pen["at"] < len(pen["cells"]):
      refine ⟨_, rfl, p, _, rfl, pg_dig p1, rfl, _, rfl, ?_⟩
      refine ite2 (fun hz => ?_) (fun hz => ?_)
      · refine ⟨_, rfl, p, _, rfl, pg_at p1, _, rfl, p, _, rfl, pg_cells p1, _, _, rfl, .inl ⟨_, .inl c1, rfl⟩, _, _, rfl, rfl, _, rfl, ?_⟩
        refine ite2 (fun hl => ?_) (fun hl => ?_)
        · -- the next cell
          have hl := of_decide_eq_true hl
          obtain ⟨x, hx⟩ : ∃ x, cells[a.toNat]? = some x := ⟨_, List.getElem?_eq_getElem (by rw [List.length_map] at hl; omega)⟩
          have hx' : (cells.map V.int)[a.toNat]? = some (V.int x) := by rw [List.getElem?_map, hx]; rfl
          have ea : ((a.toNat : Nat) : Int) = a := by omega
          refine ⟨_, rfl, p, _, rfl, pg_cells p1, _, rfl, p, _, rfl, pg_at p1, .inl ⟨_, _, _, _, rfl, rfl, .inl c1, by rw [← ea]; exact atI_nat hx', ?_⟩⟩
          refine ⟨_, rfl, p, _, rfl, pg_at p1, _, _, rfl, rfl, _, rfl, p, _, rfl, pp_at p1, ?_⟩
          have b2 : But p H (upd H1 p (.dK (penKV c (a + 1) d (cn + 1) f))) := b1.trans rd_but
          have c2 := rd_upd (o := .dK (penKV c (a + 1) d (cn + 1) f)) p1 c1
          have p2 : (upd H1 p (.dK (penKV c (a + 1) d (cn + 1) f))) p = some (.dK (penKV c (a + 1) d (cn + 1) f)) := upd_same
          generalize upd H1 p (.dK (penKV c (a + 1) d (cn + 1) f)) = H2 at b2 c2 p2
          refine ⟨_, rfl, _, _, rfl, rfl, ⟨by decide, by decide, by decide⟩, _, _, rfl, rfl, _, rfl, ?_⟩
          refine ite2 (fun hg => ?_) (fun hg => ?_)
          · refine ⟨_, rfl, _, _, rfl, rfl, ⟨by decide, by decide, by decide⟩, _, _, rfl, rfl, _, rfl, p, _, rfl, pp_dig p2, ?_⟩
            exact ⟨a + 1, _, f, _, rfl, by omega, by have := of_decide_eq_true hg; omega, f0, f1, upd_same, rd_upd p2 c2, b2.trans rd_but⟩
          · refine ⟨_, rfl, p, _, rfl, pg_fold p2, _, _, rfl, rfl, .inl ⟨by omega, by omega⟩, _, rfl, _, _, rfl, rfl, .inl ⟨_, rfl, _, _, rfl, rfl, (by show (0 : Int) < 2147483269; decide), _, rfl, p, _, rfl, pp_fold p2, ?_⟩⟩
            exact ⟨a + 1, d, _, _, rfl, by omega, d0, Int.emod_nonneg _ (by decide), Int.lt_trans (Int.emod_lt_of_pos _ (by decide)) (by decide), upd_same, rd_upd p2 c2, b2.trans rd_but⟩
        · exact ⟨a, d, f, _, rfl, a0, d0, f0, f1, p1, c1, b1⟩
      · exact ⟨a, d, f, _, rfl, a0, d0, f0, f1, p1, c1, b1⟩
    · rintro σ' H' ⟨a', d', f', o, rfl, a0, d0, f0, f1, p1, c1, b1⟩
      refine ⟨_, rfl, p, _, rfl, pg_dig p1, _, _, rfl, rfl, _, rfl, ?_⟩
      refine ite2 (fun hg => ?_) (fun hg => ?_)
      · -- a digit
        refine ⟨_, rfl, p, _, rfl, pg_dig p1, .inl ⟨_, rfl, _, rfl, _, _, rfl, rfl, m0, ?_⟩⟩
        refine ⟨_, rfl, p, _, rfl, pg_dig p1, _, rfl, _, _, rfl, rfl, ⟨m0, by omega⟩, _, rfl, p, _, rfl, pp_dig p1, ?_⟩
        refine ⟨_, rfl, ?_⟩
        exact k _ _ (Int.emod_nonneg _ (by omega)) (Int.emod_lt_of_pos _ m0) (b1.trans rd_but) ⟨cells, a', _, cn + 1, f', upd_same, rd_upd p1 c1, a0, Int.ediv_nonneg d0 (by omega), by omega, by omega, f0, f1⟩
      · -- the mix
        refine ⟨_, rfl, p, _, rfl, pg_fold p1, _, rfl, p, _, rfl, pg_cnt p1, _, _, rfl, rfl, .inr ⟨by decide, by decide⟩, _, _, rfl, rfl, _, _, rfl, rfl, ?_⟩
        refine ⟨_, rfl, _, _, rfl, rfl, ⟨by decide, by decide, by omega⟩, _, _, rfl, rfl, (by show (0 : Int) < 2305843009213693951; decide), .inl ⟨_, rfl, _, _, rfl, rfl, ⟨by decide, by decide⟩, _, rfl, _, _, rfl, rfl, m0, ?_⟩⟩
        exact k _ _ (Int.emod_nonneg _ (by omega)) (Int.emod_lt_of_pos _ m0) b1 ⟨cells, a', d', cn + 1, f', p1, c1, a0, d0, by omega, by omega, f0, f1⟩
end
end Ag

set_option Elab.async false
set_option linter.all false
set_option maxRecDepth 100000
set_option maxHeartbeats 1000000
/-! The order of alike data over the layer. -/
namespace Ag
open PySem PySem.Spec PyProof.Rows L2
open PySem.W (alike alikeAll dataLt)
def rLtD (K : PySem.W.Frag) : R2 := fun x y H Q => ∃ d e, Dp K H x d ∧ Dp K H y e ∧ alike d e = true ∧ d ≠ .none ∧ min d.depth e.depth ≤ 50 ∧ Q (.bl (dataLt d e)) H
def rGtD (K : PySem.W.Frag) : R2 := fun x y H Q => ∃ d e, Dp K H x d ∧ Dp K H y e ∧ alike d e = true ∧ d ≠ .none ∧ min d.depth e.depth ≤ 50 ∧ Q (.bl (dataLt e d)) H
theorem op_ltD {X : Cx} (hu : X.A.units + 64 < cLine) : OpR X (compareOp .Lt) (rLtD X.K) := by
  intro pins s σ H x y v u Q I rx ry h
  obtain ⟨d, e, hd, he, al, nn, dp, q⟩ := h
  obtain ⟨as, r1⟩ := Dp.reads I d x v hd rx
  obtain ⟨bs, r2⟩ := Dp.reads I e y u he ry
  exact PySem.W.lt_data r1 r2 al nn (by omega) ⟨.bl _, H, I, rfl, q⟩
theorem op_gtD {X : Cx} (hu : X.A.units + 64 < cLine) : OpR X (compareOp .Gt) (rGtD X.K) := by
  intro pins s σ H x y v u Q I rx ry h
  obtain ⟨d, e, hd, he, al, nn, dp, q⟩ := h
  obtain ⟨as, r1⟩ := Dp.reads I d x v hd rx
  obtain ⟨bs, r2⟩ := Dp.reads I e y u he ry
  exact PySem.W.gt_data r1 r2 al nn (by omega) ⟨.bl _, H, I, rfl, q⟩
theorem alike_strs : ∀ (xs ys : List Str), alikeAll (xs.map .str) (ys.map .str) = true
  | [], _ => by simp [alikeAll]
  | _ :: _, [] => by simp [alikeAll]
  | x :: xs, y :: ys => by
    simp only [List.map_cons, alikeAll, Bool.and_eq_true]
    exact ⟨by simp [alike], alike_strs xs ys⟩
section
variable {K : PySem.W.Frag} {σ : L2.St} {F : Addr → Prop} {H : Hp} {ta tb : TE} {d e : PyData}
theorem ed_ltD (ha : ED K ta σ F H d) (hb : ED K tb σ F H e) (h1 : alike d e = true) (h2 : d ≠ .none) (h3 : min d.depth e.depth ≤ 50) : ED K (tOp (rLtD K) ta tb) σ F H (.bool (dataLt d e)) :=
  ed_op ha hb fun F x y H1 hx hy Q q => ⟨d, e, df_dp hx, df_dp hy, h1, h2, h3, q _ _ (Same.refl _) (.bl _)⟩
theorem ed_gtD (ha : ED K ta σ F H d) (hb : ED K tb σ F H e) (h1 : alike d e = true) (h2 : d ≠ .none) (h3 : min d.depth e.depth ≤ 50) : ED K (tOp (rGtD K) ta tb) σ F H (.bool (dataLt e d)) :=
  ed_op ha hb fun F x y H1 hx hy Q q => ⟨d, e, df_dp hx, df_dp hy, h1, h2, h3, q _ _ (Same.refl _) (.bl _)⟩
end
theorem strs_depth : ∀ (xs : List Str), PyData.depthAll (xs.map .str) ≤ 1
  | [] => by simp [PyData.depthAll]
  | x :: xs => by
    have := strs_depth xs
    simp only [List.map_cons, PyData.depthAll, PyData.depth]
    omega
end Ag

set_option Elab.async false
set_option linter.all false
set_option maxRecDepth 100000
set_option maxHeartbeats 1000000
/-! Either of two promises; the empty dict asked for its kind. -/
namespace Ag
open PySem PySem.Spec PyProof.Rows L2
/-- a promise that holds where one of two does -/
def spOr (sp sp' : Sp) : Sp := fun vs H Q E => sp vs H Q E ∨ sp' vs H Q E
theorem fn_or {P : Program} {w : World} {K : PySem.W.Frag} {mg : Str → Option Value} {base : Heap} {CX : CXT} {k : Nat} {f : Addr} {fd : FuncData} {ps : List Str} {sp sp' : Sp} (F : FnOk P w K mg base CX k f fd ps sp) (G : FnOk P w K mg base CX k f fd ps sp') :
    FnOk P w K mg base CX k f fd ps (spOr sp sp') :=
  ⟨fun vs H Q E q => q.elim (F.len vs H Q E) (G.len vs H Q E), fun A outer s H args us vs Q E hr he hb hv hs => hs.elim (fun z => F.run A outer s H args us vs Q E hr he hb hv z) (fun z => G.run A outer s H args us vs Q E hr he hb hv z)⟩
section
variable {K : PySem.W.Frag} {σ : L2.St} {F : Addr → Prop} {H : Hp}
theorem kit_dict {T : String} (hT : T = "str" ∨ T = "tuple" ∨ T = "list" ∨ T = "int" ∨ T = "bool") : PySem.W.kitOne K (.type "dict") (.type T) = some false := by
  rcases hT with rfl | rfl | rfl | rfl | rfl
  · exact kit_ty (show kitB "dict" "str" = some false by decide +kernel)
  · exact kit_ty (show kitB "dict" "tuple" = some false by decide +kernel)
  · exact kit_ty (show kitB "dict" "list" = some false by decide +kernel)
  · exact kit_ty (show kitB "dict" "int" = some false by decide +kernel)
  · exact kit_ty (show kitB "dict" "bool" = some false by decide +kernel)
theorem ed_isiE {i : Nat} {a : Addr} {T : String} (h : σ[i]? = some (some (.ref a))) (ha : H a = some (.dK [])) (hT : T = "str" ∨ T = "tuple" ∨ T = "list" ∨ T = "int" ∨ T = "bool") :
    ED K (tCB (rIsi K) (tCons (tVar i) (tCons (tC (.ty T)) tNil))) σ F H (.bool false) := fun H1 s Q q =>
  ⟨_, h, .ref a, .ty T, _, _, _, rfl, .ty T, .base (.dK (s _ _ ha)), kit_dict hT, q _ _ (Same.refl _) (.bl _)⟩
theorem dp_strsF {v : V} {xs : List Str} (h : Dp K H v (.tuple (xs.map .str))) : Df K F H v (.tuple (xs.map .str)) := by
  cases h with
  | tup hs r => have := strs_dps r; subst this; exact .tup hs (dfs_strs xs)
end
end Ag

set_option Elab.async false
set_option linter.all false
set_option maxRecDepth 100000
set_option maxHeartbeats 1000000
/-! Texts of plain signs and how long they may be; lists of texts, made and joined anew. -/
namespace Ag
open PySem PySem.Spec PyProof.Rows L2
/-- plain signs, at most n of them -/
def As (n : Nat) (x : Str) : Prop := (∀ c ∈ x.cps.toList, c < 128) ∧ x.length ≤ n
theorem As.more {m n : Nat} {x : Str} (h : As m x) (l : m ≤ n) : As n x := ⟨h.1, Nat.le_trans h.2 l⟩
theorem as_cat {m n : Nat} {x y : Str} (h : As m x) (k : As n y) : As (m + n) (x ++ y) := by
  refine ⟨fun c hc => ?_, by rw [Str.length_append]; exact Nat.add_le_add h.2 k.2⟩
  have e : (x ++ y).cps.toList = x.cps.toList ++ y.cps.toList := TL.tl_append x y
  rw [e] at hc
  exact (List.mem_append.mp hc).elim (h.1 c) (k.1 c)
theorem as_cut {n : Nat} {x : Str} {lo hi : Option Int} (h : As n x) : As n (cutS x lo hi) := by
  have e : (cutS x lo hi).cps.toList = (x.cps.toList.drop (HT.sIx x.length 0 lo)).take (HT.sIx x.length x.length hi - HT.sIx x.length 0 lo) := by
    unfold cutS; simp
  refine ⟨fun c hc => h.1 c ?_, ?_⟩
  · rw [e] at hc; exact List.mem_of_mem_drop (List.mem_of_mem_take hc)
  · show (cutS x lo hi).cps.size ≤ n
    rw [← Array.length_toList, e, List.length_take, List.length_drop, Array.length_toList]
    have : x.cps.size ≤ n := h.2
    omega
theorem up1_lt : ∀ c, c < 128 → PyProof.Rows.up1 c < 128 := by decide +kernel
theorem as_upper {n : Nat} {x : Str} (h : As n x) : As n (Txt.upper x) := by
  rw [PyProof.Rows.upper_ascii h.1]
  refine ⟨fun c hc => ?_, ?_⟩
  · have hc : c ∈ (x.cps.map PyProof.Rows.up1).toList := hc
    rw [Array.toList_map] at hc
    obtain ⟨b, hb, rfl⟩ := List.mem_map.mp hc
    exact up1_lt b (h.1 b hb)
  · show (x.cps.map PyProof.Rows.up1).size ≤ n
    rw [Array.size_map]; exact h.2
/-- a checked text -/
def asB (n : Nat) (x : Str) : Bool := x.cps.toList.all (fun c => decide (c < 128)) && decide (x.length ≤ n)
theorem as_of {n : Nat} {x : Str} (h : asB n x = true) : As n x := by
  unfold asB at h
  obtain ⟨h1, h2⟩ := Bool.and_eq_true_iff.mp h
  exact ⟨fun c hc => of_decide_eq_true (List.all_eq_true.mp h1 c hc), of_decide_eq_true h2⟩
theorem as_join {s : Str} {n m : Nat} (hs : As m s) : ∀ {xs : List Str}, (∀ x ∈ xs, As n x) → As (xs.length * (n + m)) (Str.join s xs)
  | [], _ => ⟨fun c hc => absurd hc (List.not_mem_nil), (Nat.zero_le _)⟩
  | [x], h => ((h x List.mem_cons_self).more (by simp))
  | x :: y :: r, h => by
    have i := as_join hs (xs := y :: r) fun z hz => h z (List.mem_cons_of_mem _ hz)
    have e : Str.join s (x :: y :: r) = x ++ s ++ Str.join s (y :: r) := rfl
    rw [e]
    refine (as_cat (as_cat (h x List.mem_cons_self) hs) i).more ?_
    simp only [List.length_cons, Nat.add_mul, Nat.one_mul]; omega
section
variable {K : PySem.W.Frag} {σ : L2.St} {F : Addr → Prop} {H : Hp} {te ta tb : TE} {d e : PyData}
theorem ed_slS {x : Str} {tl th : TO} {lo hi : Option Int} (h : ED K te σ F H (.str x)) (hx : x.length ≤ 100000) (hl : EO tl σ H lo) (hh : EO th σ H hi) : ED K (tSl rSlS te tl th) σ F H (.str (cutS x lo hi)) := fun H1 s Q q =>
  h H1 s _ fun v H2 s2 hv => by
    cases hv
    refine hl H2 (s.trans s2) _ fun H3 s3 => hh H3 ((s.trans s2).trans s3) _ fun H4 s4 => ?_
    exact ⟨x, rfl, small5 hx, q _ _ ((s2.trans s3).trans s4) (.str _)⟩
theorem ed_upper {x : Str} (h : ED K te σ F H (.str x)) (hx : x.length ≤ 100000) : ED K (tM0 (fun x xs H Q => ∃ a, x = .str a ∧ xs = [] ∧ a.length ≤ 5592405 ∧ Q (.str (Txt.upper a)) H) te) σ F H (.str (Txt.upper x)) := fun H1 s Q q =>
  h H1 s _ fun v H2 s2 hv => by
    cases hv
    exact ⟨⟨x, rfl⟩, x, rfl, rfl, by omega, q _ _ s2 (.str _)⟩
/-- gives a list of these texts -/
def EL (te : TE) (σ : L2.St) (H : Hp) (xs : List Str) : Prop := ∀ H1, Same H H1 → ∀ Q : VK, (∀ p H2, Same H1 H2 → H2 p = some (.lst (xs.map V.str)) → Q (.ref p) H2) → te σ H1 Q
theorem EL.mono {H' : Hp} {xs : List Str} (s : Same H H') (h : EL te σ H xs) : EL te σ H' xs := fun H1 a Q q => h H1 (s.trans a) Q q
theorem el_var {i : Nat} {p : Addr} {xs : List Str} (h : σ[i]? = some (some (.ref p))) (hp : H p = some (.lst (xs.map V.str))) : EL (tVar i) σ H xs := fun H1 s Q q => ⟨_, h, q p H1 (Same.refl _) (s _ _ hp)⟩
theorem el_cat {xs ys : List Str} (ha : EL ta σ H xs) (hb : EL tb σ H ys) (hl : xs.length + ys.length ≤ 100000) : EL (tOp rCat ta tb) σ H (xs ++ ys) := fun H1 s Q q =>
  ha H1 s _ fun p H2 s2 hp => hb H2 (s.trans s2) _ fun b H3 s3 hb3 =>
    ⟨p, b, _, _, rfl, rfl, s3 _ _ hp, hb3, by rw [List.length_map, List.length_map]; exact small5 hl, fun l hn => q l _ ((s2.trans s3).trans (Same.newA hn)) (by rw [upd_same, List.map_append])⟩
theorem el_lst {t : TA} {xs : List Str} (h : EA K t σ F H (xs.map .str)) (hl : xs.length ≤ 100000) : EL (tLst t) σ H xs := fun H1 s Q q =>
  h H1 s _ fun vs H2 s2 hv => by
    have e := strs_dps (dfs_dps hv)
    subst e
    exact ⟨by rw [List.length_map]; exact small5 hl, fun p hp => q p _ (s2.trans (Same.newA hp)) upd_same⟩
def cutW (xs : List Str) (lo hi : Option Int) : List Str := (xs.drop (HT.sIx xs.length 0 lo)).take (HT.sIx xs.length xs.length hi - HT.sIx xs.length 0 lo)
theorem cutW_map (xs : List Str) (lo hi : Option Int) : cutV (xs.map V.str) lo hi = (cutW xs lo hi).map V.str := by
  unfold cutV cutW; rw [List.length_map, List.map_take, List.map_drop]
theorem cutW_mem {xs : List Str} {lo hi : Option Int} {x : Str} (h : x ∈ cutW xs lo hi) : x ∈ xs := List.mem_of_mem_drop (List.mem_of_mem_take h)
theorem cutW_len {xs : List Str} {lo hi : Option Int} : (cutW xs lo hi).length ≤ xs.length := by
  unfold cutW; rw [List.length_take, List.length_drop]; omega
theorem el_slice {xs : List Str} {tl th : TO} {lo hi : Option Int} (h : EL te σ H xs) (hl : EO tl σ H lo) (hh : EO th σ H hi) : EL (tSl (rSlL K) te tl th) σ H (cutW xs lo hi) := fun H1 s Q q =>
  h H1 s _ fun p H2 s2 hp => hl H2 (s.trans s2) _ fun H3 s3 => hh H3 ((s.trans s2).trans s3) _ fun H4 s4 =>
    ⟨p, _, rfl, .inl (.inl (s4 _ _ (s3 _ _ hp))), fun l hn => q l _ (((s2.trans s3).trans s4).trans (Same.newA hn)) (by rw [upd_same, cutW_map])⟩
theorem el_rep2 {xs : List Str} {tb : TE} (ha : EL ta σ H xs) (hb : ED K tb σ F H (.int 2)) (hl : xs.length ≤ 50000) : EL (tOp rRep ta tb) σ H (xs ++ xs) := fun H1 s Q q =>
  ha H1 s _ fun p H2 s2 hp => hb H2 (s.trans s2) _ fun b H3 s3 hb3 => by
    cases hb3
    refine ⟨p, 2, _, rfl, rfl, s3 _ _ hp, by decide, by decide, ?_, fun l hn => q l _ ((s2.trans s3).trans (Same.newA hn)) ?_⟩
    · rw [List.length_map]; refine small5 ?_
      show xs.length * 2 ≤ _
      omega
    · rw [upd_same]
      show some (HO.lst (List.replicate 2 (xs.map V.str)).flatten) = _
      rw [List.map_append]; simp [List.replicate]
theorem el_if {t : TT} {b : Bool} {xs ys : List Str} (h : ET t σ H b) (h1 : b = true → EL ta σ H xs) (h2 : b = false → EL tb σ H ys) : EL (tIf t ta tb) σ H (if b then xs else ys) := fun H1 s Q q => h H1 s _ fun H2 s2 => by
  cases b with
  | true => exact h1 rfl H2 (s.trans s2) _ fun p H3 s3 hp => q p H3 (s2.trans s3) hp
  | false => exact h2 rfl H2 (s.trans s2) _ fun p H3 s3 hp => q p H3 (s2.trans s3) hp
end
end Ag

set_option Elab.async false
set_option linter.all false
set_option maxRecDepth 100000
set_option maxHeartbeats 1000000
set_option exponentiation.threshold 2000
namespace Ag
open PySem PySem.Spec PyProof.Rows L2
theorem atI_int {α : Type} {xs : List α} {i : Int} {v : α} (h0 : 0 ≤ i) (h : xs[i.toNat]? = some v) : atI xs i = some v := by
  obtain ⟨k, rfl⟩ : ∃ k : Nat, i = k := ⟨i.toNat, by omega⟩
  exact atI_nat h

/-! ### names, as texts -/
def spPick (K : PySem.W.Frag) : Sp := fun vs H Q _ => ∃ (p c a : Addr) (xs : List V) (n : Nat), vs = [.ref p, .ref a] ∧ Pen p c n H ∧ (SqL K H a xs ∨ SqT K H a xs) ∧ 0 < xs.length ∧ xs.length < 100000 ∧ n < 1000000000000 ∧
  ∀ (i : Nat) v H', xs[i]? = some v → But p H H' → Pen p c (n + 1) H' → Q v H'
theorem seq_at {n : Nat} {i : Int} (h0 : 0 ≤ i) (h1 : i < n) : seqIndex? i n = some i.toNat := (ixN_seq (by unfold ixN; rw [if_pos h0, if_pos h1])).1

theorem merge_pen {c : Addr} {a d n f : Int} : mergeK [] [(ck "cells", V.ref c), (ck "at", .int a), (ck "digits", .int d), (ck "count", .int n), (ck "fold", .int f)] = penKV c a d n f := by
  unfold mergeK
  simp [putK, penKV, ck, sn_cells_at, sn_cells_digits, sn_cells_count, sn_cells_fold, sn_at_digits, sn_at_count, sn_at_fold, sn_digits_count, sn_digits_fold, sn_count_fold]
def spLPen (K : PySem.W.Frag) : Sp := fun vs H Q _ => ∃ (a : Addr) (ns : List Int), vs = [.ref a] ∧ SqL K H a (ns.map V.int) ∧ ns.length ≤ 63 ∧ ∀ p c H', Same H H' → Pen p c 0 H' → Q (.ref p) H'
section
variable {P : Program} {w : World} {K : PySem.W.Frag} {mg : Str → Option Value} {base : Heap} (T : Txt w K mg)
theorem ok_pick : FnOk P w K mg base CX0 2 T.a_law_pick T.d_law_pick ["pen", "some"] (spPick K) := by
  have G_law_draw := ok_draw (P := P) (base := base) T
  refine T.D_law_pick.fn.ok sc_law_pick (fun vs H Q E h => ?_) (fun cdv A outer s H vs Q E hr h => ?_)
  · obtain ⟨p, c, a, xs, n, rfl, _⟩ := h; rfl
  · obtain ⟨p, c, a, xs, n, rfl, hP, hs, x0, x1, n1, k⟩ := h
    refine ⟨_, (pss_one (ps_ret (pe_ix ix_seq (pv 1) (pe_call (G_law_draw) (hr.mono (by omega)) (by rfl) T.D_law_draw.mg T.D_law_draw.fn.kp T.D_law_draw.bd .nil pass0 (pa_cons (pv 0) (pa_cons (pe_callB call_len (by rfl) T.b_len bt_len (pa_cons (pv 1) pa_nil)) pa_nil))) (fun _ _ => rfl)))), ?_⟩
    have hl : LenV K (.ref a) H xs.length := hs.elim (fun z => .inl ⟨_, z, rfl⟩) fun z => .inr ⟨_, z, rfl⟩
    refine ⟨_, rfl, _, rfl, _, rfl, _, _, rfl, hl, p, c, _, n, rfl, hP, by omega, by omega, n1, fun d H1 d0 d1 b1 P1 => ?_⟩
    have hd : d.toNat < xs.length := by omega
    have ed : ((d.toNat : Nat) : Int) = d := by omega
    have hx : xs[d.toNat]? = some xs[d.toNat] := List.getElem?_eq_getElem hd
    rcases hs with hs | hs
    · exact .inl ⟨_, _, _, _, rfl, rfl, hP.sl b1 hs, atI_int d0 hx, k _ _ _ hx b1 P1⟩
    · exact .inr (.inl ⟨_, _, _, _, rfl, rfl, hP.st b1 hs, atI_int d0 hx, k _ _ _ hx b1 P1⟩)

theorem ok_law_pen : FnOk P w K mg base CX0 1 T.a_law_pen T.d_law_pen ["script"] (spLPen K) := by
  refine T.D_law_pen.fn.ok sc_law_pen (fun vs H Q E h => ?_) (fun cdv A outer s H vs Q E hr h => ?_)
  · obtain ⟨a, ns, rfl, _⟩ := h; rfl
  · obtain ⟨a, ns, rfl, hs, hl, k⟩ := h
    refine ⟨_, (pss_cons (ps_set (i := 1) sc_law_pen.nd rfl (by first | exact Or.inl rfl | exact Or.inr rfl) pe_int)
      (pss_cons (ps_for PassesOwn.never rfl (pi_list (pv 0)) (pg_name (i := 2) sc_law_pen.nd rfl (by first | exact Or.inl rfl | exact Or.inr rfl)) (pss_one (ps_set (i := 1) sc_law_pen.nd rfl (by first | exact Or.inl rfl | exact Or.inr rfl) (pe_op op_mod (pe_callTy call_int1 (by rfl) T.b_int bt_int (pa_cons (pe_op op_add (pe_op op_mul (pv 1) pe_int) (pv 2)) pa_nil)) pe_int))))
      (pss_one (ps_ret (pe_disp (pps_cons pe_str (pe_callTy call_list_of (by rfl) T.b_list bt_list (pa_cons (pv 0) pa_nil)) (pps_cons pe_str pe_int (pps_cons pe_str pe_int (pps_cons pe_str pe_int (pps_cons pe_str (pv 1) pps_nil))))) (by rfl) (by rfl) (fun z => by cases z) (by decide)))))), ?_⟩
    refine ⟨_, rfl, a, rfl, ⟨_, hs⟩, for_list (K := K) (a := a) (xs := ns.map V.int) (fun i σ' H' => H' = H ∧ ∃ (f : Int) (o : Option V), σ' = [some (.ref a), some (.int f), o] ∧ 0 ≤ f ∧ f < 1000000411) ⟨rfl, 29, none, rfl, by decide, by decide⟩ (fun i σ' H' _ h => by rw [h.1]; exact hs) ?_ ?_⟩
    · rintro i y σ' H' hi ⟨rfl, f, o, rfl, f0, f1⟩
      obtain ⟨u, rfl⟩ : ∃ u, y = V.int u := by
        rw [List.getElem?_map] at hi
        cases e : ns[i]? with
        | none => rw [e] at hi; cases hi
        | some u => rw [e] at hi; exact ⟨u, (Option.some.inj hi).symm⟩
      refine ⟨_, rfl, _, _, rfl, rfl, .inl ⟨by omega, by omega⟩, _, rfl, _, _, rfl, rfl, .inl ⟨_, rfl, _, _, rfl, rfl, (by show (0 : Int) < 1000000411; decide), ?_⟩⟩
      exact ⟨rfl, _, _, rfl, Int.emod_nonneg _ (by decide), Int.emod_lt_of_pos _ (by decide)⟩
    · rintro σ' H' ⟨rfl, f, o, rfl, f0, f1⟩
      intro p hp
      refine ⟨_, rfl, _, _, rfl, .inl ((Same.newA hp).slA hs), fun c hc => ⟨_, rfl, ?_⟩⟩
      have npc : p ≠ c := ne_of_none upd_same hc
      have s2 : Same H' (upd (upd H' p (.dK [])) c (.lst (ns.map V.int))) := (Same.newA hp).trans (Same.newA hc)
      refine ⟨by rw [upd_ne npc]; exact upd_same, [(ck "cells", V.ref c), (ck "at", .int 0), (ck "digits", .int 0), (ck "count", .int 0), (ck "fold", .int f)], rfl, (by decide : 5 ≤ 15), ?_⟩
      rw [merge_pen]
      refine k p c _ (fun b o e => ?_) ⟨ns, 0, 0, 0, f, upd_same, .inl (by rw [upd_ne (Ne.symm npc)]; exact upd_same), by decide, by decide, by decide, by decide, f0, by omega⟩
      rw [upd_ne (ne_of_none e hp)]; exact s2 _ _ e
end
end Ag

set_option Elab.async false
set_option linter.all false
set_option maxRecDepth 100000
set_option maxHeartbeats 1000000
set_option pp.maxSteps 300
namespace Ag
open PySem PySem.Spec PyProof.Rows L2
/-- an error's __init__: all its fields are set -/
def spEx (C : Addr) (fs : List Str) : Sp := fun vs H Q _ => ∃ (a : Addr) (xs : List V), vs = .ref a :: xs ∧ xs.length = fs.length ∧ H a = some (exo a C none) ∧ ∀ (d : Addr) H', H d = none → d ≠ a → (∀ b o, b ≠ a → H b = some o → H' b = some o) → H' a = some (exo a C (some d)) → H' d = some (exd d (fs.zip xs).reverse) → Q .non H'
section
variable {P : Program} {w : World} {K : PySem.W.Frag} {mg : Str → Option Value} {base : Heap} (T : Txt w K mg)
theorem ok_BadName_init : FnOk P w K mg base CX0 1 T.a_BadName___init__ T.d_BadName___init__ ["self", "name"] (spEx T.C_BadName ["name"]) := by
  refine T.D_BadName___init__.fn.ok sc_BadName___init__ (fun vs H Q E h => ?_) (fun cdv A outer s H vs Q E hr h => ?_)
  · obtain ⟨a, xs, rfl, hl, _⟩ := h
    show xs.length + 1 = 2
    rw [hl]; rfl
  · obtain ⟨a, xs, rfl, hl, ha, k⟩ := h
    obtain ⟨x, rfl⟩ : ∃ x, xs = [x] := by
      match xs, hl with
      | [x], _ => exact ⟨x, rfl⟩
    refine ⟨_, (pss_one (ps_ost (pv 0) (pv 1))), ?_⟩
    refine ⟨_, rfl, _, rfl, a, T.C_BadName, rfl, T.ox_BadName, T.na_BadName_name, .inl ⟨ha, fun d hd nda => ?_⟩⟩
    refine k d _ hd nda (fun b o nb e => ?_) upd_same (by rw [upd_ne nda]; exact upd_same)
    have nbd : b ≠ d := ne_of_none e hd
    rw [upd_ne nb, upd_ne nbd]; exact e
theorem ok_NoName_init : FnOk P w K mg base CX0 1 T.a_NoName___init__ T.d_NoName___init__ ["self", "name"] (spEx T.C_NoName ["name"]) := by
  refine T.D_NoName___init__.fn.ok sc_NoName___init__ (fun vs H Q E h => ?_) (fun cdv A outer s H vs Q E hr h => ?_)
  · obtain ⟨a, xs, rfl, hl, _⟩ := h
    show xs.length + 1 = 2
    rw [hl]; rfl
  · obtain ⟨a, xs, rfl, hl, ha, k⟩ := h
    obtain ⟨x, rfl⟩ : ∃ x, xs = [x] := by
      match xs, hl with
      | [x], _ => exact ⟨x, rfl⟩
    refine ⟨_, (pss_one (ps_ost (pv 0) (pv 1))), ?_⟩
    refine ⟨_, rfl, _, rfl, a, T.C_NoName, rfl, T.ox_NoName, T.na_NoName_name, .inl ⟨ha, fun d hd nda => ?_⟩⟩
    refine k d _ hd nda (fun b o nb e => ?_) upd_same (by rw [upd_ne nda]; exact upd_same)
    have nbd : b ≠ d := ne_of_none e hd
    rw [upd_ne nb, upd_ne nbd]; exact e
theorem ok_TakenName_init : FnOk P w K mg base CX0 1 T.a_TakenName___init__ T.d_TakenName___init__ ["self", "name"] (spEx T.C_TakenName ["name"]) := by
  refine T.D_TakenName___init__.fn.ok sc_TakenName___init__ (fun vs H Q E h => ?_) (fun cdv A outer s H vs Q E hr h => ?_)
  · obtain ⟨a, xs, rfl, hl, _⟩ := h
    show xs.length + 1 = 2
    rw [hl]; rfl
  · obtain ⟨a, xs, rfl, hl, ha, k⟩ := h
    obtain ⟨x, rfl⟩ : ∃ x, xs = [x] := by
      match xs, hl with
      | [x], _ => exact ⟨x, rfl⟩
    refine ⟨_, (pss_one (ps_ost (pv 0) (pv 1))), ?_⟩
    refine ⟨_, rfl, _, rfl, a, T.C_TakenName, rfl, T.ox_TakenName, T.na_TakenName_name, .inl ⟨ha, fun d hd nda => ?_⟩⟩
    refine k d _ hd nda (fun b o nb e => ?_) upd_same (by rw [upd_ne nda]; exact upd_same)
    have nbd : b ≠ d := ne_of_none e hd
    rw [upd_ne nb, upd_ne nbd]; exact e
theorem ok_Unlike_init : FnOk P w K mg base CX0 1 T.a_Unlike___init__ T.d_Unlike___init__ ["self", "what"] (spEx T.C_Unlike ["what"]) := by
  refine T.D_Unlike___init__.fn.ok sc_Unlike___init__ (fun vs H Q E h => ?_) (fun cdv A outer s H vs Q E hr h => ?_)
  · obtain ⟨a, xs, rfl, hl, _⟩ := h
    show xs.length + 1 = 2
    rw [hl]; rfl
  · obtain ⟨a, xs, rfl, hl, ha, k⟩ := h
    obtain ⟨x, rfl⟩ : ∃ x, xs = [x] := by
      match xs, hl with
      | [x], _ => exact ⟨x, rfl⟩
    refine ⟨_, (pss_one (ps_ost (pv 0) (pv 1))), ?_⟩
    refine ⟨_, rfl, _, rfl, a, T.C_Unlike, rfl, T.ox_Unlike, T.na_Unlike_what, .inl ⟨ha, fun d hd nda => ?_⟩⟩
    refine k d _ hd nda (fun b o nb e => ?_) upd_same (by rw [upd_ne nda]; exact upd_same)
    have nbd : b ≠ d := ne_of_none e hd
    rw [upd_ne nb, upd_ne nbd]; exact e
theorem ok_NotThere_init : FnOk P w K mg base CX0 1 T.a_NotThere___init__ T.d_NotThere___init__ ["self", "what"] (spEx T.C_NotThere ["what"]) := by
  refine T.D_NotThere___init__.fn.ok sc_NotThere___init__ (fun vs H Q E h => ?_) (fun cdv A outer s H vs Q E hr h => ?_)
  · obtain ⟨a, xs, rfl, hl, _⟩ := h
    show xs.length + 1 = 2
    rw [hl]; rfl
  · obtain ⟨a, xs, rfl, hl, ha, k⟩ := h
    obtain ⟨x, rfl⟩ : ∃ x, xs = [x] := by
      match xs, hl with
      | [x], _ => exact ⟨x, rfl⟩
    refine ⟨_, (pss_one (ps_ost (pv 0) (pv 1))), ?_⟩
    refine ⟨_, rfl, _, rfl, a, T.C_NotThere, rfl, T.ox_NotThere, T.na_NotThere_what, .inl ⟨ha, fun d hd nda => ?_⟩⟩
    refine k d _ hd nda (fun b o nb e => ?_) upd_same (by rw [upd_ne nda]; exact upd_same)
    have nbd : b ≠ d := ne_of_none e hd
    rw [upd_ne nb, upd_ne nbd]; exact e
theorem ok_BadText_init : FnOk P w K mg base CX0 1 T.a_BadText___init__ T.d_BadText___init__ ["self", "line", "word"] (spEx T.C_BadText ["line", "word"]) := by
  refine T.D_BadText___init__.fn.ok sc_BadText___init__ (fun vs H Q E h => ?_) (fun cdv A outer s H vs Q E hr h => ?_)
  · obtain ⟨a, xs, rfl, hl, _⟩ := h
    show xs.length + 1 = 3
    rw [hl]; rfl
  · obtain ⟨a, xs, rfl, hl, ha, k⟩ := h
    obtain ⟨x, y, rfl⟩ : ∃ x y, xs = [x, y] := by
      match xs, hl with
      | [x, y], _ => exact ⟨x, y, rfl⟩
    refine ⟨_, (pss_cons (ps_ost (pv 0) (pv 1))
      (pss_one (ps_ost (pv 0) (pv 2)))), ?_⟩
    refine ⟨_, rfl, _, rfl, a, T.C_BadText, rfl, T.ox_BadText, T.na_BadText_line, .inl ⟨ha, fun d hd nda => ?_⟩⟩
    refine ⟨_, rfl, _, rfl, a, T.C_BadText, rfl, T.ox_BadText, T.na_BadText_word, .inr ⟨d, [("line", x)], upd_same, by rw [upd_ne nda]; exact upd_same, Nat.le_of_ble_eq_true rfl, ?_⟩⟩
    refine k d _ hd nda (fun b o nb e => ?_) (by rw [upd_ne (Ne.symm nda)]; exact upd_same) upd_same
    have nbd : b ≠ d := ne_of_none e hd
    rw [upd_ne nbd, upd_ne nb, upd_ne nbd]; exact e
theorem ok_BadNumber_init : FnOk P w K mg base CX0 1 T.a_BadNumber___init__ T.d_BadNumber___init__ ["self", "what", "number"] (spEx T.C_BadNumber ["what", "number"]) := by
  refine T.D_BadNumber___init__.fn.ok sc_BadNumber___init__ (fun vs H Q E h => ?_) (fun cdv A outer s H vs Q E hr h => ?_)
  · obtain ⟨a, xs, rfl, hl, _⟩ := h
    show xs.length + 1 = 3
    rw [hl]; rfl
  · obtain ⟨a, xs, rfl, hl, ha, k⟩ := h
    obtain ⟨x, y, rfl⟩ : ∃ x y, xs = [x, y] := by
      match xs, hl with
      | [x, y], _ => exact ⟨x, y, rfl⟩
    refine ⟨_, (pss_cons (ps_ost (pv 0) (pv 1))
      (pss_one (ps_ost (pv 0) (pv 2)))), ?_⟩
    refine ⟨_, rfl, _, rfl, a, T.C_BadNumber, rfl, T.ox_BadNumber, T.na_BadNumber_what, .inl ⟨ha, fun d hd nda => ?_⟩⟩
    refine ⟨_, rfl, _, rfl, a, T.C_BadNumber, rfl, T.ox_BadNumber, T.na_BadNumber_number, .inr ⟨d, [("what", x)], upd_same, by rw [upd_ne nda]; exact upd_same, Nat.le_of_ble_eq_true rfl, ?_⟩⟩
    refine k d _ hd nda (fun b o nb e => ?_) (by rw [upd_ne (Ne.symm nda)]; exact upd_same) upd_same
    have nbd : b ≠ d := ne_of_none e hd
    rw [upd_ne nbd, upd_ne nb, upd_ne nbd]; exact e
theorem ok_BadRow_init : FnOk P w K mg base CX0 1 T.a_BadRow___init__ T.d_BadRow___init__ ["self", "what", "row"] (spEx T.C_BadRow ["what", "row"]) := by
  refine T.D_BadRow___init__.fn.ok sc_BadRow___init__ (fun vs H Q E h => ?_) (fun cdv A outer s H vs Q E hr h => ?_)
  · obtain ⟨a, xs, rfl, hl, _⟩ := h
    show xs.length + 1 = 3
    rw [hl]; rfl
  · obtain ⟨a, xs, rfl, hl, ha, k⟩ := h
    obtain ⟨x, y, rfl⟩ : ∃ x y, xs = [x, y] := by
      match xs, hl with
      | [x, y], _ => exact ⟨x, y, rfl⟩
    refine ⟨_, (pss_cons (ps_ost (pv 0) (pv 1))
      (pss_one (ps_ost (pv 0) (pv 2)))), ?_⟩
    refine ⟨_, rfl, _, rfl, a, T.C_BadRow, rfl, T.ox_BadRow, T.na_BadRow_what, .inl ⟨ha, fun d hd nda => ?_⟩⟩
    refine ⟨_, rfl, _, rfl, a, T.C_BadRow, rfl, T.ox_BadRow, T.na_BadRow_row, .inr ⟨d, [("what", x)], upd_same, by rw [upd_ne nda]; exact upd_same, Nat.le_of_ble_eq_true rfl, ?_⟩⟩
    refine k d _ hd nda (fun b o nb e => ?_) (by rw [upd_ne (Ne.symm nda)]; exact upd_same) upd_same
    have nbd : b ≠ d := ne_of_none e hd
    rw [upd_ne nbd, upd_ne nb, upd_ne nbd]; exact e
theorem ok_NotKept_init : FnOk P w K mg base CX0 1 T.a_NotKept___init__ T.d_NotKept___init__ ["self", "promise", "witness"] (spEx T.C_NotKept ["promise", "witness"]) := by
  refine T.D_NotKept___init__.fn.ok sc_NotKept___init__ (fun vs H Q E h => ?_) (fun cdv A outer s H vs Q E hr h => ?_)
  · obtain ⟨a, xs, rfl, hl, _⟩ := h
    show xs.length + 1 = 3
    rw [hl]; rfl
  · obtain ⟨a, xs, rfl, hl, ha, k⟩ := h
    obtain ⟨x, y, rfl⟩ : ∃ x y, xs = [x, y] := by
      match xs, hl with
      | [x, y], _ => exact ⟨x, y, rfl⟩
    refine ⟨_, (pss_cons (ps_ost (pv 0) (pv 1))
      (pss_one (ps_ost (pv 0) (pv 2)))), ?_⟩
    refine ⟨_, rfl, _, rfl, a, T.C_NotKept, rfl, T.ox_NotKept, T.na_NotKept_promise, .inl ⟨ha, fun d hd nda => ?_⟩⟩
    refine ⟨_, rfl, _, rfl, a, T.C_NotKept, rfl, T.ox_NotKept, T.na_NotKept_witness, .inr ⟨d, [("promise", x)], upd_same, by rw [upd_ne nda]; exact upd_same, Nat.le_of_ble_eq_true rfl, ?_⟩⟩
    refine k d _ hd nda (fun b o nb e => ?_) (by rw [upd_ne (Ne.symm nda)]; exact upd_same) upd_same
    have nbd : b ≠ d := ne_of_none e hd
    rw [upd_ne nbd, upd_ne nb, upd_ne nbd]; exact e
theorem ok_TooMany_init : FnOk P w K mg base CX0 1 T.a_TooMany___init__ T.d_TooMany___init__ ["self", "what", "many", "limit"] (spEx T.C_TooMany ["what", "many", "limit"]) := by
  refine T.D_TooMany___init__.fn.ok sc_TooMany___init__ (fun vs H Q E h => ?_) (fun cdv A outer s H vs Q E hr h => ?_)
  · obtain ⟨a, xs, rfl, hl, _⟩ := h
    show xs.length + 1 = 4
    rw [hl]; rfl
  · obtain ⟨a, xs, rfl, hl, ha, k⟩ := h
    obtain ⟨x, y, z, rfl⟩ : ∃ x y z, xs = [x, y, z] := by
      match xs, hl with
      | [x, y, z], _ => exact ⟨x, y, z, rfl⟩
    refine ⟨_, (pss_cons (ps_ost (pv 0) (pv 1))
      (pss_cons (ps_ost (pv 0) (pv 2))
      (pss_one (ps_ost (pv 0) (pv 3))))), ?_⟩
    refine ⟨_, rfl, _, rfl, a, T.C_TooMany, rfl, T.ox_TooMany, T.na_TooMany_what, .inl ⟨ha, fun d hd nda => ?_⟩⟩
    refine ⟨_, rfl, _, rfl, a, T.C_TooMany, rfl, T.ox_TooMany, T.na_TooMany_many, .inr ⟨d, [("what", x)], upd_same, by rw [upd_ne nda]; exact upd_same, Nat.le_of_ble_eq_true rfl, ?_⟩⟩
    refine ⟨_, rfl, _, rfl, a, T.C_TooMany, rfl, T.ox_TooMany, T.na_TooMany_limit, .inr ⟨d, [("many", y), ("what", x)], by rw [upd_ne (Ne.symm nda)]; exact upd_same, upd_same, Nat.le_of_ble_eq_true rfl, ?_⟩⟩
    refine k d _ hd nda (fun b o nb e => ?_) (by rw [upd_ne (Ne.symm nda), upd_ne (Ne.symm nda)]; exact upd_same) upd_same
    have nbd : b ≠ d := ne_of_none e hd
    rw [upd_ne nbd, upd_ne nbd, upd_ne nb, upd_ne nbd]; exact e
end
end Ag

set_option Elab.async false
set_option linter.all false
set_option maxRecDepth 100000
set_option maxHeartbeats 1000000
set_option exponentiation.threshold 2000
set_option pp.maxSteps 300
namespace Ag
open PySem PySem.Spec PyProof.Rows L2
/-- the values that the law draws from -/
def valsD : List PyData := [.str "", .str "a", .int 0, .int (-1), .bool true, .none, .tuple [], .tuple [.str "a", .int 1], .list [.int 1, .str "b"], .list [], .int (10 ^ 40), .tuple [.tuple [.str "x", .int 2], .none]]
def spVal (K : PySem.W.Frag) : Sp := fun vs H Q _ => ∃ (p c : Addr) (n : Nat), vs = [.ref p] ∧ Pen p c n H ∧ n < 1000000 ∧ ∀ v d H', Dp K H' v d → d ∈ valsD → But p H H' → Pen p c (n + 1) H' → Q v H'
section
variable {P : Program} {w : World} {K : PySem.W.Frag} {mg : Str → Option Value} {base : Heap} (T : Txt w K mg)
theorem ok_law_value : FnOk P w K mg base CX0 3 T.a_law_value T.d_law_value ["pen"] (spVal K) := by
  have G_law_pick := ok_pick (P := P) (base := base) T
  refine T.D_law_value.fn.ok sc_law_value (fun vs H Q E h => ?_) (fun cdv A outer s H vs Q E hr h => ?_)
  · obtain ⟨p, c, n, rfl, _⟩ := h; rfl
  · obtain ⟨p, c, n, rfl, hP, nb, k⟩ := h
    refine ⟨_, (pss_one (ps_ret (pe_call (G_law_pick) (hr.mono (by omega)) (by rfl) T.D_law_pick.mg T.D_law_pick.fn.kp T.D_law_pick.bd .nil pass0 (pa_cons (pv 0) (pa_cons (pe_lst (pa_cons pe_str (pa_cons pe_str (pa_cons pe_int (pa_cons (pe_un un_neg pe_int) (pa_cons pe_bl (pa_cons pe_non (pa_cons (pe_tup pa_nil) (pa_cons (pe_tup (pa_cons pe_str (pa_cons pe_int pa_nil))) (pa_cons (pe_lst (pa_cons pe_int (pa_cons pe_str pa_nil))) (pa_cons (pe_lst pa_nil) (pa_cons (pe_op op_pow pe_int pe_int) (pa_cons (pe_tup (pa_cons (pe_tup (pa_cons pe_str (pa_cons pe_int pa_nil))) (pa_cons pe_non pa_nil))) pa_nil))))))))))))) pa_nil))))), ?_⟩
    refine ⟨_, rfl, ?_⟩
    refine ⟨1, rfl, ?_⟩
    refine ⟨(by show 0 ≤ sizeLine; decide), fun t1 h1 => ⟨(by show 2 ≤ sizeLine; decide), fun t2 h2 => ⟨(by show 2 ≤ sizeLine; decide), fun t3 h3 => ⟨(by show 0 ≤ sizeLine; decide), fun t4 h4 => ?_⟩⟩⟩⟩
    refine ⟨10, 40, rfl, rfl, by unfold CPow; decide +kernel, (by show 2 ≤ sizeLine; decide), fun t5 h5 => ⟨(by show 2 ≤ sizeLine; decide), fun t6 h6 => ⟨(by show 12 ≤ sizeLine; decide), fun t7 h7 => ?_⟩⟩⟩
    generalize hA1 : upd H t1 (HO.tup []) = A1 at h2 h3 h4 h5 h6 h7
    have f1 : A1 t1 = some (.tup []) := by rw [← hA1]; exact upd_same
    have s1 : Same H A1 := by rw [← hA1]; exact Same.newA h1
    generalize hA2 : upd A1 t2 (HO.tup [V.str "a", V.int 1]) = A2 at h3 h4 h5 h6 h7
    have f2 : A2 t2 = some (.tup [V.str "a", V.int 1]) := by rw [← hA2]; exact upd_same
    have s2 : Same A1 A2 := by rw [← hA2]; exact Same.newA h2
    generalize hA3 : upd A2 t3 (HO.lst [V.int 1, V.str "b"]) = A3 at h4 h5 h6 h7
    have f3 : A3 t3 = some (.lst [V.int 1, V.str "b"]) := by rw [← hA3]; exact upd_same
    have s3 : Same A2 A3 := by rw [← hA3]; exact Same.newA h3
    generalize hA4 : upd A3 t4 (HO.lst []) = A4 at h5 h6 h7
    have f4 : A4 t4 = some (.lst []) := by rw [← hA4]; exact upd_same
    have s4 : Same A3 A4 := by rw [← hA4]; exact Same.newA h4
    generalize hA5 : upd A4 t5 (HO.tup [V.str "x", V.int 2]) = A5 at h6 h7
    have f5 : A5 t5 = some (.tup [V.str "x", V.int 2]) := by rw [← hA5]; exact upd_same
    have s5 : Same A4 A5 := by rw [← hA5]; exact Same.newA h5
    generalize hA6 : upd A5 t6 (HO.tup [V.ref t5, V.non]) = A6 at h7
    have f6 : A6 t6 = some (.tup [V.ref t5, V.non]) := by rw [← hA6]; exact upd_same
    have s6 : Same A5 A6 := by rw [← hA6]; exact Same.newA h6
    let L : List V := [.str "", .str "a", .int 0, .int (-1), .bl true, .non, .ref t1, .ref t2, .ref t3, .ref t4, .int (10 ^ 40), .ref t6]
    have hL : L.length = 12 := rfl
    have s7 : Same A6 (upd A6 t7 (.lst L)) := Same.newA h7
    have g6 := s6.trans s7
    have g5 := s5.trans g6
    have g4 := s4.trans g5
    have g3 := s3.trans g4
    have g2 := s2.trans g3
    have g1 := s1.trans g2
    have PA := hP.same g1
    refine ⟨p, c, t7, L, n, rfl, PA, .inl (.of upd_same), (by rw [hL]; decide), (by rw [hL]; decide), by omega, fun y v H' hv b P' => ?_⟩
    have bb := (But.of g1).trans b
    have at_ : ∀ {x : Addr} {o : HO}, (upd A6 t7 (HO.lst L)) x = some o → (∀ kvs, o ≠ .dK kvs) → H' x = some o := fun {x o} hx no => b _ _ (PA.ne hx no) hx
    match y, hv with
    | 0, hv => cases hv; exact k _ (.str "") _ (.str _) (by simp [valsD]) bb P'
    | 1, hv => cases hv; exact k _ (.str "a") _ (.str _) (by simp [valsD]) bb P'
    | 2, hv => cases hv; exact k _ (.int 0) _ (.int _) (by simp [valsD]) bb P'
    | 3, hv => cases hv; exact k _ (.int (-1)) _ (.int _) (by simp [valsD]) bb P'
    | 4, hv => cases hv; exact k _ (.bool true) _ (.bl _) (by simp [valsD]) bb P'
    | 5, hv => cases hv; exact k _ .none _ .non (by simp [valsD]) bb P'
    | 6, hv => cases hv; exact k _ (.tuple []) _ (.tup (.of (at_ (g2 _ _ f1) (fun _ z => nomatch z))) .nil) (by simp [valsD]) bb P'
    | 7, hv => cases hv; exact k _ (.tuple [.str "a", .int 1]) _ (.tup (.of (at_ (g3 _ _ f2) (fun _ z => nomatch z))) (.cons (.str _) (.cons (.int _) .nil))) (by simp [valsD]) bb P'
    | 8, hv => cases hv; exact k _ (.list [.int 1, .str "b"]) _ (.lst (.inl (.inl (at_ (g4 _ _ f3) (fun _ z => nomatch z)))) (.cons (.int _) (.cons (.str _) .nil))) (by simp [valsD]) bb P'
    | 9, hv => cases hv; exact k _ (.list []) _ (.lst (.inl (.inl (at_ (g5 _ _ f4) (fun _ z => nomatch z)))) .nil) (by simp [valsD]) bb P'
    | 10, hv => cases hv; exact k _ (.int (10 ^ 40)) _ (.int _) (by simp [valsD]) bb P'
    | 11, hv => cases hv; exact k _ (.tuple [.tuple [.str "x", .int 2], .none]) _ (.tup (.of (at_ (s7 _ _ f6) (fun _ z => nomatch z))) (.cons (.tup (.of (at_ (g6 _ _ f5) (fun _ z => nomatch z))) (.cons (.str _) (.cons (.int _) .nil))) (.cons .non .nil))) (by simp [valsD]) bb P'
end
end Ag

set_option Elab.async false
set_option linter.all false
set_option maxRecDepth 100000
set_option maxHeartbeats 1000000
set_option pp.maxSteps 300
namespace Ag
open PySem PySem.Spec PyProof.Rows L2
/-- the error at a bears the field f, with the value v -/
def FieldAt (K : PySem.W.Frag) (H : Hp) (a : Addr) (f : Str) (v : V) : Prop := ∃ (C dd : Addr) (fs : List (Str × V)), H a = some (exo a C (some dd)) ∧ H dd = some (exd dd fs) ∧ fs.lookup f = some v ∧ XfC K C ∧ PySem.W.findIn K (.ref C) f = some none
theorem FieldAt.same {K : PySem.W.Frag} {H H' : Hp} {a : Addr} {f : Str} {v : V} (s : Same H H') : FieldAt K H a f v → FieldAt K H' a f v := fun ⟨C, dd, fs, h1, h2, h3⟩ => ⟨C, dd, fs, s _ _ h1, s _ _ h2, h3⟩
def fieldNs : List Str := ["line", "word", "name", "what", "number", "row", "many", "limit", "promise", "witness"]
def spFields (K : PySem.W.Frag) : Sp := fun vs H Q _ => ∃ (a l : Addr) (ns : List Str) (us : List V), vs = [.ref a, .ref l] ∧ SqL K H l (ns.map V.str) ∧ ns.length = us.length ∧ ns.length ≤ 10 ∧ (∀ (i : Nat) (x : Str), ns[i]? = some x → x ∈ fieldNs ∧ ∃ v, us[i]? = some v ∧ FieldAt K H a x v) ∧ ∀ q H', Same H H' → H' q = some (.lst us) → Q (.ref q) H'
section
variable {P : Program} {w : World} {K : PySem.W.Frag} {mg : Str → Option Value} {base : Heap} (T : Txt w K mg)
theorem ok_law_fields : FnOk P w K mg base CX0 1 T.a_law_fields T.d_law_fields ["one", "names"] (spFields K) := by
  refine T.D_law_fields.fn.ok sc_law_fields (fun vs H Q E h => ?_) (fun cdv A outer s H vs Q E hr h => ?_)
  · obtain ⟨a, l, ns, us, rfl, _⟩ := h; rfl
  · obtain ⟨a, l, ns, us, rfl, hl, hlen, h10, hf, k⟩ := h
    refine ⟨_, (pss_cons (ps_set (i := 2) sc_law_fields.nd rfl (by first | exact Or.inl rfl | exact Or.inr rfl) (pe_lst pa_nil))
      (pss_cons (ps_for PassesOwn.never rfl (pi_list (pv 1)) (pg_name (i := 3) sc_law_fields.nd rfl (by first | exact Or.inl rfl | exact Or.inr rfl)) (pss_one (ps_if (pt_cmpR op_eq (pv 3) pe_str (nomark _)) (pss_one (ps_expr (pe_bm PySem.F.plainAttrs_list PySem.F.slot_list_append PySem.F.type_list_append mt_append (pv 2) (pa_cons (pe_xo (pv 0)) pa_nil)))) (pss_one (ps_if (pt_cmpR op_eq (pv 3) pe_str (nomark _)) (pss_one (ps_expr (pe_bm PySem.F.plainAttrs_list PySem.F.slot_list_append PySem.F.type_list_append mt_append (pv 2) (pa_cons (pe_xo (pv 0)) pa_nil)))) (pss_one (ps_if (pt_cmpR op_eq (pv 3) pe_str (nomark _)) (pss_one (ps_expr (pe_bm PySem.F.plainAttrs_list PySem.F.slot_list_append PySem.F.type_list_append mt_append (pv 2) (pa_cons (pe_xo (pv 0)) pa_nil)))) (pss_one (ps_if (pt_cmpR op_eq (pv 3) pe_str (nomark _)) (pss_one (ps_expr (pe_bm PySem.F.plainAttrs_list PySem.F.slot_list_append PySem.F.type_list_append mt_append (pv 2) (pa_cons (pe_xo (pv 0)) pa_nil)))) (pss_one (ps_if (pt_cmpR op_eq (pv 3) pe_str (nomark _)) (pss_one (ps_expr (pe_bm PySem.F.plainAttrs_list PySem.F.slot_list_append PySem.F.type_list_append mt_append (pv 2) (pa_cons (pe_xo (pv 0)) pa_nil)))) (pss_one (ps_if (pt_cmpR op_eq (pv 3) pe_str (nomark _)) (pss_one (ps_expr (pe_bm PySem.F.plainAttrs_list PySem.F.slot_list_append PySem.F.type_list_append mt_append (pv 2) (pa_cons (pe_xo (pv 0)) pa_nil)))) (pss_one (ps_if (pt_cmpR op_eq (pv 3) pe_str (nomark _)) (pss_one (ps_expr (pe_bm PySem.F.plainAttrs_list PySem.F.slot_list_append PySem.F.type_list_append mt_append (pv 2) (pa_cons (pe_xo (pv 0)) pa_nil)))) (pss_one (ps_if (pt_cmpR op_eq (pv 3) pe_str (nomark _)) (pss_one (ps_expr (pe_bm PySem.F.plainAttrs_list PySem.F.slot_list_append PySem.F.type_list_append mt_append (pv 2) (pa_cons (pe_xo (pv 0)) pa_nil)))) (pss_one (ps_if (pt_cmpR op_eq (pv 3) pe_str (nomark _)) (pss_one (ps_expr (pe_bm PySem.F.plainAttrs_list PySem.F.slot_list_append PySem.F.type_list_append mt_append (pv 2) (pa_cons (pe_xo (pv 0)) pa_nil)))) (pss_one (ps_expr (pe_bm PySem.F.plainAttrs_list PySem.F.slot_list_append PySem.F.type_list_append mt_append (pv 2) (pa_cons (pe_xo (pv 0)) pa_nil)))))))))))))))))))))))
      (pss_one (ps_ret (pv 2))))), ?_⟩
    refine ⟨(by show 0 ≤ sizeLine; decide), fun q hq => ?_⟩
    refine ⟨_, rfl, l, rfl, ⟨_, (Same.newA hq).slA hl⟩, for_list (K := K) (a := l) (xs := ns.map V.str) (fun i σ' H' => ∃ o3, σ' = [some (.ref a), some (.ref l), some (.ref q), o3] ∧ Same H H' ∧ H' q = some (.lst (us.take i))) ⟨none, rfl, Same.newA hq, upd_same⟩ ?_ ?_ ?_⟩
    · rintro i σ' H' _ ⟨_, _, s1, _⟩
      exact s1.slA hl
    · rintro i x σ' H' hx ⟨o3, rfl, s1, eq⟩
      obtain ⟨z, hz, rfl⟩ : ∃ z, ns[i]? = some z ∧ x = .str z := by
        rw [List.getElem?_map] at hx
        cases hn : ns[i]? with
        | none => rw [hn] at hx; cases hx
        | some z => rw [hn] at hx; cases hx; exact ⟨z, rfl, rfl⟩
      obtain ⟨hm, v, hv, hF⟩ := hf i z hz
      have lu : (us.take i).length ≤ 10 := by rw [List.length_take]; omega
      have etk : us.take (i + 1) = us.take i ++ [v] := by rw [List.take_succ, hv]; rfl
      have zt : ∀ (f : Str) H2, ET (tTest (tOp rEq (tVar 3) (tC (.str f)))) [some (.ref a), some (.ref l), some (.ref q), some (.str z)] H2 (decide (z = f)) := fun f H2 => et_test (ed_eqS (K := K) (F := nn H2) (ed_var rfl (.str z)) ed_str)
      have keep : ∀ {H2 : Hp}, Same H' H2 → ∀ b o, H b = some o → upd H2 q (HO.lst (us.take i ++ [v])) b = some o := fun {H2} s2 b o hb => by
        rw [upd_ne (ne_of_none hb hq)]; exact (s1.trans s2) _ _ hb
      refine s_if (zt "line" _) (fun hb H2 s2 => ?_) (fun n0 H50 s50 => ?_)
      · have ez := of_decide_eq_true hb
        subst ez
        obtain ⟨C, dd, fs, e1, e2, e3, e4, e5⟩ := hF.same (s1.trans s2)
        refine ⟨_, rfl, .inl ⟨rfl, _, SqL.of (s2 _ _ eq)⟩, _, rfl, a, C, dd, fs, v, rfl, e1, e2, e3, e4, e5, _, _, _, rfl, rfl, s2 _ _ eq, lt5 (by omega), ?_⟩
        exact ⟨some (.str _), rfl, keep s2, by rw [etk]; exact upd_same⟩
      have t0 : Same H' H50 := s50
      refine s_if (zt "word" _) (fun hb H2 s2 => ?_) (fun n1 H51 s51 => ?_)
      · have ez := of_decide_eq_true hb
        subst ez
        obtain ⟨C, dd, fs, e1, e2, e3, e4, e5⟩ := hF.same (s1.trans (t0.trans s2))
        refine ⟨_, rfl, .inl ⟨rfl, _, SqL.of ((t0.trans s2) _ _ eq)⟩, _, rfl, a, C, dd, fs, v, rfl, e1, e2, e3, e4, e5, _, _, _, rfl, rfl, (t0.trans s2) _ _ eq, lt5 (by omega), ?_⟩
        exact ⟨some (.str _), rfl, keep (t0.trans s2), by rw [etk]; exact upd_same⟩
      have t1 : Same H' H51 := t0.trans s51
      refine s_if (zt "name" _) (fun hb H2 s2 => ?_) (fun n2 H52 s52 => ?_)
      · have ez := of_decide_eq_true hb
        subst ez
        obtain ⟨C, dd, fs, e1, e2, e3, e4, e5⟩ := hF.same (s1.trans (t1.trans s2))
        refine ⟨_, rfl, .inl ⟨rfl, _, SqL.of ((t1.trans s2) _ _ eq)⟩, _, rfl, a, C, dd, fs, v, rfl, e1, e2, e3, e4, e5, _, _, _, rfl, rfl, (t1.trans s2) _ _ eq, lt5 (by omega), ?_⟩
        exact ⟨some (.str _), rfl, keep (t1.trans s2), by rw [etk]; exact upd_same⟩
      have t2 : Same H' H52 := t1.trans s52
      refine s_if (zt "what" _) (fun hb H2 s2 => ?_) (fun n3 H53 s53 => ?_)
      · have ez := of_decide_eq_true hb
        subst ez
        obtain ⟨C, dd, fs, e1, e2, e3, e4, e5⟩ := hF.same (s1.trans (t2.trans s2))
        refine ⟨_, rfl, .inl ⟨rfl, _, SqL.of ((t2.trans s2) _ _ eq)⟩, _, rfl, a, C, dd, fs, v, rfl, e1, e2, e3, e4, e5, _, _, _, rfl, rfl, (t2.trans s2) _ _ eq, lt5 (by omega), ?_⟩
        exact ⟨some (.str _), rfl, keep (t2.trans s2), by rw [etk]; exact upd_same⟩
      have t3 : Same H' H53 := t2.trans s53
      refine s_if (zt "number" _) (fun hb H2 s2 => ?_) (fun n4 H54 s54 => ?_)
      · have ez := of_decide_eq_true hb
        subst ez
        obtain ⟨C, dd, fs, e1, e2, e3, e4, e5⟩ := hF.same (s1.trans (t3.trans s2))
        refine ⟨_, rfl, .inl ⟨rfl, _, SqL.of ((t3.trans s2) _ _ eq)⟩, _, rfl, a, C, dd, fs, v, rfl, e1, e2, e3, e4, e5, _, _, _, rfl, rfl, (t3.trans s2) _ _ eq, lt5 (by omega), ?_⟩
        exact ⟨some (.str _), rfl, keep (t3.trans s2), by rw [etk]; exact upd_same⟩
      have t4 : Same H' H54 := t3.trans s54
      refine s_if (zt "row" _) (fun hb H2 s2 => ?_) (fun n5 H55 s55 => ?_)
      · have ez := of_decide_eq_true hb
        subst ez
        obtain ⟨C, dd, fs, e1, e2, e3, e4, e5⟩ := hF.same (s1.trans (t4.trans s2))
        refine ⟨_, rfl, .inl ⟨rfl, _, SqL.of ((t4.trans s2) _ _ eq)⟩, _, rfl, a, C, dd, fs, v, rfl, e1, e2, e3, e4, e5, _, _, _, rfl, rfl, (t4.trans s2) _ _ eq, lt5 (by omega), ?_⟩
        exact ⟨some (.str _), rfl, keep (t4.trans s2), by rw [etk]; exact upd_same⟩
      have t5 : Same H' H55 := t4.trans s55
      refine s_if (zt "many" _) (fun hb H2 s2 => ?_) (fun n6 H56 s56 => ?_)
      · have ez := of_decide_eq_true hb
        subst ez
        obtain ⟨C, dd, fs, e1, e2, e3, e4, e5⟩ := hF.same (s1.trans (t5.trans s2))
        refine ⟨_, rfl, .inl ⟨rfl, _, SqL.of ((t5.trans s2) _ _ eq)⟩, _, rfl, a, C, dd, fs, v, rfl, e1, e2, e3, e4, e5, _, _, _, rfl, rfl, (t5.trans s2) _ _ eq, lt5 (by omega), ?_⟩
        exact ⟨some (.str _), rfl, keep (t5.trans s2), by rw [etk]; exact upd_same⟩
      have t6 : Same H' H56 := t5.trans s56
      refine s_if (zt "limit" _) (fun hb H2 s2 => ?_) (fun n7 H57 s57 => ?_)
      · have ez := of_decide_eq_true hb
        subst ez
        obtain ⟨C, dd, fs, e1, e2, e3, e4, e5⟩ := hF.same (s1.trans (t6.trans s2))
        refine ⟨_, rfl, .inl ⟨rfl, _, SqL.of ((t6.trans s2) _ _ eq)⟩, _, rfl, a, C, dd, fs, v, rfl, e1, e2, e3, e4, e5, _, _, _, rfl, rfl, (t6.trans s2) _ _ eq, lt5 (by omega), ?_⟩
        exact ⟨some (.str _), rfl, keep (t6.trans s2), by rw [etk]; exact upd_same⟩
      have t7 : Same H' H57 := t6.trans s57
      refine s_if (zt "promise" _) (fun hb H2 s2 => ?_) (fun n8 H58 s58 => ?_)
      · have ez := of_decide_eq_true hb
        subst ez
        obtain ⟨C, dd, fs, e1, e2, e3, e4, e5⟩ := hF.same (s1.trans (t7.trans s2))
        refine ⟨_, rfl, .inl ⟨rfl, _, SqL.of ((t7.trans s2) _ _ eq)⟩, _, rfl, a, C, dd, fs, v, rfl, e1, e2, e3, e4, e5, _, _, _, rfl, rfl, (t7.trans s2) _ _ eq, lt5 (by omega), ?_⟩
        exact ⟨some (.str _), rfl, keep (t7.trans s2), by rw [etk]; exact upd_same⟩
      have t8 : Same H' H58 := t7.trans s58
      have ez : z = "witness" := by
        have m := hm
        simp only [fieldNs, List.mem_cons, List.not_mem_nil, or_false] at m
        rcases m with m | m | m | m | m | m | m | m | m | m
        · exact absurd m (of_decide_eq_false n0)
        · exact absurd m (of_decide_eq_false n1)
        · exact absurd m (of_decide_eq_false n2)
        · exact absurd m (of_decide_eq_false n3)
        · exact absurd m (of_decide_eq_false n4)
        · exact absurd m (of_decide_eq_false n5)
        · exact absurd m (of_decide_eq_false n6)
        · exact absurd m (of_decide_eq_false n7)
        · exact absurd m (of_decide_eq_false n8)
        · exact m
      subst ez
      obtain ⟨C, dd, fs, e1, e2, e3, e4, e5⟩ := hF.same (s1.trans t8)
      refine ⟨_, rfl, .inl ⟨rfl, _, SqL.of (t8 _ _ eq)⟩, _, rfl, a, C, dd, fs, v, rfl, e1, e2, e3, e4, e5, _, _, _, rfl, rfl, t8 _ _ eq, lt5 (by omega), ?_⟩
      exact ⟨some (.str _), rfl, keep t8, by rw [etk]; exact upd_same⟩
    · rintro σ' H' ⟨o3, rfl, s1, eq⟩
      rw [List.length_map, hlen, List.take_length] at eq
      exact ⟨_, rfl, k q H' s1 eq⟩
end
end Ag

set_option Elab.async false
set_option linter.all false
set_option maxRecDepth 100000
set_option maxHeartbeats 1000000
set_option pp.maxSteps 300
namespace Ag
open PySem PySem.Spec PyProof.Rows L2
section
variable {P : Program} {w : World} {K : PySem.W.Frag} {mg : Str → Option Value} {base : Heap} (T : Txt w K mg)
/-- the twelve kinds, in the order of the law -/
def leaf : List Addr := [T.C_BadText, T.C_BadName, T.C_BadNumber, T.C_BadRow, T.C_NoName, T.C_TakenName, T.C_Unlike, T.C_NotThere, T.C_TooMany, T.C_NotKept, T.C_NothingToUndo, T.C_NothingToRedo]
theorem ki_BadText : ∀ {j : Nat} {D : Addr}, (leaf T)[j]? = some D → PySem.W.kitOne K (.ref T.C_BadText) (.ref D) = some (decide (j = 0))
  | 0, _, h => by cases h; exact T.ki_BadText_BadText
  | 1, _, h => by cases h; exact T.ki_BadText_BadName
  | 2, _, h => by cases h; exact T.ki_BadText_BadNumber
  | 3, _, h => by cases h; exact T.ki_BadText_BadRow
  | 4, _, h => by cases h; exact T.ki_BadText_NoName
  | 5, _, h => by cases h; exact T.ki_BadText_TakenName
  | 6, _, h => by cases h; exact T.ki_BadText_Unlike
  | 7, _, h => by cases h; exact T.ki_BadText_NotThere
  | 8, _, h => by cases h; exact T.ki_BadText_TooMany
  | 9, _, h => by cases h; exact T.ki_BadText_NotKept
  | 10, _, h => by cases h; exact T.ki_BadText_NothingToUndo
  | 11, _, h => by cases h; exact T.ki_BadText_NothingToRedo
  | n + 12, _, h => by simp [leaf] at h
theorem ki_BadName : ∀ {j : Nat} {D : Addr}, (leaf T)[j]? = some D → PySem.W.kitOne K (.ref T.C_BadName) (.ref D) = some (decide (j = 1))
  | 0, _, h => by cases h; exact T.ki_BadName_BadText
  | 1, _, h => by cases h; exact T.ki_BadName_BadName
  | 2, _, h => by cases h; exact T.ki_BadName_BadNumber
  | 3, _, h => by cases h; exact T.ki_BadName_BadRow
  | 4, _, h => by cases h; exact T.ki_BadName_NoName
  | 5, _, h => by cases h; exact T.ki_BadName_TakenName
  | 6, _, h => by cases h; exact T.ki_BadName_Unlike
  | 7, _, h => by cases h; exact T.ki_BadName_NotThere
  | 8, _, h => by cases h; exact T.ki_BadName_TooMany
  | 9, _, h => by cases h; exact T.ki_BadName_NotKept
  | 10, _, h => by cases h; exact T.ki_BadName_NothingToUndo
  | 11, _, h => by cases h; exact T.ki_BadName_NothingToRedo
  | n + 12, _, h => by simp [leaf] at h
theorem ki_BadNumber : ∀ {j : Nat} {D : Addr}, (leaf T)[j]? = some D → PySem.W.kitOne K (.ref T.C_BadNumber) (.ref D) = some (decide (j = 2))
  | 0, _, h => by cases h; exact T.ki_BadNumber_BadText
  | 1, _, h => by cases h; exact T.ki_BadNumber_BadName
  | 2, _, h => by cases h; exact T.ki_BadNumber_BadNumber
  | 3, _, h => by cases h; exact T.ki_BadNumber_BadRow
  | 4, _, h => by cases h; exact T.ki_BadNumber_NoName
  | 5, _, h => by cases h; exact T.ki_BadNumber_TakenName
  | 6, _, h => by cases h; exact T.ki_BadNumber_Unlike
  | 7, _, h => by cases h; exact T.ki_BadNumber_NotThere
  | 8, _, h => by cases h; exact T.ki_BadNumber_TooMany
  | 9, _, h => by cases h; exact T.ki_BadNumber_NotKept
  | 10, _, h => by cases h; exact T.ki_BadNumber_NothingToUndo
  | 11, _, h => by cases h; exact T.ki_BadNumber_NothingToRedo
  | n + 12, _, h => by simp [leaf] at h
theorem ki_BadRow : ∀ {j : Nat} {D : Addr}, (leaf T)[j]? = some D → PySem.W.kitOne K (.ref T.C_BadRow) (.ref D) = some (decide (j = 3))
  | 0, _, h => by cases h; exact T.ki_BadRow_BadText
  | 1, _, h => by cases h; exact T.ki_BadRow_BadName
  | 2, _, h => by cases h; exact T.ki_BadRow_BadNumber
  | 3, _, h => by cases h; exact T.ki_BadRow_BadRow
  | 4, _, h => by cases h; exact T.ki_BadRow_NoName
  | 5, _, h => by cases h; exact T.ki_BadRow_TakenName
  | 6, _, h => by cases h; exact T.ki_BadRow_Unlike
  | 7, _, h => by cases h; exact T.ki_BadRow_NotThere
  | 8, _, h => by cases h; exact T.ki_BadRow_TooMany
  | 9, _, h => by cases h; exact T.ki_BadRow_NotKept
  | 10, _, h => by cases h; exact T.ki_BadRow_NothingToUndo
  | 11, _, h => by cases h; exact T.ki_BadRow_NothingToRedo
  | n + 12, _, h => by simp [leaf] at h
theorem ki_NoName : ∀ {j : Nat} {D : Addr}, (leaf T)[j]? = some D → PySem.W.kitOne K (.ref T.C_NoName) (.ref D) = some (decide (j = 4))
  | 0, _, h => by cases h; exact T.ki_NoName_BadText
  | 1, _, h => by cases h; exact T.ki_NoName_BadName
  | 2, _, h => by cases h; exact T.ki_NoName_BadNumber
  | 3, _, h => by cases h; exact T.ki_NoName_BadRow
  | 4, _, h => by cases h; exact T.ki_NoName_NoName
  | 5, _, h => by cases h; exact T.ki_NoName_TakenName
  | 6, _, h => by cases h; exact T.ki_NoName_Unlike
  | 7, _, h => by cases h; exact T.ki_NoName_NotThere
  | 8, _, h => by cases h; exact T.ki_NoName_TooMany
  | 9, _, h => by cases h; exact T.ki_NoName_NotKept
  | 10, _, h => by cases h; exact T.ki_NoName_NothingToUndo
  | 11, _, h => by cases h; exact T.ki_NoName_NothingToRedo
  | n + 12, _, h => by simp [leaf] at h
theorem ki_TakenName : ∀ {j : Nat} {D : Addr}, (leaf T)[j]? = some D → PySem.W.kitOne K (.ref T.C_TakenName) (.ref D) = some (decide (j = 5))
  | 0, _, h => by cases h; exact T.ki_TakenName_BadText
  | 1, _, h => by cases h; exact T.ki_TakenName_BadName
  | 2, _, h => by cases h; exact T.ki_TakenName_BadNumber
  | 3, _, h => by cases h; exact T.ki_TakenName_BadRow
  | 4, _, h => by cases h; exact T.ki_TakenName_NoName
  | 5, _, h => by cases h; exact T.ki_TakenName_TakenName
  | 6, _, h => by cases h; exact T.ki_TakenName_Unlike
  | 7, _, h => by cases h; exact T.ki_TakenName_NotThere
  | 8, _, h => by cases h; exact T.ki_TakenName_TooMany
  | 9, _, h => by cases h; exact T.ki_TakenName_NotKept
  | 10, _, h => by cases h; exact T.ki_TakenName_NothingToUndo
  | 11, _, h => by cases h; exact T.ki_TakenName_NothingToRedo
  | n + 12, _, h => by simp [leaf] at h
theorem ki_Unlike : ∀ {j : Nat} {D : Addr}, (leaf T)[j]? = some D → PySem.W.kitOne K (.ref T.C_Unlike) (.ref D) = some (decide (j = 6))
  | 0, _, h => by cases h; exact T.ki_Unlike_BadText
  | 1, _, h => by cases h; exact T.ki_Unlike_BadName
  | 2, _, h => by cases h; exact T.ki_Unlike_BadNumber
  | 3, _, h => by cases h; exact T.ki_Unlike_BadRow
  | 4, _, h => by cases h; exact T.ki_Unlike_NoName
  | 5, _, h => by cases h; exact T.ki_Unlike_TakenName
  | 6, _, h => by cases h; exact T.ki_Unlike_Unlike
  | 7, _, h => by cases h; exact T.ki_Unlike_NotThere
  | 8, _, h => by cases h; exact T.ki_Unlike_TooMany
  | 9, _, h => by cases h; exact T.ki_Unlike_NotKept
  | 10, _, h => by cases h; exact T.ki_Unlike_NothingToUndo
  | 11, _, h => by cases h; exact T.ki_Unlike_NothingToRedo
  | n + 12, _, h => by simp [leaf] at h
theorem ki_NotThere : ∀ {j : Nat} {D : Addr}, (leaf T)[j]? = some D → PySem.W.kitOne K (.ref T.C_NotThere) (.ref D) = some (decide (j = 7))
  | 0, _, h => by cases h; exact T.ki_NotThere_BadText
  | 1, _, h => by cases h; exact T.ki_NotThere_BadName
  | 2, _, h => by cases h; exact T.ki_NotThere_BadNumber
  | 3, _, h => by cases h; exact T.ki_NotThere_BadRow
  | 4, _, h => by cases h; exact T.ki_NotThere_NoName
  | 5, _, h => by cases h; exact T.ki_NotThere_TakenName
  | 6, _, h => by cases h; exact T.ki_NotThere_Unlike
  | 7, _, h => by cases h; exact T.ki_NotThere_NotThere
  | 8, _, h => by cases h; exact T.ki_NotThere_TooMany
  | 9, _, h => by cases h; exact T.ki_NotThere_NotKept
  | 10, _, h => by cases h; exact T.ki_NotThere_NothingToUndo
  | 11, _, h => by cases h; exact T.ki_NotThere_NothingToRedo
  | n + 12, _, h => by simp [leaf] at h
theorem ki_TooMany : ∀ {j : Nat} {D : Addr}, (leaf T)[j]? = some D → PySem.W.kitOne K (.ref T.C_TooMany) (.ref D) = some (decide (j = 8))
  | 0, _, h => by cases h; exact T.ki_TooMany_BadText
  | 1, _, h => by cases h; exact T.ki_TooMany_BadName
  | 2, _, h => by cases h; exact T.ki_TooMany_BadNumber
  | 3, _, h => by cases h; exact T.ki_TooMany_BadRow
  | 4, _, h => by cases h; exact T.ki_TooMany_NoName
  | 5, _, h => by cases h; exact T.ki_TooMany_TakenName
  | 6, _, h => by cases h; exact T.ki_TooMany_Unlike
  | 7, _, h => by cases h; exact T.ki_TooMany_NotThere
  | 8, _, h => by cases h; exact T.ki_TooMany_TooMany
  | 9, _, h => by cases h; exact T.ki_TooMany_NotKept
  | 10, _, h => by cases h; exact T.ki_TooMany_NothingToUndo
  | 11, _, h => by cases h; exact T.ki_TooMany_NothingToRedo
  | n + 12, _, h => by simp [leaf] at h
theorem ki_NotKept : ∀ {j : Nat} {D : Addr}, (leaf T)[j]? = some D → PySem.W.kitOne K (.ref T.C_NotKept) (.ref D) = some (decide (j = 9))
  | 0, _, h => by cases h; exact T.ki_NotKept_BadText
  | 1, _, h => by cases h; exact T.ki_NotKept_BadName
  | 2, _, h => by cases h; exact T.ki_NotKept_BadNumber
  | 3, _, h => by cases h; exact T.ki_NotKept_BadRow
  | 4, _, h => by cases h; exact T.ki_NotKept_NoName
  | 5, _, h => by cases h; exact T.ki_NotKept_TakenName
  | 6, _, h => by cases h; exact T.ki_NotKept_Unlike
  | 7, _, h => by cases h; exact T.ki_NotKept_NotThere
  | 8, _, h => by cases h; exact T.ki_NotKept_TooMany
  | 9, _, h => by cases h; exact T.ki_NotKept_NotKept
  | 10, _, h => by cases h; exact T.ki_NotKept_NothingToUndo
  | 11, _, h => by cases h; exact T.ki_NotKept_NothingToRedo
  | n + 12, _, h => by simp [leaf] at h
theorem ki_NothingToUndo : ∀ {j : Nat} {D : Addr}, (leaf T)[j]? = some D → PySem.W.kitOne K (.ref T.C_NothingToUndo) (.ref D) = some (decide (j = 10))
  | 0, _, h => by cases h; exact T.ki_NothingToUndo_BadText
  | 1, _, h => by cases h; exact T.ki_NothingToUndo_BadName
  | 2, _, h => by cases h; exact T.ki_NothingToUndo_BadNumber
  | 3, _, h => by cases h; exact T.ki_NothingToUndo_BadRow
  | 4, _, h => by cases h; exact T.ki_NothingToUndo_NoName
  | 5, _, h => by cases h; exact T.ki_NothingToUndo_TakenName
  | 6, _, h => by cases h; exact T.ki_NothingToUndo_Unlike
  | 7, _, h => by cases h; exact T.ki_NothingToUndo_NotThere
  | 8, _, h => by cases h; exact T.ki_NothingToUndo_TooMany
  | 9, _, h => by cases h; exact T.ki_NothingToUndo_NotKept
  | 10, _, h => by cases h; exact T.ki_NothingToUndo_NothingToUndo
  | 11, _, h => by cases h; exact T.ki_NothingToUndo_NothingToRedo
  | n + 12, _, h => by simp [leaf] at h
theorem ki_NothingToRedo : ∀ {j : Nat} {D : Addr}, (leaf T)[j]? = some D → PySem.W.kitOne K (.ref T.C_NothingToRedo) (.ref D) = some (decide (j = 11))
  | 0, _, h => by cases h; exact T.ki_NothingToRedo_BadText
  | 1, _, h => by cases h; exact T.ki_NothingToRedo_BadName
  | 2, _, h => by cases h; exact T.ki_NothingToRedo_BadNumber
  | 3, _, h => by cases h; exact T.ki_NothingToRedo_BadRow
  | 4, _, h => by cases h; exact T.ki_NothingToRedo_NoName
  | 5, _, h => by cases h; exact T.ki_NothingToRedo_TakenName
  | 6, _, h => by cases h; exact T.ki_NothingToRedo_Unlike
  | 7, _, h => by cases h; exact T.ki_NothingToRedo_NotThere
  | 8, _, h => by cases h; exact T.ki_NothingToRedo_TooMany
  | 9, _, h => by cases h; exact T.ki_NothingToRedo_NotKept
  | 10, _, h => by cases h; exact T.ki_NothingToRedo_NothingToUndo
  | 11, _, h => by cases h; exact T.ki_NothingToRedo_NothingToRedo
  | n + 12, _, h => by simp [leaf] at h
theorem ki_all : ∀ {i : Nat} {C : Addr}, (leaf T)[i]? = some C → ∀ {j : Nat} {D : Addr}, (leaf T)[j]? = some D → PySem.W.kitOne K (.ref C) (.ref D) = some (decide (j = i))
  | 0, _, h, j, D, hj => by cases h; exact ki_BadText T hj
  | 1, _, h, j, D, hj => by cases h; exact ki_BadName T hj
  | 2, _, h, j, D, hj => by cases h; exact ki_BadNumber T hj
  | 3, _, h, j, D, hj => by cases h; exact ki_BadRow T hj
  | 4, _, h, j, D, hj => by cases h; exact ki_NoName T hj
  | 5, _, h, j, D, hj => by cases h; exact ki_TakenName T hj
  | 6, _, h, j, D, hj => by cases h; exact ki_Unlike T hj
  | 7, _, h, j, D, hj => by cases h; exact ki_NotThere T hj
  | 8, _, h, j, D, hj => by cases h; exact ki_TooMany T hj
  | 9, _, h, j, D, hj => by cases h; exact ki_NotKept T hj
  | 10, _, h, j, D, hj => by cases h; exact ki_NothingToUndo T hj
  | 11, _, h, j, D, hj => by cases h; exact ki_NothingToRedo T hj
  | n + 12, _, h, _, _, _ => by simp [leaf] at h
theorem ec_all : ∀ {i : Nat} {C : Addr}, (leaf T)[i]? = some C → ExcC K C ∧ XfC K C ∧ PySem.W.kitOne K (.ref C) (.ref T.C_AgainError) = some true ∧ PySem.W.kitOne K (.ref C) (.type "ValueError") = some true
  | 0, _, h => by cases h; exact ⟨T.ec_BadText, T.xf_BadText, T.ki_BadText_AgainError, T.ki_BadText_ValueError⟩
  | 1, _, h => by cases h; exact ⟨T.ec_BadName, T.xf_BadName, T.ki_BadName_AgainError, T.ki_BadName_ValueError⟩
  | 2, _, h => by cases h; exact ⟨T.ec_BadNumber, T.xf_BadNumber, T.ki_BadNumber_AgainError, T.ki_BadNumber_ValueError⟩
  | 3, _, h => by cases h; exact ⟨T.ec_BadRow, T.xf_BadRow, T.ki_BadRow_AgainError, T.ki_BadRow_ValueError⟩
  | 4, _, h => by cases h; exact ⟨T.ec_NoName, T.xf_NoName, T.ki_NoName_AgainError, T.ki_NoName_ValueError⟩
  | 5, _, h => by cases h; exact ⟨T.ec_TakenName, T.xf_TakenName, T.ki_TakenName_AgainError, T.ki_TakenName_ValueError⟩
  | 6, _, h => by cases h; exact ⟨T.ec_Unlike, T.xf_Unlike, T.ki_Unlike_AgainError, T.ki_Unlike_ValueError⟩
  | 7, _, h => by cases h; exact ⟨T.ec_NotThere, T.xf_NotThere, T.ki_NotThere_AgainError, T.ki_NotThere_ValueError⟩
  | 8, _, h => by cases h; exact ⟨T.ec_TooMany, T.xf_TooMany, T.ki_TooMany_AgainError, T.ki_TooMany_ValueError⟩
  | 9, _, h => by cases h; exact ⟨T.ec_NotKept, T.xf_NotKept, T.ki_NotKept_AgainError, T.ki_NotKept_ValueError⟩
  | 10, _, h => by cases h; exact ⟨T.ec_NothingToUndo, T.xf_NothingToUndo, T.ki_NothingToUndo_AgainError, T.ki_NothingToUndo_ValueError⟩
  | 11, _, h => by cases h; exact ⟨T.ec_NothingToRedo, T.xf_NothingToRedo, T.ki_NothingToRedo_AgainError, T.ki_NothingToRedo_ValueError⟩
  | n + 12, _, h => by simp [leaf] at h
theorem ExAt.same {H H' : Hp} {a C : Addr} (s : Same H H') : ExAt H a C → ExAt H' a C
  | .inl ⟨d, fs, h1, h2⟩ => .inl ⟨d, fs, s _ _ h1, s _ _ h2⟩
  | .inr h => .inr (s _ _ h)
def kindsL (i : Nat) : List V := (List.range 12).map fun j => .bl (decide (j = i))
def spKinds : Sp := fun vs H Q _ => ∃ (a C : Addr) (i : Nat), vs = [.ref a] ∧ ExAt H a C ∧ (leaf T)[i]? = some C ∧ ∀ q H', Same H H' → H' q = some (.lst (kindsL i)) → Q (.ref q) H'
theorem ok_law_kinds : FnOk P w K mg base CX0 1 T.a_law_kinds T.d_law_kinds ["one"] (spKinds T) := by
  refine T.D_law_kinds.fn.ok sc_law_kinds (fun vs H Q E h => ?_) (fun cdv A outer s H vs Q E hr h => ?_)
  · obtain ⟨a, C, i, rfl, _⟩ := h; rfl
  · obtain ⟨a, C, i, rfl, hx, hC, k⟩ := h
    refine ⟨_, (pss_cons (ps_set (i := 1) sc_law_kinds.nd rfl (by first | exact Or.inl rfl | exact Or.inr rfl) (pe_lst (pa_cons (pe_callB call_isV (by rfl) T.b_isinstance bt_isinstance (pa_cons (pv 0) (pa_cons (pe_glob (v := .ref T.C_BadText) (by rfl) T.g_BadText rfl) pa_nil))) (pa_cons (pe_callB call_isV (by rfl) T.b_isinstance bt_isinstance (pa_cons (pv 0) (pa_cons (pe_glob (v := .ref T.C_BadName) (by rfl) T.g_BadName rfl) pa_nil))) (pa_cons (pe_callB call_isV (by rfl) T.b_isinstance bt_isinstance (pa_cons (pv 0) (pa_cons (pe_glob (v := .ref T.C_BadNumber) (by rfl) T.g_BadNumber rfl) pa_nil))) (pa_cons (pe_callB call_isV (by rfl) T.b_isinstance bt_isinstance (pa_cons (pv 0) (pa_cons (pe_glob (v := .ref T.C_BadRow) (by rfl) T.g_BadRow rfl) pa_nil))) pa_nil))))))
      (pss_cons (ps_set (i := 1) sc_law_kinds.nd rfl (by first | exact Or.inl rfl | exact Or.inr rfl) (pe_op op_cat (pv 1) (pe_lst (pa_cons (pe_callB call_isV (by rfl) T.b_isinstance bt_isinstance (pa_cons (pv 0) (pa_cons (pe_glob (v := .ref T.C_NoName) (by rfl) T.g_NoName rfl) pa_nil))) (pa_cons (pe_callB call_isV (by rfl) T.b_isinstance bt_isinstance (pa_cons (pv 0) (pa_cons (pe_glob (v := .ref T.C_TakenName) (by rfl) T.g_TakenName rfl) pa_nil))) (pa_cons (pe_callB call_isV (by rfl) T.b_isinstance bt_isinstance (pa_cons (pv 0) (pa_cons (pe_glob (v := .ref T.C_Unlike) (by rfl) T.g_Unlike rfl) pa_nil))) (pa_cons (pe_callB call_isV (by rfl) T.b_isinstance bt_isinstance (pa_cons (pv 0) (pa_cons (pe_glob (v := .ref T.C_NotThere) (by rfl) T.g_NotThere rfl) pa_nil))) pa_nil)))))))
      (pss_cons (ps_set (i := 1) sc_law_kinds.nd rfl (by first | exact Or.inl rfl | exact Or.inr rfl) (pe_op op_cat (pv 1) (pe_lst (pa_cons (pe_callB call_isV (by rfl) T.b_isinstance bt_isinstance (pa_cons (pv 0) (pa_cons (pe_glob (v := .ref T.C_TooMany) (by rfl) T.g_TooMany rfl) pa_nil))) (pa_cons (pe_callB call_isV (by rfl) T.b_isinstance bt_isinstance (pa_cons (pv 0) (pa_cons (pe_glob (v := .ref T.C_NotKept) (by rfl) T.g_NotKept rfl) pa_nil))) (pa_cons (pe_callB call_isV (by rfl) T.b_isinstance bt_isinstance (pa_cons (pv 0) (pa_cons (pe_glob (v := .ref T.C_NothingToUndo) (by rfl) T.g_NothingToUndo rfl) pa_nil))) pa_nil))))))
      (pss_one (ps_ret (pe_op op_cat (pv 1) (pe_lst (pa_cons (pe_callB call_isV (by rfl) T.b_isinstance bt_isinstance (pa_cons (pv 0) (pa_cons (pe_glob (v := .ref T.C_NothingToRedo) (by rfl) T.g_NothingToRedo rfl) pa_nil))) pa_nil)))))))), ?_⟩
    have ec := (ec_all T hC).1
    have ki : ∀ {j : Nat} {D : Addr}, (leaf T)[j]? = some D → PySem.W.kitOne K (.ref C) (.ref D) = some (decide (j = i)) := fun h => ki_all T hC h
    refine ⟨_, rfl, a, C, _, .ref T.C_BadText, _, rfl, hx, ec, (fun u r => r), ki (j := 0) rfl, ⟨_, rfl, a, C, _, .ref T.C_BadName, _, rfl, hx, ec, (fun u r => r), ki (j := 1) rfl, ⟨_, rfl, a, C, _, .ref T.C_BadNumber, _, rfl, hx, ec, (fun u r => r), ki (j := 2) rfl, ⟨_, rfl, a, C, _, .ref T.C_BadRow, _, rfl, hx, ec, (fun u r => r), ki (j := 3) rfl, (by show 4 ≤ sizeLine; decide), fun q1 h1 => ?_⟩⟩⟩⟩
    have s1 := Same.newA (o := .lst [V.bl (decide (0 = i)), V.bl (decide (1 = i)), V.bl (decide (2 = i)), V.bl (decide (3 = i))]) h1
    have e1 : (upd H q1 (.lst [V.bl (decide (0 = i)), V.bl (decide (1 = i)), V.bl (decide (2 = i)), V.bl (decide (3 = i))])) q1 = some (.lst [V.bl (decide (0 = i)), V.bl (decide (1 = i)), V.bl (decide (2 = i)), V.bl (decide (3 = i))]) := upd_same
    generalize upd H q1 (HO.lst [V.bl (decide (0 = i)), V.bl (decide (1 = i)), V.bl (decide (2 = i)), V.bl (decide (3 = i))]) = H1 at s1 e1
    have hx1 := hx.same s1
    refine ⟨_, rfl, ⟨_, rfl, a, C, _, .ref T.C_NoName, _, rfl, hx1, ec, (fun u r => r), ki (j := 4) rfl, ⟨_, rfl, a, C, _, .ref T.C_TakenName, _, rfl, hx1, ec, (fun u r => r), ki (j := 5) rfl, ⟨_, rfl, a, C, _, .ref T.C_Unlike, _, rfl, hx1, ec, (fun u r => r), ki (j := 6) rfl, ⟨_, rfl, a, C, _, .ref T.C_NotThere, _, rfl, hx1, ec, (fun u r => r), ki (j := 7) rfl, (by show 4 ≤ sizeLine; decide), fun r2 g2 => ⟨q1, r2, _, _, rfl, rfl, (Same.newA g2) _ _ e1, upd_same, (by show 8 ≤ sizeLine; decide), fun q2 h2 => ?_⟩⟩⟩⟩⟩⟩
    have u2 : Same H1 (upd (upd H1 r2 (.lst [V.bl (decide (4 = i)), V.bl (decide (5 = i)), V.bl (decide (6 = i)), V.bl (decide (7 = i))])) q2 (.lst ([V.bl (decide (0 = i)), V.bl (decide (1 = i)), V.bl (decide (2 = i)), V.bl (decide (3 = i))] ++ [V.bl (decide (4 = i)), V.bl (decide (5 = i)), V.bl (decide (6 = i)), V.bl (decide (7 = i))]))) := (Same.newA g2).trans (Same.newA h2)
    have f2 : (upd (upd H1 r2 (.lst [V.bl (decide (4 = i)), V.bl (decide (5 = i)), V.bl (decide (6 = i)), V.bl (decide (7 = i))])) q2 (.lst ([V.bl (decide (0 = i)), V.bl (decide (1 = i)), V.bl (decide (2 = i)), V.bl (decide (3 = i))] ++ [V.bl (decide (4 = i)), V.bl (decide (5 = i)), V.bl (decide (6 = i)), V.bl (decide (7 = i))]))) q2 = some (.lst [V.bl (decide (0 = i)), V.bl (decide (1 = i)), V.bl (decide (2 = i)), V.bl (decide (3 = i)), V.bl (decide (4 = i)), V.bl (decide (5 = i)), V.bl (decide (6 = i)), V.bl (decide (7 = i))]) := upd_same
    generalize upd (upd H1 r2 (HO.lst [V.bl (decide (4 = i)), V.bl (decide (5 = i)), V.bl (decide (6 = i)), V.bl (decide (7 = i))])) q2 (HO.lst ([V.bl (decide (0 = i)), V.bl (decide (1 = i)), V.bl (decide (2 = i)), V.bl (decide (3 = i))] ++ [V.bl (decide (4 = i)), V.bl (decide (5 = i)), V.bl (decide (6 = i)), V.bl (decide (7 = i))])) = H2 at u2 f2
    have s2 := s1.trans u2
    have hx2 := hx1.same u2
    refine ⟨_, rfl, ⟨_, rfl, a, C, _, .ref T.C_TooMany, _, rfl, hx2, ec, (fun u r => r), ki (j := 8) rfl, ⟨_, rfl, a, C, _, .ref T.C_NotKept, _, rfl, hx2, ec, (fun u r => r), ki (j := 9) rfl, ⟨_, rfl, a, C, _, .ref T.C_NothingToUndo, _, rfl, hx2, ec, (fun u r => r), ki (j := 10) rfl, (by show 3 ≤ sizeLine; decide), fun r3 g3 => ⟨q2, r3, _, _, rfl, rfl, (Same.newA g3) _ _ f2, upd_same, (by show 11 ≤ sizeLine; decide), fun q3 h3 => ?_⟩⟩⟩⟩⟩
    have u3 : Same H2 (upd (upd H2 r3 (.lst [V.bl (decide (8 = i)), V.bl (decide (9 = i)), V.bl (decide (10 = i))])) q3 (.lst ([V.bl (decide (0 = i)), V.bl (decide (1 = i)), V.bl (decide (2 = i)), V.bl (decide (3 = i)), V.bl (decide (4 = i)), V.bl (decide (5 = i)), V.bl (decide (6 = i)), V.bl (decide (7 = i))] ++ [V.bl (decide (8 = i)), V.bl (decide (9 = i)), V.bl (decide (10 = i))]))) := (Same.newA g3).trans (Same.newA h3)
    have f3 : (upd (upd H2 r3 (.lst [V.bl (decide (8 = i)), V.bl (decide (9 = i)), V.bl (decide (10 = i))])) q3 (.lst ([V.bl (decide (0 = i)), V.bl (decide (1 = i)), V.bl (decide (2 = i)), V.bl (decide (3 = i)), V.bl (decide (4 = i)), V.bl (decide (5 = i)), V.bl (decide (6 = i)), V.bl (decide (7 = i))] ++ [V.bl (decide (8 = i)), V.bl (decide (9 = i)), V.bl (decide (10 = i))]))) q3 = some (.lst [V.bl (decide (0 = i)), V.bl (decide (1 = i)), V.bl (decide (2 = i)), V.bl (decide (3 = i)), V.bl (decide (4 = i)), V.bl (decide (5 = i)), V.bl (decide (6 = i)), V.bl (decide (7 = i)), V.bl (decide (8 = i)), V.bl (decide (9 = i)), V.bl (decide (10 = i))]) := upd_same
    generalize upd (upd H2 r3 (HO.lst [V.bl (decide (8 = i)), V.bl (decide (9 = i)), V.bl (decide (10 = i))])) q3 (HO.lst ([V.bl (decide (0 = i)), V.bl (decide (1 = i)), V.bl (decide (2 = i)), V.bl (decide (3 = i)), V.bl (decide (4 = i)), V.bl (decide (5 = i)), V.bl (decide (6 = i)), V.bl (decide (7 = i))] ++ [V.bl (decide (8 = i)), V.bl (decide (9 = i)), V.bl (decide (10 = i))])) = H3 at u3 f3
    have s3 := s2.trans u3
    have hx3 := hx2.same u3
    refine ⟨_, rfl, ⟨_, rfl, a, C, _, .ref T.C_NothingToRedo, _, rfl, hx3, ec, (fun u r => r), ki (j := 11) rfl, (by show 1 ≤ sizeLine; decide), fun r4 g4 => ⟨q3, r4, _, _, rfl, rfl, (Same.newA g4) _ _ f3, upd_same, (by show 12 ≤ sizeLine; decide), fun q4 h4 => ?_⟩⟩⟩
    have u4 : Same H3 (upd (upd H3 r4 (.lst [V.bl (decide (11 = i))])) q4 (.lst ([V.bl (decide (0 = i)), V.bl (decide (1 = i)), V.bl (decide (2 = i)), V.bl (decide (3 = i)), V.bl (decide (4 = i)), V.bl (decide (5 = i)), V.bl (decide (6 = i)), V.bl (decide (7 = i)), V.bl (decide (8 = i)), V.bl (decide (9 = i)), V.bl (decide (10 = i))] ++ [V.bl (decide (11 = i))]))) := (Same.newA g4).trans (Same.newA h4)
    have f4 : (upd (upd H3 r4 (.lst [V.bl (decide (11 = i))])) q4 (.lst ([V.bl (decide (0 = i)), V.bl (decide (1 = i)), V.bl (decide (2 = i)), V.bl (decide (3 = i)), V.bl (decide (4 = i)), V.bl (decide (5 = i)), V.bl (decide (6 = i)), V.bl (decide (7 = i)), V.bl (decide (8 = i)), V.bl (decide (9 = i)), V.bl (decide (10 = i))] ++ [V.bl (decide (11 = i))]))) q4 = some (.lst [V.bl (decide (0 = i)), V.bl (decide (1 = i)), V.bl (decide (2 = i)), V.bl (decide (3 = i)), V.bl (decide (4 = i)), V.bl (decide (5 = i)), V.bl (decide (6 = i)), V.bl (decide (7 = i)), V.bl (decide (8 = i)), V.bl (decide (9 = i)), V.bl (decide (10 = i)), V.bl (decide (11 = i))]) := upd_same
    exact k q4 _ (s3.trans u4) f4
end
end Ag

set_option Elab.async false
set_option linter.all false
set_option maxRecDepth 100000
set_option maxHeartbeats 1000000
set_option pp.maxSteps 300
namespace Ag
open PySem PySem.Spec PyProof.Rows L2
/-- at t: an error of the class C with these fields, and the names of them -/
def PairAt (H : Hp) (t C : Addr) (fs : List Str) (xs : List V) : Prop := ∃ a l d : Addr, H t = some (.tup [.ref a, .ref l]) ∧ H a = some (exo a C (some d)) ∧ H d = some (exd d (fs.zip xs).reverse) ∧ H l = some (.lst (fs.map V.str))
theorem PairAt.same {H H' : Hp} {t C : Addr} {fs : List Str} {xs : List V} (s : Same H H') : PairAt H t C fs xs → PairAt H' t C fs xs := fun ⟨a, l, d, h1, h2, h3, h4⟩ => ⟨a, l, d, s _ _ h1, s _ _ h2, s _ _ h3, s _ _ h4⟩
theorem run_pair {σ : L2.St} {H : Hp} {C : Addr} {fs : List Str} {xs : List V} {ta tb tr : TA} {Q : List V → Hp → Prop} (hta : ∀ Q : List V → Hp → Prop, Q xs H → ta σ H Q) (htb : ∀ H' (Q : List V → Hp → Prop), Q (fs.map V.str) H' → tb σ H' Q)
    (hl : xs.length = fs.length) (h3 : xs.length ≤ 3) (k : ∀ t H', Same H H' → PairAt H' t C fs xs → tr σ H' fun vs H2 => Q (.ref t :: vs) H2) :
    tCons (tTup (tCons (tMkV C (spEx C fs) [] ta) (tCons (tLst tb) tNil))) tr σ H Q := by
  refine hta _ ⟨by omega, fun a ha => ⟨a, xs, by rw [List.append_nil], hl, upd_same, fun d H1 hd nda keep e1 e2 => ⟨rfl, ?_⟩⟩⟩
  have s1 : Same H H1 := fun b o hb => keep b o (ne_of_none hb ha) (by rw [upd_ne (ne_of_none hb ha)]; exact hb)
  have l3 : (fs.map V.str).length ≤ 3 := by rw [List.length_map]; omega
  refine htb _ _ ⟨Nat.le_trans l3 (by decide), fun l hn => ⟨(by show 2 ≤ sizeLine; decide), fun t ht => ?_⟩⟩
  have s2 := Same.newA (o := .lst (fs.map V.str)) hn
  have s3 := Same.newA (o := .tup [.ref a, .ref l]) ht
  have s23 := s2.trans s3
  exact k t _ (s1.trans s23) ⟨a, l, d, upd_same, s23 _ _ e1, s23 _ _ e2, s3 _ _ upd_same⟩
end Ag

set_option Elab.async false
set_option linter.all false
set_option maxRecDepth 100000
set_option maxHeartbeats 1000000
set_option pp.maxSteps 300
namespace Ag
open PySem PySem.Spec PyProof.Rows L2
section
variable {P : Program} {w : World} {K : PySem.W.Frag} {mg : Str → Option Value} {base : Heap} (T : Txt w K mg)
def rows1 (x y z : V) : List (Addr × List Str × List V) := [(T.C_BadText, ["line", "word"], [x, y]), (T.C_BadName, ["name"], [x]), (T.C_BadNumber, ["what", "number"], [x, y])]
def rows2 (x y z : V) : List (Addr × List Str × List V) := [(T.C_BadRow, ["what", "row"], [x, y]), (T.C_NoName, ["name"], [x]), (T.C_TakenName, ["name"], [x])]
def rows3 (x y z : V) : List (Addr × List Str × List V) := [(T.C_Unlike, ["what"], [x]), (T.C_NotThere, ["what"], [x]), (T.C_TooMany, ["what", "many", "limit"], [x, y, z])]
def rows4 (x y z : V) : List (Addr × List Str × List V) := [(T.C_NotKept, ["promise", "witness"], [x, y])]
def madeL (x y z : V) : List (Addr × List Str × List V) := rows1 T x y z ++ rows2 T x y z ++ rows3 T x y z ++ rows4 T x y z
inductive MadeAt (H : Hp) : List V → List (Addr × List Str × List V) → Prop
  | nil : MadeAt H [] []
  | cons {t C : Addr} {fs : List Str} {xs ts : List V} {rs : List (Addr × List Str × List V)} : PairAt H t C fs xs → MadeAt H ts rs → MadeAt H (.ref t :: ts) ((C, fs, xs) :: rs)
theorem MadeAt.same {H H' : Hp} (s : Same H H') : ∀ {ts : List V} {rs : List (Addr × List Str × List V)}, MadeAt H ts rs → MadeAt H' ts rs
  | _, _, .nil => .nil
  | _, _, .cons p r => .cons (p.same s) (r.same s)
theorem MadeAt.app {H : Hp} : ∀ {ts us : List V} {rs qs : List (Addr × List Str × List V)}, MadeAt H ts rs → MadeAt H us qs → MadeAt H (ts ++ us) (rs ++ qs)
  | _, _, _, _, .nil, h => h
  | _, _, _, _, .cons p r, h => .cons p (r.app h)
theorem MadeAt.len {H : Hp} : ∀ {ts : List V} {rs : List (Addr × List Str × List V)}, MadeAt H ts rs → ts.length = rs.length
  | _, _, .nil => rfl
  | _, _, .cons _ r => by rw [List.length_cons, List.length_cons, r.len]
def spMade : Sp := fun vs H Q _ => ∃ x y z, vs = [x, y, z] ∧ ∀ l ts H', Same H H' → H' l = some (.lst ts) → MadeAt H' ts (madeL T x y z) → Q (.ref l) H'
theorem run_aslst {ta : TA} {g : TG} {D : Ends} {σ : L2.St} {H : Hp} (h : ta σ H fun vs H1 => vs.length ≤ sizeLine ∧ ∀ p, H1 p = none → g (.ref p) σ (upd H1 p (.lst vs)) D.nx) : tAsg (tLst ta) g D σ H := h
theorem run_asop {i : Nat} {l : Addr} {r : R2} {ta : TA} {g : TG} {D : Ends} {σ : L2.St} {H : Hp} (hl : σ[i]? = some (some (.ref l))) (h : ta σ H fun vs H1 => vs.length ≤ sizeLine ∧ ∀ p, H1 p = none → r (.ref l) (.ref p) (upd H1 p (.lst vs)) fun x H2 => g x σ H2 D.nx) : tAsg (tOp r (tVar i) (tLst ta)) g D σ H := ⟨_, hl, h⟩
theorem run_retop {i : Nat} {l : Addr} {r : R2} {ta : TA} {D : Ends} {σ : L2.St} {H : Hp} (hl : σ[i]? = some (some (.ref l))) (h : ta σ H fun vs H1 => vs.length ≤ sizeLine ∧ ∀ p, H1 p = none → r (.ref l) (.ref p) (upd H1 p (.lst vs)) D.rt) : tRet (tOp r (tVar i) (tLst ta)) D σ H := ⟨_, hl, h⟩
theorem ok_law_made : FnOk P w K mg base CX0 3 T.a_law_made_errors T.d_law_made_errors ["one", "two", "three"] (spMade T) := by
  have G_BadText___init__ := ok_BadText_init (P := P) (w := w) (base := base) T
  have G_BadName___init__ := ok_BadName_init (P := P) (w := w) (base := base) T
  have G_BadNumber___init__ := ok_BadNumber_init (P := P) (w := w) (base := base) T
  have G_BadRow___init__ := ok_BadRow_init (P := P) (w := w) (base := base) T
  have G_NoName___init__ := ok_NoName_init (P := P) (w := w) (base := base) T
  have G_TakenName___init__ := ok_TakenName_init (P := P) (w := w) (base := base) T
  have G_Unlike___init__ := ok_Unlike_init (P := P) (w := w) (base := base) T
  have G_NotThere___init__ := ok_NotThere_init (P := P) (w := w) (base := base) T
  have G_TooMany___init__ := ok_TooMany_init (P := P) (w := w) (base := base) T
  have G_NotKept___init__ := ok_NotKept_init (P := P) (w := w) (base := base) T
  refine T.D_law_made_errors.fn.ok sc_law_made_errors (fun vs H Q E h => ?_) (fun cdv A outer s H vs Q E hr h => ?_)
  · obtain ⟨x, y, z, rfl, _⟩ := h; rfl
  · obtain ⟨x, y, z, rfl, k⟩ := h
    refine ⟨_, (pss_cons (ps_set (i := 3) sc_law_made_errors.nd rfl (by first | exact Or.inl rfl | exact Or.inr rfl) (pe_lst (pa_cons (pe_tup (pa_cons (pe_oex T.ox_BadText T.ic_BadText T.ti_BadText (G_BadText___init__) (hr.mono (by omega)) T.D_BadText___init__.bd .nil pass0 (by rfl) T.g_BadText (pa_cons (pv 0) (pa_cons (pv 1) pa_nil))) (pa_cons (pe_lst (pa_cons pe_str (pa_cons pe_str pa_nil))) pa_nil))) (pa_cons (pe_tup (pa_cons (pe_oex T.ox_BadName T.ic_BadName T.ti_BadName (G_BadName___init__) (hr.mono (by omega)) T.D_BadName___init__.bd .nil pass0 (by rfl) T.g_BadName (pa_cons (pv 0) pa_nil)) (pa_cons (pe_lst (pa_cons pe_str pa_nil)) pa_nil))) (pa_cons (pe_tup (pa_cons (pe_oex T.ox_BadNumber T.ic_BadNumber T.ti_BadNumber (G_BadNumber___init__) (hr.mono (by omega)) T.D_BadNumber___init__.bd .nil pass0 (by rfl) T.g_BadNumber (pa_cons (pv 0) (pa_cons (pv 1) pa_nil))) (pa_cons (pe_lst (pa_cons pe_str (pa_cons pe_str pa_nil))) pa_nil))) pa_nil)))))
      (pss_cons (ps_set (i := 3) sc_law_made_errors.nd rfl (by first | exact Or.inl rfl | exact Or.inr rfl) (pe_op op_cat (pv 3) (pe_lst (pa_cons (pe_tup (pa_cons (pe_oex T.ox_BadRow T.ic_BadRow T.ti_BadRow (G_BadRow___init__) (hr.mono (by omega)) T.D_BadRow___init__.bd .nil pass0 (by rfl) T.g_BadRow (pa_cons (pv 0) (pa_cons (pv 1) pa_nil))) (pa_cons (pe_lst (pa_cons pe_str (pa_cons pe_str pa_nil))) pa_nil))) (pa_cons (pe_tup (pa_cons (pe_oex T.ox_NoName T.ic_NoName T.ti_NoName (G_NoName___init__) (hr.mono (by omega)) T.D_NoName___init__.bd .nil pass0 (by rfl) T.g_NoName (pa_cons (pv 0) pa_nil)) (pa_cons (pe_lst (pa_cons pe_str pa_nil)) pa_nil))) (pa_cons (pe_tup (pa_cons (pe_oex T.ox_TakenName T.ic_TakenName T.ti_TakenName (G_TakenName___init__) (hr.mono (by omega)) T.D_TakenName___init__.bd .nil pass0 (by rfl) T.g_TakenName (pa_cons (pv 0) pa_nil)) (pa_cons (pe_lst (pa_cons pe_str pa_nil)) pa_nil))) pa_nil))))))
      (pss_cons (ps_set (i := 3) sc_law_made_errors.nd rfl (by first | exact Or.inl rfl | exact Or.inr rfl) (pe_op op_cat (pv 3) (pe_lst (pa_cons (pe_tup (pa_cons (pe_oex T.ox_Unlike T.ic_Unlike T.ti_Unlike (G_Unlike___init__) (hr.mono (by omega)) T.D_Unlike___init__.bd .nil pass0 (by rfl) T.g_Unlike (pa_cons (pv 0) pa_nil)) (pa_cons (pe_lst (pa_cons pe_str pa_nil)) pa_nil))) (pa_cons (pe_tup (pa_cons (pe_oex T.ox_NotThere T.ic_NotThere T.ti_NotThere (G_NotThere___init__) (hr.mono (by omega)) T.D_NotThere___init__.bd .nil pass0 (by rfl) T.g_NotThere (pa_cons (pv 0) pa_nil)) (pa_cons (pe_lst (pa_cons pe_str pa_nil)) pa_nil))) (pa_cons (pe_tup (pa_cons (pe_oex T.ox_TooMany T.ic_TooMany T.ti_TooMany (G_TooMany___init__) (hr.mono (by omega)) T.D_TooMany___init__.bd .nil pass0 (by rfl) T.g_TooMany (pa_cons (pv 0) (pa_cons (pv 1) (pa_cons (pv 2) pa_nil)))) (pa_cons (pe_lst (pa_cons pe_str (pa_cons pe_str (pa_cons pe_str pa_nil)))) pa_nil))) pa_nil))))))
      (pss_one (ps_ret (pe_op op_cat (pv 3) (pe_lst (pa_cons (pe_tup (pa_cons (pe_oex T.ox_NotKept T.ic_NotKept T.ti_NotKept (G_NotKept___init__) (hr.mono (by omega)) T.D_NotKept___init__.bd .nil pass0 (by rfl) T.g_NotKept (pa_cons (pv 0) (pa_cons (pv 1) pa_nil))) (pa_cons (pe_lst (pa_cons pe_str (pa_cons pe_str pa_nil))) pa_nil))) pa_nil)))))))), ?_⟩
    refine run_aslst ?_
    refine run_pair (fs := ["line", "word"]) (xs := [x, y]) (fun Q q => ⟨_, rfl, _, rfl, q⟩) (fun H' Q q => q) rfl (by show 2 ≤ 3; decide) fun t1 H1 s1 p1 => ?_
    refine run_pair (fs := ["name"]) (xs := [x]) (fun Q q => ⟨_, rfl, q⟩) (fun H' Q q => q) rfl (by show 1 ≤ 3; decide) fun t2 H2 s2 p2 => ?_
    refine run_pair (fs := ["what", "number"]) (xs := [x, y]) (fun Q q => ⟨_, rfl, _, rfl, q⟩) (fun H' Q q => q) rfl (by show 2 ≤ 3; decide) fun t3 H3 s3 p3 => ?_
    refine ⟨(by show 3 ≤ sizeLine; decide), fun q1 h1 => ?_⟩
    have r1 : MadeAt H3 [.ref t1, .ref t2, .ref t3] (rows1 T x y z) := .cons (p1.same (s2.trans s3)) (.cons (p2.same s3) (.cons p3 .nil))
    have u1 := (s1.trans (s2.trans s3)).trans (Same.newA (o := .lst [.ref t1, .ref t2, .ref t3]) h1)
    have m1 := r1.same (Same.newA (o := .lst [.ref t1, .ref t2, .ref t3]) h1)
    have e1 : (upd H3 q1 (.lst [.ref t1, .ref t2, .ref t3])) q1 = some (.lst [.ref t1, .ref t2, .ref t3]) := upd_same
    generalize upd H3 q1 (HO.lst [.ref t1, .ref t2, .ref t3]) = G1 at u1 m1 e1
    clear p1 p2 p3 s1 s2 s3 r1 h1
    refine run_asop (l := q1) rfl ?_
    refine run_pair (fs := ["what", "row"]) (xs := [x, y]) (fun Q q => ⟨_, rfl, _, rfl, q⟩) (fun H' Q q => q) rfl (by show 2 ≤ 3; decide) fun t4 H4 s4 p4 => ?_
    refine run_pair (fs := ["name"]) (xs := [x]) (fun Q q => ⟨_, rfl, q⟩) (fun H' Q q => q) rfl (by show 1 ≤ 3; decide) fun t5 H5 s5 p5 => ?_
    refine run_pair (fs := ["name"]) (xs := [x]) (fun Q q => ⟨_, rfl, q⟩) (fun H' Q q => q) rfl (by show 1 ≤ 3; decide) fun t6 H6 s6 p6 => ?_
    have s456 := s4.trans (s5.trans s6)
    refine ⟨(by show 3 ≤ sizeLine; decide), fun r2 g2 => ⟨q1, r2, _, _, rfl, rfl, (Same.newA g2) _ _ (s456 _ _ e1), upd_same, (by show 6 ≤ sizeLine; decide), fun q2 h2 => ?_⟩⟩
    have r2' : MadeAt H6 [.ref t4, .ref t5, .ref t6] (rows2 T x y z) := .cons (p4.same (s5.trans s6)) (.cons (p5.same s6) (.cons p6 .nil))
    have v2 : Same H6 (upd (upd H6 r2 (.lst [.ref t4, .ref t5, .ref t6])) q2 (.lst ([.ref t1, .ref t2, .ref t3] ++ [.ref t4, .ref t5, .ref t6]))) := (Same.newA g2).trans (Same.newA h2)
    have u2 := u1.trans (s456.trans v2)
    have m2 := (m1.same (s456.trans v2)).app (r2'.same v2)
    have e2 : (upd (upd H6 r2 (.lst [.ref t4, .ref t5, .ref t6])) q2 (.lst ([.ref t1, .ref t2, .ref t3] ++ [.ref t4, .ref t5, .ref t6]))) q2 = some (.lst [.ref t1, .ref t2, .ref t3, .ref t4, .ref t5, .ref t6]) := upd_same
    generalize upd (upd H6 r2 (HO.lst [.ref t4, .ref t5, .ref t6])) q2 (HO.lst ([.ref t1, .ref t2, .ref t3] ++ [.ref t4, .ref t5, .ref t6])) = G2 at u2 m2 e2
    clear p4 p5 p6 s4 s5 s6 s456 r2' h2 g2 m1 e1 v2
    refine run_asop (l := q2) rfl ?_
    refine run_pair (fs := ["what"]) (xs := [x]) (fun Q q => ⟨_, rfl, q⟩) (fun H' Q q => q) rfl (by show 1 ≤ 3; decide) fun t7 H7 s7 p7 => ?_
    refine run_pair (fs := ["what"]) (xs := [x]) (fun Q q => ⟨_, rfl, q⟩) (fun H' Q q => q) rfl (by show 1 ≤ 3; decide) fun t8 H8 s8 p8 => ?_
    refine run_pair (fs := ["what", "many", "limit"]) (xs := [x, y, z]) (fun Q q => ⟨_, rfl, _, rfl, _, rfl, q⟩) (fun H' Q q => q) rfl (by show 3 ≤ 3; decide) fun t9 H9 s9 p9 => ?_
    have s789 := s7.trans (s8.trans s9)
    refine ⟨(by show 3 ≤ sizeLine; decide), fun r3 g3 => ⟨q2, r3, _, _, rfl, rfl, (Same.newA g3) _ _ (s789 _ _ e2), upd_same, (by show 9 ≤ sizeLine; decide), fun q3 h3 => ?_⟩⟩
    have r3' : MadeAt H9 [.ref t7, .ref t8, .ref t9] (rows3 T x y z) := .cons (p7.same (s8.trans s9)) (.cons (p8.same s9) (.cons p9 .nil))
    have v3 : Same H9 (upd (upd H9 r3 (.lst [.ref t7, .ref t8, .ref t9])) q3 (.lst ([.ref t1, .ref t2, .ref t3, .ref t4, .ref t5, .ref t6] ++ [.ref t7, .ref t8, .ref t9]))) := (Same.newA g3).trans (Same.newA h3)
    have u3 := u2.trans (s789.trans v3)
    have m3 := (m2.same (s789.trans v3)).app (r3'.same v3)
    have e3 : (upd (upd H9 r3 (.lst [.ref t7, .ref t8, .ref t9])) q3 (.lst ([.ref t1, .ref t2, .ref t3, .ref t4, .ref t5, .ref t6] ++ [.ref t7, .ref t8, .ref t9]))) q3 = some (.lst [.ref t1, .ref t2, .ref t3, .ref t4, .ref t5, .ref t6, .ref t7, .ref t8, .ref t9]) := upd_same
    generalize upd (upd H9 r3 (HO.lst [.ref t7, .ref t8, .ref t9])) q3 (HO.lst ([.ref t1, .ref t2, .ref t3, .ref t4, .ref t5, .ref t6] ++ [.ref t7, .ref t8, .ref t9])) = G3 at u3 m3 e3
    clear p7 p8 p9 s7 s8 s9 s789 r3' h3 g3 m2 e2 v3
    refine run_retop (l := q3) rfl ?_
    refine run_pair (fs := ["promise", "witness"]) (xs := [x, y]) (fun Q q => ⟨_, rfl, _, rfl, q⟩) (fun H' Q q => q) rfl (by show 2 ≤ 3; decide) fun t10 H10 s10 p10 => ?_
    refine ⟨(by show 1 ≤ sizeLine; decide), fun r4 g4 => ⟨q3, r4, _, _, rfl, rfl, (Same.newA g4) _ _ (s10 _ _ e3), upd_same, (by show 10 ≤ sizeLine; decide), fun q4 h4 => ?_⟩⟩
    have r4' : MadeAt H10 [.ref t10] (rows4 T x y z) := .cons p10 .nil
    have v4 := (Same.newA (o := .lst [.ref t10]) g4).trans (Same.newA (o := .lst ([.ref t1, .ref t2, .ref t3, .ref t4, .ref t5, .ref t6, .ref t7, .ref t8, .ref t9] ++ [.ref t10])) h4)
    exact k q4 _ _ (u3.trans (s10.trans v4)) upd_same ((m3.same (s10.trans v4)).app (r4'.same v4))
end
end Ag

set_option Elab.async false
set_option linter.all false
set_option maxRecDepth 100000
set_option maxHeartbeats 1000000
/-! What stays where the pen is drawn and tables of code objects grow. -/
namespace Ag
open PySem PySem.Spec PyProof.Rows L2 LamX
/-- all but the pen and the tables is kept -/
def Kp (p : Addr) (H H' : Hp) : Prop := ∀ a o, a ≠ p → (∀ ps, o ≠ .tbl ps) → H a = some o → H' a = some o
theorem Kp.refl (p : Addr) (H : Hp) : Kp p H H := fun _ _ _ _ h => h
theorem Kp.trans {p : Addr} {H H1 H2 : Hp} (a : Kp p H H1) (b : Kp p H1 H2) : Kp p H H2 := fun x o n t h => b x o n t (a x o n t h)
theorem Kp.but {p : Addr} {H H1 : Hp} (b : But p H H1) : Kp p H H1 := fun x o n _ h => b x o n h
theorem Kp.of {p : Addr} {H H1 : Hp} (b : Same H H1) : Kp p H H1 := fun x o _ _ h => b x o h
theorem Kp.ext {p : Addr} {H H1 : Hp} (b : ExtN H H1) : Kp p H H1 := fun x o _ t h => b x o h t
section
variable {K : PySem.W.Frag} {p c : Addr} {n : Nat} {H H' : Hp}
theorem Pen.rdK {a : Addr} {u : HO} (h : Pen p c n H) (b : Kp p H H') (r : Rd H a u) (no : ∀ kvs, u ≠ .dK kvs) (nt : ∀ ps, u ≠ .tbl ps) : Rd H' a u := by
  rcases r with r | ⟨o, r⟩
  · exact .inl (b _ _ (h.ne r no) nt r)
  · exact .inr ⟨o, b _ _ (h.ne r (fun _ z => nomatch z)) (fun _ z => nomatch z) r⟩
theorem Pen.slK {a : Addr} {xs : List V} (h : Pen p c n H) (b : Kp p H H') (r : SqL K H a xs) : SqL K H' a xs := r.imp (fun z => h.rdK b z (fun _ z => nomatch z) (fun _ z => nomatch z)) id
theorem Pen.stK {a : Addr} {xs : List V} (h : Pen p c n H) (b : Kp p H H') (r : SqT K H a xs) : SqT K H' a xs := r.imp (fun z => h.rdK b z (fun _ z => nomatch z) (fun _ z => nomatch z)) id
mutual
theorem Pen.dpK (h : Pen p c n H) (b : Kp p H H') : ∀ {v : V} {d : PyData}, Dp K H v d → Dp K H' v d
  | _, _, .non => .non
  | _, _, .bl b => .bl b
  | _, _, .int i => .int i
  | _, _, .str x => .str x
  | _, _, .lst q r => .lst (h.slK b q) (Pen.dpsK h b r)
  | _, _, .tup q r => .tup (h.stK b q) (Pen.dpsK h b r)
theorem Pen.dpsK (h : Pen p c n H) (b : Kp p H H') : ∀ {vs : List V} {ds : List PyData}, DpAll K H vs ds → DpAll K H' vs ds
  | _, _, .nil => .nil
  | _, _, .cons q r => .cons (Pen.dpK h b q) (Pen.dpsK h b r)
end
theorem Pen.ext (h : Pen p c n H) (b : ExtN H H') : Pen p c n H' := by
  obtain ⟨cells, a, d, k, f, hp, hc, r⟩ := h
  refine ⟨cells, a, d, k, f, b _ _ hp (fun _ z => nomatch z), ?_, r⟩
  rcases hc with hc | ⟨o, hc⟩
  · exact .inl (b _ _ hc (fun _ z => nomatch z))
  · exact .inr ⟨o, b _ _ hc (fun _ z => nomatch z)⟩
/-- the tables stand where but the pen is changed -/
theorem tabs_but {T : List (Addr × Str)} (h : Pen p c n H) (b : But p H H') (t : Tabs T H) : Tabs T H' := fun q hq => by
  obtain ⟨ps, e, tr, co⟩ := t q hq
  refine ⟨ps, b _ _ (h.ne e (fun _ z => nomatch z)) e, tr, fun pos cv hcv => ?_⟩
  obtain ⟨cc, rfl, hc⟩ := co pos cv hcv
  exact ⟨cc, rfl, b _ _ (h.ne hc (fun _ z => nomatch z)) hc⟩
end
end Ag

set_option Elab.async false
set_option linter.all false
set_option maxRecDepth 100000
set_option maxHeartbeats 2000000
set_option pp.maxSteps 300
namespace Ag
open PySem PySem.Spec PyProof.Rows L2 LamX
theorem look_no {z : Str} : ∀ {fs : List Str} {xs : List V}, z ∉ fs → (fs.zip xs).reverse.lookup z = none
  | [], _, _ => by simp
  | _ :: _, [], _ => by simp
  | f :: fs, x :: xs, h => by
    have h1 : z ≠ f := fun e => h (by rw [e]; exact List.mem_cons_self)
    have h2 : z ∉ fs := fun e => h (List.mem_cons_of_mem _ e)
    rw [List.zip_cons_cons, List.reverse_cons, List.lookup_append, look_no h2, List.lookup_cons]
    rw [show (z == f) = false from beq_eq_false_iff_ne.mpr h1]; rfl
theorem look_zip {z : Str} {v : V} : ∀ {fs : List Str} {xs : List V} {j : Nat}, fs.Nodup → fs[j]? = some z → xs[j]? = some v → (fs.zip xs).reverse.lookup z = some v
  | [], _, _, _, h, _ => by simp at h
  | _ :: _, [], _, _, _, h => by simp at h
  | f :: fs, x :: xs, 0, n, h, q => by
    cases h; cases q
    rw [List.zip_cons_cons, List.reverse_cons, List.lookup_append, look_no (List.nodup_cons.mp n).1, List.lookup_cons, beq_self_eq_true]; rfl
  | f :: fs, x :: xs, j + 1, n, h, q => by
    rw [List.zip_cons_cons, List.reverse_cons, List.lookup_append, look_zip (j := j) (List.nodup_cons.mp n).2 h q]; rfl
theorem run_edc {K : PySem.W.Frag} {σ : L2.St} {F : Addr → Prop} {H : Hp} {te : TE} {d : PyData} {tr : TA} {Q : List V → Hp → Prop} (h : ED K te σ F H d) (k : ∀ v H1, Same H H1 → Df K (Fr F H) H1 v d → tr σ H1 fun vs H2 => Q (v :: vs) H2) : tCons te tr σ H Q := h H (Same.refl _) _ k
theorem run_enS {K : PySem.W.Frag} {ta : TA} {g : TG} {tb : TS} {tz : TS} {D : Ends} {σ : L2.St} {H : Hp} (ha : ta σ H fun vs H1 => ∃ a xs, vs = [.ref a] ∧ SqL K H1 a xs ∧ ∃ Pv : Nat → L2.St → Hp → Prop, Pv 0 σ H1 ∧ (∀ i σ H, i ≤ xs.length → Pv i σ H → SqL K H a xs) ∧
    (∀ i x σ H T, xs[i]? = some x → Pv i σ H → H T = none → g (.ref T) σ (upd H T (.tup [.int (i : Nat), x])) fun σ2 H2 => tb { D with nx := Pv (i + 1), ct := Pv (i + 1), bk := tz D } σ2 H2) ∧ (∀ σ H, Pv xs.length σ H → tz D σ H)) (mono : ∀ Q Q', (∀ vs H1, Q vs H1 → Q' vs H1) → ta σ H Q → ta σ H Q') :
    tSeq (tFor (iEnum K ta) g tb) tz D σ H := mono _ _ (fun vs H1 ⟨a, xs, e, hq, Pv, h0, hG, hs, hd⟩ => ⟨a, xs, e, hq, for_it walk_enum Pv h0 hG (fun i x σ H H' hi hp y => by
      obtain ⟨T, u, z, rfl, hT, rfl, e1, e2⟩ := y
      cases e1
      exact hs i z σ H T e2 hp hT) hd⟩) ha
def tru : Addr → Prop := fun _ => True
section
variable {K : PySem.W.Frag} {σ : L2.St} {H : Hp}
theorem ed_isV {i : Nat} {a D : Addr} {c : V} {cv : Value} {b : Bool} {F : Addr → Prop} (hi : σ[i]? = some (some (.ref a))) (ha : ExAt H a D) (C : ExcC K D) (hc : ∀ u, RelV c u → u = cv) (e : PySem.W.kitOne K (.ref D) cv = some b) :
    ED K (tCB (rIsV K) (tCons (tVar i) (tCons (tC c) tNil))) σ F H (.bool b) := fun H1 s Q q => ⟨_, hi, a, D, c, cv, b, rfl, ha.same s, C, hc, e, q _ H1 (Same.refl _) (.bl _)⟩
theorem ed_isP {i : Nat} {a D dd : Addr} {fs : List (Str × V)} {c : V} {cv : Value} {b : Bool} {F : Addr → Prop} (hi : σ[i]? = some (some (.ref a))) (hd : H dd = some (.xd fs)) (C : ExcC K D) (hc : ∀ u, RelV c u → u = cv) (e : PySem.W.kitOne K (.ref D) cv = some b) :
    ED K (tCB (rIsP K a (.ref D) (some dd)) (tCons (tVar i) (tCons (tC c) tNil))) σ F H (.bool b) := fun H1 s Q q => ⟨_, hi, D, dd, fs, c, cv, b, rfl, rfl, rfl, s _ _ hd, C, hc, e, q _ H1 (Same.refl _) (.bl _)⟩
theorem ed_xf {i : Nat} {a D dd : Addr} {fs : List (Str × V)} {f : Str} {v : V} {d : PyData} {F : Addr → Prop} (hi : σ[i]? = some (some (.ref a))) (hd : H dd = some (.xd fs)) (hl : fs.lookup f = some v) (hv : Df K F H v d) :
    ED K (tXf a (.ref D) (some dd) D f (tVar i)) σ F H d := fun H1 s Q q => ⟨_, hi, rfl, rfl, dd, fs, v, rfl, s _ _ hd, hl, q _ H1 (Same.refl _) (df_mono s Fr.base hv)⟩
theorem ed_xo {i : Nat} {a : Addr} {f : Str} {v : V} {d : PyData} {F : Addr → Prop} (hi : σ[i]? = some (some (.ref a))) (hf : FieldAt K H a f v) (hv : Df K F H v d) :
    ED K (tXo K f (tVar i)) σ F H d := fun H1 s Q q => by
  obtain ⟨C, dd, fs, h1, h2, h3, h4, h5⟩ := hf.same s
  exact ⟨_, hi, a, C, dd, fs, v, rfl, h1, h2, h3, h4, h5, q _ H1 (Same.refl _) (df_mono s Fr.base hv)⟩
end
section
variable {P : Program} {w : World} {K : PySem.W.Frag} {mg : Str → Option Value} {base : Heap} (T : Txt w K mg)
/-- at x: the i-th error, and the names of its fields -/
def Ent (vals : List V) (H : Hp) (x : V) (i : Nat) : Prop := ∃ (t a l C : Addr) (fs : List Str), x = .ref t ∧ H t = some (.tup [.ref a, .ref l]) ∧ ExAt H a C ∧ (leaf T)[i]? = some C ∧ H l = some (.lst (fs.map V.str)) ∧ fs.length ≤ 3 ∧ (∀ (j : Nat) (z : Str), fs[j]? = some z → z ∈ fieldNs ∧ ∃ v, vals[j]? = some v ∧ FieldAt K H a z v)
theorem Ent.same {vals : List V} {H H' : Hp} {x : V} {i : Nat} (s : Same H H') : Ent T vals H x i → Ent T vals H' x i := fun ⟨t, a, l, C, fs, h1, h2, h3, h4, h5, h6, h7⟩ =>
  ⟨t, a, l, C, fs, h1, s _ _ h2, h3.same s, h4, s _ _ h5, h6, fun j z e => let ⟨m, v, q, f⟩ := h7 j z e; ⟨m, v, q, f.same s⟩⟩
theorem MadeAt.get {H : Hp} : ∀ {ts : List V} {rs : List (Addr × List Str × List V)} {i : Nat} {x : V}, MadeAt H ts rs → ts[i]? = some x → ∃ t r, x = .ref t ∧ rs[i]? = some r ∧ PairAt H t r.1 r.2.1 r.2.2
  | _, _, _, _, .nil, h => by simp at h
  | _, _, 0, _, .cons p r, h => by cases h; exact ⟨_, _, rfl, rfl, p⟩
  | _, _, i + 1, _, .cons p r, h => MadeAt.get (i := i) r h
/-- what is to be known of a row -/
def RowOk (vals : List V) (i : Nat) (r : Addr × List Str × List V) : Prop := (leaf T)[i]? = some r.1 ∧ XfC K r.1 ∧ r.2.1.Nodup ∧ (∀ z ∈ r.2.1, z ∈ fieldNs ∧ PySem.W.findIn K (.ref r.1) z = some none) ∧ r.2.1.length ≤ 3 ∧ r.2.2 = vals.take r.2.1.length
theorem fm {z : Str} (h : fieldNs.contains z = true) : z ∈ fieldNs := List.contains_iff_mem.mp h
theorem rows_ok {x y z : V} : ∀ {i : Nat} {r : Addr × List Str × List V}, (madeL T x y z)[i]? = some r → RowOk T [x, y, z] i r
  | 0, _, h => by cases h; exact ⟨rfl, T.xf_BadText, (by show (["line", "word"] : List Str).Nodup; decide +kernel), fun q hq => by
      simp only [List.mem_cons, List.not_mem_nil, or_false] at hq; rcases hq with rfl | rfl; exact ⟨fm (by decide +kernel), T.na_BadText_line⟩; exact ⟨fm (by decide +kernel), T.na_BadText_word⟩, (by show 2 ≤ 3; decide), rfl⟩
  | 1, _, h => by cases h; exact ⟨rfl, T.xf_BadName, (by show (["name"] : List Str).Nodup; decide +kernel), fun q hq => by
      simp only [List.mem_cons, List.not_mem_nil, or_false] at hq; rcases hq with rfl; exact ⟨fm (by decide +kernel), T.na_BadName_name⟩, (by show 1 ≤ 3; decide), rfl⟩
  | 2, _, h => by cases h; exact ⟨rfl, T.xf_BadNumber, (by show (["what", "number"] : List Str).Nodup; decide +kernel), fun q hq => by
      simp only [List.mem_cons, List.not_mem_nil, or_false] at hq; rcases hq with rfl | rfl; exact ⟨fm (by decide +kernel), T.na_BadNumber_what⟩; exact ⟨fm (by decide +kernel), T.na_BadNumber_number⟩, (by show 2 ≤ 3; decide), rfl⟩
  | 3, _, h => by cases h; exact ⟨rfl, T.xf_BadRow, (by show (["what", "row"] : List Str).Nodup; decide +kernel), fun q hq => by
      simp only [List.mem_cons, List.not_mem_nil, or_false] at hq; rcases hq with rfl | rfl; exact ⟨fm (by decide +kernel), T.na_BadRow_what⟩; exact ⟨fm (by decide +kernel), T.na_BadRow_row⟩, (by show 2 ≤ 3; decide), rfl⟩
  | 4, _, h => by cases h; exact ⟨rfl, T.xf_NoName, (by show (["name"] : List Str).Nodup; decide +kernel), fun q hq => by
      simp only [List.mem_cons, List.not_mem_nil, or_false] at hq; rcases hq with rfl; exact ⟨fm (by decide +kernel), T.na_NoName_name⟩, (by show 1 ≤ 3; decide), rfl⟩
  | 5, _, h => by cases h; exact ⟨rfl, T.xf_TakenName, (by show (["name"] : List Str).Nodup; decide +kernel), fun q hq => by
      simp only [List.mem_cons, List.not_mem_nil, or_false] at hq; rcases hq with rfl; exact ⟨fm (by decide +kernel), T.na_TakenName_name⟩, (by show 1 ≤ 3; decide), rfl⟩
  | 6, _, h => by cases h; exact ⟨rfl, T.xf_Unlike, (by show (["what"] : List Str).Nodup; decide +kernel), fun q hq => by
      simp only [List.mem_cons, List.not_mem_nil, or_false] at hq; rcases hq with rfl; exact ⟨fm (by decide +kernel), T.na_Unlike_what⟩, (by show 1 ≤ 3; decide), rfl⟩
  | 7, _, h => by cases h; exact ⟨rfl, T.xf_NotThere, (by show (["what"] : List Str).Nodup; decide +kernel), fun q hq => by
      simp only [List.mem_cons, List.not_mem_nil, or_false] at hq; rcases hq with rfl; exact ⟨fm (by decide +kernel), T.na_NotThere_what⟩, (by show 1 ≤ 3; decide), rfl⟩
  | 8, _, h => by cases h; exact ⟨rfl, T.xf_TooMany, (by show (["what", "many", "limit"] : List Str).Nodup; decide +kernel), fun q hq => by
      simp only [List.mem_cons, List.not_mem_nil, or_false] at hq; rcases hq with rfl | rfl | rfl; exact ⟨fm (by decide +kernel), T.na_TooMany_what⟩; exact ⟨fm (by decide +kernel), T.na_TooMany_many⟩; exact ⟨fm (by decide +kernel), T.na_TooMany_limit⟩, (by show 3 ≤ 3; decide), rfl⟩
  | 9, _, h => by cases h; exact ⟨rfl, T.xf_NotKept, (by show (["promise", "witness"] : List Str).Nodup; decide +kernel), fun q hq => by
      simp only [List.mem_cons, List.not_mem_nil, or_false] at hq; rcases hq with rfl | rfl; exact ⟨fm (by decide +kernel), T.na_NotKept_promise⟩; exact ⟨fm (by decide +kernel), T.na_NotKept_witness⟩, (by show 2 ≤ 3; decide), rfl⟩
  | n + 10, _, h => by simp [madeL, rows1, rows2, rows3, rows4] at h
theorem ent_made {x y z : V} {H : Hp} {ts : List V} {i : Nat} {u : V} (m : MadeAt H ts (madeL T x y z)) (h : ts[i]? = some u) : Ent T [x, y, z] H u i := by
  obtain ⟨t, ⟨C, fs, xs⟩, rfl, e, a, l, d, h1, h2, h3, h4⟩ := m.get h
  obtain ⟨r1, r2, r3, r4, r5, r6⟩ := rows_ok T e
  have r1 : (leaf T)[i]? = some C := r1
  have r5 : fs.length ≤ 3 := r5
  have r6 : xs = [x, y, z].take fs.length := r6
  refine ⟨t, a, l, C, fs, rfl, h1, .inl ⟨d, _, h2, h3⟩, r1, h4, r5, fun j q hq => ?_⟩
  have hj : j < fs.length := (List.getElem?_eq_some_iff.mp hq).1
  obtain ⟨m1, m2⟩ := r4 q (List.mem_of_getElem? hq)
  have hv : ∃ v, [x, y, z][j]? = some v := ⟨_, List.getElem?_eq_getElem (by show j < 3; omega)⟩
  obtain ⟨v, hv⟩ := hv
  refine ⟨m1, v, hv, C, d, _, h2, h3, look_zip r3 hq ?_, r2, m2⟩
  rw [r6, List.getElem?_take, if_pos hj]; exact hv
theorem vals_ok : ∀ {d : PyData}, d ∈ valsD → d.showable = true ∧ d.depth ≤ 4 ∧ d.shown.length ≤ 100 := by
  have h : valsD.all (fun d => d.showable && decide (d.depth ≤ 4) && decide (d.shown.length ≤ 100)) = true := by decide +kernel
  intro d hd
  have := List.all_eq_true.mp h d hd
  simp only [Bool.and_eq_true, decide_eq_true_eq] at this
  exact ⟨this.1.1, this.1.2, this.2⟩
theorem shown_all : ∀ {ds : List PyData}, (∀ d ∈ ds, d ∈ valsD) → PyData.showableAll ds = true ∧ PyData.depthAll ds ≤ 4 ∧ (PyData.shownAll ds).length = ds.length ∧ ((PyData.shownAll ds).map (·.length)).sum ≤ 100 * ds.length
  | [], _ => by simp [PyData.showableAll, PyData.shownAll, PyData.depthAll]
  | d :: ds, h => by
    obtain ⟨i1, i2, i3, i4⟩ := shown_all fun y hy => h y (List.mem_cons_of_mem _ hy)
    obtain ⟨h1, h2, h3⟩ := vals_ok (h d List.mem_cons_self)
    have e1 : PyData.shownAll (d :: ds) = d.shown :: PyData.shownAll ds := by rw [PyData.shownAll]
    refine ⟨by rw [PyData.showableAll, h1, i1]; rfl, ?_, by rw [e1, List.length_cons, i3, List.length_cons], ?_⟩
    · rw [PyData.depthAll]; omega
    · rw [e1, List.map_cons, List.sum_cons, List.length_cons]; omega
theorem show_ok {ds : List PyData} (h : ∀ d ∈ ds, d ∈ valsD) (hl : ds.length ≤ 3) : (PyData.list ds).showable = true ∧ (PyData.list ds).depth ≤ 50 ∧ (PyData.list ds).shown.length ≤ sizeLine := by
  obtain ⟨i1, i2, i3, i4⟩ := shown_all h
  refine ⟨by rw [PyData.showable]; exact i1, ?_, ?_⟩
  · have e : (PyData.list ds).depth = 1 + PyData.depthAll ds := by rw [PyData.depth]; first | rfl | omega
    omega
  · rw [PyData.shown]
    have := listText_len_le (PyData.shownAll ds)
    exact small5 (by omega)
theorem bls_df {K : PySem.W.Frag} {F : Addr → Prop} {H : Hp} (i : Nat) : ∀ (js : List Nat), DfAll K F H (js.map fun j => .bl (decide (j = i))) (js.map fun j => .bool (decide (j = i)))
  | [] => .nil
  | j :: js => .cons (.bl _) (bls_df i js)
theorem cutD_to (ys : List PyData) (k : Nat) : cutD ys none (some (k : Int)) = ys.take k := by
  unfold cutD
  rw [HT.sIx_none, HT.sIx_nat, List.drop_zero, Nat.sub_zero]
  by_cases h : k ≤ ys.length
  · rw [Nat.min_eq_left h]
  · rw [Nat.min_eq_right (by omega), List.take_length, List.take_of_length_le (by omega)]
theorem bools_sh (bs : List Bool) : PyData.canLayAll0 (bs.map .bool) = true ∧ PyData.depthAll (bs.map .bool) ≤ 1 ∧ PyData.eqvAll (bs.map .bool) (bs.map .bool) = true := by
  induction bs with
  | nil => simp [PyData.canLayAll0, PyData.depthAll, PyData.eqvAll]
  | cons b bs ih =>
    obtain ⟨h1, h2, h3⟩ := ih
    refine ⟨?_, ?_, ?_⟩
    · rw [List.map_cons, PyData.canLayAll0, h1]; simp [PyData.canLay0]
    · rw [List.map_cons, PyData.depthAll]; simp [PyData.depth]; omega
    · rw [List.map_cons, PyData.eqvAll, h3]; simp [PyData.eqv]
theorem kinds_sh (i : Nat) : SeqAt.shaped (.list ((List.range 12).map fun j => .bool (decide (j = i)))) = true ∧ PyData.eqv (.list ((List.range 12).map fun j => .bool (decide (j = i)))) (.list ((List.range 12).map fun j => .bool (decide (j = i)))) = true := by
  obtain ⟨h1, h2, h3⟩ := bools_sh ((List.range 12).map fun j => decide (j = i))
  rw [List.map_map] at h1 h2 h3
  have h1 : PyData.canLayAll0 ((List.range 12).map fun j => PyData.bool (decide (j = i))) = true := h1
  have h2 : PyData.depthAll ((List.range 12).map fun j => PyData.bool (decide (j = i))) ≤ 1 := h2
  have h3 : PyData.eqvAll ((List.range 12).map fun j => PyData.bool (decide (j = i))) ((List.range 12).map fun j => PyData.bool (decide (j = i))) = true := h3
  generalize (List.range 12).map (fun j => PyData.bool (decide (j = i))) = L at h1 h2 h3
  refine ⟨?_, by rw [PyData.eqv]; exact h3⟩
  unfold SeqAt.shaped
  have e : (PyData.list L).depth = 1 + PyData.depthAll L := by rw [PyData.depth]; first | rfl | omega
  rw [show (PyData.list L).canLay0 = true by rw [PyData.canLay0]; exact h1, Bool.true_and, e]
  exact decide_eq_true (by omega)
def litD : PyData := .list [.int 1, .list [.int 2], .int 3]
theorem lit_sh : SeqAt.shaped litD = true ∧ PyData.eqv litD litD = true := by decide +kernel
theorem one_sh : SeqAt.shaped (.list [.bool true]) = true ∧ PyData.eqv (.list [.bool true]) (.list [.bool true]) = true := by decide +kernel
theorem law_runs {a : Addr} {zs : List Int} {s : Shared} {H : Hp} (hs : SqL K H a (zs.map V.int)) (hl : zs.length ≤ 63) (e0 : Env0 P w K mg base callerA [] s H) :
    codeAny (model P w) callerA (.call (.ref T.a_law) ⟨[.ref a], []⟩) (CR CX0 [] P w H s (fun v _ => v = .bl true) fun _ _ _ => False) s := by
  have G_law_pen := ok_law_pen (P := P) (base := base) T
  have G_law_value := ok_law_value (P := P) (base := base) T
  have G_law_fields := ok_law_fields (P := P) (w := w) (base := base) T
  have G_law_made_errors := ok_law_made (P := P) (w := w) (base := base) T
  have G_law_kinds := ok_law_kinds (P := P) (w := w) (base := base) T
  have G_BadRow___init__ := ok_BadRow_init (P := P) (w := w) (base := base) T
  have G_NotThere___init__ := ok_NotThere_init (P := P) (w := w) (base := base) T
  obtain ⟨oc, od, kV, doc, pm, an, cdv, ct, osl, efd, lk, hcd⟩ := T.D_law.fn.ex
  have BL := T.D_law.bd
  rw [efd] at BL lk
  have kIn : K.In s.heap := e0.mod.kin.keeps fun b o e => (e0.bs b o e).1
  have rm : Room 12 callerA := ⟨rfl, by decide +kernel, by decide +kernel⟩
  refine run_ofS (N := ["script", "pen", "values", "at", "made", "one", "names", "due", "place", "kept", "last", "found", "told"]) (vs := [.ref a]) (us := [.ref a]) lk hcd sc_law rm e0 (BL s [.ref a] kIn rfl) (.cons rfl .nil) rfl fun hr => ?_
  refine ⟨_, (pss_cons (ps_set (i := 1) sc_law.nd rfl (by first | exact Or.inl rfl | exact Or.inr rfl) (pe_call (G_law_pen) (hr.mono (by omega)) (by rfl) T.D_law_pen.mg T.D_law_pen.fn.kp T.D_law_pen.bd .nil pass0 (pa_cons (pv 0) pa_nil)))
      (pss_cons (ps_set (i := 2) sc_law.nd rfl (by first | exact Or.inl rfl | exact Or.inr rfl) (pe_lst (pa_cons (pe_call (G_law_value) (hr.mono (by omega)) (by rfl) T.D_law_value.mg T.D_law_value.fn.kp T.D_law_value.bd .nil pass0 (pa_cons (pv 1) pa_nil)) (pa_cons (pe_call (G_law_value) (hr.mono (by omega)) (by rfl) T.D_law_value.mg T.D_law_value.fn.kp T.D_law_value.bd .nil pass0 (pa_cons (pv 1) pa_nil)) (pa_cons (pe_call (G_law_value) (hr.mono (by omega)) (by rfl) T.D_law_value.mg T.D_law_value.fn.kp T.D_law_value.bd .nil pass0 (pa_cons (pv 1) pa_nil)) pa_nil)))))
      (pss_cons (ps_for (passes_of rfl) rfl (pi_enum (by rfl) T.b_enumerate (pa_cons (pe_op op_cat (pe_call (G_law_made_errors) (hr.mono (by omega)) (by rfl) T.D_law_made_errors.mg T.D_law_made_errors.fn.kp T.D_law_made_errors.bd .nil pass0 (pa_cons (pe_ix ix_seq (pv 2) pe_int (fun _ _ => rfl)) (pa_cons (pe_ix ix_seq (pv 2) pe_int (fun _ _ => rfl)) (pa_cons (pe_ix ix_seq (pv 2) pe_int (fun _ _ => rfl)) pa_nil)))) (pe_lst (pa_cons (pe_tup (pa_cons (pe_exc0 PySem.F.excBase_ValueError T.xi_NothingToUndo T.g_NothingToUndo T.kc_NothingToUndo (by rfl)) (pa_cons (pe_lst pa_nil) pa_nil))) (pa_cons (pe_tup (pa_cons (pe_exc0 PySem.F.excBase_ValueError T.xi_NothingToRedo T.g_NothingToRedo T.kc_NothingToRedo (by rfl)) (pa_cons (pe_lst pa_nil) pa_nil))) pa_nil)))) pa_nil)) (pg_tup rfl (pgs_cons (pg_name (i := 3) sc_law.nd rfl (by first | exact Or.inl rfl | exact Or.inr rfl)) (pgs_cons (pg_name (i := 4) sc_law.nd rfl (by first | exact Or.inl rfl | exact Or.inr rfl)) pgs_nil))) (pss_cons (ps_asg (pv 4) (pg_tup rfl (pgs_cons (pg_name (i := 5) sc_law.nd rfl (by first | exact Or.inl rfl | exact Or.inr rfl)) (pgs_cons (pg_name (i := 6) sc_law.nd rfl (by first | exact Or.inl rfl | exact Or.inr rfl)) pgs_nil))))
      (pss_cons (ps_if (PW.pt (pw_or (pt_not (pt_val (pe_callB call_isV (by rfl) T.b_isinstance bt_isinstance (pa_cons (pv 5) (pa_cons (pe_glob (v := .ref T.C_AgainError) (by rfl) T.g_AgainError rfl) pa_nil))))) (pw_or1 (pt_not (pt_val (pe_callB call_isV (by rfl) T.b_isinstance bt_isinstance (pa_cons (pv 5) (pa_cons (pe_bltn (v := .ty "ValueError") (by rfl) T.b_ValueError bt_ValueError rfl) pa_nil)))))))) (pss_one (ps_ret pe_bl)) pss_nil)
      (pss_cons (ps_set (i := 7) sc_law.nd rfl (by first | exact Or.inl rfl | exact Or.inr rfl) (pe_slice sl_list (pv 2) po_none (po_some (pe_callB call_len (by rfl) T.b_len bt_len (pa_cons (pv 6) pa_nil)))))
      (pss_cons (ps_if (pt_cmpR op_ne (pe_callB (cr_repr rfl hr.units) (by rfl) T.b_repr bt_repr (pa_cons (pe_call (G_law_fields) (hr.mono (by omega)) (by rfl) T.D_law_fields.mg T.D_law_fields.fn.kp T.D_law_fields.bd .nil pass0 (pa_cons (pv 5) (pa_cons (pv 6) pa_nil))) pa_nil)) (pe_callB (cr_repr rfl hr.units) (by rfl) T.b_repr bt_repr (pa_cons (pv 7) pa_nil)) (nomark _)) (pss_one (ps_ret pe_bl)) pss_nil)
      (pss_one (ps_if (pt_cmpR (op_neD hr.units) (pe_call (G_law_kinds) (hr.mono (by omega)) (by rfl) T.D_law_kinds.mg T.D_law_kinds.fn.kp T.D_law_kinds.bd .nil pass0 (pa_cons (pv 5) pa_nil)) (pe_lc (own := [("place", 8)]) rfl sc_law.nd (pi_range1 (by rfl) T.b_range (pa_cons pe_int pa_nil)) (blkOk_by (own := [("place", 8)]) (N := ["script", "pen", "values", "at", "made", "one", "names", "due", "place", "kept", "last", "found", "told"]) (sc := defScope s_law) (by decide +kernel)) (fun _ _ _ _ _ => (pg_name (i := 8) sc_law.nd rfl (by first | exact Or.inl rfl | exact Or.inr rfl))) (fun _ _ _ _ _ => pts_nil) (fun _ _ _ _ _ => (pe_cmpR op_eq (pv 8) (pv 3) (nomark _)))) (nomark _)) (pss_one (ps_ret pe_bl)) pss_nil)))))))
      (pss_cons (ps_set (i := 9) sc_law.nd rfl (by first | exact Or.inl rfl | exact Or.inr rfl) (pe_lst (pa_cons pe_int (pa_cons (pe_lst (pa_cons pe_int pa_nil)) pa_nil))))
      (pss_cons (ps_set (i := 10) sc_law.nd rfl (by first | exact Or.inl rfl | exact Or.inr rfl) (pe_oex T.ox_BadRow T.ic_BadRow T.ti_BadRow (G_BadRow___init__) (hr.mono (by omega)) T.D_BadRow___init__.bd .nil pass0 (by rfl) T.g_BadRow (pa_cons pe_str (pa_cons (pv 9) pa_nil))))
      (pss_cons (ps_expr (pe_bm PySem.F.plainAttrs_list PySem.F.slot_list_append PySem.F.type_list_append mt_append (pv 9) (pa_cons pe_int pa_nil)))
      (pss_cons (ps_if (pt_cmpR (op_neD hr.units) (pe_xo (pv 10)) (pe_lst (pa_cons pe_int (pa_cons (pe_lst (pa_cons pe_int pa_nil)) (pa_cons pe_int pa_nil)))) (nomark _)) (pss_one (ps_ret pe_bl)) pss_nil)
      (pss_cons (ps_set (i := 11) sc_law.nd rfl (by first | exact Or.inl rfl | exact Or.inr rfl) (pe_lst pa_nil))
      (pss_cons (ps_try_as (i := 12) (c := .ref T.C_AgainError) (ts := fun a c d => tDrop (tBM K "list" rAppend (tVar 11) (tCons (tAndV (tCB (rIsP K a c d) (tCons (tVar 12) (tCons (tC (.ty "ValueError")) tNil))) (tAndV (tCB (rIsP K a c d) (tCons (tVar 12) (tCons (tC (.ref T.C_NotThere)) tNil))) (tOp (rEqD K) (tXf a c d T.C_NotThere "what" (tVar 12)) (tLst (tCons (tC (.int 1)) (tCons (tLst (tCons (tC (.int 2)) tNil)) (tCons (tC (.int 3)) tNil))))))) tNil))) rfl rfl sc_law.nd rfl rfl ⟨by rfl, by decide, .inl T.g_AgainError⟩ LamX.takes0 (fun W pn xe tk _ => pss_one (ps_raise rfl tk (pmk_oex T.ox_NotThere T.ic_NotThere T.ti_NotThere (G_NotThere___init__) (hr.mono (by omega)) T.D_NotThere___init__.bd .nil pass0 (by rfl) T.g_NotThere (pa_cons (pe_lst (pa_cons pe_int (pa_cons (pe_lst (pa_cons pe_int pa_nil)) (pa_cons pe_int pa_nil)))) pa_nil)))) (fun a oe c d pn hz hf => ?suite))
      (pss_one (ps_ret (pe_cmpR (op_eqD hr.units) (pv 11) (pe_lst (pa_cons pe_bl pa_nil)) (nomark _))))))))))))), ?_⟩
  case suite => exact pss_one (ps_expr (pe_bm PySem.F.plainAttrs_list PySem.F.slot_list_append PySem.F.type_list_append mt_append (pv 11) (pa_cons (pe_and (pe_callB (call_isP (X := (cxOf CX0 P w K mg base ["script", "pen", "values", "at", "made", "one", "names", "due", "place", "kept", "last", "found", "told"] "law" (defScope s_law) T.a_law cdv callerA [] s H (fun _ _ _ => False))) hz hf) (by rfl) T.b_isinstance bt_isinstance (pa_cons (pv 12) (pa_cons (pe_bltn (v := .ty "ValueError") (by rfl) T.b_ValueError bt_ValueError rfl) pa_nil))) (pe_and (pe_callB (call_isP (X := (cxOf CX0 P w K mg base ["script", "pen", "values", "at", "made", "one", "names", "due", "place", "kept", "last", "found", "told"] "law" (defScope s_law) T.a_law cdv callerA [] s H (fun _ _ _ => False))) hz hf) (by rfl) T.b_isinstance bt_isinstance (pa_cons (pv 12) (pa_cons (pe_glob (v := .ref T.C_NotThere) (by rfl) T.g_NotThere rfl) pa_nil))) (pe_one (pe_cmpR (op_eqD (X := (cxOf CX0 P w K mg base ["script", "pen", "values", "at", "made", "one", "names", "due", "place", "kept", "last", "found", "told"] "law" (defScope s_law) T.a_law cdv callerA [] s H (fun _ _ _ => False)).suite a ((a, oe) :: pn)) hr.units) (pe_xf (X := (cxOf CX0 P w K mg base ["script", "pen", "values", "at", "made", "one", "names", "due", "place", "kept", "last", "found", "told"] "law" (defScope s_law) T.a_law cdv callerA [] s H (fun _ _ _ => False))) T.xf_NotThere T.na_NotThere_what hz hf (pv 12)) (pe_lst (pa_cons pe_int (pa_cons (pe_lst (pa_cons pe_int pa_nil)) (pa_cons pe_int pa_nil)))) (nomark _))))) pa_nil)))
  refine ⟨_, rfl, a, zs, rfl, hs, hl, fun p c H1 s1 P1 => ?_⟩
  refine ⟨_, rfl, p, c, 0, rfl, P1, by decide, fun v0 d0 H2 dv0 m0 b2 P2 => ?_⟩
  refine ⟨_, rfl, p, c, 1, rfl, P2, by decide, fun v1 d1 H3 dv1 m1 b3 P3 => ?_⟩
  refine ⟨_, rfl, p, c, 2, rfl, P3, by decide, fun v2 d2 H4 dv2 m2 b4 P4 => ?_⟩
  refine ⟨(by show 3 ≤ sizeLine; decide), fun vl hvl => ?_⟩
  have q0 := P3.dp b4 (P2.dp b3 dv0)
  have q1 := P3.dp b4 dv1
  have sV : Same H4 (upd H4 vl (.lst [v0, v1, v2])) := Same.newA hvl
  have eV : (upd H4 vl (.lst [v0, v1, v2])) vl = some (.lst [v0, v1, v2]) := upd_same
  replace q0 := dp_mono sV q0
  replace q1 := dp_mono sV q1
  have q2 := dp_mono sV dv2
  generalize upd H4 vl (HO.lst [v0, v1, v2]) = H5 at sV eV q0 q1 q2
  clear sV dv0 dv1 dv2 b2 b3 b4 P1 P2 P3 P4 s1 hvl hs e0 lk hcd BL kIn
  have mem : ∀ d ∈ [d0, d1, d2], d ∈ valsD := fun d hd => by
    simp only [List.mem_cons, List.not_mem_nil, or_false] at hd
    rcases hd with rfl | rfl | rfl <;> assumption
  have dall : ∀ H', Same H5 H' → DpAll K H' [v0, v1, v2] [d0, d1, d2] := fun H' s' => .cons (dp_mono s' q0) (.cons (dp_mono s' q1) (.cons (dp_mono s' q2) .nil))
  -- the twelve errors
  refine ⟨_, rfl, .inl ⟨vl, _, _, v0, rfl, rfl, SqL.of eV, atI_nat (show [v0, v1, v2][0]? = some v0 from rfl), _, rfl, .inl ⟨vl, _, _, v1, rfl, rfl, SqL.of eV, atI_nat (show [v0, v1, v2][1]? = some v1 from rfl), _, rfl, .inl ⟨vl, _, _, v2, rfl, rfl, SqL.of eV, atI_nat (show [v0, v1, v2][2]? = some v2 from rfl), v0, v1, v2, rfl, fun l ts H6 s6 el hm => ?_⟩⟩⟩⟩
  have lts : ts.length = 10 := hm.len
  intro a1 h1
  refine ⟨(by show 0 ≤ sizeLine; decide), fun l1 hl1 => ⟨(by show 2 ≤ sizeLine; decide), fun t1 ht1 => ?_⟩⟩
  have u1 : Same H6 (upd H6 a1 (ExO (.ref T.C_NothingToUndo) a1)) := Same.newA h1
  have u2 := Same.newA (o := .lst []) hl1
  have u3 := Same.newA (o := .tup [.ref a1, .ref l1]) ht1
  have f1 := u3 _ _ (u2 _ _ (show (upd H6 a1 (ExO (.ref T.C_NothingToUndo) a1)) a1 = some (ExO (.ref T.C_NothingToUndo) a1) from upd_same))
  have f2 := u3 _ _ (show (upd (upd H6 a1 (ExO (.ref T.C_NothingToUndo) a1)) l1 (.lst [])) l1 = some (.lst []) from upd_same)
  have f3 : (upd (upd (upd H6 a1 (ExO (.ref T.C_NothingToUndo) a1)) l1 (.lst [])) t1 (.tup [.ref a1, .ref l1])) t1 = some (.tup [.ref a1, .ref l1]) := upd_same
  have u13 := (u1.trans u2).trans u3
  generalize upd (upd (upd H6 a1 (ExO (.ref T.C_NothingToUndo) a1)) l1 (.lst [])) t1 (.tup [.ref a1, .ref l1]) = G1 at u13 f1 f2 f3
  clear u1 u2 u3 h1 hl1 ht1
  intro a2 h2
  refine ⟨(by show 0 ≤ sizeLine; decide), fun l2 hl2 => ⟨(by show 2 ≤ sizeLine; decide), fun t2 ht2 => ?_⟩⟩
  have u1 : Same G1 (upd G1 a2 (ExO (.ref T.C_NothingToRedo) a2)) := Same.newA h2
  have u2 := Same.newA (o := .lst []) hl2
  have u3 := Same.newA (o := .tup [.ref a2, .ref l2]) ht2
  have g1 := u3 _ _ (u2 _ _ (show (upd G1 a2 (ExO (.ref T.C_NothingToRedo) a2)) a2 = some (ExO (.ref T.C_NothingToRedo) a2) from upd_same))
  have g2 := u3 _ _ (show (upd (upd G1 a2 (ExO (.ref T.C_NothingToRedo) a2)) l2 (.lst [])) l2 = some (.lst []) from upd_same)
  have g3 : (upd (upd (upd G1 a2 (ExO (.ref T.C_NothingToRedo) a2)) l2 (.lst [])) t2 (.tup [.ref a2, .ref l2])) t2 = some (.tup [.ref a2, .ref l2]) := upd_same
  have w13 := (u1.trans u2).trans u3
  generalize upd (upd (upd G1 a2 (ExO (.ref T.C_NothingToRedo) a2)) l2 (.lst [])) t2 (.tup [.ref a2, .ref l2]) = G2 at w13 g1 g2 g3
  clear u1 u2 u3 h2 hl2 ht2
  refine ⟨(by show 2 ≤ sizeLine; decide), fun r hr0 => ⟨l, r, ts, _, rfl, rfl, (Same.newA hr0) _ _ (w13 _ _ (u13 _ _ el)), upd_same, (by rw [lts]; show 12 ≤ sizeLine; decide), fun q hq => ?_⟩⟩
  have z1 : Same G2 (upd (upd G2 r (.lst [.ref t1, .ref t2])) q (.lst (ts ++ [.ref t1, .ref t2]))) := (Same.newA hr0).trans (Same.newA hq)
  have eq : (upd (upd G2 r (.lst [.ref t1, .ref t2])) q (.lst (ts ++ [.ref t1, .ref t2]))) q = some (.lst (ts ++ [.ref t1, .ref t2])) := upd_same
  generalize upd (upd G2 r (HO.lst [.ref t1, .ref t2])) q (HO.lst (ts ++ [.ref t1, .ref t2])) = Hq at z1 eq
  have hE : ∀ i x, (ts ++ [.ref t1, .ref t2])[i]? = some x → Ent T [v0, v1, v2] Hq x i := fun i x hx => by
    by_cases hi : i < 10
    · rw [List.getElem?_append_left (by omega)] at hx
      exact (ent_made T hm hx).same T (u13.trans (w13.trans z1))
    · rw [List.getElem?_append_right (by omega), lts] at hx
      have : i = 10 ∨ i = 11 := by
        have := (List.getElem?_eq_some_iff.mp hx).1
        have : i - 10 < 2 := this
        omega
      rcases this with rfl | rfl
      · cases hx
        exact ⟨t1, a1, l1, _, [], rfl, z1 _ _ (w13 _ _ f3), .inr (z1 _ _ (w13 _ _ f1)), rfl, z1 _ _ (w13 _ _ f2), by decide, fun j z h => by simp at h⟩
      · cases hx
        exact ⟨t2, a2, l2, _, [], rfl, z1 _ _ g3, .inr (z1 _ _ g1), rfl, z1 _ _ g2, by decide, fun j z h => by simp at h⟩
  have s5q : Same H5 Hq := s6.trans (u13.trans (w13.trans z1))
  have lxs : (ts ++ [V.ref t1, V.ref t2]).length = 12 := by rw [List.length_append, lts]; rfl
  generalize ts ++ [V.ref t1, V.ref t2] = xs at eq hE lxs
  have eVq := s5q _ _ eV
  have dallq : ∀ H', Same Hq H' → DpAll K H' [v0, v1, v2] [d0, d1, d2] := fun H' s' => dall H' (s5q.trans s')
  clear dall z1 w13 u13 f1 f2 f3 g1 g2 g3 hm el s6 q0 q1 q2 eV lts hr0 hq s5q
  refine ⟨q, xs, rfl, SqL.of eq, ?_⟩
  refine for_it (walk_enum (K := K) (a := q) (xs := xs)) (fun i σ' H' => ∃ o3 o4 o5 o6 o7, σ' = [some (.ref a), some (.ref p), some (.ref vl), o3, o4, o5, o6, o7, none, none, none, none, none] ∧ Same Hq H') ⟨none, none, none, none, none, rfl, Same.refl _⟩ ?_ ?_ ?_
  · rintro i σ' H' _ ⟨_, _, _, _, _, rfl, s⟩; exact SqL.of (s _ _ eq)
  · rintro i x σ' H' H'' hi ⟨o3, o4, o5, o6, o7, rfl, s⟩ ⟨Tp, u, z, rfl, hTp, rfl, e1, e2⟩
    cases e1
    have s4 : Same Hq (upd H' Tp (.tup [.int (i : Nat), z])) := s.trans (Same.newA hTp)
    obtain ⟨t, ea, l, C, fs, rfl, y2, y3, y4, y5, y6, y7⟩ := (hE i z e2).same T s4
    refine ⟨Tp, _, rfl, .inl (.inl upd_same), rfl, _, _, rfl, _, _, rfl, rfl, ?_⟩
    generalize upd H' Tp (HO.tup [.int (i : Nat), .ref t]) = H8 at s4 y2 y3 y5 y7
    refine ⟨_, rfl, t, _, rfl, .inl (.inl y2), rfl, _, _, rfl, _, _, rfl, rfl, ?_⟩
    obtain ⟨ec, _, kA, kV⟩ := ec_all T y4
    refine s_if (b := false) (et_is (et_or (et_not (et_test (ed_isV (K := K) (F := tru) (c := .ref T.C_AgainError) (cv := .ref T.C_AgainError) rfl y3 ec (fun u r => r) kA))) (fun _ => et_not (et_test (ed_isV (K := K) (F := tru) (c := .ty "ValueError") (cv := .type "ValueError") rfl y3 ec (fun u r => r) kV)))) rfl) (fun h => nomatch h) fun _ H9 s9 => ?_
    have s49 := s4.trans s9
    have names9 : ∀ {H'}, Same H8 H' → Df K tru H' (.ref l) (.list (fs.map .str)) := fun s' => .lst (.inl ⟨.inl (s' _ _ y5), trivial⟩) (dfs_strs fs)
    have toT : ∀ {H' : Hp} {us : List V} {ds : List PyData}, DpAll K H' us ds → DfAll K tru H' us ds := fun h => dfs_mono (Same.refl _) (fun _ _ => trivial) (dps_dfs h)
    refine s_set (K := K) (F := tru) (ed_slL (ed_var rfl (show Df K tru H9 (.ref vl) (.list [d0, d1, d2]) from .lst (.inl ⟨.inl (s49 _ _ eVq), trivial⟩) (toT (dallq _ s49)))) eo_none (eo_some (K := K) (F := tru) (ed_is (ed_len (ed_var rfl (names9 s9)) rfl) (show PyData.int ((fs.map PyData.str).length : Nat) = .int (fs.length : Nat) by rw [List.length_map])))) fun due H10 s10 hdue => ?_
    rw [cutD_to] at hdue
    have s410 := s49.trans s10
    have s8_10 := s9.trans s10
    have hsh := show_ok (ds := [d0, d1, d2].take fs.length) (fun d hd => mem d (List.mem_of_mem_take hd)) (by rw [List.length_take]; show min fs.length 3 ≤ 3; omega)
    have hF : ∀ {E : XK}, ED K (tCall (spFields K) [] E (tCons (tVar 5) (tCons (tVar 6) tNil))) [some (.ref a), some (.ref p), some (.ref vl), some (.int (i : Nat)), some (.ref t), some (.ref ea), some (.ref l), some due, none, none, none, none, none] tru H10 (.list ([d0, d1, d2].take fs.length)) := fun {E} H1 s1 Q k => by
      refine ⟨_, rfl, _, rfl, ea, l, fs, [v0, v1, v2].take fs.length, rfl, SqL.of (s1 _ _ (s8_10 _ _ y5)), ?_, by omega, fun j z hz => ?_, fun q' H' s' e' => k _ H' s' (.lst (.inl ⟨.inl e', .inl trivial⟩) (dfs_mono (Same.refl _) (fun _ _ => .inl trivial) (dps_dfs (dps_take fs.length (dallq H' ((s410.trans s1).trans s'))))))⟩
      · rw [List.length_take]; show fs.length = min fs.length 3; omega
      · obtain ⟨n1, v, n2, n3⟩ := y7 j z hz
        refine ⟨n1, v, ?_, n3.same (s8_10.trans s1)⟩
        rw [List.getElem?_take, if_pos (List.getElem?_eq_some_iff.mp hz).1]; exact n2
    refine s_if (b := false) (et_is (et_test (ed_neS (ed_repr hF hsh.1 hsh.2.1 hsh.2.2) (ed_repr (ed_var rfl (df_mono (Same.refl _) (fun _ _ => trivial) hdue)) hsh.1 hsh.2.1 hsh.2.2))) (by rw [decide_eq_true rfl]; rfl)) (fun h => nomatch h) fun _ H11 s11 => ?_
    have s8_11 := s8_10.trans s11
    have hK : ∀ {E : XK}, ED K (tCall (spKinds T) [] E (tCons (tVar 5) tNil)) [some (.ref a), some (.ref p), some (.ref vl), some (.int (i : Nat)), some (.ref t), some (.ref ea), some (.ref l), some due, none, none, none, none, none] tru H11 (.list ((List.range 12).map fun j => .bool (decide (j = i)))) := fun {E} H1 s1 Q k =>
      ⟨_, rfl, ea, C, i, rfl, y3.same (s8_11.trans s1), y4, fun q' H' s' e' => k _ H' s' (.lst (.inl ⟨.inl e', .inl trivial⟩) (bls_df i (List.range 12)))⟩
    have hL : ED K (tLc (iRng1 (tCons (tC (.int 12)) tNil)) (gName 8) tYes (tOp rEq (tVar 8) (tVar 3)) [8]) [some (.ref a), some (.ref p), some (.ref vl), some (.int (i : Nat)), some (.ref t), some (.ref ea), some (.ref l), some due, none, none, none, none, none] tru H11 (.list ((List.range 12).map fun j => .bool (decide (j = i)))) := by
      refine ed_is (ed_lc (f := fun _ => true) (m := fun d => match d with | .int j => .bool (decide (j = (i : Int))) | d => d) (ei_range (n := 12) (ed_int (i := 12)) (by decide)) (by decide) fun F2 H2 e2 v d hd hv => ⟨[some (.ref a), some (.ref p), some (.ref vl), some (.int (i : Nat)), some (.ref t), some (.ref ea), some (.ref l), some due, some v, none, none, none, none], fun Q k => k, rfl, et_yes, fun _ => ?_⟩) ?_
      · obtain ⟨j, _, rfl⟩ := List.mem_map.mp hd
        exact ed_eqI (ed_var rfl hv) (ed_var rfl (.int _))
      · rw [filt_tt]; unfold nums; rw [List.map_map]
        refine congrArg PyData.list (List.map_congr_left fun j _ => ?_)
        show PyData.bool (decide ((j : Int) = (i : Int))) = .bool (decide (j = i))
        by_cases z : j = i
        · rw [decide_eq_true z, decide_eq_true (by omega)]
        · rw [decide_eq_false z, decide_eq_false (by omega)]
    refine s_if (b := false) (et_is (et_test (ed_neD hK hL (kinds_sh i).1 (kinds_sh i).1)) (by rw [(kinds_sh i).2]; rfl)) (fun h => nomatch h) fun _ H12 s12 => ?_
    exact ⟨_, _, _, _, _, rfl, (s410.trans s11).trans s12⟩
  · rintro σ' H' ⟨o3, o4, o5, o6, o7, rfl, _⟩
    clear dallq eVq hE eq lxs mem
    refine ⟨(by show 1 ≤ sizeLine; decide), fun i1 hi1 => ⟨(by show 2 ≤ sizeLine; decide), fun kp hkp => ?_⟩⟩
    have nik : i1 ≠ kp := ne_of_none upd_same hkp
    have ei : (upd (upd H' i1 (.lst [.int 2])) kp (.lst [.int 1, .ref i1])) i1 = some (.lst [.int 2]) := by rw [upd_ne nik]; exact upd_same
    have ek : (upd (upd H' i1 (.lst [.int 2])) kp (.lst [.int 1, .ref i1])) kp = some (.lst [.int 1, .ref i1]) := upd_same
    generalize upd (upd H' i1 (HO.lst [.int 2])) kp (HO.lst [.int 1, .ref i1]) = A1 at ei ek
    clear hi1 hkp
    refine ⟨_, rfl, (by show 2 ≤ 1000; decide), fun la hla => ⟨la, [.str "x", .ref kp], rfl, rfl, upd_same, fun dd H2 hd nda keep ea ed => ⟨rfl, ?_⟩⟩⟩
    have nkl : kp ≠ la := ne_of_none ek hla
    have nil' : i1 ≠ la := ne_of_none ei hla
    have ek2 := keep _ _ nkl (by rw [upd_ne nkl]; exact ek)
    have ei2 := keep _ _ nil' (by rw [upd_ne nil']; exact ei)
    have nkd : dd ≠ kp := fun z => by rw [z, upd_ne nkl, ek] at hd; cases hd
    clear keep hd hla
    refine ⟨_, rfl, .inl ⟨rfl, _, SqL.of ek2⟩, kp, _, _, rfl, rfl, ek2, lt5 (by show 2 < 100000; decide), ?_⟩
    have ek3 : (upd H2 kp (.lst ([.int 1, .ref i1] ++ [.int 3]))) kp = some (.lst [.int 1, .ref i1, .int 3]) := upd_same
    have ei3 : (upd H2 kp (.lst ([.int 1, .ref i1] ++ [.int 3]))) i1 = some (.lst [.int 2]) := by rw [upd_ne nik]; exact ei2
    have ea3 : (upd H2 kp (.lst ([.int 1, .ref i1] ++ [.int 3]))) la = some (exo la T.C_BadRow (some dd)) := by rw [upd_ne (Ne.symm nkl)]; exact ea
    have ed3 : (upd H2 kp (.lst ([.int 1, .ref i1] ++ [.int 3]))) dd = some (exd dd [("row", .ref kp), ("what", .str "x")]) := by rw [upd_ne nkd]; exact ed
    generalize upd H2 kp (HO.lst ([.int 1, .ref i1] ++ [.int 3])) = A3 at ek3 ei3 ea3 ed3
    have hf : FieldAt K A3 la "row" (.ref kp) := ⟨T.C_BadRow, dd, _, ea3, ed3, rfl, T.xf_BadRow, T.na_BadRow_row⟩
    have hv : Df K tru A3 (.ref kp) litD := .lst (.inl ⟨.inl ek3, trivial⟩) (.cons (.int 1) (.cons (.lst (.inl ⟨.inl ei3, trivial⟩) (.cons (.int 2) .nil)) (.cons (.int 3) .nil)))
    have lit : ∀ {σ : L2.St} {H : Hp}, ED K (tLst (tCons (tC (.int 1)) (tCons (tLst (tCons (tC (.int 2)) tNil)) (tCons (tC (.int 3)) tNil)))) σ tru H litD := fun {σ H} => ed_lst (ea_cons ed_int (ea_cons (ed_lst (ea_cons ed_int ea_nil) (by decide)) (ea_cons ed_int ea_nil))) (by decide)
    refine s_if (b := false) (et_is (et_test (ed_neD (ed_xo (F := tru) rfl hf hv) lit lit_sh.1 lit_sh.1)) (by rw [lit_sh.2]; rfl)) (fun h => nomatch h) fun _ H4 s4 => ?_
    clear hf hv ek3 ei3 ea3 ed3 ea ed ek2 ei2 ek ei
    refine ⟨(by show 0 ≤ sizeLine; decide), fun fl hfl => ?_⟩
    have ef : (upd H4 fl (.lst [])) fl = some (.lst []) := upd_same
    generalize upd H4 fl (HO.lst []) = A5 at ef
    -- the error that is caught
    refine ⟨(by show 1 ≤ sizeLine; decide), fun j1 hj1 => ⟨(by show 3 ≤ sizeLine; decide), fun j2 hj2 => ?_⟩⟩
    have njj : j1 ≠ j2 := ne_of_none upd_same hj2
    have sJ := (Same.newA (o := .lst [.int 2]) hj1).trans (Same.newA (o := .lst [.int 1, .ref j1, .int 3]) hj2)
    have f1 : (upd (upd A5 j1 (.lst [.int 2])) j2 (.lst [.int 1, .ref j1, .int 3])) j1 = some (.lst [.int 2]) := by rw [upd_ne njj]; exact upd_same
    have f2 : (upd (upd A5 j1 (.lst [.int 2])) j2 (.lst [.int 1, .ref j1, .int 3])) j2 = some (.lst [.int 1, .ref j1, .int 3]) := upd_same
    have ef6 := sJ _ _ ef
    generalize upd (upd A5 j1 (HO.lst [.int 2])) j2 (HO.lst [.int 1, .ref j1, .int 3]) = A6 at f1 f2 ef6
    refine ⟨(by show 1 ≤ 1000; decide), fun a2 ha2 => ⟨a2, [.ref j2], rfl, rfl, upd_same, fun d2 H7 hd2 nda2 keep2 ea2 ed2 => ⟨rfl, d2, _, ea2, ed2, ?_, ?_⟩⟩⟩
    · rw [upd_ne nda2] at hd2; exact hd2
    rw [upd_ne nda2] at hd2
    have go : ∀ {b : Addr} {o : HO}, A6 b = some o → (upd (del H7 a2) d2 (.xd (((["what"] : List Str).zip [V.ref j2]).reverse))) b = some o := fun {b o} e => by
      have n1 : b ≠ a2 := ne_of_none e ha2
      have n2 : b ≠ d2 := ne_of_none e hd2
      rw [upd_ne n2, del_ne n1]
      exact keep2 b o n1 (by rw [upd_ne n1]; exact e)
    have g1 := go f1
    have g2 := go f2
    have gf := go ef6
    have gx : (upd (del H7 a2) d2 (.xd (((["what"] : List Str).zip [V.ref j2]).reverse))) d2 = some (.xd [("what", .ref j2)]) := upd_same
    refine ⟨true, PySem.W.exm_ref T.xf_AgainError.exC T.xf_AgainError.hdC T.ox_AgainError.tyC T.sb_NotThere_AgainError, fun _ a3 ha3 => ?_, fun h => nomatch h⟩
    generalize upd (del H7 a2) d2 (HO.xd (((["what"] : List Str).zip [V.ref j2]).reverse)) = A8 at g1 g2 gf gx ha3
    have hw : Df K tru A8 (.ref j2) litD := .lst (.inl ⟨.inl g2, trivial⟩) (.cons (.int 1) (.cons (.lst (.inl ⟨.inl g1, trivial⟩) (.cons (.int 2) .nil)) (.cons (.int 3) .nil)))
    refine ⟨_, rfl, .inl ⟨rfl, _, SqL.of gf⟩, ?_⟩
    refine run_edc (K := K) (F := tru) (d := .bool true) (ed_is (ed_andV (ed_isP (K := K) (F := tru) (c := .ty "ValueError") (cv := .type "ValueError") rfl gx T.ec_NotThere (fun u r => r) T.ki_NotThere_ValueError) fun _ => ed_andV (ed_isP (K := K) (F := tru) (c := .ref T.C_NotThere) (cv := .ref T.C_NotThere) rfl gx T.ec_NotThere (fun u r => r) T.ki_NotThere_NotThere) fun _ => ed_eqD (ed_xf rfl gx rfl hw) lit lit_sh.1 lit_sh.1) (by rw [lit_sh.2]; rfl)) fun v H9 s9 hv9 => ?_
    cases hv9
    refine ⟨fl, _, _, rfl, rfl, s9 _ _ gf, lt5 (by show 0 < 100000; decide), ?_⟩
    refine s_ret (K := K) (F := tru) (ed_eqD (d := .list [.bool true]) (ed_var rfl (.lst (.inl ⟨.inl upd_same, trivial⟩) (.cons (.bl true) .nil))) (ed_lst (ds := [.bool true]) (ea_cons ed_bl ea_nil) (by decide)) one_sh.1 one_sh.1) fun v H10 _ hv10 => ?_
    rw [one_sh.2] at hv10
    cases hv10
    rfl
end
end Ag

set_option Elab.async false
set_option linter.all false
set_option maxRecDepth 100000
set_option maxHeartbeats 0
namespace Ag
open PySem PySem.Spec PyProof.Rows L2
/-! ### a table with text keys, as written -/
def TabOf : List DictEntry → List (Str × Int) → Prop
  | [], [] => True
  | e :: r, q :: s => (∃ t u, e.key = .str q.1 t ∧ e.val = .int q.2 u) ∧ TabOf r s
  | _, _ => False
theorem tab_find : ∀ {es : List DictEntry} {kvs : List (Str × Int)} (z : Str), TabOf es kvs → es.any (·.refKey) = false ∧ ((∃ i e u, (z, i) ∈ kvs ∧ (∀ j, kvs.lookup z = some j → j = i) ∧ es.find? (·.key.isStr z) = some e ∧ e.val = .int i u) ∨ (z ∉ kvs.map (·.1) ∧ es.find? (·.key.isStr z) = none))
  | [], [], z, _ => ⟨rfl, .inr ⟨by simp, rfl⟩⟩
  | e :: r, q :: s, z, ⟨⟨t, u, h1, h2⟩, h⟩ => by
    obtain ⟨a, b⟩ := tab_find z h
    have hr : e.refKey = false := by unfold DictEntry.refKey; rw [h1]
    refine ⟨by rw [List.any_cons, hr, a]; rfl, ?_⟩
    have hs : e.key.isStr z = (q.1 == z) := by rw [h1]; rfl
    by_cases hz : q.1 = z
    · refine .inl ⟨q.2, e, u, ?_, fun j hj => ?_, ?_, h2⟩
      · rw [← hz]; exact List.mem_cons_self
      · obtain ⟨q1, q2⟩ := q
        simp only at hz; subst hz
        simp at hj; exact hj.symm
      · rw [List.find?_cons, hs, beq_iff_eq.mpr hz]
    · have hf : (q.1 == z) = false := beq_eq_false_iff_ne.mpr hz
      have hf2 : (z == q.1) = false := beq_eq_false_iff_ne.mpr fun w => hz w.symm
      rcases b with ⟨i, e2, u2, m, l, f, v⟩ | ⟨m, f⟩
      · refine .inl ⟨i, e2, u2, List.mem_cons_of_mem _ m, fun j hj => l j ?_, ?_, v⟩
        · obtain ⟨q1, q2⟩ := q
          simp only at hf2
          rw [List.lookup_cons, hf2] at hj; exact hj
        · rw [List.find?_cons, hs, hf]; exact f
      · refine .inr ⟨?_, ?_⟩
        · rw [List.map_cons, List.mem_cons]; rintro (w | w)
          · exact hz w.symm
          · exact m w
        · rw [List.find?_cons, hs, hf]; exact f
section
variable {w : World} {K : PySem.W.Frag} {a : Addr} {es : Array DictEntry} {n : Nat} {kvs : List (Str × Int)}
theorem tab_in (l : K.lookup a = some ⟨.type "dict", none, .dict es n, #[]⟩) (t : TabOf es.toList kvs) (z : Str) : ∃ r, PySem.W.nsIn K a z = some r ∧ r.isSome = decide (z ∈ kvs.map (·.1)) := by
  obtain ⟨h1, h2⟩ := tab_find z t
  unfold PySem.W.nsIn
  rw [l]
  rcases h2 with ⟨i, e, u, m, _, f, v⟩ | ⟨m, f⟩
  · refine ⟨some e.val, ?_, ?_⟩
    · simp only [f]
    · exact (decide_eq_true (List.mem_map.mpr ⟨_, m, rfl⟩)).symm
  · refine ⟨none, ?_, (decide_eq_false m).symm⟩
    simp only [f, h1]; rfl
theorem tab_at (l : K.lookup a = some ⟨.type "dict", none, .dict es n, #[]⟩) (k : PySem.W.KeysLit w.params es.toList) (t : TabOf es.toList kvs) (nd : kvs.all (fun q => kvs.lookup q.1 == some q.2) = true) (z : Str) (i : Int) (hm : (z, i) ∈ kvs) : KDct K w a z (.int i) := by
  obtain ⟨h1, h2⟩ := tab_find z t
  have hl : kvs.lookup z = some i := by simpa using List.all_eq_true.mp nd _ hm
  rcases h2 with ⟨j, e, u, m, lk, f, v⟩ | ⟨m, f⟩
  · have := lk i hl; subst this
    refine ⟨es, n, e.val, l, k, ?_, u, v⟩
    unfold PySem.W.nsIn
    rw [l]
    simp only [f]
  · exact absurd (List.mem_map.mpr ⟨_, hm, rfl⟩) m
end
theorem binds_all {K : PySem.W.Frag} {fd : FuncData} {ps : List Str} (h : ∃ ds, Vals [] ds ∧ Binds K fd ps ds) : Binds K fd ps [] := by
  obtain ⟨ds, v, b⟩ := h
  cases v
  exact b
theorem all_mk {l : PySem.W.OpenLaw} {w : World} {K : PySem.W.Frag} {q : Program} {loose : List Str} {mean : ExcName → Option Value} {mg mb : Str → Option Value} {s : Shared} {fa : Addr} (TP : PyProof.Rows.Top q (PySem.W.looseW q loose) mean mg mb s.heap) (X : K.In s.heap)
    (hfa : mg "law" = some (.ref fa))
    {f0 : Addr} {od0 an0 : Option Addr} {sl0 : Array (Option Value)} {oc0 kV0 dc0 pm0 cd0 ct0 : Value}
    {f1 : Addr} {od1 an1 : Option Addr} {sl1 : Array (Option Value)} {oc1 kV1 dc1 pm1 cd1 ct1 : Value}
    {f2 : Addr} {od2 an2 : Option Addr} {sl2 : Array (Option Value)} {oc2 kV2 dc2 pm2 cd2 ct2 : Value}
    {f3 : Addr} {od3 an3 : Option Addr} {sl3 : Array (Option Value)} {oc3 kV3 dc3 pm3 cd3 ct3 : Value}
    {f4 : Addr} {od4 an4 : Option Addr} {sl4 : Array (Option Value)} {oc4 kV4 dc4 pm4 cd4 ct4 : Value}
    {f5 : Addr} {od5 an5 : Option Addr} {sl5 : Array (Option Value)} {oc5 kV5 dc5 pm5 cd5 ct5 : Value}
    {f6 : Addr} {od6 an6 : Option Addr} {sl6 : Array (Option Value)} {oc6 kV6 dc6 pm6 cd6 ct6 : Value}
    {f7 : Addr} {od7 an7 : Option Addr} {sl7 : Array (Option Value)} {oc7 kV7 dc7 pm7 cd7 ct7 : Value}
    {CAgainError : Addr}
    {CBadText : Addr}
    {fBadText0 : Addr} {odBadText0 anBadText0 : Option Addr} {slBadText0 : Array (Option Value)} {ocBadText0 kVBadText0 dcBadText0 pmBadText0 cdBadText0 ctBadText0 : Value}
    {CBadName : Addr}
    {fBadName0 : Addr} {odBadName0 anBadName0 : Option Addr} {slBadName0 : Array (Option Value)} {ocBadName0 kVBadName0 dcBadName0 pmBadName0 cdBadName0 ctBadName0 : Value}
    {CBadNumber : Addr}
    {fBadNumber0 : Addr} {odBadNumber0 anBadNumber0 : Option Addr} {slBadNumber0 : Array (Option Value)} {ocBadNumber0 kVBadNumber0 dcBadNumber0 pmBadNumber0 cdBadNumber0 ctBadNumber0 : Value}
    {CBadRow : Addr}
    {fBadRow0 : Addr} {odBadRow0 anBadRow0 : Option Addr} {slBadRow0 : Array (Option Value)} {ocBadRow0 kVBadRow0 dcBadRow0 pmBadRow0 cdBadRow0 ctBadRow0 : Value}
    {CNoName : Addr}
    {fNoName0 : Addr} {odNoName0 anNoName0 : Option Addr} {slNoName0 : Array (Option Value)} {ocNoName0 kVNoName0 dcNoName0 pmNoName0 cdNoName0 ctNoName0 : Value}
    {CTakenName : Addr}
    {fTakenName0 : Addr} {odTakenName0 anTakenName0 : Option Addr} {slTakenName0 : Array (Option Value)} {ocTakenName0 kVTakenName0 dcTakenName0 pmTakenName0 cdTakenName0 ctTakenName0 : Value}
    {CUnlike : Addr}
    {fUnlike0 : Addr} {odUnlike0 anUnlike0 : Option Addr} {slUnlike0 : Array (Option Value)} {ocUnlike0 kVUnlike0 dcUnlike0 pmUnlike0 cdUnlike0 ctUnlike0 : Value}
    {CNotThere : Addr}
    {fNotThere0 : Addr} {odNotThere0 anNotThere0 : Option Addr} {slNotThere0 : Array (Option Value)} {ocNotThere0 kVNotThere0 dcNotThere0 pmNotThere0 cdNotThere0 ctNotThere0 : Value}
    {CTooMany : Addr}
    {fTooMany0 : Addr} {odTooMany0 anTooMany0 : Option Addr} {slTooMany0 : Array (Option Value)} {ocTooMany0 kVTooMany0 dcTooMany0 pmTooMany0 cdTooMany0 ctTooMany0 : Value}
    {CNotKept : Addr}
    {fNotKept0 : Addr} {odNotKept0 anNotKept0 : Option Addr} {slNotKept0 : Array (Option Value)} {ocNotKept0 kVNotKept0 dcNotKept0 pmNotKept0 cdNotKept0 ctNotKept0 : Value}
    {CNothingToUndo : Addr}
    {CNothingToRedo : Addr}
    (a0 : PySem.W.nsIn K mainGlobals "_law_pen" = some (some (.ref f0)))
    (l0 : K.lookup f0 = some ⟨oc0, od0, .func (PySem.W.fnOf "_law_pen" "_law_pen" (defArgs s_law_pen) (defBody s_law_pen) (defScope s_law_pen) .none kV0 dc0 pm0 an0 cd0 ct0), sl0⟩)
    (c0 : PySem.W.codeIn K cd0 "_law_pen" = true)
    (k0 : PySem.W.keepIn K (.ref f0) = true)
    (a1 : PySem.W.nsIn K mainGlobals "_law_draw" = some (some (.ref f1)))
    (l1 : K.lookup f1 = some ⟨oc1, od1, .func (PySem.W.fnOf "_law_draw" "_law_draw" (defArgs s_law_draw) (defBody s_law_draw) (defScope s_law_draw) .none kV1 dc1 pm1 an1 cd1 ct1), sl1⟩)
    (c1 : PySem.W.codeIn K cd1 "_law_draw" = true)
    (k1 : PySem.W.keepIn K (.ref f1) = true)
    (a2 : PySem.W.nsIn K mainGlobals "_law_pick" = some (some (.ref f2)))
    (l2 : K.lookup f2 = some ⟨oc2, od2, .func (PySem.W.fnOf "_law_pick" "_law_pick" (defArgs s_law_pick) (defBody s_law_pick) (defScope s_law_pick) .none kV2 dc2 pm2 an2 cd2 ct2), sl2⟩)
    (c2 : PySem.W.codeIn K cd2 "_law_pick" = true)
    (k2 : PySem.W.keepIn K (.ref f2) = true)
    (a3 : PySem.W.nsIn K mainGlobals "_law_value" = some (some (.ref f3)))
    (l3 : K.lookup f3 = some ⟨oc3, od3, .func (PySem.W.fnOf "_law_value" "_law_value" (defArgs s_law_value) (defBody s_law_value) (defScope s_law_value) .none kV3 dc3 pm3 an3 cd3 ct3), sl3⟩)
    (c3 : PySem.W.codeIn K cd3 "_law_value" = true)
    (k3 : PySem.W.keepIn K (.ref f3) = true)
    (a4 : PySem.W.nsIn K mainGlobals "_law_fields" = some (some (.ref f4)))
    (l4 : K.lookup f4 = some ⟨oc4, od4, .func (PySem.W.fnOf "_law_fields" "_law_fields" (defArgs s_law_fields) (defBody s_law_fields) (defScope s_law_fields) .none kV4 dc4 pm4 an4 cd4 ct4), sl4⟩)
    (c4 : PySem.W.codeIn K cd4 "_law_fields" = true)
    (k4 : PySem.W.keepIn K (.ref f4) = true)
    (a5 : PySem.W.nsIn K mainGlobals "_law_made_errors" = some (some (.ref f5)))
    (l5 : K.lookup f5 = some ⟨oc5, od5, .func (PySem.W.fnOf "_law_made_errors" "_law_made_errors" (defArgs s_law_made_errors) (defBody s_law_made_errors) (defScope s_law_made_errors) .none kV5 dc5 pm5 an5 cd5 ct5), sl5⟩)
    (c5 : PySem.W.codeIn K cd5 "_law_made_errors" = true)
    (k5 : PySem.W.keepIn K (.ref f5) = true)
    (a6 : PySem.W.nsIn K mainGlobals "_law_kinds" = some (some (.ref f6)))
    (l6 : K.lookup f6 = some ⟨oc6, od6, .func (PySem.W.fnOf "_law_kinds" "_law_kinds" (defArgs s_law_kinds) (defBody s_law_kinds) (defScope s_law_kinds) .none kV6 dc6 pm6 an6 cd6 ct6), sl6⟩)
    (c6 : PySem.W.codeIn K cd6 "_law_kinds" = true)
    (k6 : PySem.W.keepIn K (.ref f6) = true)
    (a7 : PySem.W.nsIn K mainGlobals "law" = some (some (.ref f7)))
    (l7 : K.lookup f7 = some ⟨oc7, od7, .func (PySem.W.fnOf "law" "law" (defArgs s_law) (defBody s_law) (defScope s_law) .none kV7 dc7 pm7 an7 cd7 ct7), sl7⟩)
    (c7 : PySem.W.codeIn K cd7 "law" = true)
    (k7 : PySem.W.keepIn K (.ref f7) = true)
    (gAgainError : PySem.W.nsIn K mainGlobals "AgainError" = some (some (.ref CAgainError)))
    (saAgainError : PySem.W.findIn K (.ref CAgainError) "__setattr__" = some (some (.builtin "object.__setattr__")))
    (kcAgainError : PySem.W.keepIn K (.ref CAgainError) = true)
    (hdAgainError : PySem.W.hasDictIn K CAgainError = true)
    (gaAgainError : PySem.W.findIn K (.ref CAgainError) "__getattribute__" = some (some (.builtin "BaseException.__getattribute__")))
    (ggAgainError : PySem.W.findIn K (.ref CAgainError) "__getattr__" = some none)
    (exAgainError : PySem.W.subIn K (.ref CAgainError) (.type "BaseException") = some true)
    (tyAgainError : PySem.W.typeIn K (.ref CAgainError) = some (.type "type"))
    (sbAgainError : PySem.W.subIn K (.ref CAgainError) (.ref CAgainError) = some true)
    (xlAgainError : ∃ nm q N bs bm sn sub ab col dd k0 k1 k2 k3 k5, K.lookup CAgainError = some (excClassObj nm q CAgainError N bs bm true sn sub ab col dd k0 k1 k2 k3 k5 "ValueError.__new__") ∧ PySem.HandSPX.refsVE bm = true)
    (gBadText : PySem.W.nsIn K mainGlobals "BadText" = some (some (.ref CBadText)))
    (aBadText0 : PySem.W.findIn K (.ref CBadText) "__init__" = some (some (.ref fBadText0)))
    (lBadText0 : K.lookup fBadText0 = some ⟨ocBadText0, odBadText0, .func (PySem.W.fnOf "__init__" "BadText.__init__" (defArgs s_BadText___init__) (defBody s_BadText___init__) (defScope s_BadText___init__) .none kVBadText0 dcBadText0 pmBadText0 anBadText0 cdBadText0 ctBadText0), slBadText0⟩)
    (cBadText0 : PySem.W.codeIn K cdBadText0 "BadText.__init__" = true)
    (kBadText0 : PySem.W.keepIn K (.ref fBadText0) = true)
    (tBadText0 : PySem.W.typeIn K (.ref fBadText0) = some (.type "function"))
    (nBadTextline : PySem.W.findIn K (.ref CBadText) "line" = some none)
    (nBadTextword : PySem.W.findIn K (.ref CBadText) "word" = some none)
    (saBadText : PySem.W.findIn K (.ref CBadText) "__setattr__" = some (some (.builtin "object.__setattr__")))
    (kcBadText : PySem.W.keepIn K (.ref CBadText) = true)
    (hdBadText : PySem.W.hasDictIn K CBadText = true)
    (gaBadText : PySem.W.findIn K (.ref CBadText) "__getattribute__" = some (some (.builtin "BaseException.__getattribute__")))
    (ggBadText : PySem.W.findIn K (.ref CBadText) "__getattr__" = some none)
    (exBadText : PySem.W.subIn K (.ref CBadText) (.type "BaseException") = some true)
    (tyBadText : PySem.W.typeIn K (.ref CBadText) = some (.type "type"))
    (sbBadText : PySem.W.subIn K (.ref CBadText) (.ref CBadText) = some true)
    (xlBadText : ∃ nm q N bs bm sn sub ab col dd k0 k1 k2 k3 k5, K.lookup CBadText = some (excClassObj nm q CBadText N bs bm true sn sub ab col dd k0 k1 k2 k3 k5 "ValueError.__new__") ∧ PySem.HandSPX.refsVE bm = true)
    (gBadName : PySem.W.nsIn K mainGlobals "BadName" = some (some (.ref CBadName)))
    (aBadName0 : PySem.W.findIn K (.ref CBadName) "__init__" = some (some (.ref fBadName0)))
    (lBadName0 : K.lookup fBadName0 = some ⟨ocBadName0, odBadName0, .func (PySem.W.fnOf "__init__" "BadName.__init__" (defArgs s_BadName___init__) (defBody s_BadName___init__) (defScope s_BadName___init__) .none kVBadName0 dcBadName0 pmBadName0 anBadName0 cdBadName0 ctBadName0), slBadName0⟩)
    (cBadName0 : PySem.W.codeIn K cdBadName0 "BadName.__init__" = true)
    (kBadName0 : PySem.W.keepIn K (.ref fBadName0) = true)
    (tBadName0 : PySem.W.typeIn K (.ref fBadName0) = some (.type "function"))
    (nBadNamename : PySem.W.findIn K (.ref CBadName) "name" = some none)
    (saBadName : PySem.W.findIn K (.ref CBadName) "__setattr__" = some (some (.builtin "object.__setattr__")))
    (kcBadName : PySem.W.keepIn K (.ref CBadName) = true)
    (hdBadName : PySem.W.hasDictIn K CBadName = true)
    (gaBadName : PySem.W.findIn K (.ref CBadName) "__getattribute__" = some (some (.builtin "BaseException.__getattribute__")))
    (ggBadName : PySem.W.findIn K (.ref CBadName) "__getattr__" = some none)
    (exBadName : PySem.W.subIn K (.ref CBadName) (.type "BaseException") = some true)
    (tyBadName : PySem.W.typeIn K (.ref CBadName) = some (.type "type"))
    (sbBadName : PySem.W.subIn K (.ref CBadName) (.ref CBadName) = some true)
    (xlBadName : ∃ nm q N bs bm sn sub ab col dd k0 k1 k2 k3 k5, K.lookup CBadName = some (excClassObj nm q CBadName N bs bm true sn sub ab col dd k0 k1 k2 k3 k5 "ValueError.__new__") ∧ PySem.HandSPX.refsVE bm = true)
    (gBadNumber : PySem.W.nsIn K mainGlobals "BadNumber" = some (some (.ref CBadNumber)))
    (aBadNumber0 : PySem.W.findIn K (.ref CBadNumber) "__init__" = some (some (.ref fBadNumber0)))
    (lBadNumber0 : K.lookup fBadNumber0 = some ⟨ocBadNumber0, odBadNumber0, .func (PySem.W.fnOf "__init__" "BadNumber.__init__" (defArgs s_BadNumber___init__) (defBody s_BadNumber___init__) (defScope s_BadNumber___init__) .none kVBadNumber0 dcBadNumber0 pmBadNumber0 anBadNumber0 cdBadNumber0 ctBadNumber0), slBadNumber0⟩)
    (cBadNumber0 : PySem.W.codeIn K cdBadNumber0 "BadNumber.__init__" = true)
    (kBadNumber0 : PySem.W.keepIn K (.ref fBadNumber0) = true)
    (tBadNumber0 : PySem.W.typeIn K (.ref fBadNumber0) = some (.type "function"))
    (nBadNumberwhat : PySem.W.findIn K (.ref CBadNumber) "what" = some none)
    (nBadNumbernumber : PySem.W.findIn K (.ref CBadNumber) "number" = some none)
    (saBadNumber : PySem.W.findIn K (.ref CBadNumber) "__setattr__" = some (some (.builtin "object.__setattr__")))
    (kcBadNumber : PySem.W.keepIn K (.ref CBadNumber) = true)
    (hdBadNumber : PySem.W.hasDictIn K CBadNumber = true)
    (gaBadNumber : PySem.W.findIn K (.ref CBadNumber) "__getattribute__" = some (some (.builtin "BaseException.__getattribute__")))
    (ggBadNumber : PySem.W.findIn K (.ref CBadNumber) "__getattr__" = some none)
    (exBadNumber : PySem.W.subIn K (.ref CBadNumber) (.type "BaseException") = some true)
    (tyBadNumber : PySem.W.typeIn K (.ref CBadNumber) = some (.type "type"))
    (sbBadNumber : PySem.W.subIn K (.ref CBadNumber) (.ref CBadNumber) = some true)
    (xlBadNumber : ∃ nm q N bs bm sn sub ab col dd k0 k1 k2 k3 k5, K.lookup CBadNumber = some (excClassObj nm q CBadNumber N bs bm true sn sub ab col dd k0 k1 k2 k3 k5 "ValueError.__new__") ∧ PySem.HandSPX.refsVE bm = true)
    (gBadRow : PySem.W.nsIn K mainGlobals "BadRow" = some (some (.ref CBadRow)))
    (aBadRow0 : PySem.W.findIn K (.ref CBadRow) "__init__" = some (some (.ref fBadRow0)))
    (lBadRow0 : K.lookup fBadRow0 = some ⟨ocBadRow0, odBadRow0, .func (PySem.W.fnOf "__init__" "BadRow.__init__" (defArgs s_BadRow___init__) (defBody s_BadRow___init__) (defScope s_BadRow___init__) .none kVBadRow0 dcBadRow0 pmBadRow0 anBadRow0 cdBadRow0 ctBadRow0), slBadRow0⟩)
    (cBadRow0 : PySem.W.codeIn K cdBadRow0 "BadRow.__init__" = true)
    (kBadRow0 : PySem.W.keepIn K (.ref fBadRow0) = true)
    (tBadRow0 : PySem.W.typeIn K (.ref fBadRow0) = some (.type "function"))
    (nBadRowwhat : PySem.W.findIn K (.ref CBadRow) "what" = some none)
    (nBadRowrow : PySem.W.findIn K (.ref CBadRow) "row" = some none)
    (saBadRow : PySem.W.findIn K (.ref CBadRow) "__setattr__" = some (some (.builtin "object.__setattr__")))
    (kcBadRow : PySem.W.keepIn K (.ref CBadRow) = true)
    (hdBadRow : PySem.W.hasDictIn K CBadRow = true)
    (gaBadRow : PySem.W.findIn K (.ref CBadRow) "__getattribute__" = some (some (.builtin "BaseException.__getattribute__")))
    (ggBadRow : PySem.W.findIn K (.ref CBadRow) "__getattr__" = some none)
    (exBadRow : PySem.W.subIn K (.ref CBadRow) (.type "BaseException") = some true)
    (tyBadRow : PySem.W.typeIn K (.ref CBadRow) = some (.type "type"))
    (sbBadRow : PySem.W.subIn K (.ref CBadRow) (.ref CBadRow) = some true)
    (xlBadRow : ∃ nm q N bs bm sn sub ab col dd k0 k1 k2 k3 k5, K.lookup CBadRow = some (excClassObj nm q CBadRow N bs bm true sn sub ab col dd k0 k1 k2 k3 k5 "ValueError.__new__") ∧ PySem.HandSPX.refsVE bm = true)
    (gNoName : PySem.W.nsIn K mainGlobals "NoName" = some (some (.ref CNoName)))
    (aNoName0 : PySem.W.findIn K (.ref CNoName) "__init__" = some (some (.ref fNoName0)))
    (lNoName0 : K.lookup fNoName0 = some ⟨ocNoName0, odNoName0, .func (PySem.W.fnOf "__init__" "NoName.__init__" (defArgs s_NoName___init__) (defBody s_NoName___init__) (defScope s_NoName___init__) .none kVNoName0 dcNoName0 pmNoName0 anNoName0 cdNoName0 ctNoName0), slNoName0⟩)
    (cNoName0 : PySem.W.codeIn K cdNoName0 "NoName.__init__" = true)
    (kNoName0 : PySem.W.keepIn K (.ref fNoName0) = true)
    (tNoName0 : PySem.W.typeIn K (.ref fNoName0) = some (.type "function"))
    (nNoNamename : PySem.W.findIn K (.ref CNoName) "name" = some none)
    (saNoName : PySem.W.findIn K (.ref CNoName) "__setattr__" = some (some (.builtin "object.__setattr__")))
    (kcNoName : PySem.W.keepIn K (.ref CNoName) = true)
    (hdNoName : PySem.W.hasDictIn K CNoName = true)
    (gaNoName : PySem.W.findIn K (.ref CNoName) "__getattribute__" = some (some (.builtin "BaseException.__getattribute__")))
    (ggNoName : PySem.W.findIn K (.ref CNoName) "__getattr__" = some none)
    (exNoName : PySem.W.subIn K (.ref CNoName) (.type "BaseException") = some true)
    (tyNoName : PySem.W.typeIn K (.ref CNoName) = some (.type "type"))
    (sbNoName : PySem.W.subIn K (.ref CNoName) (.ref CNoName) = some true)
    (xlNoName : ∃ nm q N bs bm sn sub ab col dd k0 k1 k2 k3 k5, K.lookup CNoName = some (excClassObj nm q CNoName N bs bm true sn sub ab col dd k0 k1 k2 k3 k5 "ValueError.__new__") ∧ PySem.HandSPX.refsVE bm = true)
    (gTakenName : PySem.W.nsIn K mainGlobals "TakenName" = some (some (.ref CTakenName)))
    (aTakenName0 : PySem.W.findIn K (.ref CTakenName) "__init__" = some (some (.ref fTakenName0)))
    (lTakenName0 : K.lookup fTakenName0 = some ⟨ocTakenName0, odTakenName0, .func (PySem.W.fnOf "__init__" "TakenName.__init__" (defArgs s_TakenName___init__) (defBody s_TakenName___init__) (defScope s_TakenName___init__) .none kVTakenName0 dcTakenName0 pmTakenName0 anTakenName0 cdTakenName0 ctTakenName0), slTakenName0⟩)
    (cTakenName0 : PySem.W.codeIn K cdTakenName0 "TakenName.__init__" = true)
    (kTakenName0 : PySem.W.keepIn K (.ref fTakenName0) = true)
    (tTakenName0 : PySem.W.typeIn K (.ref fTakenName0) = some (.type "function"))
    (nTakenNamename : PySem.W.findIn K (.ref CTakenName) "name" = some none)
    (saTakenName : PySem.W.findIn K (.ref CTakenName) "__setattr__" = some (some (.builtin "object.__setattr__")))
    (kcTakenName : PySem.W.keepIn K (.ref CTakenName) = true)
    (hdTakenName : PySem.W.hasDictIn K CTakenName = true)
    (gaTakenName : PySem.W.findIn K (.ref CTakenName) "__getattribute__" = some (some (.builtin "BaseException.__getattribute__")))
    (ggTakenName : PySem.W.findIn K (.ref CTakenName) "__getattr__" = some none)
    (exTakenName : PySem.W.subIn K (.ref CTakenName) (.type "BaseException") = some true)
    (tyTakenName : PySem.W.typeIn K (.ref CTakenName) = some (.type "type"))
    (sbTakenName : PySem.W.subIn K (.ref CTakenName) (.ref CTakenName) = some true)
    (xlTakenName : ∃ nm q N bs bm sn sub ab col dd k0 k1 k2 k3 k5, K.lookup CTakenName = some (excClassObj nm q CTakenName N bs bm true sn sub ab col dd k0 k1 k2 k3 k5 "ValueError.__new__") ∧ PySem.HandSPX.refsVE bm = true)
    (gUnlike : PySem.W.nsIn K mainGlobals "Unlike" = some (some (.ref CUnlike)))
    (aUnlike0 : PySem.W.findIn K (.ref CUnlike) "__init__" = some (some (.ref fUnlike0)))
    (lUnlike0 : K.lookup fUnlike0 = some ⟨ocUnlike0, odUnlike0, .func (PySem.W.fnOf "__init__" "Unlike.__init__" (defArgs s_Unlike___init__) (defBody s_Unlike___init__) (defScope s_Unlike___init__) .none kVUnlike0 dcUnlike0 pmUnlike0 anUnlike0 cdUnlike0 ctUnlike0), slUnlike0⟩)
    (cUnlike0 : PySem.W.codeIn K cdUnlike0 "Unlike.__init__" = true)
    (kUnlike0 : PySem.W.keepIn K (.ref fUnlike0) = true)
    (tUnlike0 : PySem.W.typeIn K (.ref fUnlike0) = some (.type "function"))
    (nUnlikewhat : PySem.W.findIn K (.ref CUnlike) "what" = some none)
    (saUnlike : PySem.W.findIn K (.ref CUnlike) "__setattr__" = some (some (.builtin "object.__setattr__")))
    (kcUnlike : PySem.W.keepIn K (.ref CUnlike) = true)
    (hdUnlike : PySem.W.hasDictIn K CUnlike = true)
    (gaUnlike : PySem.W.findIn K (.ref CUnlike) "__getattribute__" = some (some (.builtin "BaseException.__getattribute__")))
    (ggUnlike : PySem.W.findIn K (.ref CUnlike) "__getattr__" = some none)
    (exUnlike : PySem.W.subIn K (.ref CUnlike) (.type "BaseException") = some true)
    (tyUnlike : PySem.W.typeIn K (.ref CUnlike) = some (.type "type"))
    (sbUnlike : PySem.W.subIn K (.ref CUnlike) (.ref CUnlike) = some true)
    (xlUnlike : ∃ nm q N bs bm sn sub ab col dd k0 k1 k2 k3 k5, K.lookup CUnlike = some (excClassObj nm q CUnlike N bs bm true sn sub ab col dd k0 k1 k2 k3 k5 "ValueError.__new__") ∧ PySem.HandSPX.refsVE bm = true)
    (gNotThere : PySem.W.nsIn K mainGlobals "NotThere" = some (some (.ref CNotThere)))
    (aNotThere0 : PySem.W.findIn K (.ref CNotThere) "__init__" = some (some (.ref fNotThere0)))
    (lNotThere0 : K.lookup fNotThere0 = some ⟨ocNotThere0, odNotThere0, .func (PySem.W.fnOf "__init__" "NotThere.__init__" (defArgs s_NotThere___init__) (defBody s_NotThere___init__) (defScope s_NotThere___init__) .none kVNotThere0 dcNotThere0 pmNotThere0 anNotThere0 cdNotThere0 ctNotThere0), slNotThere0⟩)
    (cNotThere0 : PySem.W.codeIn K cdNotThere0 "NotThere.__init__" = true)
    (kNotThere0 : PySem.W.keepIn K (.ref fNotThere0) = true)
    (tNotThere0 : PySem.W.typeIn K (.ref fNotThere0) = some (.type "function"))
    (nNotTherewhat : PySem.W.findIn K (.ref CNotThere) "what" = some none)
    (saNotThere : PySem.W.findIn K (.ref CNotThere) "__setattr__" = some (some (.builtin "object.__setattr__")))
    (kcNotThere : PySem.W.keepIn K (.ref CNotThere) = true)
    (hdNotThere : PySem.W.hasDictIn K CNotThere = true)
    (gaNotThere : PySem.W.findIn K (.ref CNotThere) "__getattribute__" = some (some (.builtin "BaseException.__getattribute__")))
    (ggNotThere : PySem.W.findIn K (.ref CNotThere) "__getattr__" = some none)
    (exNotThere : PySem.W.subIn K (.ref CNotThere) (.type "BaseException") = some true)
    (tyNotThere : PySem.W.typeIn K (.ref CNotThere) = some (.type "type"))
    (sbNotThere : PySem.W.subIn K (.ref CNotThere) (.ref CNotThere) = some true)
    (xlNotThere : ∃ nm q N bs bm sn sub ab col dd k0 k1 k2 k3 k5, K.lookup CNotThere = some (excClassObj nm q CNotThere N bs bm true sn sub ab col dd k0 k1 k2 k3 k5 "ValueError.__new__") ∧ PySem.HandSPX.refsVE bm = true)
    (gTooMany : PySem.W.nsIn K mainGlobals "TooMany" = some (some (.ref CTooMany)))
    (aTooMany0 : PySem.W.findIn K (.ref CTooMany) "__init__" = some (some (.ref fTooMany0)))
    (lTooMany0 : K.lookup fTooMany0 = some ⟨ocTooMany0, odTooMany0, .func (PySem.W.fnOf "__init__" "TooMany.__init__" (defArgs s_TooMany___init__) (defBody s_TooMany___init__) (defScope s_TooMany___init__) .none kVTooMany0 dcTooMany0 pmTooMany0 anTooMany0 cdTooMany0 ctTooMany0), slTooMany0⟩)
    (cTooMany0 : PySem.W.codeIn K cdTooMany0 "TooMany.__init__" = true)
    (kTooMany0 : PySem.W.keepIn K (.ref fTooMany0) = true)
    (tTooMany0 : PySem.W.typeIn K (.ref fTooMany0) = some (.type "function"))
    (nTooManywhat : PySem.W.findIn K (.ref CTooMany) "what" = some none)
    (nTooManymany : PySem.W.findIn K (.ref CTooMany) "many" = some none)
    (nTooManylimit : PySem.W.findIn K (.ref CTooMany) "limit" = some none)
    (saTooMany : PySem.W.findIn K (.ref CTooMany) "__setattr__" = some (some (.builtin "object.__setattr__")))
    (kcTooMany : PySem.W.keepIn K (.ref CTooMany) = true)
    (hdTooMany : PySem.W.hasDictIn K CTooMany = true)
    (gaTooMany : PySem.W.findIn K (.ref CTooMany) "__getattribute__" = some (some (.builtin "BaseException.__getattribute__")))
    (ggTooMany : PySem.W.findIn K (.ref CTooMany) "__getattr__" = some none)
    (exTooMany : PySem.W.subIn K (.ref CTooMany) (.type "BaseException") = some true)
    (tyTooMany : PySem.W.typeIn K (.ref CTooMany) = some (.type "type"))
    (sbTooMany : PySem.W.subIn K (.ref CTooMany) (.ref CTooMany) = some true)
    (xlTooMany : ∃ nm q N bs bm sn sub ab col dd k0 k1 k2 k3 k5, K.lookup CTooMany = some (excClassObj nm q CTooMany N bs bm true sn sub ab col dd k0 k1 k2 k3 k5 "ValueError.__new__") ∧ PySem.HandSPX.refsVE bm = true)
    (gNotKept : PySem.W.nsIn K mainGlobals "NotKept" = some (some (.ref CNotKept)))
    (aNotKept0 : PySem.W.findIn K (.ref CNotKept) "__init__" = some (some (.ref fNotKept0)))
    (lNotKept0 : K.lookup fNotKept0 = some ⟨ocNotKept0, odNotKept0, .func (PySem.W.fnOf "__init__" "NotKept.__init__" (defArgs s_NotKept___init__) (defBody s_NotKept___init__) (defScope s_NotKept___init__) .none kVNotKept0 dcNotKept0 pmNotKept0 anNotKept0 cdNotKept0 ctNotKept0), slNotKept0⟩)
    (cNotKept0 : PySem.W.codeIn K cdNotKept0 "NotKept.__init__" = true)
    (kNotKept0 : PySem.W.keepIn K (.ref fNotKept0) = true)
    (tNotKept0 : PySem.W.typeIn K (.ref fNotKept0) = some (.type "function"))
    (nNotKeptpromise : PySem.W.findIn K (.ref CNotKept) "promise" = some none)
    (nNotKeptwitness : PySem.W.findIn K (.ref CNotKept) "witness" = some none)
    (saNotKept : PySem.W.findIn K (.ref CNotKept) "__setattr__" = some (some (.builtin "object.__setattr__")))
    (kcNotKept : PySem.W.keepIn K (.ref CNotKept) = true)
    (hdNotKept : PySem.W.hasDictIn K CNotKept = true)
    (gaNotKept : PySem.W.findIn K (.ref CNotKept) "__getattribute__" = some (some (.builtin "BaseException.__getattribute__")))
    (ggNotKept : PySem.W.findIn K (.ref CNotKept) "__getattr__" = some none)
    (exNotKept : PySem.W.subIn K (.ref CNotKept) (.type "BaseException") = some true)
    (tyNotKept : PySem.W.typeIn K (.ref CNotKept) = some (.type "type"))
    (sbNotKept : PySem.W.subIn K (.ref CNotKept) (.ref CNotKept) = some true)
    (xlNotKept : ∃ nm q N bs bm sn sub ab col dd k0 k1 k2 k3 k5, K.lookup CNotKept = some (excClassObj nm q CNotKept N bs bm true sn sub ab col dd k0 k1 k2 k3 k5 "ValueError.__new__") ∧ PySem.HandSPX.refsVE bm = true)
    (gNothingToUndo : PySem.W.nsIn K mainGlobals "NothingToUndo" = some (some (.ref CNothingToUndo)))
    (saNothingToUndo : PySem.W.findIn K (.ref CNothingToUndo) "__setattr__" = some (some (.builtin "object.__setattr__")))
    (kcNothingToUndo : PySem.W.keepIn K (.ref CNothingToUndo) = true)
    (hdNothingToUndo : PySem.W.hasDictIn K CNothingToUndo = true)
    (gaNothingToUndo : PySem.W.findIn K (.ref CNothingToUndo) "__getattribute__" = some (some (.builtin "BaseException.__getattribute__")))
    (ggNothingToUndo : PySem.W.findIn K (.ref CNothingToUndo) "__getattr__" = some none)
    (exNothingToUndo : PySem.W.subIn K (.ref CNothingToUndo) (.type "BaseException") = some true)
    (tyNothingToUndo : PySem.W.typeIn K (.ref CNothingToUndo) = some (.type "type"))
    (sbNothingToUndo : PySem.W.subIn K (.ref CNothingToUndo) (.ref CNothingToUndo) = some true)
    (xlNothingToUndo : ∃ nm q N bs bm sn sub ab col dd k0 k1 k2 k3 k5, K.lookup CNothingToUndo = some (excClassObj nm q CNothingToUndo N bs bm true sn sub ab col dd k0 k1 k2 k3 k5 "ValueError.__new__") ∧ PySem.HandSPX.refsVE bm = true)
    (gNothingToRedo : PySem.W.nsIn K mainGlobals "NothingToRedo" = some (some (.ref CNothingToRedo)))
    (saNothingToRedo : PySem.W.findIn K (.ref CNothingToRedo) "__setattr__" = some (some (.builtin "object.__setattr__")))
    (kcNothingToRedo : PySem.W.keepIn K (.ref CNothingToRedo) = true)
    (hdNothingToRedo : PySem.W.hasDictIn K CNothingToRedo = true)
    (gaNothingToRedo : PySem.W.findIn K (.ref CNothingToRedo) "__getattribute__" = some (some (.builtin "BaseException.__getattribute__")))
    (ggNothingToRedo : PySem.W.findIn K (.ref CNothingToRedo) "__getattr__" = some none)
    (exNothingToRedo : PySem.W.subIn K (.ref CNothingToRedo) (.type "BaseException") = some true)
    (tyNothingToRedo : PySem.W.typeIn K (.ref CNothingToRedo) = some (.type "type"))
    (sbNothingToRedo : PySem.W.subIn K (.ref CNothingToRedo) (.ref CNothingToRedo) = some true)
    (xlNothingToRedo : ∃ nm q N bs bm sn sub ab col dd k0 k1 k2 k3 k5, K.lookup CNothingToRedo = some (excClassObj nm q CNothingToRedo N bs bm true sn sub ab col dd k0 k1 k2 k3 k5 "ValueError.__new__") ∧ PySem.HandSPX.refsVE bm = true)
    (eaBadText : PySem.W.findIn K (.ref CBadText) "__class__" = some (some (.builtin "object.__class__")))
    (emBadText : PySem.W.mroIn K CBadText (.type "object") = some true)
    (eaBadName : PySem.W.findIn K (.ref CBadName) "__class__" = some (some (.builtin "object.__class__")))
    (emBadName : PySem.W.mroIn K CBadName (.type "object") = some true)
    (eaBadNumber : PySem.W.findIn K (.ref CBadNumber) "__class__" = some (some (.builtin "object.__class__")))
    (emBadNumber : PySem.W.mroIn K CBadNumber (.type "object") = some true)
    (eaBadRow : PySem.W.findIn K (.ref CBadRow) "__class__" = some (some (.builtin "object.__class__")))
    (emBadRow : PySem.W.mroIn K CBadRow (.type "object") = some true)
    (eaNoName : PySem.W.findIn K (.ref CNoName) "__class__" = some (some (.builtin "object.__class__")))
    (emNoName : PySem.W.mroIn K CNoName (.type "object") = some true)
    (eaTakenName : PySem.W.findIn K (.ref CTakenName) "__class__" = some (some (.builtin "object.__class__")))
    (emTakenName : PySem.W.mroIn K CTakenName (.type "object") = some true)
    (eaUnlike : PySem.W.findIn K (.ref CUnlike) "__class__" = some (some (.builtin "object.__class__")))
    (emUnlike : PySem.W.mroIn K CUnlike (.type "object") = some true)
    (eaNotThere : PySem.W.findIn K (.ref CNotThere) "__class__" = some (some (.builtin "object.__class__")))
    (emNotThere : PySem.W.mroIn K CNotThere (.type "object") = some true)
    (eaTooMany : PySem.W.findIn K (.ref CTooMany) "__class__" = some (some (.builtin "object.__class__")))
    (emTooMany : PySem.W.mroIn K CTooMany (.type "object") = some true)
    (eaNotKept : PySem.W.findIn K (.ref CNotKept) "__class__" = some (some (.builtin "object.__class__")))
    (emNotKept : PySem.W.mroIn K CNotKept (.type "object") = some true)
    (eaNothingToUndo : PySem.W.findIn K (.ref CNothingToUndo) "__class__" = some (some (.builtin "object.__class__")))
    (emNothingToUndo : PySem.W.mroIn K CNothingToUndo (.type "object") = some true)
    (eaNothingToRedo : PySem.W.findIn K (.ref CNothingToRedo) "__class__" = some (some (.builtin "object.__class__")))
    (emNothingToRedo : PySem.W.mroIn K CNothingToRedo (.type "object") = some true)
    (eN : PySem.W.specialIn K (.builtin "object.__class__") "__get__" = some (some (.builtin "getset_descriptor.__get__")))
    (eT : PySem.W.takesIn K (.builtin "object.__class__") = some true)
    (xiNothingToUndo : PySem.W.excIn K CNothingToUndo [.type "ValueError", .type "Exception", .type "BaseException", .type "object"] "ValueError.__new__" = true)
    (xiNothingToRedo : PySem.W.excIn K CNothingToRedo [.type "ValueError", .type "Exception", .type "BaseException", .type "object"] "ValueError.__new__" = true)
    (kiBadTextBadText : PySem.W.kitOne K (.ref CBadText) (.ref CBadText) = some true)
    (kiBadTextBadName : PySem.W.kitOne K (.ref CBadText) (.ref CBadName) = some false)
    (kiBadTextBadNumber : PySem.W.kitOne K (.ref CBadText) (.ref CBadNumber) = some false)
    (kiBadTextBadRow : PySem.W.kitOne K (.ref CBadText) (.ref CBadRow) = some false)
    (kiBadTextNoName : PySem.W.kitOne K (.ref CBadText) (.ref CNoName) = some false)
    (kiBadTextTakenName : PySem.W.kitOne K (.ref CBadText) (.ref CTakenName) = some false)
    (kiBadTextUnlike : PySem.W.kitOne K (.ref CBadText) (.ref CUnlike) = some false)
    (kiBadTextNotThere : PySem.W.kitOne K (.ref CBadText) (.ref CNotThere) = some false)
    (kiBadTextTooMany : PySem.W.kitOne K (.ref CBadText) (.ref CTooMany) = some false)
    (kiBadTextNotKept : PySem.W.kitOne K (.ref CBadText) (.ref CNotKept) = some false)
    (kiBadTextNothingToUndo : PySem.W.kitOne K (.ref CBadText) (.ref CNothingToUndo) = some false)
    (kiBadTextNothingToRedo : PySem.W.kitOne K (.ref CBadText) (.ref CNothingToRedo) = some false)
    (kiBadNameBadText : PySem.W.kitOne K (.ref CBadName) (.ref CBadText) = some false)
    (kiBadNameBadName : PySem.W.kitOne K (.ref CBadName) (.ref CBadName) = some true)
    (kiBadNameBadNumber : PySem.W.kitOne K (.ref CBadName) (.ref CBadNumber) = some false)
    (kiBadNameBadRow : PySem.W.kitOne K (.ref CBadName) (.ref CBadRow) = some false)
    (kiBadNameNoName : PySem.W.kitOne K (.ref CBadName) (.ref CNoName) = some false)
    (kiBadNameTakenName : PySem.W.kitOne K (.ref CBadName) (.ref CTakenName) = some false)
    (kiBadNameUnlike : PySem.W.kitOne K (.ref CBadName) (.ref CUnlike) = some false)
    (kiBadNameNotThere : PySem.W.kitOne K (.ref CBadName) (.ref CNotThere) = some false)
    (kiBadNameTooMany : PySem.W.kitOne K (.ref CBadName) (.ref CTooMany) = some false)
    (kiBadNameNotKept : PySem.W.kitOne K (.ref CBadName) (.ref CNotKept) = some false)
    (kiBadNameNothingToUndo : PySem.W.kitOne K (.ref CBadName) (.ref CNothingToUndo) = some false)
    (kiBadNameNothingToRedo : PySem.W.kitOne K (.ref CBadName) (.ref CNothingToRedo) = some false)
    (kiBadNumberBadText : PySem.W.kitOne K (.ref CBadNumber) (.ref CBadText) = some false)
    (kiBadNumberBadName : PySem.W.kitOne K (.ref CBadNumber) (.ref CBadName) = some false)
    (kiBadNumberBadNumber : PySem.W.kitOne K (.ref CBadNumber) (.ref CBadNumber) = some true)
    (kiBadNumberBadRow : PySem.W.kitOne K (.ref CBadNumber) (.ref CBadRow) = some false)
    (kiBadNumberNoName : PySem.W.kitOne K (.ref CBadNumber) (.ref CNoName) = some false)
    (kiBadNumberTakenName : PySem.W.kitOne K (.ref CBadNumber) (.ref CTakenName) = some false)
    (kiBadNumberUnlike : PySem.W.kitOne K (.ref CBadNumber) (.ref CUnlike) = some false)
    (kiBadNumberNotThere : PySem.W.kitOne K (.ref CBadNumber) (.ref CNotThere) = some false)
    (kiBadNumberTooMany : PySem.W.kitOne K (.ref CBadNumber) (.ref CTooMany) = some false)
    (kiBadNumberNotKept : PySem.W.kitOne K (.ref CBadNumber) (.ref CNotKept) = some false)
    (kiBadNumberNothingToUndo : PySem.W.kitOne K (.ref CBadNumber) (.ref CNothingToUndo) = some false)
    (kiBadNumberNothingToRedo : PySem.W.kitOne K (.ref CBadNumber) (.ref CNothingToRedo) = some false)
    (kiBadRowBadText : PySem.W.kitOne K (.ref CBadRow) (.ref CBadText) = some false)
    (kiBadRowBadName : PySem.W.kitOne K (.ref CBadRow) (.ref CBadName) = some false)
    (kiBadRowBadNumber : PySem.W.kitOne K (.ref CBadRow) (.ref CBadNumber) = some false)
    (kiBadRowBadRow : PySem.W.kitOne K (.ref CBadRow) (.ref CBadRow) = some true)
    (kiBadRowNoName : PySem.W.kitOne K (.ref CBadRow) (.ref CNoName) = some false)
    (kiBadRowTakenName : PySem.W.kitOne K (.ref CBadRow) (.ref CTakenName) = some false)
    (kiBadRowUnlike : PySem.W.kitOne K (.ref CBadRow) (.ref CUnlike) = some false)
    (kiBadRowNotThere : PySem.W.kitOne K (.ref CBadRow) (.ref CNotThere) = some false)
    (kiBadRowTooMany : PySem.W.kitOne K (.ref CBadRow) (.ref CTooMany) = some false)
    (kiBadRowNotKept : PySem.W.kitOne K (.ref CBadRow) (.ref CNotKept) = some false)
    (kiBadRowNothingToUndo : PySem.W.kitOne K (.ref CBadRow) (.ref CNothingToUndo) = some false)
    (kiBadRowNothingToRedo : PySem.W.kitOne K (.ref CBadRow) (.ref CNothingToRedo) = some false)
    (kiNoNameBadText : PySem.W.kitOne K (.ref CNoName) (.ref CBadText) = some false)
    (kiNoNameBadName : PySem.W.kitOne K (.ref CNoName) (.ref CBadName) = some false)
    (kiNoNameBadNumber : PySem.W.kitOne K (.ref CNoName) (.ref CBadNumber) = some false)
    (kiNoNameBadRow : PySem.W.kitOne K (.ref CNoName) (.ref CBadRow) = some false)
    (kiNoNameNoName : PySem.W.kitOne K (.ref CNoName) (.ref CNoName) = some true)
    (kiNoNameTakenName : PySem.W.kitOne K (.ref CNoName) (.ref CTakenName) = some false)
    (kiNoNameUnlike : PySem.W.kitOne K (.ref CNoName) (.ref CUnlike) = some false)
    (kiNoNameNotThere : PySem.W.kitOne K (.ref CNoName) (.ref CNotThere) = some false)
    (kiNoNameTooMany : PySem.W.kitOne K (.ref CNoName) (.ref CTooMany) = some false)
    (kiNoNameNotKept : PySem.W.kitOne K (.ref CNoName) (.ref CNotKept) = some false)
    (kiNoNameNothingToUndo : PySem.W.kitOne K (.ref CNoName) (.ref CNothingToUndo) = some false)
    (kiNoNameNothingToRedo : PySem.W.kitOne K (.ref CNoName) (.ref CNothingToRedo) = some false)
    (kiTakenNameBadText : PySem.W.kitOne K (.ref CTakenName) (.ref CBadText) = some false)
    (kiTakenNameBadName : PySem.W.kitOne K (.ref CTakenName) (.ref CBadName) = some false)
    (kiTakenNameBadNumber : PySem.W.kitOne K (.ref CTakenName) (.ref CBadNumber) = some false)
    (kiTakenNameBadRow : PySem.W.kitOne K (.ref CTakenName) (.ref CBadRow) = some false)
    (kiTakenNameNoName : PySem.W.kitOne K (.ref CTakenName) (.ref CNoName) = some false)
    (kiTakenNameTakenName : PySem.W.kitOne K (.ref CTakenName) (.ref CTakenName) = some true)
    (kiTakenNameUnlike : PySem.W.kitOne K (.ref CTakenName) (.ref CUnlike) = some false)
    (kiTakenNameNotThere : PySem.W.kitOne K (.ref CTakenName) (.ref CNotThere) = some false)
    (kiTakenNameTooMany : PySem.W.kitOne K (.ref CTakenName) (.ref CTooMany) = some false)
    (kiTakenNameNotKept : PySem.W.kitOne K (.ref CTakenName) (.ref CNotKept) = some false)
    (kiTakenNameNothingToUndo : PySem.W.kitOne K (.ref CTakenName) (.ref CNothingToUndo) = some false)
    (kiTakenNameNothingToRedo : PySem.W.kitOne K (.ref CTakenName) (.ref CNothingToRedo) = some false)
    (kiUnlikeBadText : PySem.W.kitOne K (.ref CUnlike) (.ref CBadText) = some false)
    (kiUnlikeBadName : PySem.W.kitOne K (.ref CUnlike) (.ref CBadName) = some false)
    (kiUnlikeBadNumber : PySem.W.kitOne K (.ref CUnlike) (.ref CBadNumber) = some false)
    (kiUnlikeBadRow : PySem.W.kitOne K (.ref CUnlike) (.ref CBadRow) = some false)
    (kiUnlikeNoName : PySem.W.kitOne K (.ref CUnlike) (.ref CNoName) = some false)
    (kiUnlikeTakenName : PySem.W.kitOne K (.ref CUnlike) (.ref CTakenName) = some false)
    (kiUnlikeUnlike : PySem.W.kitOne K (.ref CUnlike) (.ref CUnlike) = some true)
    (kiUnlikeNotThere : PySem.W.kitOne K (.ref CUnlike) (.ref CNotThere) = some false)
    (kiUnlikeTooMany : PySem.W.kitOne K (.ref CUnlike) (.ref CTooMany) = some false)
    (kiUnlikeNotKept : PySem.W.kitOne K (.ref CUnlike) (.ref CNotKept) = some false)
    (kiUnlikeNothingToUndo : PySem.W.kitOne K (.ref CUnlike) (.ref CNothingToUndo) = some false)
    (kiUnlikeNothingToRedo : PySem.W.kitOne K (.ref CUnlike) (.ref CNothingToRedo) = some false)
    (kiNotThereBadText : PySem.W.kitOne K (.ref CNotThere) (.ref CBadText) = some false)
    (kiNotThereBadName : PySem.W.kitOne K (.ref CNotThere) (.ref CBadName) = some false)
    (kiNotThereBadNumber : PySem.W.kitOne K (.ref CNotThere) (.ref CBadNumber) = some false)
    (kiNotThereBadRow : PySem.W.kitOne K (.ref CNotThere) (.ref CBadRow) = some false)
    (kiNotThereNoName : PySem.W.kitOne K (.ref CNotThere) (.ref CNoName) = some false)
    (kiNotThereTakenName : PySem.W.kitOne K (.ref CNotThere) (.ref CTakenName) = some false)
    (kiNotThereUnlike : PySem.W.kitOne K (.ref CNotThere) (.ref CUnlike) = some false)
    (kiNotThereNotThere : PySem.W.kitOne K (.ref CNotThere) (.ref CNotThere) = some true)
    (kiNotThereTooMany : PySem.W.kitOne K (.ref CNotThere) (.ref CTooMany) = some false)
    (kiNotThereNotKept : PySem.W.kitOne K (.ref CNotThere) (.ref CNotKept) = some false)
    (kiNotThereNothingToUndo : PySem.W.kitOne K (.ref CNotThere) (.ref CNothingToUndo) = some false)
    (kiNotThereNothingToRedo : PySem.W.kitOne K (.ref CNotThere) (.ref CNothingToRedo) = some false)
    (kiTooManyBadText : PySem.W.kitOne K (.ref CTooMany) (.ref CBadText) = some false)
    (kiTooManyBadName : PySem.W.kitOne K (.ref CTooMany) (.ref CBadName) = some false)
    (kiTooManyBadNumber : PySem.W.kitOne K (.ref CTooMany) (.ref CBadNumber) = some false)
    (kiTooManyBadRow : PySem.W.kitOne K (.ref CTooMany) (.ref CBadRow) = some false)
    (kiTooManyNoName : PySem.W.kitOne K (.ref CTooMany) (.ref CNoName) = some false)
    (kiTooManyTakenName : PySem.W.kitOne K (.ref CTooMany) (.ref CTakenName) = some false)
    (kiTooManyUnlike : PySem.W.kitOne K (.ref CTooMany) (.ref CUnlike) = some false)
    (kiTooManyNotThere : PySem.W.kitOne K (.ref CTooMany) (.ref CNotThere) = some false)
    (kiTooManyTooMany : PySem.W.kitOne K (.ref CTooMany) (.ref CTooMany) = some true)
    (kiTooManyNotKept : PySem.W.kitOne K (.ref CTooMany) (.ref CNotKept) = some false)
    (kiTooManyNothingToUndo : PySem.W.kitOne K (.ref CTooMany) (.ref CNothingToUndo) = some false)
    (kiTooManyNothingToRedo : PySem.W.kitOne K (.ref CTooMany) (.ref CNothingToRedo) = some false)
    (kiNotKeptBadText : PySem.W.kitOne K (.ref CNotKept) (.ref CBadText) = some false)
    (kiNotKeptBadName : PySem.W.kitOne K (.ref CNotKept) (.ref CBadName) = some false)
    (kiNotKeptBadNumber : PySem.W.kitOne K (.ref CNotKept) (.ref CBadNumber) = some false)
    (kiNotKeptBadRow : PySem.W.kitOne K (.ref CNotKept) (.ref CBadRow) = some false)
    (kiNotKeptNoName : PySem.W.kitOne K (.ref CNotKept) (.ref CNoName) = some false)
    (kiNotKeptTakenName : PySem.W.kitOne K (.ref CNotKept) (.ref CTakenName) = some false)
    (kiNotKeptUnlike : PySem.W.kitOne K (.ref CNotKept) (.ref CUnlike) = some false)
    (kiNotKeptNotThere : PySem.W.kitOne K (.ref CNotKept) (.ref CNotThere) = some false)
    (kiNotKeptTooMany : PySem.W.kitOne K (.ref CNotKept) (.ref CTooMany) = some false)
    (kiNotKeptNotKept : PySem.W.kitOne K (.ref CNotKept) (.ref CNotKept) = some true)
    (kiNotKeptNothingToUndo : PySem.W.kitOne K (.ref CNotKept) (.ref CNothingToUndo) = some false)
    (kiNotKeptNothingToRedo : PySem.W.kitOne K (.ref CNotKept) (.ref CNothingToRedo) = some false)
    (kiNothingToUndoBadText : PySem.W.kitOne K (.ref CNothingToUndo) (.ref CBadText) = some false)
    (kiNothingToUndoBadName : PySem.W.kitOne K (.ref CNothingToUndo) (.ref CBadName) = some false)
    (kiNothingToUndoBadNumber : PySem.W.kitOne K (.ref CNothingToUndo) (.ref CBadNumber) = some false)
    (kiNothingToUndoBadRow : PySem.W.kitOne K (.ref CNothingToUndo) (.ref CBadRow) = some false)
    (kiNothingToUndoNoName : PySem.W.kitOne K (.ref CNothingToUndo) (.ref CNoName) = some false)
    (kiNothingToUndoTakenName : PySem.W.kitOne K (.ref CNothingToUndo) (.ref CTakenName) = some false)
    (kiNothingToUndoUnlike : PySem.W.kitOne K (.ref CNothingToUndo) (.ref CUnlike) = some false)
    (kiNothingToUndoNotThere : PySem.W.kitOne K (.ref CNothingToUndo) (.ref CNotThere) = some false)
    (kiNothingToUndoTooMany : PySem.W.kitOne K (.ref CNothingToUndo) (.ref CTooMany) = some false)
    (kiNothingToUndoNotKept : PySem.W.kitOne K (.ref CNothingToUndo) (.ref CNotKept) = some false)
    (kiNothingToUndoNothingToUndo : PySem.W.kitOne K (.ref CNothingToUndo) (.ref CNothingToUndo) = some true)
    (kiNothingToUndoNothingToRedo : PySem.W.kitOne K (.ref CNothingToUndo) (.ref CNothingToRedo) = some false)
    (kiNothingToRedoBadText : PySem.W.kitOne K (.ref CNothingToRedo) (.ref CBadText) = some false)
    (kiNothingToRedoBadName : PySem.W.kitOne K (.ref CNothingToRedo) (.ref CBadName) = some false)
    (kiNothingToRedoBadNumber : PySem.W.kitOne K (.ref CNothingToRedo) (.ref CBadNumber) = some false)
    (kiNothingToRedoBadRow : PySem.W.kitOne K (.ref CNothingToRedo) (.ref CBadRow) = some false)
    (kiNothingToRedoNoName : PySem.W.kitOne K (.ref CNothingToRedo) (.ref CNoName) = some false)
    (kiNothingToRedoTakenName : PySem.W.kitOne K (.ref CNothingToRedo) (.ref CTakenName) = some false)
    (kiNothingToRedoUnlike : PySem.W.kitOne K (.ref CNothingToRedo) (.ref CUnlike) = some false)
    (kiNothingToRedoNotThere : PySem.W.kitOne K (.ref CNothingToRedo) (.ref CNotThere) = some false)
    (kiNothingToRedoTooMany : PySem.W.kitOne K (.ref CNothingToRedo) (.ref CTooMany) = some false)
    (kiNothingToRedoNotKept : PySem.W.kitOne K (.ref CNothingToRedo) (.ref CNotKept) = some false)
    (kiNothingToRedoNothingToUndo : PySem.W.kitOne K (.ref CNothingToRedo) (.ref CNothingToUndo) = some false)
    (kiNothingToRedoNothingToRedo : PySem.W.kitOne K (.ref CNothingToRedo) (.ref CNothingToRedo) = some true)
    (kiBadTextAgainError : PySem.W.kitOne K (.ref CBadText) (.ref CAgainError) = some true)
    (kiBadNameAgainError : PySem.W.kitOne K (.ref CBadName) (.ref CAgainError) = some true)
    (kiBadNumberAgainError : PySem.W.kitOne K (.ref CBadNumber) (.ref CAgainError) = some true)
    (kiBadRowAgainError : PySem.W.kitOne K (.ref CBadRow) (.ref CAgainError) = some true)
    (kiNoNameAgainError : PySem.W.kitOne K (.ref CNoName) (.ref CAgainError) = some true)
    (kiTakenNameAgainError : PySem.W.kitOne K (.ref CTakenName) (.ref CAgainError) = some true)
    (kiUnlikeAgainError : PySem.W.kitOne K (.ref CUnlike) (.ref CAgainError) = some true)
    (kiNotThereAgainError : PySem.W.kitOne K (.ref CNotThere) (.ref CAgainError) = some true)
    (kiTooManyAgainError : PySem.W.kitOne K (.ref CTooMany) (.ref CAgainError) = some true)
    (kiNotKeptAgainError : PySem.W.kitOne K (.ref CNotKept) (.ref CAgainError) = some true)
    (kiNothingToUndoAgainError : PySem.W.kitOne K (.ref CNothingToUndo) (.ref CAgainError) = some true)
    (kiNothingToRedoAgainError : PySem.W.kitOne K (.ref CNothingToRedo) (.ref CAgainError) = some true)
    (kiBadTextValueError : PySem.W.kitOne K (.ref CBadText) (.type "ValueError") = some true)
    (kiBadNameValueError : PySem.W.kitOne K (.ref CBadName) (.type "ValueError") = some true)
    (kiBadNumberValueError : PySem.W.kitOne K (.ref CBadNumber) (.type "ValueError") = some true)
    (kiBadRowValueError : PySem.W.kitOne K (.ref CBadRow) (.type "ValueError") = some true)
    (kiNoNameValueError : PySem.W.kitOne K (.ref CNoName) (.type "ValueError") = some true)
    (kiTakenNameValueError : PySem.W.kitOne K (.ref CTakenName) (.type "ValueError") = some true)
    (kiUnlikeValueError : PySem.W.kitOne K (.ref CUnlike) (.type "ValueError") = some true)
    (kiNotThereValueError : PySem.W.kitOne K (.ref CNotThere) (.type "ValueError") = some true)
    (kiTooManyValueError : PySem.W.kitOne K (.ref CTooMany) (.type "ValueError") = some true)
    (kiNotKeptValueError : PySem.W.kitOne K (.ref CNotKept) (.type "ValueError") = some true)
    (kiNothingToUndoValueError : PySem.W.kitOne K (.ref CNothingToUndo) (.type "ValueError") = some true)
    (kiNothingToRedoValueError : PySem.W.kitOne K (.ref CNothingToRedo) (.type "ValueError") = some true)
    (sbNotThereAgainError : PySem.W.subIn K (.ref CNotThere) (.ref CAgainError) = some true)
    (bValueError : PySem.W.nsIn K mainGlobals "ValueError" = some none)
    (benumerate : PySem.W.nsIn K mainGlobals "enumerate" = some none)
    (blist : PySem.W.nsIn K mainGlobals "list" = some none)
    (bisinstance : PySem.W.nsIn K mainGlobals "isinstance" = some none)
    (bint : PySem.W.nsIn K mainGlobals "int" = some none)
    (blen : PySem.W.nsIn K mainGlobals "len" = some none)
    (brepr : PySem.W.nsIn K mainGlobals "repr" = some none)
    (brange : PySem.W.nsIn K mainGlobals "range" = some none) :
    LawG l w K 63 mg fa s := by
  have G := TP.g
  have e : f7 = fa := Value.ref.inj (Option.some.inj ((PySem.W.mg_of X G a7).symm.trans hfa))
  subst e
  let T : Txt w K mg := {
    a_law_pen := f0
    d_law_pen := (PySem.W.fnOf "_law_pen" "_law_pen" (defArgs s_law_pen) (defBody s_law_pen) (defScope s_law_pen) .none kV0 dc0 pm0 an0 cd0 ct0)
    D_law_pen := ⟨fun_mk (st := s_law_pen) l0 c0 k0, PySem.W.mg_of X G a0, (fun_mk (x := "_law_pen") (qual := "_law_pen") (st := s_law_pen) l0 c0 k0).binds (ps := ["script"]) fun _ _ _ _ _ _ us hl => match us, hl with | [_], _ => rfl⟩
    a_law_draw := f1
    d_law_draw := (PySem.W.fnOf "_law_draw" "_law_draw" (defArgs s_law_draw) (defBody s_law_draw) (defScope s_law_draw) .none kV1 dc1 pm1 an1 cd1 ct1)
    D_law_draw := ⟨fun_mk (st := s_law_draw) l1 c1 k1, PySem.W.mg_of X G a1, (fun_mk (x := "_law_draw") (qual := "_law_draw") (st := s_law_draw) l1 c1 k1).binds (ps := ["pen", "many"]) fun _ _ _ _ _ _ us hl => match us, hl with | [_, _], _ => rfl⟩
    a_law_pick := f2
    d_law_pick := (PySem.W.fnOf "_law_pick" "_law_pick" (defArgs s_law_pick) (defBody s_law_pick) (defScope s_law_pick) .none kV2 dc2 pm2 an2 cd2 ct2)
    D_law_pick := ⟨fun_mk (st := s_law_pick) l2 c2 k2, PySem.W.mg_of X G a2, (fun_mk (x := "_law_pick") (qual := "_law_pick") (st := s_law_pick) l2 c2 k2).binds (ps := ["pen", "some"]) fun _ _ _ _ _ _ us hl => match us, hl with | [_, _], _ => rfl⟩
    a_law_value := f3
    d_law_value := (PySem.W.fnOf "_law_value" "_law_value" (defArgs s_law_value) (defBody s_law_value) (defScope s_law_value) .none kV3 dc3 pm3 an3 cd3 ct3)
    D_law_value := ⟨fun_mk (st := s_law_value) l3 c3 k3, PySem.W.mg_of X G a3, (fun_mk (x := "_law_value") (qual := "_law_value") (st := s_law_value) l3 c3 k3).binds (ps := ["pen"]) fun _ _ _ _ _ _ us hl => match us, hl with | [_], _ => rfl⟩
    a_law_fields := f4
    d_law_fields := (PySem.W.fnOf "_law_fields" "_law_fields" (defArgs s_law_fields) (defBody s_law_fields) (defScope s_law_fields) .none kV4 dc4 pm4 an4 cd4 ct4)
    D_law_fields := ⟨fun_mk (st := s_law_fields) l4 c4 k4, PySem.W.mg_of X G a4, (fun_mk (x := "_law_fields") (qual := "_law_fields") (st := s_law_fields) l4 c4 k4).binds (ps := ["one", "names"]) fun _ _ _ _ _ _ us hl => match us, hl with | [_, _], _ => rfl⟩
    a_law_made_errors := f5
    d_law_made_errors := (PySem.W.fnOf "_law_made_errors" "_law_made_errors" (defArgs s_law_made_errors) (defBody s_law_made_errors) (defScope s_law_made_errors) .none kV5 dc5 pm5 an5 cd5 ct5)
    D_law_made_errors := ⟨fun_mk (st := s_law_made_errors) l5 c5 k5, PySem.W.mg_of X G a5, (fun_mk (x := "_law_made_errors") (qual := "_law_made_errors") (st := s_law_made_errors) l5 c5 k5).binds (ps := ["one", "two", "three"]) fun _ _ _ _ _ _ us hl => match us, hl with | [_, _, _], _ => rfl⟩
    a_law_kinds := f6
    d_law_kinds := (PySem.W.fnOf "_law_kinds" "_law_kinds" (defArgs s_law_kinds) (defBody s_law_kinds) (defScope s_law_kinds) .none kV6 dc6 pm6 an6 cd6 ct6)
    D_law_kinds := ⟨fun_mk (st := s_law_kinds) l6 c6 k6, PySem.W.mg_of X G a6, (fun_mk (x := "_law_kinds") (qual := "_law_kinds") (st := s_law_kinds) l6 c6 k6).binds (ps := ["one"]) fun _ _ _ _ _ _ us hl => match us, hl with | [_], _ => rfl⟩
    a_law := f7
    d_law := (PySem.W.fnOf "law" "law" (defArgs s_law) (defBody s_law) (defScope s_law) .none kV7 dc7 pm7 an7 cd7 ct7)
    D_law := ⟨fun_mk (st := s_law) l7 c7 k7, PySem.W.mg_of X G a7, (fun_mk (x := "law") (qual := "law") (st := s_law) l7 c7 k7).binds (ps := ["script"]) fun _ _ _ _ _ _ us hl => match us, hl with | [_], _ => rfl⟩
    C_AgainError := CAgainError
    g_AgainError := PySem.W.mg_of X G gAgainError
    ox_AgainError := ⟨xlAgainError, saAgainError, exAgainError, tyAgainError, kcAgainError⟩
    xf_AgainError := ⟨gaAgainError, ggAgainError, exAgainError, hdAgainError⟩
    sb_AgainError := sbAgainError
    C_BadText := CBadText
    g_BadText := PySem.W.mg_of X G gBadText
    a_BadText___init__ := fBadText0
    d_BadText___init__ := (PySem.W.fnOf "__init__" "BadText.__init__" (defArgs s_BadText___init__) (defBody s_BadText___init__) (defScope s_BadText___init__) .none kVBadText0 dcBadText0 pmBadText0 anBadText0 cdBadText0 ctBadText0)
    D_BadText___init__ := ⟨fun_mk (st := s_BadText___init__) lBadText0 cBadText0 kBadText0, (fun_mk (x := "__init__") (qual := "BadText.__init__") (st := s_BadText___init__) lBadText0 cBadText0 kBadText0).binds (ps := ["self", "line", "word"]) fun _ _ _ _ _ _ us hl => match us, hl with | [_, _, _], _ => rfl⟩
    ic_BadText := aBadText0
    ti_BadText := tBadText0
    na_BadText_line := nBadTextline
    na_BadText_word := nBadTextword
    ox_BadText := ⟨xlBadText, saBadText, exBadText, tyBadText, kcBadText⟩
    xf_BadText := ⟨gaBadText, ggBadText, exBadText, hdBadText⟩
    sb_BadText := sbBadText
    C_BadName := CBadName
    g_BadName := PySem.W.mg_of X G gBadName
    a_BadName___init__ := fBadName0
    d_BadName___init__ := (PySem.W.fnOf "__init__" "BadName.__init__" (defArgs s_BadName___init__) (defBody s_BadName___init__) (defScope s_BadName___init__) .none kVBadName0 dcBadName0 pmBadName0 anBadName0 cdBadName0 ctBadName0)
    D_BadName___init__ := ⟨fun_mk (st := s_BadName___init__) lBadName0 cBadName0 kBadName0, (fun_mk (x := "__init__") (qual := "BadName.__init__") (st := s_BadName___init__) lBadName0 cBadName0 kBadName0).binds (ps := ["self", "name"]) fun _ _ _ _ _ _ us hl => match us, hl with | [_, _], _ => rfl⟩
    ic_BadName := aBadName0
    ti_BadName := tBadName0
    na_BadName_name := nBadNamename
    ox_BadName := ⟨xlBadName, saBadName, exBadName, tyBadName, kcBadName⟩
    xf_BadName := ⟨gaBadName, ggBadName, exBadName, hdBadName⟩
    sb_BadName := sbBadName
    C_BadNumber := CBadNumber
    g_BadNumber := PySem.W.mg_of X G gBadNumber
    a_BadNumber___init__ := fBadNumber0
    d_BadNumber___init__ := (PySem.W.fnOf "__init__" "BadNumber.__init__" (defArgs s_BadNumber___init__) (defBody s_BadNumber___init__) (defScope s_BadNumber___init__) .none kVBadNumber0 dcBadNumber0 pmBadNumber0 anBadNumber0 cdBadNumber0 ctBadNumber0)
    D_BadNumber___init__ := ⟨fun_mk (st := s_BadNumber___init__) lBadNumber0 cBadNumber0 kBadNumber0, (fun_mk (x := "__init__") (qual := "BadNumber.__init__") (st := s_BadNumber___init__) lBadNumber0 cBadNumber0 kBadNumber0).binds (ps := ["self", "what", "number"]) fun _ _ _ _ _ _ us hl => match us, hl with | [_, _, _], _ => rfl⟩
    ic_BadNumber := aBadNumber0
    ti_BadNumber := tBadNumber0
    na_BadNumber_what := nBadNumberwhat
    na_BadNumber_number := nBadNumbernumber
    ox_BadNumber := ⟨xlBadNumber, saBadNumber, exBadNumber, tyBadNumber, kcBadNumber⟩
    xf_BadNumber := ⟨gaBadNumber, ggBadNumber, exBadNumber, hdBadNumber⟩
    sb_BadNumber := sbBadNumber
    C_BadRow := CBadRow
    g_BadRow := PySem.W.mg_of X G gBadRow
    a_BadRow___init__ := fBadRow0
    d_BadRow___init__ := (PySem.W.fnOf "__init__" "BadRow.__init__" (defArgs s_BadRow___init__) (defBody s_BadRow___init__) (defScope s_BadRow___init__) .none kVBadRow0 dcBadRow0 pmBadRow0 anBadRow0 cdBadRow0 ctBadRow0)
    D_BadRow___init__ := ⟨fun_mk (st := s_BadRow___init__) lBadRow0 cBadRow0 kBadRow0, (fun_mk (x := "__init__") (qual := "BadRow.__init__") (st := s_BadRow___init__) lBadRow0 cBadRow0 kBadRow0).binds (ps := ["self", "what", "row"]) fun _ _ _ _ _ _ us hl => match us, hl with | [_, _, _], _ => rfl⟩
    ic_BadRow := aBadRow0
    ti_BadRow := tBadRow0
    na_BadRow_what := nBadRowwhat
    na_BadRow_row := nBadRowrow
    ox_BadRow := ⟨xlBadRow, saBadRow, exBadRow, tyBadRow, kcBadRow⟩
    xf_BadRow := ⟨gaBadRow, ggBadRow, exBadRow, hdBadRow⟩
    sb_BadRow := sbBadRow
    C_NoName := CNoName
    g_NoName := PySem.W.mg_of X G gNoName
    a_NoName___init__ := fNoName0
    d_NoName___init__ := (PySem.W.fnOf "__init__" "NoName.__init__" (defArgs s_NoName___init__) (defBody s_NoName___init__) (defScope s_NoName___init__) .none kVNoName0 dcNoName0 pmNoName0 anNoName0 cdNoName0 ctNoName0)
    D_NoName___init__ := ⟨fun_mk (st := s_NoName___init__) lNoName0 cNoName0 kNoName0, (fun_mk (x := "__init__") (qual := "NoName.__init__") (st := s_NoName___init__) lNoName0 cNoName0 kNoName0).binds (ps := ["self", "name"]) fun _ _ _ _ _ _ us hl => match us, hl with | [_, _], _ => rfl⟩
    ic_NoName := aNoName0
    ti_NoName := tNoName0
    na_NoName_name := nNoNamename
    ox_NoName := ⟨xlNoName, saNoName, exNoName, tyNoName, kcNoName⟩
    xf_NoName := ⟨gaNoName, ggNoName, exNoName, hdNoName⟩
    sb_NoName := sbNoName
    C_TakenName := CTakenName
    g_TakenName := PySem.W.mg_of X G gTakenName
    a_TakenName___init__ := fTakenName0
    d_TakenName___init__ := (PySem.W.fnOf "__init__" "TakenName.__init__" (defArgs s_TakenName___init__) (defBody s_TakenName___init__) (defScope s_TakenName___init__) .none kVTakenName0 dcTakenName0 pmTakenName0 anTakenName0 cdTakenName0 ctTakenName0)
    D_TakenName___init__ := ⟨fun_mk (st := s_TakenName___init__) lTakenName0 cTakenName0 kTakenName0, (fun_mk (x := "__init__") (qual := "TakenName.__init__") (st := s_TakenName___init__) lTakenName0 cTakenName0 kTakenName0).binds (ps := ["self", "name"]) fun _ _ _ _ _ _ us hl => match us, hl with | [_, _], _ => rfl⟩
    ic_TakenName := aTakenName0
    ti_TakenName := tTakenName0
    na_TakenName_name := nTakenNamename
    ox_TakenName := ⟨xlTakenName, saTakenName, exTakenName, tyTakenName, kcTakenName⟩
    xf_TakenName := ⟨gaTakenName, ggTakenName, exTakenName, hdTakenName⟩
    sb_TakenName := sbTakenName
    C_Unlike := CUnlike
    g_Unlike := PySem.W.mg_of X G gUnlike
    a_Unlike___init__ := fUnlike0
    d_Unlike___init__ := (PySem.W.fnOf "__init__" "Unlike.__init__" (defArgs s_Unlike___init__) (defBody s_Unlike___init__) (defScope s_Unlike___init__) .none kVUnlike0 dcUnlike0 pmUnlike0 anUnlike0 cdUnlike0 ctUnlike0)
    D_Unlike___init__ := ⟨fun_mk (st := s_Unlike___init__) lUnlike0 cUnlike0 kUnlike0, (fun_mk (x := "__init__") (qual := "Unlike.__init__") (st := s_Unlike___init__) lUnlike0 cUnlike0 kUnlike0).binds (ps := ["self", "what"]) fun _ _ _ _ _ _ us hl => match us, hl with | [_, _], _ => rfl⟩
    ic_Unlike := aUnlike0
    ti_Unlike := tUnlike0
    na_Unlike_what := nUnlikewhat
    ox_Unlike := ⟨xlUnlike, saUnlike, exUnlike, tyUnlike, kcUnlike⟩
    xf_Unlike := ⟨gaUnlike, ggUnlike, exUnlike, hdUnlike⟩
    sb_Unlike := sbUnlike
    C_NotThere := CNotThere
    g_NotThere := PySem.W.mg_of X G gNotThere
    a_NotThere___init__ := fNotThere0
    d_NotThere___init__ := (PySem.W.fnOf "__init__" "NotThere.__init__" (defArgs s_NotThere___init__) (defBody s_NotThere___init__) (defScope s_NotThere___init__) .none kVNotThere0 dcNotThere0 pmNotThere0 anNotThere0 cdNotThere0 ctNotThere0)
    D_NotThere___init__ := ⟨fun_mk (st := s_NotThere___init__) lNotThere0 cNotThere0 kNotThere0, (fun_mk (x := "__init__") (qual := "NotThere.__init__") (st := s_NotThere___init__) lNotThere0 cNotThere0 kNotThere0).binds (ps := ["self", "what"]) fun _ _ _ _ _ _ us hl => match us, hl with | [_, _], _ => rfl⟩
    ic_NotThere := aNotThere0
    ti_NotThere := tNotThere0
    na_NotThere_what := nNotTherewhat
    ox_NotThere := ⟨xlNotThere, saNotThere, exNotThere, tyNotThere, kcNotThere⟩
    xf_NotThere := ⟨gaNotThere, ggNotThere, exNotThere, hdNotThere⟩
    sb_NotThere := sbNotThere
    C_TooMany := CTooMany
    g_TooMany := PySem.W.mg_of X G gTooMany
    a_TooMany___init__ := fTooMany0
    d_TooMany___init__ := (PySem.W.fnOf "__init__" "TooMany.__init__" (defArgs s_TooMany___init__) (defBody s_TooMany___init__) (defScope s_TooMany___init__) .none kVTooMany0 dcTooMany0 pmTooMany0 anTooMany0 cdTooMany0 ctTooMany0)
    D_TooMany___init__ := ⟨fun_mk (st := s_TooMany___init__) lTooMany0 cTooMany0 kTooMany0, (fun_mk (x := "__init__") (qual := "TooMany.__init__") (st := s_TooMany___init__) lTooMany0 cTooMany0 kTooMany0).binds (ps := ["self", "what", "many", "limit"]) fun _ _ _ _ _ _ us hl => match us, hl with | [_, _, _, _], _ => rfl⟩
    ic_TooMany := aTooMany0
    ti_TooMany := tTooMany0
    na_TooMany_what := nTooManywhat
    na_TooMany_many := nTooManymany
    na_TooMany_limit := nTooManylimit
    ox_TooMany := ⟨xlTooMany, saTooMany, exTooMany, tyTooMany, kcTooMany⟩
    xf_TooMany := ⟨gaTooMany, ggTooMany, exTooMany, hdTooMany⟩
    sb_TooMany := sbTooMany
    C_NotKept := CNotKept
    g_NotKept := PySem.W.mg_of X G gNotKept
    a_NotKept___init__ := fNotKept0
    d_NotKept___init__ := (PySem.W.fnOf "__init__" "NotKept.__init__" (defArgs s_NotKept___init__) (defBody s_NotKept___init__) (defScope s_NotKept___init__) .none kVNotKept0 dcNotKept0 pmNotKept0 anNotKept0 cdNotKept0 ctNotKept0)
    D_NotKept___init__ := ⟨fun_mk (st := s_NotKept___init__) lNotKept0 cNotKept0 kNotKept0, (fun_mk (x := "__init__") (qual := "NotKept.__init__") (st := s_NotKept___init__) lNotKept0 cNotKept0 kNotKept0).binds (ps := ["self", "promise", "witness"]) fun _ _ _ _ _ _ us hl => match us, hl with | [_, _, _], _ => rfl⟩
    ic_NotKept := aNotKept0
    ti_NotKept := tNotKept0
    na_NotKept_promise := nNotKeptpromise
    na_NotKept_witness := nNotKeptwitness
    ox_NotKept := ⟨xlNotKept, saNotKept, exNotKept, tyNotKept, kcNotKept⟩
    xf_NotKept := ⟨gaNotKept, ggNotKept, exNotKept, hdNotKept⟩
    sb_NotKept := sbNotKept
    C_NothingToUndo := CNothingToUndo
    g_NothingToUndo := PySem.W.mg_of X G gNothingToUndo
    ox_NothingToUndo := ⟨xlNothingToUndo, saNothingToUndo, exNothingToUndo, tyNothingToUndo, kcNothingToUndo⟩
    xf_NothingToUndo := ⟨gaNothingToUndo, ggNothingToUndo, exNothingToUndo, hdNothingToUndo⟩
    sb_NothingToUndo := sbNothingToUndo
    C_NothingToRedo := CNothingToRedo
    g_NothingToRedo := PySem.W.mg_of X G gNothingToRedo
    ox_NothingToRedo := ⟨xlNothingToRedo, saNothingToRedo, exNothingToRedo, tyNothingToRedo, kcNothingToRedo⟩
    xf_NothingToRedo := ⟨gaNothingToRedo, ggNothingToRedo, exNothingToRedo, hdNothingToRedo⟩
    sb_NothingToRedo := sbNothingToRedo
    ec_BadText := ⟨gaBadText, ggBadText, exBadText, hdBadText, eaBadText, eN, eT, emBadText⟩
    ec_BadName := ⟨gaBadName, ggBadName, exBadName, hdBadName, eaBadName, eN, eT, emBadName⟩
    ec_BadNumber := ⟨gaBadNumber, ggBadNumber, exBadNumber, hdBadNumber, eaBadNumber, eN, eT, emBadNumber⟩
    ec_BadRow := ⟨gaBadRow, ggBadRow, exBadRow, hdBadRow, eaBadRow, eN, eT, emBadRow⟩
    ec_NoName := ⟨gaNoName, ggNoName, exNoName, hdNoName, eaNoName, eN, eT, emNoName⟩
    ec_TakenName := ⟨gaTakenName, ggTakenName, exTakenName, hdTakenName, eaTakenName, eN, eT, emTakenName⟩
    ec_Unlike := ⟨gaUnlike, ggUnlike, exUnlike, hdUnlike, eaUnlike, eN, eT, emUnlike⟩
    ec_NotThere := ⟨gaNotThere, ggNotThere, exNotThere, hdNotThere, eaNotThere, eN, eT, emNotThere⟩
    ec_TooMany := ⟨gaTooMany, ggTooMany, exTooMany, hdTooMany, eaTooMany, eN, eT, emTooMany⟩
    ec_NotKept := ⟨gaNotKept, ggNotKept, exNotKept, hdNotKept, eaNotKept, eN, eT, emNotKept⟩
    ec_NothingToUndo := ⟨gaNothingToUndo, ggNothingToUndo, exNothingToUndo, hdNothingToUndo, eaNothingToUndo, eN, eT, emNothingToUndo⟩
    ec_NothingToRedo := ⟨gaNothingToRedo, ggNothingToRedo, exNothingToRedo, hdNothingToRedo, eaNothingToRedo, eN, eT, emNothingToRedo⟩
    xi_NothingToUndo := xiNothingToUndo
    kc_NothingToUndo := kcNothingToUndo
    xi_NothingToRedo := xiNothingToRedo
    kc_NothingToRedo := kcNothingToRedo
    ki_BadText_BadText := kiBadTextBadText
    ki_BadText_BadName := kiBadTextBadName
    ki_BadText_BadNumber := kiBadTextBadNumber
    ki_BadText_BadRow := kiBadTextBadRow
    ki_BadText_NoName := kiBadTextNoName
    ki_BadText_TakenName := kiBadTextTakenName
    ki_BadText_Unlike := kiBadTextUnlike
    ki_BadText_NotThere := kiBadTextNotThere
    ki_BadText_TooMany := kiBadTextTooMany
    ki_BadText_NotKept := kiBadTextNotKept
    ki_BadText_NothingToUndo := kiBadTextNothingToUndo
    ki_BadText_NothingToRedo := kiBadTextNothingToRedo
    ki_BadName_BadText := kiBadNameBadText
    ki_BadName_BadName := kiBadNameBadName
    ki_BadName_BadNumber := kiBadNameBadNumber
    ki_BadName_BadRow := kiBadNameBadRow
    ki_BadName_NoName := kiBadNameNoName
    ki_BadName_TakenName := kiBadNameTakenName
    ki_BadName_Unlike := kiBadNameUnlike
    ki_BadName_NotThere := kiBadNameNotThere
    ki_BadName_TooMany := kiBadNameTooMany
    ki_BadName_NotKept := kiBadNameNotKept
    ki_BadName_NothingToUndo := kiBadNameNothingToUndo
    ki_BadName_NothingToRedo := kiBadNameNothingToRedo
    ki_BadNumber_BadText := kiBadNumberBadText
    ki_BadNumber_BadName := kiBadNumberBadName
    ki_BadNumber_BadNumber := kiBadNumberBadNumber
    ki_BadNumber_BadRow := kiBadNumberBadRow
    ki_BadNumber_NoName := kiBadNumberNoName
    ki_BadNumber_TakenName := kiBadNumberTakenName
    ki_BadNumber_Unlike := kiBadNumberUnlike
    ki_BadNumber_NotThere := kiBadNumberNotThere
    ki_BadNumber_TooMany := kiBadNumberTooMany
    ki_BadNumber_NotKept := kiBadNumberNotKept
    ki_BadNumber_NothingToUndo := kiBadNumberNothingToUndo
    ki_BadNumber_NothingToRedo := kiBadNumberNothingToRedo
    ki_BadRow_BadText := kiBadRowBadText
    ki_BadRow_BadName := kiBadRowBadName
    ki_BadRow_BadNumber := kiBadRowBadNumber
    ki_BadRow_BadRow := kiBadRowBadRow
    ki_BadRow_NoName := kiBadRowNoName
    ki_BadRow_TakenName := kiBadRowTakenName
    ki_BadRow_Unlike := kiBadRowUnlike
    ki_BadRow_NotThere := kiBadRowNotThere
    ki_BadRow_TooMany := kiBadRowTooMany
    ki_BadRow_NotKept := kiBadRowNotKept
    ki_BadRow_NothingToUndo := kiBadRowNothingToUndo
    ki_BadRow_NothingToRedo := kiBadRowNothingToRedo
    ki_NoName_BadText := kiNoNameBadText
    ki_NoName_BadName := kiNoNameBadName
    ki_NoName_BadNumber := kiNoNameBadNumber
    ki_NoName_BadRow := kiNoNameBadRow
    ki_NoName_NoName := kiNoNameNoName
    ki_NoName_TakenName := kiNoNameTakenName
    ki_NoName_Unlike := kiNoNameUnlike
    ki_NoName_NotThere := kiNoNameNotThere
    ki_NoName_TooMany := kiNoNameTooMany
    ki_NoName_NotKept := kiNoNameNotKept
    ki_NoName_NothingToUndo := kiNoNameNothingToUndo
    ki_NoName_NothingToRedo := kiNoNameNothingToRedo
    ki_TakenName_BadText := kiTakenNameBadText
    ki_TakenName_BadName := kiTakenNameBadName
    ki_TakenName_BadNumber := kiTakenNameBadNumber
    ki_TakenName_BadRow := kiTakenNameBadRow
    ki_TakenName_NoName := kiTakenNameNoName
    ki_TakenName_TakenName := kiTakenNameTakenName
    ki_TakenName_Unlike := kiTakenNameUnlike
    ki_TakenName_NotThere := kiTakenNameNotThere
    ki_TakenName_TooMany := kiTakenNameTooMany
    ki_TakenName_NotKept := kiTakenNameNotKept
    ki_TakenName_NothingToUndo := kiTakenNameNothingToUndo
    ki_TakenName_NothingToRedo := kiTakenNameNothingToRedo
    ki_Unlike_BadText := kiUnlikeBadText
    ki_Unlike_BadName := kiUnlikeBadName
    ki_Unlike_BadNumber := kiUnlikeBadNumber
    ki_Unlike_BadRow := kiUnlikeBadRow
    ki_Unlike_NoName := kiUnlikeNoName
    ki_Unlike_TakenName := kiUnlikeTakenName
    ki_Unlike_Unlike := kiUnlikeUnlike
    ki_Unlike_NotThere := kiUnlikeNotThere
    ki_Unlike_TooMany := kiUnlikeTooMany
    ki_Unlike_NotKept := kiUnlikeNotKept
    ki_Unlike_NothingToUndo := kiUnlikeNothingToUndo
    ki_Unlike_NothingToRedo := kiUnlikeNothingToRedo
    ki_NotThere_BadText := kiNotThereBadText
    ki_NotThere_BadName := kiNotThereBadName
    ki_NotThere_BadNumber := kiNotThereBadNumber
    ki_NotThere_BadRow := kiNotThereBadRow
    ki_NotThere_NoName := kiNotThereNoName
    ki_NotThere_TakenName := kiNotThereTakenName
    ki_NotThere_Unlike := kiNotThereUnlike
    ki_NotThere_NotThere := kiNotThereNotThere
    ki_NotThere_TooMany := kiNotThereTooMany
    ki_NotThere_NotKept := kiNotThereNotKept
    ki_NotThere_NothingToUndo := kiNotThereNothingToUndo
    ki_NotThere_NothingToRedo := kiNotThereNothingToRedo
    ki_TooMany_BadText := kiTooManyBadText
    ki_TooMany_BadName := kiTooManyBadName
    ki_TooMany_BadNumber := kiTooManyBadNumber
    ki_TooMany_BadRow := kiTooManyBadRow
    ki_TooMany_NoName := kiTooManyNoName
    ki_TooMany_TakenName := kiTooManyTakenName
    ki_TooMany_Unlike := kiTooManyUnlike
    ki_TooMany_NotThere := kiTooManyNotThere
    ki_TooMany_TooMany := kiTooManyTooMany
    ki_TooMany_NotKept := kiTooManyNotKept
    ki_TooMany_NothingToUndo := kiTooManyNothingToUndo
    ki_TooMany_NothingToRedo := kiTooManyNothingToRedo
    ki_NotKept_BadText := kiNotKeptBadText
    ki_NotKept_BadName := kiNotKeptBadName
    ki_NotKept_BadNumber := kiNotKeptBadNumber
    ki_NotKept_BadRow := kiNotKeptBadRow
    ki_NotKept_NoName := kiNotKeptNoName
    ki_NotKept_TakenName := kiNotKeptTakenName
    ki_NotKept_Unlike := kiNotKeptUnlike
    ki_NotKept_NotThere := kiNotKeptNotThere
    ki_NotKept_TooMany := kiNotKeptTooMany
    ki_NotKept_NotKept := kiNotKeptNotKept
    ki_NotKept_NothingToUndo := kiNotKeptNothingToUndo
    ki_NotKept_NothingToRedo := kiNotKeptNothingToRedo
    ki_NothingToUndo_BadText := kiNothingToUndoBadText
    ki_NothingToUndo_BadName := kiNothingToUndoBadName
    ki_NothingToUndo_BadNumber := kiNothingToUndoBadNumber
    ki_NothingToUndo_BadRow := kiNothingToUndoBadRow
    ki_NothingToUndo_NoName := kiNothingToUndoNoName
    ki_NothingToUndo_TakenName := kiNothingToUndoTakenName
    ki_NothingToUndo_Unlike := kiNothingToUndoUnlike
    ki_NothingToUndo_NotThere := kiNothingToUndoNotThere
    ki_NothingToUndo_TooMany := kiNothingToUndoTooMany
    ki_NothingToUndo_NotKept := kiNothingToUndoNotKept
    ki_NothingToUndo_NothingToUndo := kiNothingToUndoNothingToUndo
    ki_NothingToUndo_NothingToRedo := kiNothingToUndoNothingToRedo
    ki_NothingToRedo_BadText := kiNothingToRedoBadText
    ki_NothingToRedo_BadName := kiNothingToRedoBadName
    ki_NothingToRedo_BadNumber := kiNothingToRedoBadNumber
    ki_NothingToRedo_BadRow := kiNothingToRedoBadRow
    ki_NothingToRedo_NoName := kiNothingToRedoNoName
    ki_NothingToRedo_TakenName := kiNothingToRedoTakenName
    ki_NothingToRedo_Unlike := kiNothingToRedoUnlike
    ki_NothingToRedo_NotThere := kiNothingToRedoNotThere
    ki_NothingToRedo_TooMany := kiNothingToRedoTooMany
    ki_NothingToRedo_NotKept := kiNothingToRedoNotKept
    ki_NothingToRedo_NothingToUndo := kiNothingToRedoNothingToUndo
    ki_NothingToRedo_NothingToRedo := kiNothingToRedoNothingToRedo
    ki_BadText_AgainError := kiBadTextAgainError
    ki_BadName_AgainError := kiBadNameAgainError
    ki_BadNumber_AgainError := kiBadNumberAgainError
    ki_BadRow_AgainError := kiBadRowAgainError
    ki_NoName_AgainError := kiNoNameAgainError
    ki_TakenName_AgainError := kiTakenNameAgainError
    ki_Unlike_AgainError := kiUnlikeAgainError
    ki_NotThere_AgainError := kiNotThereAgainError
    ki_TooMany_AgainError := kiTooManyAgainError
    ki_NotKept_AgainError := kiNotKeptAgainError
    ki_NothingToUndo_AgainError := kiNothingToUndoAgainError
    ki_NothingToRedo_AgainError := kiNothingToRedoAgainError
    ki_BadText_ValueError := kiBadTextValueError
    ki_BadName_ValueError := kiBadNameValueError
    ki_BadNumber_ValueError := kiBadNumberValueError
    ki_BadRow_ValueError := kiBadRowValueError
    ki_NoName_ValueError := kiNoNameValueError
    ki_TakenName_ValueError := kiTakenNameValueError
    ki_Unlike_ValueError := kiUnlikeValueError
    ki_NotThere_ValueError := kiNotThereValueError
    ki_TooMany_ValueError := kiTooManyValueError
    ki_NotKept_ValueError := kiNotKeptValueError
    ki_NothingToUndo_ValueError := kiNothingToUndoValueError
    ki_NothingToRedo_ValueError := kiNothingToRedoValueError
    sb_NotThere_AgainError := sbNotThereAgainError
    b_ValueError := PySem.W.mg_none_of X G bValueError
    b_enumerate := PySem.W.mg_none_of X G benumerate
    b_list := PySem.W.mg_none_of X G blist
    b_isinstance := PySem.W.mg_none_of X G bisinstance
    b_int := PySem.W.mg_none_of X G bint
    b_len := PySem.W.mg_none_of X G blen
    b_repr := PySem.W.mg_none_of X G brepr
    b_range := PySem.W.mg_none_of X G brange }
  exact ⟨[], fun p hp => (nomatch hp), fun p hp => (nomatch hp), fun p hp => (nomatch hp), fun a ns base H hl _ _ _ hTB hT hs e0 => law_runs T hs hl e0⟩
end Ag
open PySem PySem.W PyProof.Rows in
set_option maxRecDepth 100000 in
set_option maxHeartbeats 0 in
theorem PySem.Challenge.cw_againnotes_k01_errors_holds : PySem.Challenge.rw_againnotes_k01_errors.Holds := by
  w_on; o_law; k_head; (case hw => w_witness2)
  k_fill
  refine Ag.walk_G (l := PySem.Challenge.rw_againnotes_k01_errors) (n := 63) rfl (by decide) rfl (fun w h Y => PySem.W.kIn_of Y) ?F
  case F =>
    intro w mg mb fa s mean TP KX hmg
    refine' Ag.all_mk TP KX hmg ?a0 ?l0 ?c0 ?k0 ?a1 ?l1 ?c1 ?k1 ?a2 ?l2 ?c2 ?k2 ?a3 ?l3 ?c3 ?k3 ?a4 ?l4 ?c4 ?k4 ?a5 ?l5 ?c5 ?k5 ?a6 ?l6 ?c6 ?k6 ?a7 ?l7 ?c7 ?k7 ?gAgainError ?saAgainError ?kcAgainError ?hdAgainError ?gaAgainError ?ggAgainError ?exAgainError ?tyAgainError ?sbAgainError ?xlAgainError ?gBadText ?aBadText0 ?lBadText0 ?cBadText0 ?kBadText0 ?tBadText0 ?nBadTextline ?nBadTextword ?saBadText ?kcBadText ?hdBadText ?gaBadText ?ggBadText ?exBadText ?tyBadText ?sbBadText ?xlBadText ?gBadName ?aBadName0 ?lBadName0 ?cBadName0 ?kBadName0 ?tBadName0 ?nBadNamename ?saBadName ?kcBadName ?hdBadName ?gaBadName ?ggBadName ?exBadName ?tyBadName ?sbBadName ?xlBadName ?gBadNumber ?aBadNumber0 ?lBadNumber0 ?cBadNumber0 ?kBadNumber0 ?tBadNumber0 ?nBadNumberwhat ?nBadNumbernumber ?saBadNumber ?kcBadNumber ?hdBadNumber ?gaBadNumber ?ggBadNumber ?exBadNumber ?tyBadNumber ?sbBadNumber ?xlBadNumber ?gBadRow ?aBadRow0 ?lBadRow0 ?cBadRow0 ?kBadRow0 ?tBadRow0 ?nBadRowwhat ?nBadRowrow ?saBadRow ?kcBadRow ?hdBadRow ?gaBadRow ?ggBadRow ?exBadRow ?tyBadRow ?sbBadRow ?xlBadRow ?gNoName ?aNoName0 ?lNoName0 ?cNoName0 ?kNoName0 ?tNoName0 ?nNoNamename ?saNoName ?kcNoName ?hdNoName ?gaNoName ?ggNoName ?exNoName ?tyNoName ?sbNoName ?xlNoName ?gTakenName ?aTakenName0 ?lTakenName0 ?cTakenName0 ?kTakenName0 ?tTakenName0 ?nTakenNamename ?saTakenName ?kcTakenName ?hdTakenName ?gaTakenName ?ggTakenName ?exTakenName ?tyTakenName ?sbTakenName ?xlTakenName ?gUnlike ?aUnlike0 ?lUnlike0 ?cUnlike0 ?kUnlike0 ?tUnlike0 ?nUnlikewhat ?saUnlike ?kcUnlike ?hdUnlike ?gaUnlike ?ggUnlike ?exUnlike ?tyUnlike ?sbUnlike ?xlUnlike ?gNotThere ?aNotThere0 ?lNotThere0 ?cNotThere0 ?kNotThere0 ?tNotThere0 ?nNotTherewhat ?saNotThere ?kcNotThere ?hdNotThere ?gaNotThere ?ggNotThere ?exNotThere ?tyNotThere ?sbNotThere ?xlNotThere ?gTooMany ?aTooMany0 ?lTooMany0 ?cTooMany0 ?kTooMany0 ?tTooMany0 ?nTooManywhat ?nTooManymany ?nTooManylimit ?saTooMany ?kcTooMany ?hdTooMany ?gaTooMany ?ggTooMany ?exTooMany ?tyTooMany ?sbTooMany ?xlTooMany ?gNotKept ?aNotKept0 ?lNotKept0 ?cNotKept0 ?kNotKept0 ?tNotKept0 ?nNotKeptpromise ?nNotKeptwitness ?saNotKept ?kcNotKept ?hdNotKept ?gaNotKept ?ggNotKept ?exNotKept ?tyNotKept ?sbNotKept ?xlNotKept ?gNothingToUndo ?saNothingToUndo ?kcNothingToUndo ?hdNothingToUndo ?gaNothingToUndo ?ggNothingToUndo ?exNothingToUndo ?tyNothingToUndo ?sbNothingToUndo ?xlNothingToUndo ?gNothingToRedo ?saNothingToRedo ?kcNothingToRedo ?hdNothingToRedo ?gaNothingToRedo ?ggNothingToRedo ?exNothingToRedo ?tyNothingToRedo ?sbNothingToRedo ?xlNothingToRedo ?eaBadText ?emBadText ?eaBadName ?emBadName ?eaBadNumber ?emBadNumber ?eaBadRow ?emBadRow ?eaNoName ?emNoName ?eaTakenName ?emTakenName ?eaUnlike ?emUnlike ?eaNotThere ?emNotThere ?eaTooMany ?emTooMany ?eaNotKept ?emNotKept ?eaNothingToUndo ?emNothingToUndo ?eaNothingToRedo ?emNothingToRedo ?eN ?eT ?xiNothingToUndo ?xiNothingToRedo ?kiBadTextBadText ?kiBadTextBadName ?kiBadTextBadNumber ?kiBadTextBadRow ?kiBadTextNoName ?kiBadTextTakenName ?kiBadTextUnlike ?kiBadTextNotThere ?kiBadTextTooMany ?kiBadTextNotKept ?kiBadTextNothingToUndo ?kiBadTextNothingToRedo ?kiBadNameBadText ?kiBadNameBadName ?kiBadNameBadNumber ?kiBadNameBadRow ?kiBadNameNoName ?kiBadNameTakenName ?kiBadNameUnlike ?kiBadNameNotThere ?kiBadNameTooMany ?kiBadNameNotKept ?kiBadNameNothingToUndo ?kiBadNameNothingToRedo ?kiBadNumberBadText ?kiBadNumberBadName ?kiBadNumberBadNumber ?kiBadNumberBadRow ?kiBadNumberNoName ?kiBadNumberTakenName ?kiBadNumberUnlike ?kiBadNumberNotThere ?kiBadNumberTooMany ?kiBadNumberNotKept ?kiBadNumberNothingToUndo ?kiBadNumberNothingToRedo ?kiBadRowBadText ?kiBadRowBadName ?kiBadRowBadNumber ?kiBadRowBadRow ?kiBadRowNoName ?kiBadRowTakenName ?kiBadRowUnlike ?kiBadRowNotThere ?kiBadRowTooMany ?kiBadRowNotKept ?kiBadRowNothingToUndo ?kiBadRowNothingToRedo ?kiNoNameBadText ?kiNoNameBadName ?kiNoNameBadNumber ?kiNoNameBadRow ?kiNoNameNoName ?kiNoNameTakenName ?kiNoNameUnlike ?kiNoNameNotThere ?kiNoNameTooMany ?kiNoNameNotKept ?kiNoNameNothingToUndo ?kiNoNameNothingToRedo ?kiTakenNameBadText ?kiTakenNameBadName ?kiTakenNameBadNumber ?kiTakenNameBadRow ?kiTakenNameNoName ?kiTakenNameTakenName ?kiTakenNameUnlike ?kiTakenNameNotThere ?kiTakenNameTooMany ?kiTakenNameNotKept ?kiTakenNameNothingToUndo ?kiTakenNameNothingToRedo ?kiUnlikeBadText ?kiUnlikeBadName ?kiUnlikeBadNumber ?kiUnlikeBadRow ?kiUnlikeNoName ?kiUnlikeTakenName ?kiUnlikeUnlike ?kiUnlikeNotThere ?kiUnlikeTooMany ?kiUnlikeNotKept ?kiUnlikeNothingToUndo ?kiUnlikeNothingToRedo ?kiNotThereBadText ?kiNotThereBadName ?kiNotThereBadNumber ?kiNotThereBadRow ?kiNotThereNoName ?kiNotThereTakenName ?kiNotThereUnlike ?kiNotThereNotThere ?kiNotThereTooMany ?kiNotThereNotKept ?kiNotThereNothingToUndo ?kiNotThereNothingToRedo ?kiTooManyBadText ?kiTooManyBadName ?kiTooManyBadNumber ?kiTooManyBadRow ?kiTooManyNoName ?kiTooManyTakenName ?kiTooManyUnlike ?kiTooManyNotThere ?kiTooManyTooMany ?kiTooManyNotKept ?kiTooManyNothingToUndo ?kiTooManyNothingToRedo ?kiNotKeptBadText ?kiNotKeptBadName ?kiNotKeptBadNumber ?kiNotKeptBadRow ?kiNotKeptNoName ?kiNotKeptTakenName ?kiNotKeptUnlike ?kiNotKeptNotThere ?kiNotKeptTooMany ?kiNotKeptNotKept ?kiNotKeptNothingToUndo ?kiNotKeptNothingToRedo ?kiNothingToUndoBadText ?kiNothingToUndoBadName ?kiNothingToUndoBadNumber ?kiNothingToUndoBadRow ?kiNothingToUndoNoName ?kiNothingToUndoTakenName ?kiNothingToUndoUnlike ?kiNothingToUndoNotThere ?kiNothingToUndoTooMany ?kiNothingToUndoNotKept ?kiNothingToUndoNothingToUndo ?kiNothingToUndoNothingToRedo ?kiNothingToRedoBadText ?kiNothingToRedoBadName ?kiNothingToRedoBadNumber ?kiNothingToRedoBadRow ?kiNothingToRedoNoName ?kiNothingToRedoTakenName ?kiNothingToRedoUnlike ?kiNothingToRedoNotThere ?kiNothingToRedoTooMany ?kiNothingToRedoNotKept ?kiNothingToRedoNothingToUndo ?kiNothingToRedoNothingToRedo ?kiBadTextAgainError ?kiBadNameAgainError ?kiBadNumberAgainError ?kiBadRowAgainError ?kiNoNameAgainError ?kiTakenNameAgainError ?kiUnlikeAgainError ?kiNotThereAgainError ?kiTooManyAgainError ?kiNotKeptAgainError ?kiNothingToUndoAgainError ?kiNothingToRedoAgainError ?kiBadTextValueError ?kiBadNameValueError ?kiBadNumberValueError ?kiBadRowValueError ?kiNoNameValueError ?kiTakenNameValueError ?kiUnlikeValueError ?kiNotThereValueError ?kiTooManyValueError ?kiNotKeptValueError ?kiNothingToUndoValueError ?kiNothingToRedoValueError ?sbNotThereAgainError ?bValueError ?benumerate ?blist ?bisinstance ?bint ?blen ?brepr ?brange
    (case a0 => k_is)
    (case l0 => k_is)
    (case c0 => k_is)
    (case k0 => k_is)
    (case a1 => k_is)
    (case l1 => k_is)
    (case c1 => k_is)
    (case k1 => k_is)
    (case a2 => k_is)
    (case l2 => k_is)
    (case c2 => k_is)
    (case k2 => k_is)
    (case a3 => k_is)
    (case l3 => k_is)
    (case c3 => k_is)
    (case k3 => k_is)
    (case a4 => k_is)
    (case l4 => k_is)
    (case c4 => k_is)
    (case k4 => k_is)
    (case a5 => k_is)
    (case l5 => k_is)
    (case c5 => k_is)
    (case k5 => k_is)
    (case a6 => k_is)
    (case l6 => k_is)
    (case c6 => k_is)
    (case k6 => k_is)
    (case a7 => k_is)
    (case l7 => k_is)
    (case c7 => k_is)
    (case k7 => k_is)
    (case gAgainError => k_is)
    (case saAgainError => k_is)
    (case kcAgainError => k_is)
    (case hdAgainError => k_is)
    (case gaAgainError => k_is)
    (case ggAgainError => k_is)
    (case exAgainError => k_is)
    (case tyAgainError => k_is)
    (case sbAgainError => k_is)
    (case xlAgainError => exact ⟨_, _, _, _, _, _, _, _, _, _, _, _, _, _, _, by k_is, by rfl⟩)
    (case gBadText => k_is)
    (case aBadText0 => k_is)
    (case lBadText0 => k_is)
    (case cBadText0 => k_is)
    (case kBadText0 => k_is)
    (case tBadText0 => k_is)
    (case nBadTextline => k_is)
    (case nBadTextword => k_is)
    (case saBadText => k_is)
    (case kcBadText => k_is)
    (case hdBadText => k_is)
    (case gaBadText => k_is)
    (case ggBadText => k_is)
    (case exBadText => k_is)
    (case tyBadText => k_is)
    (case sbBadText => k_is)
    (case xlBadText => exact ⟨_, _, _, _, _, _, _, _, _, _, _, _, _, _, _, by k_is, by rfl⟩)
    (case gBadName => k_is)
    (case aBadName0 => k_is)
    (case lBadName0 => k_is)
    (case cBadName0 => k_is)
    (case kBadName0 => k_is)
    (case tBadName0 => k_is)
    (case nBadNamename => k_is)
    (case saBadName => k_is)
    (case kcBadName => k_is)
    (case hdBadName => k_is)
    (case gaBadName => k_is)
    (case ggBadName => k_is)
    (case exBadName => k_is)
    (case tyBadName => k_is)
    (case sbBadName => k_is)
    (case xlBadName => exact ⟨_, _, _, _, _, _, _, _, _, _, _, _, _, _, _, by k_is, by rfl⟩)
    (case gBadNumber => k_is)
    (case aBadNumber0 => k_is)
    (case lBadNumber0 => k_is)
    (case cBadNumber0 => k_is)
    (case kBadNumber0 => k_is)
    (case tBadNumber0 => k_is)
    (case nBadNumberwhat => k_is)
    (case nBadNumbernumber => k_is)
    (case saBadNumber => k_is)
    (case kcBadNumber => k_is)
    (case hdBadNumber => k_is)
    (case gaBadNumber => k_is)
    (case ggBadNumber => k_is)
    (case exBadNumber => k_is)
    (case tyBadNumber => k_is)
    (case sbBadNumber => k_is)
    (case xlBadNumber => exact ⟨_, _, _, _, _, _, _, _, _, _, _, _, _, _, _, by k_is, by rfl⟩)
    (case gBadRow => k_is)
    (case aBadRow0 => k_is)
    (case lBadRow0 => k_is)
    (case cBadRow0 => k_is)
    (case kBadRow0 => k_is)
    (case tBadRow0 => k_is)
    (case nBadRowwhat => k_is)
    (case nBadRowrow => k_is)
    (case saBadRow => k_is)
    (case kcBadRow => k_is)
    (case hdBadRow => k_is)
    (case gaBadRow => k_is)
    (case ggBadRow => k_is)
    (case exBadRow => k_is)
    (case tyBadRow => k_is)
    (case sbBadRow => k_is)
    (case xlBadRow => exact ⟨_, _, _, _, _, _, _, _, _, _, _, _, _, _, _, by k_is, by rfl⟩)
    (case gNoName => k_is)
    (case aNoName0 => k_is)
    (case lNoName0 => k_is)
    (case cNoName0 => k_is)
    (case kNoName0 => k_is)
    (case tNoName0 => k_is)
    (case nNoNamename => k_is)
    (case saNoName => k_is)
    (case kcNoName => k_is)
    (case hdNoName => k_is)
    (case gaNoName => k_is)
    (case ggNoName => k_is)
    (case exNoName => k_is)
    (case tyNoName => k_is)
    (case sbNoName => k_is)
    (case xlNoName => exact ⟨_, _, _, _, _, _, _, _, _, _, _, _, _, _, _, by k_is, by rfl⟩)
    (case gTakenName => k_is)
    (case aTakenName0 => k_is)
    (case lTakenName0 => k_is)
    (case cTakenName0 => k_is)
    (case kTakenName0 => k_is)
    (case tTakenName0 => k_is)
    (case nTakenNamename => k_is)
    (case saTakenName => k_is)
    (case kcTakenName => k_is)
    (case hdTakenName => k_is)
    (case gaTakenName => k_is)
    (case ggTakenName => k_is)
    (case exTakenName => k_is)
    (case tyTakenName => k_is)
    (case sbTakenName => k_is)
    (case xlTakenName => exact ⟨_, _, _, _, _, _, _, _, _, _, _, _, _, _, _, by k_is, by rfl⟩)
    (case gUnlike => k_is)
    (case aUnlike0 => k_is)
    (case lUnlike0 => k_is)
    (case cUnlike0 => k_is)
    (case kUnlike0 => k_is)
    (case tUnlike0 => k_is)
    (case nUnlikewhat => k_is)
    (case saUnlike => k_is)
    (case kcUnlike => k_is)
    (case hdUnlike => k_is)
    (case gaUnlike => k_is)
    (case ggUnlike => k_is)
    (case exUnlike => k_is)
    (case tyUnlike => k_is)
    (case sbUnlike => k_is)
    (case xlUnlike => exact ⟨_, _, _, _, _, _, _, _, _, _, _, _, _, _, _, by k_is, by rfl⟩)
    (case gNotThere => k_is)
    (case aNotThere0 => k_is)
    (case lNotThere0 => k_is)
    (case cNotThere0 => k_is)
    (case kNotThere0 => k_is)
    (case tNotThere0 => k_is)
    (case nNotTherewhat => k_is)
    (case saNotThere => k_is)
    (case kcNotThere => k_is)
    (case hdNotThere => k_is)
    (case gaNotThere => k_is)
    (case ggNotThere => k_is)
    (case exNotThere => k_is)
    (case tyNotThere => k_is)
    (case sbNotThere => k_is)
    (case xlNotThere => exact ⟨_, _, _, _, _, _, _, _, _, _, _, _, _, _, _, by k_is, by rfl⟩)
    (case gTooMany => k_is)
    (case aTooMany0 => k_is)
    (case lTooMany0 => k_is)
    (case cTooMany0 => k_is)
    (case kTooMany0 => k_is)
    (case tTooMany0 => k_is)
    (case nTooManywhat => k_is)
    (case nTooManymany => k_is)
    (case nTooManylimit => k_is)
    (case saTooMany => k_is)
    (case kcTooMany => k_is)
    (case hdTooMany => k_is)
    (case gaTooMany => k_is)
    (case ggTooMany => k_is)
    (case exTooMany => k_is)
    (case tyTooMany => k_is)
    (case sbTooMany => k_is)
    (case xlTooMany => exact ⟨_, _, _, _, _, _, _, _, _, _, _, _, _, _, _, by k_is, by rfl⟩)
    (case gNotKept => k_is)
    (case aNotKept0 => k_is)
    (case lNotKept0 => k_is)
    (case cNotKept0 => k_is)
    (case kNotKept0 => k_is)
    (case tNotKept0 => k_is)
    (case nNotKeptpromise => k_is)
    (case nNotKeptwitness => k_is)
    (case saNotKept => k_is)
    (case kcNotKept => k_is)
    (case hdNotKept => k_is)
    (case gaNotKept => k_is)
    (case ggNotKept => k_is)
    (case exNotKept => k_is)
    (case tyNotKept => k_is)
    (case sbNotKept => k_is)
    (case xlNotKept => exact ⟨_, _, _, _, _, _, _, _, _, _, _, _, _, _, _, by k_is, by rfl⟩)
    (case gNothingToUndo => k_is)
    (case saNothingToUndo => k_is)
    (case kcNothingToUndo => k_is)
    (case hdNothingToUndo => k_is)
    (case gaNothingToUndo => k_is)
    (case ggNothingToUndo => k_is)
    (case exNothingToUndo => k_is)
    (case tyNothingToUndo => k_is)
    (case sbNothingToUndo => k_is)
    (case xlNothingToUndo => exact ⟨_, _, _, _, _, _, _, _, _, _, _, _, _, _, _, by k_is, by rfl⟩)
    (case gNothingToRedo => k_is)
    (case saNothingToRedo => k_is)
    (case kcNothingToRedo => k_is)
    (case hdNothingToRedo => k_is)
    (case gaNothingToRedo => k_is)
    (case ggNothingToRedo => k_is)
    (case exNothingToRedo => k_is)
    (case tyNothingToRedo => k_is)
    (case sbNothingToRedo => k_is)
    (case xlNothingToRedo => exact ⟨_, _, _, _, _, _, _, _, _, _, _, _, _, _, _, by k_is, by rfl⟩)
    (case eaBadText => k_is)
    (case emBadText => k_is)
    (case eaBadName => k_is)
    (case emBadName => k_is)
    (case eaBadNumber => k_is)
    (case emBadNumber => k_is)
    (case eaBadRow => k_is)
    (case emBadRow => k_is)
    (case eaNoName => k_is)
    (case emNoName => k_is)
    (case eaTakenName => k_is)
    (case emTakenName => k_is)
    (case eaUnlike => k_is)
    (case emUnlike => k_is)
    (case eaNotThere => k_is)
    (case emNotThere => k_is)
    (case eaTooMany => k_is)
    (case emTooMany => k_is)
    (case eaNotKept => k_is)
    (case emNotKept => k_is)
    (case eaNothingToUndo => k_is)
    (case emNothingToUndo => k_is)
    (case eaNothingToRedo => k_is)
    (case emNothingToRedo => k_is)
    (case eN => k_is)
    (case eT => k_is)
    (case xiNothingToUndo => kernel_rfl)
    (case xiNothingToRedo => kernel_rfl)
    (case kiBadTextBadText => kernel_rfl)
    (case kiBadTextBadName => kernel_rfl)
    (case kiBadTextBadNumber => kernel_rfl)
    (case kiBadTextBadRow => kernel_rfl)
    (case kiBadTextNoName => kernel_rfl)
    (case kiBadTextTakenName => kernel_rfl)
    (case kiBadTextUnlike => kernel_rfl)
    (case kiBadTextNotThere => kernel_rfl)
    (case kiBadTextTooMany => kernel_rfl)
    (case kiBadTextNotKept => kernel_rfl)
    (case kiBadTextNothingToUndo => kernel_rfl)
    (case kiBadTextNothingToRedo => kernel_rfl)
    (case kiBadNameBadText => kernel_rfl)
    (case kiBadNameBadName => kernel_rfl)
    (case kiBadNameBadNumber => kernel_rfl)
    (case kiBadNameBadRow => kernel_rfl)
    (case kiBadNameNoName => kernel_rfl)
    (case kiBadNameTakenName => kernel_rfl)
    (case kiBadNameUnlike => kernel_rfl)
    (case kiBadNameNotThere => kernel_rfl)
    (case kiBadNameTooMany => kernel_rfl)
    (case kiBadNameNotKept => kernel_rfl)
    (case kiBadNameNothingToUndo => kernel_rfl)
    (case kiBadNameNothingToRedo => kernel_rfl)
    (case kiBadNumberBadText => kernel_rfl)
    (case kiBadNumberBadName => kernel_rfl)
    (case kiBadNumberBadNumber => kernel_rfl)
    (case kiBadNumberBadRow => kernel_rfl)
    (case kiBadNumberNoName => kernel_rfl)
    (case kiBadNumberTakenName => kernel_rfl)
    (case kiBadNumberUnlike => kernel_rfl)
    (case kiBadNumberNotThere => kernel_rfl)
    (case kiBadNumberTooMany => kernel_rfl)
    (case kiBadNumberNotKept => kernel_rfl)
    (case kiBadNumberNothingToUndo => kernel_rfl)
    (case kiBadNumberNothingToRedo => kernel_rfl)
    (case kiBadRowBadText => kernel_rfl)
    (case kiBadRowBadName => kernel_rfl)
    (case kiBadRowBadNumber => kernel_rfl)
    (case kiBadRowBadRow => kernel_rfl)
    (case kiBadRowNoName => kernel_rfl)
    (case kiBadRowTakenName => kernel_rfl)
    (case kiBadRowUnlike => kernel_rfl)
    (case kiBadRowNotThere => kernel_rfl)
    (case kiBadRowTooMany => kernel_rfl)
    (case kiBadRowNotKept => kernel_rfl)
    (case kiBadRowNothingToUndo => kernel_rfl)
    (case kiBadRowNothingToRedo => kernel_rfl)
    (case kiNoNameBadText => kernel_rfl)
    (case kiNoNameBadName => kernel_rfl)
    (case kiNoNameBadNumber => kernel_rfl)
    (case kiNoNameBadRow => kernel_rfl)
    (case kiNoNameNoName => kernel_rfl)
    (case kiNoNameTakenName => kernel_rfl)
    (case kiNoNameUnlike => kernel_rfl)
    (case kiNoNameNotThere => kernel_rfl)
    (case kiNoNameTooMany => kernel_rfl)
    (case kiNoNameNotKept => kernel_rfl)
    (case kiNoNameNothingToUndo => kernel_rfl)
    (case kiNoNameNothingToRedo => kernel_rfl)
    (case kiTakenNameBadText => kernel_rfl)
    (case kiTakenNameBadName => kernel_rfl)
    (case kiTakenNameBadNumber => kernel_rfl)
    (case kiTakenNameBadRow => kernel_rfl)
    (case kiTakenNameNoName => kernel_rfl)
    (case kiTakenNameTakenName => kernel_rfl)
    (case kiTakenNameUnlike => kernel_rfl)
    (case kiTakenNameNotThere => kernel_rfl)
    (case kiTakenNameTooMany => kernel_rfl)
    (case kiTakenNameNotKept => kernel_rfl)
    (case kiTakenNameNothingToUndo => kernel_rfl)
    (case kiTakenNameNothingToRedo => kernel_rfl)
    (case kiUnlikeBadText => kernel_rfl)
    (case kiUnlikeBadName => kernel_rfl)
    (case kiUnlikeBadNumber => kernel_rfl)
    (case kiUnlikeBadRow => kernel_rfl)
    (case kiUnlikeNoName => kernel_rfl)
    (case kiUnlikeTakenName => kernel_rfl)
    (case kiUnlikeUnlike => kernel_rfl)
    (case kiUnlikeNotThere => kernel_rfl)
    (case kiUnlikeTooMany => kernel_rfl)
    (case kiUnlikeNotKept => kernel_rfl)
    (case kiUnlikeNothingToUndo => kernel_rfl)
    (case kiUnlikeNothingToRedo => kernel_rfl)
    (case kiNotThereBadText => kernel_rfl)
    (case kiNotThereBadName => kernel_rfl)
    (case kiNotThereBadNumber => kernel_rfl)
    (case kiNotThereBadRow => kernel_rfl)
    (case kiNotThereNoName => kernel_rfl)
    (case kiNotThereTakenName => kernel_rfl)
    (case kiNotThereUnlike => kernel_rfl)
    (case kiNotThereNotThere => kernel_rfl)
    (case kiNotThereTooMany => kernel_rfl)
    (case kiNotThereNotKept => kernel_rfl)
    (case kiNotThereNothingToUndo => kernel_rfl)
    (case kiNotThereNothingToRedo => kernel_rfl)
    (case kiTooManyBadText => kernel_rfl)
    (case kiTooManyBadName => kernel_rfl)
    (case kiTooManyBadNumber => kernel_rfl)
    (case kiTooManyBadRow => kernel_rfl)
    (case kiTooManyNoName => kernel_rfl)
    (case kiTooManyTakenName => kernel_rfl)
    (case kiTooManyUnlike => kernel_rfl)
    (case kiTooManyNotThere => kernel_rfl)
    (case kiTooManyTooMany => kernel_rfl)
    (case kiTooManyNotKept => kernel_rfl)
    (case kiTooManyNothingToUndo => kernel_rfl)
    (case kiTooManyNothingToRedo => kernel_rfl)
    (case kiNotKeptBadText => kernel_rfl)
    (case kiNotKeptBadName => kernel_rfl)
    (case kiNotKeptBadNumber => kernel_rfl)
    (case kiNotKeptBadRow => kernel_rfl)
    (case kiNotKeptNoName => kernel_rfl)
    (case kiNotKeptTakenName => kernel_rfl)
    (case kiNotKeptUnlike => kernel_rfl)
    (case kiNotKeptNotThere => kernel_rfl)
    (case kiNotKeptTooMany => kernel_rfl)
    (case kiNotKeptNotKept => kernel_rfl)
    (case kiNotKeptNothingToUndo => kernel_rfl)
    (case kiNotKeptNothingToRedo => kernel_rfl)
    (case kiNothingToUndoBadText => kernel_rfl)
    (case kiNothingToUndoBadName => kernel_rfl)
    (case kiNothingToUndoBadNumber => kernel_rfl)
    (case kiNothingToUndoBadRow => kernel_rfl)
    (case kiNothingToUndoNoName => kernel_rfl)
    (case kiNothingToUndoTakenName => kernel_rfl)
    (case kiNothingToUndoUnlike => kernel_rfl)
    (case kiNothingToUndoNotThere => kernel_rfl)
    (case kiNothingToUndoTooMany => kernel_rfl)
    (case kiNothingToUndoNotKept => kernel_rfl)
    (case kiNothingToUndoNothingToUndo => kernel_rfl)
    (case kiNothingToUndoNothingToRedo => kernel_rfl)
    (case kiNothingToRedoBadText => kernel_rfl)
    (case kiNothingToRedoBadName => kernel_rfl)
    (case kiNothingToRedoBadNumber => kernel_rfl)
    (case kiNothingToRedoBadRow => kernel_rfl)
    (case kiNothingToRedoNoName => kernel_rfl)
    (case kiNothingToRedoTakenName => kernel_rfl)
    (case kiNothingToRedoUnlike => kernel_rfl)
    (case kiNothingToRedoNotThere => kernel_rfl)
    (case kiNothingToRedoTooMany => kernel_rfl)
    (case kiNothingToRedoNotKept => kernel_rfl)
    (case kiNothingToRedoNothingToUndo => kernel_rfl)
    (case kiNothingToRedoNothingToRedo => kernel_rfl)
    (case kiBadTextAgainError => kernel_rfl)
    (case kiBadNameAgainError => kernel_rfl)
    (case kiBadNumberAgainError => kernel_rfl)
    (case kiBadRowAgainError => kernel_rfl)
    (case kiNoNameAgainError => kernel_rfl)
    (case kiTakenNameAgainError => kernel_rfl)
    (case kiUnlikeAgainError => kernel_rfl)
    (case kiNotThereAgainError => kernel_rfl)
    (case kiTooManyAgainError => kernel_rfl)
    (case kiNotKeptAgainError => kernel_rfl)
    (case kiNothingToUndoAgainError => kernel_rfl)
    (case kiNothingToRedoAgainError => kernel_rfl)
    (case kiBadTextValueError => kernel_rfl)
    (case kiBadNameValueError => kernel_rfl)
    (case kiBadNumberValueError => kernel_rfl)
    (case kiBadRowValueError => kernel_rfl)
    (case kiNoNameValueError => kernel_rfl)
    (case kiTakenNameValueError => kernel_rfl)
    (case kiUnlikeValueError => kernel_rfl)
    (case kiNotThereValueError => kernel_rfl)
    (case kiTooManyValueError => kernel_rfl)
    (case kiNotKeptValueError => kernel_rfl)
    (case kiNothingToUndoValueError => kernel_rfl)
    (case kiNothingToRedoValueError => kernel_rfl)
    (case sbNotThereAgainError => k_is)
    (case bValueError => k_is)
    (case benumerate => k_is)
    (case blist => k_is)
    (case bisinstance => k_is)
    (case bint => k_is)
    (case blen => k_is)
    (case brepr => k_is)
    (case brange => k_is)
#print axioms PySem.Challenge.cw_againnotes_k01_errors_holds
